import PyProof.Rows.All
import HandS.TupSets
import KE.KeyNested
import KE.SortData
import HandS.ForMost
import Wide.All
import OpenK.AllK
import Wide.FinOn
import HandS.TupAny
import HandS.Deep
import HandS.Style
import HandS.IsInst
import HandS.Wide
import HandS.RaiseMore
import PyProof.CallFns
import KE.DatumOrd
import HandS.SortInts
import HandS.TupLen
import PyProof.Rows.FactsN_isinstance
import PyProof.Rows.FactsT3
import HandS.ForExc
import HandS.Defaults
import KE.GoesEnum
import KE.GoesEnumKw
import KE.GoesMore
import HandS.TupMul
import PyProof.StrOps2
import HandS.Zip
import HandS.Ends
import HandS.WordsDict
import HandS.Iter
import PyProof.DictCompW
import HandS.DictComp
import PyProof.StrLaws
import KE.GoesZip
import PyProof.EnumMake
import PyProof.Rows.StrRev
import PyProof.ListStr
import PyProof.RowDictHeap
import PyProof.ReprRoads
import HandS.SetKeys
import HandS.Dict
import HandS.TupLe
import HandS.Property
import HandS.ClsMeth
import HandS.TryOnly
import HandS.FStr
import HandS.Star
import HandS.Text
import PyProof.DictFindH
import HandS.SortKw
import OpenK.KMeth
import PyProof.TupleOfStr
import HandS.Conv
import HandS.ExcCtx
import HandS.ExcSuper
import HandS.ExcIs
import KE.KSuper
import KE.KExcIs
import HandS.ExcField
import PyProof.CollectStr
import HandS.ExcValue
import KE.KOpsOwn
import HandS.More
import PyProof.Rows.StrMeet
import HandS.GenOver
import HandS.GenList
import PyProof.AutoSeq1
import HandS.Replace
import PyProof.InstNe
import KE.KCallOwn
import KE.KDictWalk
import HandS.Steps
import PySem.Challenge.RW_amidread_k50_the_turn_of_a_ring
set_option Elab.async false
set_option linter.all false
set_option maxRecDepth 100000
set_option autoImplicit false
set_option maxHeartbeats 4000000
/-! NSa: the table of a set, for masks up to 8191. -/
namespace NS
open PySem PySem.Spec PyProof.Rows L2
/-! ### the round of i -> 5 i + 1, for greater masks -/
/-- the slots that a round from 0 has met, as bits -/
def seenB (m : Nat) : Nat → Nat × Nat → Nat × Nat
  | 0, p => p
  | n + 1, p => seenB m n ((p.1 * 5 + 1) % (m + 1), p.2 ||| (1 <<< p.1))
theorem seenB_spec (m : Nat) : ∀ (n a b : Nat), (seenB m n (lcgN m a, b)).1 = lcgN m (a + n) ∧
    ∀ j, (seenB m n (lcgN m a, b)).2.testBit j = true → b.testBit j = true ∨ ∃ c, a ≤ c ∧ c < a + n ∧ lcgN m c = j
  | 0, a, b => ⟨rfl, fun j h => .inl h⟩
  | n + 1, a, b => by
    have e : seenB m (n + 1) (lcgN m a, b) = seenB m n (lcgN m (a + 1), b ||| (1 <<< lcgN m a)) := rfl
    obtain ⟨h1, h2⟩ := seenB_spec m n (a + 1) (b ||| (1 <<< lcgN m a))
    rw [e]
    refine ⟨by rw [h1]; congr 1; omega, fun j hj => ?_⟩
    rcases h2 j hj with z | ⟨c, c1, c2, c3⟩
    · rw [Nat.testBit_or, Bool.or_eq_true] at z
      rcases z with z | z
      · exact .inl z
      · refine .inr ⟨a, Nat.le_refl _, by omega, ?_⟩
        rw [Nat.testBit_shiftLeft, Bool.and_eq_true, decide_eq_true_eq] at z
        obtain ⟨z1, z2⟩ := z
        have z3 : j - lcgN m a = 0 := by
          rcases Nat.eq_zero_or_pos (j - lcgN m a) with q | q
          · exact q
          · rw [Nat.testBit_one_eq_true_iff_self_eq_zero] at z2
            exact z2
        omega
    · exact .inr ⟨c, by omega, by omega, c3⟩
/-- all slots are met, and then 0 again -/
def roundOk (m : Nat) : Bool := decide ((seenB m (m + 1) (0, 0)).1 = 0) && decide ((seenB m (m + 1) (0, 0)).2 = 2 ^ (m + 1) - 1)
/-- from each slot the round comes to each -/
def Full (m : Nat) : Prop := m % 2 = 1 ∧ ∀ i j, i ≤ m → j ≤ m → ∃ k, k ≤ m ∧ lcgI m i k = j
theorem full_of {m : Nat} (hodd : m % 2 = 1) (h : roundOk m = true) : Full m := by
  unfold roundOk at h
  rw [Bool.and_eq_true, decide_eq_true_eq, decide_eq_true_eq] at h
  obtain ⟨h0, h1⟩ := h
  obtain ⟨s1, s2⟩ := seenB_spec m (m + 1) 0 0
  have at0 : lcgN m 0 = 0 := rfl
  rw [at0, Nat.zero_add] at s1
  rw [h0] at s1
  have met : ∀ j, j ≤ m → ∃ b, b ≤ m ∧ lcgN m b = j := fun j hj => by
    have hb : (seenB m (m + 1) (lcgN m 0, 0)).2.testBit j = true := by
      rw [at0, h1, Nat.testBit_two_pow_sub_one]
      exact decide_eq_true (by omega)
    rcases s2 j hb with z | ⟨c, _, c2, c3⟩
    · simp at z
    · exact ⟨c, by omega, c3⟩
  have again : ∀ k, lcgN m (m + 1 + k) = lcgN m k := by
    intro k
    induction k with
    | zero => exact s1.symm
    | succ k ih =>
      show (lcgN m (m + 1 + k) * 5 + 1) % (m + 1) = (lcgN m k * 5 + 1) % (m + 1)
      rw [ih]
  refine ⟨hodd, fun i j hi hj => ?_⟩
  obtain ⟨a, ha, ea⟩ := met i hi
  obtain ⟨b, hb, eb⟩ := met j hj
  by_cases c : a ≤ b
  · exact ⟨b - a, by omega, by rw [← ea, lcgN_add, ← eb]; congr 1; omega⟩
  · refine ⟨m + 1 + b - a, by omega, ?_⟩
    rw [← ea, lcgN_add]
    have q : a + (m + 1 + b - a) = m + 1 + b := by omega
    rw [q, again, eb]
theorem full7 : Full 7 := full_of rfl (by decide +kernel)
theorem full31 : Full 31 := full_of rfl (by decide +kernel)
theorem full127 : Full 127 := full_of rfl (by decide +kernel)
theorem full511 : Full 511 := full_of rfl (by decide +kernel)
theorem full2047 : Full 2047 := full_of rfl (by decide +kernel)
theorem full8191 : Full 8191 := full_of rfl (by decide +kernel)
/-! ### the way of a search -/
theorem starts {m : Nat} (F : Full m) (h : Int) {j : Nat} (hj : j ≤ m) : ∃ n, n ≤ m + 12 ∧ runI m (SetTable.bits h) n = j := by
  obtain ⟨k, k1, k2⟩ := F.2 _ j (runI_le m (SetTable.bits h) 12) hj
  refine ⟨12 + k, by omega, ?_⟩
  rw [runI_tail (bits_lt h), k2]
theorem comes {m : Nat} (F : Full m) (h : Int) {j : Nat} (hj : j ≤ m) : ∃ k, k < 10 * SetTable.turns m ∧ way m h k = j := by
  obtain ⟨n, n1, n2⟩ := starts F h hj
  obtain ⟨k, k1, k2⟩ := run_nth m (SetTable.bits h) n
  refine ⟨k, by unfold SetTable.turns; omega, ?_⟩
  have e : (nth m (runAt m (SetTable.bits h % (m + 1)) (SetTable.bits h)) k).j = (runAt m (runI m (SetTable.bits h) n) (SetTable.bits h / 32 ^ n)).j := by rw [k2]
  exact e.trans n2
theorem inside (m : Nat) (h : Int) (k : Nat) : way m h k ≤ m := by
  have a : SetTable.bits h % (m + 1) ≤ m := Nat.lt_succ_iff.mp (Nat.mod_lt _ (Nat.succ_pos m))
  obtain ⟨b1, b2, _⟩ := runEnd_bd a
  have q := nth_in (m := m) k (runAt m (SetTable.bits h % (m + 1)) (SetTable.bits h)) (by
    show SetTable.bits h % (m + 1) + (SetTable.runEnd m (SetTable.bits h % (m + 1)) - SetTable.bits h % (m + 1)) ≤ m
    omega)
  exact Nat.le_trans (Nat.le_add_right _ _) q
/-- a table in which each row is found again by its hash -/
structure Tab (t : SetTable) (hs : List Int) : Prop where
  up : Ris t.place.toList
  nd : t.dummies = #[]
  len : t.place.size = hs.length
  full : Full t.mask
  top : ∀ x ∈ t.place.toList, x ≤ t.mask
  back : ∀ (i : Nat) (h : Int) (j : Nat), hs[i]? = some h → t.place.toList[i]? = some j → ∃ k, way t.mask h k = j ∧ ∀ c, c < k → way t.mask h c ∈ t.place.toList
section
variable {t : SetTable} {hs : List Int}
/-- on the way of a hash stands a free slot -/
theorem Tab.free (T : Tab t hs) (hl : hs.length ≤ t.mask) (h : Int) : ∃ K, K < 10 * SetTable.turns t.mask ∧ way t.mask h K ∉ t.place.toList ∧ ∀ c, c < K → way t.mask h c ∈ t.place.toList := by
  obtain ⟨j, j1, j2⟩ := st_missing t.place.toList (t.mask + 1) (by rw [Array.length_toList, T.len]; omega)
  obtain ⟨k, k1, k2⟩ := comes T.full h (Nat.lt_succ_iff.mp j1)
  obtain ⟨K, a, b, c⟩ := st_least (p := fun n => way t.mask h n ∉ t.place.toList) k (fun z => j2 (k2 ▸ z))
  exact ⟨K, by omega, b, fun n hn => Classical.byContradiction fun z => c n hn z⟩
/-- a row of this hash stands ahead of the free slot -/
theorem Tab.ahead (T : Tab t hs) {h : Int} {K i j : Nat} (hK : way t.mask h K ∉ t.place.toList) (hi : hs[i]? = some h) (hj : t.place.toList[i]? = some j) : ∃ k, k < K ∧ way t.mask h k = j := by
  obtain ⟨k, k1, k2⟩ := T.back i h j hi hj
  refine ⟨k, Nat.lt_of_not_le fun z => ?_, k1⟩
  rcases Nat.lt_or_ge K k with q | q
  · exact hK (k2 K q)
  · have : k = K := Nat.le_antisymm q z
    subst this
    exact hK (k1 ▸ List.mem_of_getElem? hj)
/-- one row more, at the free slot -/
theorem Tab.more (T : Tab t hs) {h : Int} {K : Nat} (hK : way t.mask h K ∉ t.place.toList) (hb : ∀ c, c < K → way t.mask h c ∈ t.place.toList) :
    SetTable.below t.place (way t.mask h K) ≤ hs.length ∧ Tab (t.put (way t.mask h K)).1 (hs.take (SetTable.below t.place (way t.mask h K)) ++ h :: hs.drop (SetTable.below t.place (way t.mask h K))) ∧
    (t.put (way t.mask h K)).1.fill = hs.length + 1 := by
  have hm := inside t.mask h K
  generalize hq : way t.mask h K = q at *
  generalize hp : SetTable.below t.place q = p
  have c1 : p ≤ t.place.size := by
    rw [← hp]
    exact (below_cut T.up q).1
  have l1 : t.place.toList.length = hs.length := by rw [Array.length_toList, T.len]
  have p1 : p ≤ t.place.toList.length := by rw [Array.length_toList]; exact c1
  have p2 : p ≤ hs.length := by rw [← l1]; exact p1
  have np : t.place[SetTable.below t.place q]? ≠ some q := fun z => hK (List.mem_of_getElem? (i := SetTable.below t.place q) (by rw [Array.getElem?_toList]; exact z))
  have pl : (t.put q).1.place.toList = t.place.toList.take p ++ q :: t.place.toList.drop p := by rw [put_place, hp]
  have sz : (t.put q).1.place.size = hs.length + 1 := by rw [← Array.length_toList, pl, len_ins _ p1, l1]
  have old : ∀ x, x ∈ t.place.toList → x ∈ (t.put q).1.place.toList := fun x hx => by
    rw [pl]
    exact mem_ins.mpr (.inr hx)
  have un : (t.put q).1.fill = hs.length + 1 := by
    unfold SetTable.fill
    rw [put_dm T.nd q, sz]
    rfl
  refine ⟨p2, ⟨ris_insert T.up np, put_dm T.nd q, by rw [sz, len_ins _ p2], T.full, fun x hx => ?_, fun i g j e1 e2 => ?_⟩, un⟩
  · rw [pl] at hx
    exact (mem_ins.mp hx).elim (fun e => e ▸ hm) (T.top x)
  · rw [tins_get _ p2] at e1
    rw [pl, tins_get _ p1] at e2
    have keep : ∀ n, hs[n]? = some g → t.place.toList[n]? = some j → ∃ k, way t.mask g k = j ∧ ∀ c, c < k → way t.mask g c ∈ (t.put q).1.place.toList := fun n n1 n2 => by
      obtain ⟨k, k1, k2⟩ := T.back n g j n1 n2
      exact ⟨k, k1, fun c hc => old _ (k2 c hc)⟩
    rcases Nat.lt_trichotomy i p with z | z | z
    · rw [if_pos z] at e1 e2
      exact keep i e1 e2
    · rw [if_neg (by omega), if_pos z] at e1 e2
      cases e1
      cases e2
      exact ⟨K, hq, fun c hc => old _ (hb c hc)⟩
    · rw [if_neg (by omega), if_neg (by omega)] at e1 e2
      exact keep (i - 1) e1 e2
end
/-! ### all laid anew -/
section
variable {m : Nat}
theorem freeAt (F : Full m) (owner : Array (Option Nat)) (h : Int) {j : Nat} (hj : j ≤ m) (hf : oAt owner j = none) :
    ∃ K, SetTable.layClean.free m owner (SetTable.turns m) (SetTable.bits h % (m + 1)) (SetTable.bits h) = some (way m h K) ∧ oAt owner (way m h K) = none ∧ ∀ c, c < K → oAt owner (way m h c) ≠ none := by
  obtain ⟨n, n1, n2⟩ := starts F h hj
  generalize hN : off m (SetTable.bits h % (m + 1)) (SetTable.bits h) n = N
  have wN : oAt owner (way m h N) = none := by
    have e : way m h N = j := by
      show (nth m (runAt m (SetTable.bits h % (m + 1)) (SetTable.bits h)) N).j = j
      rw [← hN, nth_off, itL_run]
      exact n2
    rw [e]
    exact hf
  obtain ⟨K, a, b, c⟩ := st_least (p := fun x => oAt owner (way m h x) = none) N wN
  refine ⟨K, free_spec m owner _ n _ _ K (by unfold SetTable.turns; omega) (by rw [hN]; exact a) (fun x hx => ?_) ?_, b, c⟩
  · have := c x hx
    rw [Option.isNone_eq_false_iff, Option.isSome_iff_ne_none]
    exact this
  · exact Option.isNone_iff_eq_none.mpr b
/-- who sits where, of the rows done -/
structure Seats (m : Nat) (done : List Int) (owner : Array (Option Nat)) : Prop where
  size : owner.size = m + 1
  of : ∀ j k, j ≤ m → oAt owner j = some k → ∃ h K, done[k]? = some h ∧ way m h K = j ∧ ∀ c, c < K → oAt owner (way m h c) ≠ none
  each : ∀ k, k < done.length → ∃ j, j ≤ m ∧ oAt owner j = some k
  few : ∃ l : List Nat, l.length = done.length ∧ ∀ j, j ≤ m → oAt owner j ≠ none → j ∈ l
theorem Seats.more (F : Full m) {done : List Int} {owner : Array (Option Nat)} (S : Seats m done owner) (hl : done.length ≤ m) (h : Int) :
    ∃ j, SetTable.layClean.free m owner (SetTable.turns m) (SetTable.bits h % (m + 1)) (SetTable.bits h) = some j ∧ Seats m (done ++ [h]) (owner.setIfInBounds j (some done.length)) := by
  obtain ⟨l, l1, l2⟩ := S.few
  obtain ⟨v, v1, v2⟩ := st_missing l (m + 1) (by omega)
  have hv : oAt owner v = none := Classical.byContradiction fun z => v2 (l2 v (by omega) z)
  obtain ⟨K, e1, e2, e3⟩ := freeAt F owner h (j := v) (by omega) hv
  have km := inside m h K
  generalize hw : way m h K = w at e1 e2 km
  have ws : w < owner.size := by rw [S.size]; omega
  have self := oAt_set_self (some done.length) ws
  have stay : ∀ x, oAt owner x ≠ none → oAt (owner.setIfInBounds w (some done.length)) x ≠ none := fun x hx => by
    by_cases c : x = w
    · subst c
      rw [self]
      exact fun z => nomatch z
    · rwa [oAt_set_ne _ c]
  refine ⟨w, e1, by rw [Array.size_setIfInBounds, S.size], fun j k hj e => ?_, fun k hk => ?_, w :: l, by rw [List.length_cons, List.length_append, List.length_singleton, l1], fun j hj e => ?_⟩
  · by_cases c : j = w
    · subst c
      rw [self] at e
      cases e
      exact ⟨h, K, by rw [List.getElem?_append_right (Nat.le_refl _), Nat.sub_self]; rfl, hw, fun c hc => stay _ (e3 c hc)⟩
    · rw [oAt_set_ne _ c] at e
      obtain ⟨g, K', a, b, c'⟩ := S.of j k hj e
      exact ⟨g, K', by rw [List.getElem?_append_left (List.getElem?_eq_some_iff.mp a).1, a], b, fun c hc => stay _ (c' c hc)⟩
  · rw [List.length_append, List.length_singleton] at hk
    rcases Nat.lt_or_ge k done.length with c | c
    · obtain ⟨j, j1, j2⟩ := S.each k c
      refine ⟨j, j1, ?_⟩
      have : j ≠ w := fun z => by rw [z, e2] at j2; cases j2
      rwa [oAt_set_ne _ this]
    · have : k = done.length := by omega
      subst this
      exact ⟨w, km, self⟩
  · by_cases c : j = w
    · rw [c]
      exact List.mem_cons_self
    · rw [oAt_set_ne _ c] at e
      exact List.mem_cons_of_mem _ (l2 j hj e)
theorem seats_all (F : Full m) : ∀ (rest done : List Int) (owner : Array (Option Nat)), Seats m done owner → done.length + rest.length ≤ m →
    ∃ o2, rest.foldl (stepF m) (some (owner, done.length)) = some (o2, (done ++ rest).length) ∧ Seats m (done ++ rest) o2
  | [], done, owner, S, _ => ⟨owner, by rw [List.append_nil, List.foldl_nil], by rwa [List.append_nil]⟩
  | h :: rest, done, owner, S, hl => by
    rw [List.length_cons] at hl
    obtain ⟨j, e, S2⟩ := S.more F (by omega) h
    have l2 : (done ++ [h]).length = done.length + 1 := by rw [List.length_append, List.length_singleton]
    obtain ⟨o2, f, S3⟩ := seats_all F rest (done ++ [h]) _ S2 (by omega)
    have ap : done ++ [h] ++ rest = done ++ h :: rest := by rw [List.append_assoc, List.singleton_append]
    rw [ap] at f S3
    rw [l2] at f
    exact ⟨o2, by rw [List.foldl_cons, stepF_some e, f], S3⟩
/-- the table anew, with all rows in their new order -/
theorem anew (t : SetTable) {hs : Array Int} {wanted : Nat} (hw : SetTable.sizeAbove wanted - 1 = m) (F : Full m) (hn : hs.size ≤ m) :
    ∃ t2 order, t.relaid hs wanted = some (t2, order) ∧ order.toList.Perm (List.range hs.size) ∧ Tab t2 (order.toList.map fun i => hs.getD i 0) ∧ t2.mask = m ∧ t2.led = t.led ∧ t2.plain = t.plain := by
  obtain ⟨owner, f, S⟩ := seats_all F hs.toList [] (Array.replicate (m + 1) none) ⟨by simp, fun j k hj e => (by rw [oAt_init hj] at e; cases e), fun k hk => (by cases hk), ⟨[], rfl, fun j hj e => absurd (oAt_init hj) e⟩⟩ (by rw [Array.length_toList]; simpa using hn)
  rw [List.nil_append] at S f
  have lc : SetTable.layClean m hs = some owner := by
    rw [layClean_eq]
    have f2 : hs.toList.foldl (stepF m) (some (Array.replicate (m + 1) none, 0)) = some (owner, hs.toList.length) := f
    rw [f2]
    rfl
  have live := ris_live (fun j => owner.getD j none) (List.range (m + 1)) (by unfold Ris; first | exact List.pairwise_lt_range | exact List.pairwise_lt_range _)
  have up : Ris ((liveOf m owner).map (·.1)) := live.1
  have inR : ∀ x ∈ (liveOf m owner).map (·.1), x ∈ List.range (m + 1) := live.2
  have many : (liveOf m owner).length = hs.size := by
    obtain ⟨l, l1, l2⟩ := S.few
    have a : ((liveOf m owner).map (·.1)).length ≤ l.length := nat_nodup_len _ l (up.imp fun z => Nat.ne_of_lt z) fun x hx => by
      obtain ⟨⟨y, k⟩, q1, rfl⟩ := List.mem_map.mp hx
      obtain ⟨b1, b2⟩ := (mem_live S.size).mp q1
      exact l2 y b1 (by rw [b2]; exact fun z => nomatch z)
    have b : (List.range hs.size).length ≤ ((liveOf m owner).map (·.2)).length := nat_nodup_len _ _ List.nodup_range fun k hk => by
      obtain ⟨j, b1, b2⟩ := S.each k (by rw [Array.length_toList]; exact List.mem_range.mp hk)
      exact List.mem_map.mpr ⟨(j, k), (mem_live S.size).mpr ⟨b1, b2⟩, rfl⟩
    have z : hs.toList.length = hs.size := Array.length_toList
    simp only [List.length_map, List.length_range] at a b
    omega
  refine ⟨tabOf t m owner, ((liveOf m owner).map (·.2)).toArray, by rw [relaid_eq, hw, lc]; rfl, perm_range _ _ ?_ fun k hk => ?_, ⟨up, rfl, ?_, F, fun x hx => ?_, fun i h j e1 e2 => ?_⟩, rfl, rfl, rfl⟩
  · show ((liveOf m owner).map (·.2)).length = _
    rw [List.length_map, many]
  · obtain ⟨j, b1, b2⟩ := S.each k (by rw [Array.length_toList]; exact hk)
    exact List.mem_map.mpr ⟨(j, k), (mem_live S.size).mpr ⟨b1, b2⟩, rfl⟩
  · show ((liveOf m owner).map (·.1)).toArray.size = (((liveOf m owner).map (·.2)).map _).length
    simp only [List.size_toArray, List.length_map]
  · have := List.mem_range.mp (inR x hx)
    exact Nat.lt_succ_iff.mp this
  · have e1 : (((liveOf m owner).map (·.2)).map fun i => hs.getD i 0)[i]? = some h := e1
    have e2 : ((liveOf m owner).map (·.1))[i]? = some j := e2
    simp only [List.getElem?_map, Option.map_eq_some_iff] at e1 e2
    obtain ⟨k, ⟨⟨y, k2⟩, q1, q2⟩, rfl⟩ := e1
    obtain ⟨⟨y2, k3⟩, q3, rfl⟩ := e2
    rw [q1] at q3
    cases q3
    cases q2
    obtain ⟨b1, b2⟩ := (mem_live S.size).mp (List.mem_of_getElem? q1)
    obtain ⟨g, K, a1, a2, a3⟩ := S.of y k2 b1 b2
    have eg : hs.getD k2 0 = g := by
      rw [Array.getD_eq_getD_getElem?, ← Array.getElem?_toList, a1]
      rfl
    show ∃ c, way m (hs.getD k2 0) c = y ∧ _
    rw [eg]
    refine ⟨K, a2, fun c hc => ?_⟩
    obtain ⟨k4, z⟩ := Option.ne_none_iff_exists'.mp (a3 c hc)
    exact List.mem_map.mpr ⟨(way m g c, k4), (mem_live S.size).mpr ⟨inside m g c, z⟩, rfl⟩
end
theorem size5 : SetTable.sizeAbove (SetTable.grown 5) - 1 = 31 := by decide +kernel
theorem size19 : SetTable.sizeAbove (SetTable.grown 19) - 1 = 127 := by decide +kernel
theorem size77 : SetTable.sizeAbove (SetTable.grown 77) - 1 = 511 := by decide +kernel
theorem size307 : SetTable.sizeAbove (SetTable.grown 307) - 1 = 2047 := by decide +kernel
theorem size1229 : SetTable.sizeAbove (SetTable.grown 1229) - 1 = 8191 := by decide +kernel
def Msk (m : Nat) : Prop := m = 7 ∨ m = 31 ∨ m = 127 ∨ m = 511 ∨ m = 2047 ∨ m = 8191
theorem Msk.full {m : Nat} (h : Msk m) : Full m := by
  rcases h with rfl | rfl | rfl | rfl | rfl | rfl
  · exact full7
  · exact full31
  · exact full127
  · exact full511
  · exact full2047
  · exact full8191
end NS
/-! NSb: a set of nested tuples: one more put in. -/
namespace NS
open PySem PySem.Spec PyProof.Rows L2
abbrev NK := NestedKey
section
variable {P : Program} {w : World} {A : Around} {E : Value → Shared → Prop} {s : Shared}
/-! ### small questions asked of keys -/
mutual
theorem class_key : ∀ (k : NK) (v : Value) (n : Nat) (A : Around) (Q : Bool → Shared → Prop), NestedIs s.heap k v → k.depth ≤ n → Q false s → wpAny (model P w) A (ofAClassStatement n v) Q E s
  | .none, _, n, A, Q, h, _, q => by
    cases h
    have e : ofAClassStatement n .none = pure false := by cases n <;> rfl
    rw [e]
    exact wpAny_pure q
  | .num i, _, n, A, Q, h, _, q => by
    cases h with
    | bool e =>
      rename_i b
      have e : ofAClassStatement n (.bool b) = pure false := by cases n <;> rfl
      rw [e]
      exact wpAny_pure q
    | int _ t =>
      rw [ofAClass_int]
      exact wpAny_pure q
  | .text x, _, n, A, Q, h, _, q => by
    cases h with
    | text _ t =>
      have e : ofAClassStatement n (.str x t) = pure false := by cases n <;> rfl
      rw [e]
      exact wpAny_pure q
  | .tup ks, _, n, A, Q, h, hn, q => by
    cases h with
    | @tup a o vs m _ ho hc hd hk =>
      have hn : NestedKey.depthAll ks + 1 ≤ n := hn
      obtain ⟨n, rfl⟩ : ∃ m, n = m + 1 := ⟨n - 1, by omega⟩
      unfold ofAClassStatement
      refine wpAny_bind (wpAny_typeOf ⟨o, ho, hc⟩ ?_)
      dsimp only
      have e : (("tuple" : String) == "tuple") = true := by decide
      simp only [e, if_true, Bool.not_true, Bool.false_eq_true, if_false]
      try refine wpAny_bind (wpAny_pure ?_)
      try simp only [Bool.not_true, Bool.false_eq_true, if_false]
      show wpAny _ _ (seqItems? (.ref a) >>= _) _ _ s
      refine wpAny_bind (wpAny_seqItems ho hd ?_)
      dsimp only
      refine wpAny_bind ?_
      show wpAny _ _ (forIn vs _ _) _ _ s
      rw [← Array.forIn_toList]
      refine wpAny_forIn_list _ (fun rest r s' => r.1 = none ∧ s' = s ∧ ∀ v ∈ rest, ∀ (A : Around) (Q : Bool → Shared → Prop), Q false s → wpAny (model P w) A (ofAClassStatement n v) Q E s) _ ?_ ?_ _ _ ⟨rfl, rfl, class_keys ks vs.toList n hk (by omega)⟩
      · rintro v rest r s' ⟨hr, rfl, hall⟩
        refine wpAny_bind (hall v List.mem_cons_self _ _ ?_)
        simp only [Bool.false_eq_true, if_false]
        exact wpAny_pure ⟨rfl, rfl, fun u hu => hall u (List.mem_cons_of_mem _ hu)⟩
      · rintro ⟨r1, r2⟩ s' ⟨hr, rfl, _⟩
        simp only at hr
        subst hr
        exact wpAny_pure q
theorem class_keys : ∀ (ks : List NK) (vs : List Value) (n : Nat), NestedAll s.heap ks vs → NestedKey.depthAll ks ≤ n → ∀ v ∈ vs, ∀ (A : Around) (Q : Bool → Shared → Prop), Q false s → wpAny (model P w) A (ofAClassStatement n v) Q E s
  | [], _, n, h, _, v, hv => by cases h; cases hv
  | k :: ks, _, n, h, hn, v, hv => by
    cases h with
    | cons h1 h2 =>
      have hn : max (NestedKey.depth k) (NestedKey.depthAll ks) ≤ n := hn
      rcases List.mem_cons.mp hv with e | hv
      · intro A Q q
        rw [e]
        exact class_key k _ n A Q h1 (by omega) q
      · exact class_keys ks _ n h2 (by omega) v hv
end
mutual
theorem byVal_key : ∀ (k : NK) (v : Value) (n : Nat) (A : Around) (Q : Bool → Shared → Prop), NestedIs s.heap k v → (∀ b, Q b s) → wpAny (model P w) A (hashByValue n v) Q E s
  | .none, _, n, A, Q, h, q => by
    cases h
    have e : hashByValue n .none = pure true := by cases n <;> rfl
    rw [e]
    exact wpAny_pure (q true)
  | .num i, _, n, A, Q, h, q => by
    cases h with
    | bool e =>
      rename_i b
      have e : hashByValue n (.bool b) = pure true := by cases n <;> rfl
      rw [e]
      exact wpAny_pure (q true)
    | int _ t =>
      rw [hashBy_int]
      exact wpAny_pure (q true)
  | .text x, _, n, A, Q, h, q => by
    cases h with
    | text _ t =>
      have e : hashByValue n (.str x t) = pure false := by cases n <;> rfl
      rw [e]
      exact wpAny_pure (q false)
  | .tup ks, _, n, A, Q, h, q => by
    cases h with
    | @tup a o vs m _ ho hc hd hk =>
      cases n with
      | zero =>
        have e : hashByValue 0 (.ref a) = pure false := rfl
        rw [e]
        exact wpAny_pure (q false)
      | succ n =>
        unfold hashByValue
        refine wpAny_bind (wpAny_specialOf ⟨o, ho, hc⟩ F.slot_tuple_hash.lookup ?_)
        show wpAny _ _ (seqItems? (.ref a) >>= _) _ _ s
        refine wpAny_bind (wpAny_seqItems ho hd ?_)
        refine wpAny_bind ?_
        show wpAny _ _ (forIn vs _ _) _ _ s
        rw [← Array.forIn_toList]
        refine wpAny_forIn_list _ (fun rest r s' => r.1 = none ∧ s' = s ∧ ∀ v ∈ rest, ∀ (A : Around) (Q : Bool → Shared → Prop), (∀ b, Q b s) → wpAny (model P w) A (hashByValue n v) Q E s) _ ?_ ?_ _ _ ⟨rfl, rfl, byVal_keys ks vs.toList n hk⟩
        · rintro v rest r s' ⟨hr, rfl, hall⟩
          refine wpAny_bind (hall v List.mem_cons_self _ _ fun b => ?_)
          cases b with
          | true =>
            simp only [Bool.not_true, Bool.false_eq_true, if_false]
            exact wpAny_pure ⟨rfl, rfl, fun u hu => hall u (List.mem_cons_of_mem _ hu)⟩
          | false =>
            simp only [Bool.not_false, if_true]
            exact wpAny_pure (wpAny_pure (q false))
        · rintro ⟨r1, r2⟩ s' ⟨hr, rfl, _⟩
          simp only at hr
          subst hr
          exact wpAny_pure (q true)
theorem byVal_keys : ∀ (ks : List NK) (vs : List Value) (n : Nat), NestedAll s.heap ks vs → ∀ v ∈ vs, ∀ (A : Around) (Q : Bool → Shared → Prop), (∀ b, Q b s) → wpAny (model P w) A (hashByValue n v) Q E s
  | [], _, n, h, v, hv => by cases h; cases hv
  | k :: ks, _, n, h, v, hv => by
    cases h with
    | cons h1 h2 =>
      rcases List.mem_cons.mp hv with e | hv
      · intro A Q q
        rw [e]
        exact byVal_key k _ n A Q h1 q
      · exact byVal_keys ks _ n h2 v hv
end
end
end NS
/-! NSc: a set of nested tuples at a: searched, one more put in. -/
namespace NS
open PySem PySem.Spec PyProof.Rows L2
abbrev Row := NK × Value
def rows (w : World) (L : List Row) : List (Int × Value) := L.map fun p => (p.1.hash w, p.2)
theorem rows_length (w : World) (L : List Row) : (rows w L).length = L.length := List.length_map _
/-- these values are these keys -/
def KeysOk (h : Heap) (L : List Row) : Prop := ∀ p ∈ L, NestedIs h p.1 p.2 ∧ p.1.depth ≤ 8
structure SetN (w : World) (h : Heap) (a : Addr) (L : List Row) (es : Array (Int × Value)) (ep : Nat) (t : SetTable) : Prop where
  ob : ∃ o, h.get? a = some o ∧ o.ExactSet ∧ o.data = .set es ep t
  rw_ : es.toList = rows w L
  tab : Tab t (L.map fun p => p.1.hash w)
  msk : Msk t.mask
  nd : (L.map (·.1)).Nodup
  led : w.params.followText "set-order" = true ∨ t.led = true
  room : L.length * 5 < t.mask * 3
  ref : ∀ p ∈ L, ∃ b, p.2 = .ref b
section
variable {P : Program} {w : World} {A : Around} {E : Value → Shared → Prop} {s : Shared} {a : Addr} {L : List Row} {es : Array (Int × Value)} {ep : Nat} {t : SetTable}
theorem esz (e : es.toList = rows w L) : es.size = L.length := by rw [← Array.length_toList, e, rows_length]
theorem SetN.fits (S : SetN w s.heap a L es ep t) : t.fits es.size = true := by
  have h1 := S.tab.len
  have h2 := S.room
  rw [List.length_map] at h1
  unfold SetTable.fits SetTable.fill
  rw [S.tab.nd, esz S.rw_, h1]
  simp
  omega
theorem SetN.entry (S : SetN w s.heap a L es ep t) {i : Nat} {p : Row} (h : L[i]? = some p) : es[i]? = some (p.1.hash w, p.2) := by
  rw [← Array.getElem?_toList, S.rw_]
  simp [rows, h]
theorem eq_key {k k' : NK} {v v' : Value} {Q : Bool → Shared → Prop} (hu : A.units + 8 < cLine) (h : NestedIs s.heap k v) (h' : NestedIs s.heap k' v') (d : k.depth ≤ 8) (hq : Q (decide (k = k')) s) : wpAny (model P w) A (eqBool v v') Q E s :=
  eqAt_key k k' A s v v' h h' (by omega) _ _ _ _ (by rw [← NestedKey.decide_eq]; exact hq)
theorem seen_keys {k : NK} {v : Value} {Q : Bool → Shared → Prop} (hk : NestedIs s.heap k v) (d : k.depth ≤ 8) {ys : List Value} (hy : ∀ y ∈ ys, ∃ k', NestedIs s.heap k' y ∧ k'.depth ≤ 8) (q : Q false s) : wpAny (model P w) A (searchCouldBeSeen v ys) Q E s := by
  unfold searchCouldBeSeen
  refine wpAny_bind ?_
  refine wpAny_forIn_list _ (fun rest r s' => r.1 = none ∧ s' = s ∧ ∀ y ∈ rest, ∃ k', NestedIs s.heap k' y ∧ k'.depth ≤ 8) _ ?_ ?_ _ _ ⟨rfl, rfl, hy⟩
  · rintro y rest r s' ⟨hr, rfl, hall⟩
    obtain ⟨k', h', d'⟩ := hall y List.mem_cons_self
    have more : ∀ y ∈ rest, ∃ k', NestedIs s'.heap k' y ∧ k'.depth ≤ 8 := fun u hu => hall u (List.mem_cons_of_mem _ hu)
    dsimp only
    repeat' split
    all_goals first
      | exact wpAny_pure ⟨rfl, rfl, more⟩
      | (refine wpAny_bind (quiet_key k _ 8 _ hk d _ _ _ ?_)
         simp only [Bool.not_true, Bool.false_eq_true, if_false]
         refine wpAny_bind (quiet_key k' _ 8 _ h' d' _ _ _ ?_)
         simp only [Bool.not_true, Bool.false_eq_true, if_false]
         refine wpAny_bind (class_key k _ 8 _ _ hk d ?_)
         simp only [Bool.false_eq_true, if_false]
         refine wpAny_bind (class_key k' _ 8 _ _ h' d' ?_)
         simp only [Bool.false_eq_true, if_false]
         exact wpAny_pure ⟨rfl, rfl, more⟩)
  · rintro ⟨r1, r2⟩ s' ⟨hr, rfl, _⟩
    simp only at hr
    subst hr
    exact wpAny_pure q
abbrev walk0 (m : Nat) (h : Int) : SetTable.Probe := runAt m (SetTable.bits h % (m + 1)) (SetTable.bits h)
theorem walk_dummy (m : Nat) : ∀ (n : Nat) (p : SetTable.Probe), p.dummy = none → (nth m p n).dummy = none
  | 0, _, h => h
  | n + 1, p, h => walk_dummy m n (adv m p) (by unfold adv; split <;> exact h)
/-- what stands at a slot is one row -/
theorem one_row (T : Ris t.place.toList) {i i' j : Nat} (h : t.place.toList[i]? = some j) (h' : t.place.toList[i']? = some j) : i = i' := by
  have e := slot_live T h
  rw [slot_live T h'] at e
  injection e with e
  exact e.symm
/-- THE SEARCH, from the c-th step of the way on -/
theorem seek (S : SetN w s.heap a L es ep t) (ok : KeysOk s.heap L) {x : Addr} {k : NK} (hx : NestedIs s.heap k (.ref x)) (dx : k.depth ≤ 8) (hu : A.units + 8 < cLine) {K : Nat} (hKf : K < 10 * SetTable.turns t.mask)
    (hK : way t.mask (k.hash w) K ∉ t.place.toList) (hb : ∀ c, c < K → way t.mask (k.hash w) c ∈ t.place.toList) {Q : SetFound → Shared → Prop}
    (yes : k ∈ L.map (·.1) → Q (.there none) s) (no : k ∉ L.map (·.1) → Q (.free (way t.mask (k.hash w) K) false) s) : ∀ (f c : Nat) (st : Option SetTable.Probe),
      st.getD (t.probeStart (k.hash w)) = nth t.mask (walk0 t.mask (k.hash w)) c → c ≤ K → K - c < f → (∀ (i : Nat) p, L[i]? = some p → p.1 = k → ∃ c', c ≤ c' ∧ c' < K ∧ t.place.toList[i]? = some (way t.mask (k.hash w) c')) →
      wpAny (model P w) A (setSearchFrom a (.ref x) (k.hash w) true f st) Q E s
  | 0, c, st, _, _, hf, _ => absurd hf (Nat.not_lt_zero _)
  | f + 1, c, st, hst, hc, hf, left => by
    obtain ⟨o, ho, hex, hd⟩ := S.ob
    have odd : ¬ t.gaveWay = true := by
      unfold SetTable.gaveWay
      rw [S.msk.full.1]
      decide
    have step : ∀ q, (nth t.mask (nth t.mask (walk0 t.mask (k.hash w)) c) q) = nth t.mask (walk0 t.mask (k.hash w)) (c + q) := fun q => (nth_add t.mask c _ q).symm
    have stj : ∀ q, (nth t.mask (nth t.mask (walk0 t.mask (k.hash w)) c) q).j = way t.mask (k.hash w) (c + q) := fun q => congrArg SetTable.Probe.j (step q)
    have atK : c + (K - c) = K := Nat.add_sub_of_le hc
    have hashAt : ∀ (i : Nat) p, L[i]? = some p → (es[i]?.map (·.1)).getD 0 = p.1.hash w := fun i p hp => by
      rw [S.entry hp]
      rfl
    have told := go_spec t S.tab.up S.tab.nd (fun i => (es[i]?.map (·.1)).getD 0) (k.hash w) (10 * SetTable.turns t.mask) (K - c) (nth t.mask (walk0 t.mask (k.hash w)) c) (walk_dummy t.mask c _ rfl) (by omega)
      (fun q hq => by rw [stj]; exact hb (c + q) (by omega)) (by rw [stj, atK]; exact hK)
    rw [setSearchFrom_succ]
    refine wpAny_bind (wpAny_setState_of ho hd S.fits ?_)
    dsimp only
    refine wp_if_neg odd ?_
    try refine wpAny_bind (wpAny_pure ?_)
    rcases told with ⟨q, i, hq, hi, hh, hno, hpr⟩ | ⟨hno, hpr⟩
    · have met : t.probe (fun i => (es[i]?.map (·.1)).getD 0) (k.hash w) (st.getD (t.probeStart (k.hash w))) = some (.candidate (way t.mask (k.hash w) (c + q)) i (nth t.mask (walk0 t.mask (k.hash w)) (c + (q + 1)))) := by
        rw [hst, ← stj, ← step]
        exact hpr
      rw [met]
      dsimp only
      rw [stj] at hi
      have il : i < L.length := by
        have h1 := (List.getElem?_eq_some_iff.mp hi).1
        have h2 := S.tab.len
        rw [List.length_map] at h2
        rw [Array.length_toList] at h1
        omega
      obtain ⟨p, hp⟩ : ∃ p, L[i]? = some p := ⟨_, List.getElem?_eq_getElem il⟩
      have pm := List.mem_of_getElem? hp
      obtain ⟨po, pd⟩ := ok p pm
      obtain ⟨b, hpb⟩ := S.ref p pm
      have onward : wpAny (model P w) A (searchRest a (.ref x) (k.hash w) true f es t (way t.mask (k.hash w) (c + q)) i (nth t.mask (walk0 t.mask (k.hash w)) (c + (q + 1)))) Q E s := by
        unfold searchRest
        rw [S.entry hp]
        dsimp only
        refine wpAny_bind (wpAny_holding (eq_key hu po hx pd ?_))
        refine wpAny_bind (wpAny_setState_of ho hd S.fits ?_)
        dsimp only
        by_cases same : p.1 = k
        · refine wp_if_pos (by simp [same]) ?_
          exact wpAny_pure (yes (List.mem_map.mpr ⟨p, pm, same⟩))
        · refine wp_if_neg (by simp [same]) ?_
          try refine wpAny_bind (wpAny_pure ?_)
          rw [sameMem]
          dsimp only
          have live := slot_live S.tab.up hi
          simp only [if_true, live, S.entry hp, hpb]
          refine wpAny_bind (wpAny_isSame_ref_self (wpAny_bind (wpAny_pure ?_)))
          simp only [if_true]
          refine wp_if_neg (by simp [same]) ?_
          refine seek S ok hx dx hu hKf hK hb yes no f (c + (q + 1)) _ rfl (by omega) (by omega) fun i0 p0 h0 hk0 => ?_
          obtain ⟨c', a1, a2, a3⟩ := left i0 p0 h0 hk0
          refine ⟨c', Nat.lt_of_not_le fun z => ?_, a2, a3⟩
          have z : c' ≤ c + q := z
          rcases Nat.lt_or_ge c' (c + q) with y | y
          · refine hno (c' - c) i0 (by omega) (by rw [stj, Nat.add_sub_of_le a1]; exact a3) ?_
            exact (hashAt i0 p0 h0).trans (by rw [hk0])
          · have ec : c' = c + q := by omega
            rw [ec] at a3
            have ei := one_row S.tab.up a3 hi
            rw [ei, hp] at h0
            exact same (by rw [Option.some.inj h0]; exact hk0)
      by_cases hl : t.led = true
      · refine wp_if_neg (by simp [hl]) ?_
        try refine wpAny_bind (wpAny_pure ?_)
        exact onward
      · refine wp_if_pos (by simp [hl]) ?_
        refine wpAny_bind (seen_keys hx dx (fun y hy => ?_) ?_)
        · obtain ⟨e, he, ee⟩ := List.mem_map.mp hy
          have he1 : e ∈ es.toList := by
            have : e ∈ es ∧ e.1 = k.hash w := by simpa using he
            simpa using this.1
          rw [S.rw_] at he1
          obtain ⟨p2, m2, e2⟩ := List.mem_map.mp he1
          exact ⟨p2.1, by rw [← ee, ← e2]; exact ok p2 m2⟩
        · refine wp_if_neg (by decide) ?_
          try refine wpAny_bind (wpAny_pure ?_)
          exact onward
    · have met : t.probe (fun i => (es[i]?.map (·.1)).getD 0) (k.hash w) (st.getD (t.probeStart (k.hash w))) = some (.empty (way t.mask (k.hash w) K) none) := by
        have e2 := stj (K - c)
        rw [atK] at e2
        rw [hst, ← e2]
        exact hpr
      rw [met]
      dsimp only
      refine wpAny_pure (no fun hm => ?_)
      obtain ⟨p0, m0, hk0⟩ := List.mem_map.mp hm
      obtain ⟨i0, h0⟩ := List.mem_iff_getElem?.mp m0
      obtain ⟨c', a1, a2, a3⟩ := left i0 p0 h0 hk0
      refine hno (c' - c) i0 (by omega) (by rw [stj, Nat.add_sub_of_le a1]; exact a3) ?_
      exact (hashAt i0 p0 h0).trans (by rw [hk0])
/-- the search, as adding asks for it -/
theorem SetN.find (S : SetN w s.heap a L es ep t) (ok : KeysOk s.heap L) {x : Addr} {k : NK} (hx : NestedIs s.heap k (.ref x)) (dx : k.depth ≤ 8) (hu : A.units + 8 < cLine) {Q : SetFound → Shared → Prop} (yes : k ∈ L.map (·.1) → Q (.there none) s)
    (no : ∀ K, k ∉ L.map (·.1) → way t.mask (k.hash w) K ∉ t.place.toList → (∀ c, c < K → way t.mask (k.hash w) c ∈ t.place.toList) → Q (.free (way t.mask (k.hash w) K) false) s) : wpAny (model P w) A (setSearch a (.ref x) (k.hash w) true) Q E s := by
  have hr := S.room
  obtain ⟨K, k1, k2, k3⟩ := S.tab.free (by rw [List.length_map]; omega) (k.hash w)
  have few : K < 100000 := by
    have : 10 * SetTable.turns t.mask ≤ 90000 := by
      unfold SetTable.turns
      rcases S.msk with e | e | e | e | e | e <;> omega
    omega
  unfold setSearch
  refine seek S ok hx dx hu k1 k2 k3 yes (fun z => no K z k2 k3) 100000 0 none rfl (Nat.zero_le _) (by omega) fun i p hp hk => ?_
  have e1 : (L.map fun p => p.1.hash w)[i]? = some (k.hash w) := by rw [List.getElem?_map, hp, ← hk]; rfl
  obtain ⟨j, hj⟩ : ∃ j, t.place.toList[i]? = some j := by
    have h1 := (List.getElem?_eq_some_iff.mp hp).1
    have h2 := S.tab.len
    rw [List.length_map] at h2
    exact ⟨_, List.getElem?_eq_getElem (by rw [Array.length_toList]; omega)⟩
  obtain ⟨c, c1, c2⟩ := S.tab.ahead k2 e1 hj
  exact ⟨c, Nat.zero_le _, c1, by rw [hj, c2]⟩
end
end NS
/-! NSd: a set of nested tuples: one more put in; the table laid anew. -/
namespace NS
open PySem PySem.Spec PyProof.Rows L2
section
variable {P : Program} {w : World} {A : Around} {E : Value → Shared → Prop} {s : Shared} {a : Addr} {L : List Row} {es : Array (Int × Value)} {ep : Nat} {t : SetTable}
theorem picked {α : Type} (l : List α) : ∀ is : List Nat, (∀ i ∈ is, i < l.length) → ∃ l2, is.filterMap (fun i => l[i]?) = l2 ∧ l2.length = is.length ∧ ∀ (n i : Nat), is[n]? = some i → l2[n]? = l[i]?
  | [], _ => ⟨[], rfl, rfl, fun n i h => by simp at h⟩
  | i :: is, h => by
    obtain ⟨l2, e1, e2, e3⟩ := picked l is fun j hj => h j (List.mem_cons_of_mem _ hj)
    have hi := List.getElem?_eq_getElem (h i List.mem_cons_self)
    refine ⟨l[i]'(h i List.mem_cons_self) :: l2, by rw [List.filterMap_cons_some hi, e1], by simp [e2], fun n j hn => ?_⟩
    cases n with
    | zero =>
      have : i = j := by simpa using hn
      subst this
      rw [hi]
      rfl
    | succ n => exact e3 n j (by simpa using hn)
theorem picked_all {α : Type} (l : List α) : (List.range l.length).filterMap (fun i => l[i]?) = l := by
  obtain ⟨l2, e1, e2, e3⟩ := picked l (List.range l.length) fun i hi => List.mem_range.mp hi
  rw [e1]
  refine List.ext_getElem? fun n => ?_
  rw [List.length_range] at e2
  rcases Nat.lt_or_ge n l.length with h | h
  · exact e3 n n (by rw [List.getElem?_range h])
  · rw [List.getElem?_eq_none (by omega), List.getElem?_eq_none h]
/-- the rows in their new order -/
theorem reorder (es : Array (Int × Value)) (order : Array Nat) (hr : es.toList = rows w L) (hp : order.toList.Perm (List.range L.length)) :
    ∃ L2, (order.filterMap (es[·]?)).toList = rows w L2 ∧ L2.Perm L ∧ (L2.map fun p => p.1.hash w) = order.toList.map fun i => (es.map (·.1)).getD i 0 := by
  have inL : ∀ i ∈ order.toList, i < L.length := fun i hi => List.mem_range.mp (hp.mem_iff.mp hi)
  obtain ⟨L2, e1, e2, e3⟩ := picked L order.toList inL
  have esL : ∀ i : Nat, es[i]? = (L[i]?).map fun p => (p.1.hash w, p.2) := fun i => by
    rw [← Array.getElem?_toList, hr]
    exact List.getElem?_map ..
  have q1 : order.toList.filterMap (fun i => es[i]?) = rows w L2 := by
    rw [← e1, rows, List.map_filterMap]
    congr 1
    funext i
    exact esL i
  refine ⟨L2, by first | (rw [Array.toList_filterMap]; exact q1) | simpa using q1, ?_, ?_⟩
  · have z : (order.toList.filterMap fun i => L[i]?).Perm ((List.range L.length).filterMap fun i => L[i]?) := hp.filterMap _
    rwa [e1, picked_all] at z
  · refine List.ext_getElem? fun n => ?_
    rw [List.getElem?_map, List.getElem?_map]
    rcases Nat.lt_or_ge n order.toList.length with h | h
    · have hn := List.getElem?_eq_getElem h
      have il := inL _ (List.getElem_mem h)
      have e4 : (es.map (·.1)).getD (order.toList[n]) 0 = (L[order.toList[n]]).1.hash w := by
        rw [Array.getD_eq_getD_getElem?, Array.getElem?_map, esL, List.getElem?_eq_getElem il]
        rfl
      rw [hn, e3 n _ hn, List.getElem?_eq_getElem il, Option.map_some, Option.map_some, e4]
    · rw [List.getElem?_eq_none h, List.getElem?_eq_none (by omega)]
      rfl
/-- the table laid anew, larger -/
theorem relay {o : Obj} (ho : s.heap.get? a = some o) (hex : o.ExactSet) (hd : o.data = .set es ep t) (hr : es.toList = rows w L) (sz : t.place.size = es.size) (dm : t.dummies = #[]) (fl : es.size ≤ t.mask) (nd : (L.map (·.1)).Nodup)
    (led : w.params.followText "set-order" = true ∨ t.led = true) (ref : ∀ p ∈ L, ∃ b, p.2 = .ref b) {wanted M : Nat} (hw : SetTable.sizeAbove wanted - 1 = M) (hM : Msk M) (few : L.length * 5 < M * 3) {Q : Unit → Shared → Prop}
    (hQ : ∀ h' L' es' ep' t', Heap.SameBut a s.heap h' → SetN w h' a L' es' ep' t' → L'.Perm L → Q () { s with heap := h' }) : wpAny (model P w) A (setRelay a wanted) Q E s := by
  have sl := esz hr
  have fits : t.fits es.size = true := by
    unfold SetTable.fits SetTable.fill
    rw [dm, sz]
    simpa using fl
  have M1 : M ≤ 8191 := by rcases hM with e | e | e | e | e | e <;> omega
  have M2 : SetTable.sizeAbove wanted ≤ 8192 := by omega
  obtain ⟨t2, order, e, hp, T, em, el, ep2⟩ := anew t (hs := es.map (·.1)) hw hM.full (by rw [Array.size_map, sl]; omega)
  rw [Array.size_map, sl] at hp
  obtain ⟨L2, r1, r2, r3⟩ := reorder es order hr hp
  rw [← r3] at T
  have s2 : (order.filterMap (es[·]?)).size = es.size := by rw [esz r1, r2.length_eq, sl]
  rw [setRelay_eq]
  refine wpAny_bind (wpAny_setState_of ho hd fits ?_)
  dsimp only
  refine wp_if_neg (by rw [sizeLine_eq]; omega) ?_
  try refine wpAny_bind (wpAny_pure ?_)
  rw [e]
  dsimp only
  refine wpAny_bind (wp_if_neg (by rw [s2]; simp) ?_)
  try refine wpAny_bind (wpAny_pure ?_)
  refine wpAny_pure ?_
  dsimp only
  refine wpAny_storeSet_of ho hd ?_ (by rw [s2, sl, sizeLine_eq]; omega)
  have but : Heap.SameBut a s.heap (s.heap.update a (Obj.putSet (order.filterMap (es[·]?)) t2)) := Heap.SameBut.update ..
  refine hQ _ L2 (order.filterMap (es[·]?)) (ep + 1) t2 but ⟨⟨_, store_at ho hd, hex, rfl⟩, r1, T, by rw [em]; exact hM, (r2.map (·.1)).nodup_iff.mpr nd, by rw [el]; exact led, by rw [r2.length_eq, em]; exact few, fun p hp => ref p (r2.mem_iff.mp hp)⟩ r2
/-- ADDING -/
theorem SetN.add (S : SetN w s.heap a L es ep t) (ok : KeysOk s.heap L) {x : Addr} {k : NK} (hx : NestedIs s.heap k (.ref x)) (dx : k.depth ≤ 8) (hu : A.units + 8 < cLine) (few : L.length < 3900) {Q : Bool → Shared → Prop}
    (hQ : ∀ b h' L' es' ep' t', Heap.SameBut a s.heap h' → SetN w h' a L' es' ep' t' → (k ∈ L.map (·.1) → L' = L) → (k ∉ L.map (·.1) → L'.Perm ((k, .ref x) :: L)) → Q b { s with heap := h' }) :
    wpAny (model P w) A (setAddHashed a (.ref x) (k.hash w)) Q E s := by
  obtain ⟨o, ho, hex, hd⟩ := S.ob
  have sl := esz S.rw_
  have room := S.room
  unfold setAddHashed
  refine wpAny_holding ?_
  rw [show (100000 : Nat) = 99999 + 1 from rfl, setAddHashedIn_succ]
  refine wpAny_bind (wpAny_setState_of ho hd S.fits ?_)
  dsimp only
  refine wp_if_neg (by simp [byScan, Value.scannable]) ?_
  try refine wpAny_bind (wpAny_pure ?_)
  refine wpAny_bind (S.find ok hx dx hu (fun hm => ?_) fun K hm hK hb => ?_)
  · dsimp only
    exact wpAny_pure (hQ false s.heap L es ep t (Heap.SameBut.refl a s.heap) S (fun _ => rfl) fun z => absurd hm z)
  · dsimp only
    refine wpAny_bind (wpAny_setState_of ho hd S.fits ?_)
    dsimp only
    obtain ⟨m1, m2, m3⟩ := S.tab.more hK hb
    have p2 : (t.put (way t.mask (k.hash w) K)).2 = SetTable.below t.place (way t.mask (k.hash w) K) := rfl
    have p3 : (t.put (way t.mask (k.hash w) K)).1.mask = t.mask := rfl
    have p4 : (t.put (way t.mask (k.hash w) K)).1.led = t.led := rfl
    generalize t.put (way t.mask (k.hash w) K) = pt at m2 m3 p2 p3 p4 ⊢
    obtain ⟨t1, p⟩ := pt
    dsimp only at m2 m3 p2 p3 p4 ⊢
    subst p2
    have main : ∀ t1' : SetTable, Tab t1' ((L.map fun p => p.1.hash w).take (SetTable.below t.place (way t.mask (k.hash w) K)) ++ k.hash w :: (L.map fun p => p.1.hash w).drop (SetTable.below t.place (way t.mask (k.hash w) K))) → t1'.fill = (L.map fun p => p.1.hash w).length + 1 → t1'.mask = t.mask → t1'.led = t.led →
        wpAny (model P w) A (do
          storeSet a (SetTable.insertAt es (SetTable.below t.place (way t.mask (k.hash w) K)) (k.hash w, .ref x)) t1'
          if (!false && t1'.tooFull) = true then setRelay a (SetTable.grown (es.size + 1))
          return true) Q E s := by
      intro t1 m2 m3 p3 p4
      have hin : (SetTable.insertAt es (SetTable.below t.place (way t.mask (k.hash w) K)) (k.hash w, Value.ref x)).toList = rows w (L.take (SetTable.below t.place (way t.mask (k.hash w) K)) ++ (k, .ref x) :: L.drop (SetTable.below t.place (way t.mask (k.hash w) K))) := by
        rw [SetTable.toList_insertAt, S.rw_]
        simp [rows]
      generalize SetTable.below t.place (way t.mask (k.hash w) K) = p at m1 m2 hin ⊢
      have pm : (L.take p ++ (k, Value.ref x) :: L.drop p).Perm ((k, .ref x) :: L) := by
        have z : (L.take p ++ (k, Value.ref x) :: L.drop p).Perm ((k, .ref x) :: (L.take p ++ L.drop p)) := List.perm_middle
        rwa [List.take_append_drop] at z
      have m2 : Tab t1 ((L.take p ++ (k, Value.ref x) :: L.drop p).map fun p => p.1.hash w) := by
        rw [List.map_append, List.map_cons, List.map_take, List.map_drop]
        exact m2
      generalize L.take p ++ (k, Value.ref x) :: L.drop p = L1 at pm m2 hin
      have l1 : L1.length = L.length + 1 := pm.length_eq
      have z1 := esz hin
      generalize SetTable.insertAt es p (k.hash w, Value.ref x) = es1 at hin z1 ⊢
      have nd1 : (L1.map (·.1)).Nodup := (pm.map (·.1)).nodup_iff.mpr (List.nodup_cons.mpr ⟨hm, S.nd⟩)
      have ref1 : ∀ p ∈ L1, ∃ b, p.2 = .ref b := fun p hp => by
        rcases List.mem_cons.mp (pm.mem_iff.mp hp) with e | e
        · exact ⟨x, by rw [e]⟩
        · exact S.ref p e
      refine wpAny_bind (wpAny_storeSet_of ho hd ?_ (by rw [z1, l1, sizeLine_eq]; omega))
      have but : Heap.SameBut a s.heap (s.heap.update a (Obj.putSet es1 t1)) := Heap.SameBut.update ..
      have ho1 := store_at (es' := es1) (t' := t1) ho hd
      generalize s.heap.update a (Obj.putSet es1 t1) = h1 at but ho1 ⊢
      have led1 : w.params.followText "set-order" = true ∨ t1.led = true := by rw [p4]; exact S.led
      rw [List.length_map] at m3
      by_cases full : t1.tooFull = true
      · have ff : (L.length + 1) * 5 ≥ t.mask * 3 := by
          have z := full
          unfold SetTable.tooFull at z
          rwa [decide_eq_true_eq, m3, p3] at z
        have sz1 : t1.place.size = es1.size := by
          have z := m2.len
          rw [List.length_map] at z
          rw [z, z1]
        have go : ∀ M, SetTable.sizeAbove (SetTable.grown (es.size + 1)) - 1 = M → Msk M → (L.length + 1) * 5 < M * 3 → wpAny (model P w) A (setRelay a (SetTable.grown (es.size + 1))) (fun _ s' => wpAny (model P w) A (pure true) Q E s') E { s with heap := h1 } := fun M g1 g2 g3 =>
          relay (s := { s with heap := h1 }) ho1 hex rfl hin sz1 m2.nd (by rw [z1, l1, p3]; omega) nd1 led1 ref1 g1 g2 (by rw [l1]; exact g3) fun h2 L2 es2 ep2 t2 but2 S2 pm2 =>
            wpAny_pure (hQ true h2 L2 es2 ep2 t2 (but.trans but2) S2 (fun z => absurd z hm) fun _ => pm2.trans pm)
        first
          | (refine wpAny_bind (wp_if_pos (by simp [full]) ?_); rw [sl] at go ⊢)
          | (refine wp_if_pos (by simp [full]) (wpAny_bind ?_); rw [sl] at go ⊢)
        rcases S.msk with e | e | e | e | e | e
        · have l4 : L.length = 4 := by omega
          rw [l4] at go ⊢
          exact go 31 size5 (.inr (.inl rfl)) (by decide)
        · have l4 : L.length = 18 := by omega
          rw [l4] at go ⊢
          exact go 127 size19 (.inr (.inr (.inl rfl))) (by decide)
        · have l4 : L.length = 76 := by omega
          rw [l4] at go ⊢
          exact go 511 size77 (.inr (.inr (.inr (.inl rfl)))) (by decide)
        · have l4 : L.length = 306 := by omega
          rw [l4] at go ⊢
          exact go 2047 size307 (.inr (.inr (.inr (.inr (.inl rfl))))) (by decide)
        · have l4 : L.length = 1228 := by omega
          rw [l4] at go ⊢
          exact go 8191 size1229 (.inr (.inr (.inr (.inr (.inr rfl))))) (by decide)
        · exfalso
          omega
      · first
          | refine wp_if_neg (by simp [full]) ?_
          | refine wpAny_bind (wp_if_neg (by simp [full]) (wpAny_pure ?_))
        refine wpAny_pure (hQ true h1 L1 es1 (ep + 1) t1 but ⟨⟨_, ho1, hex, rfl⟩, hin, m2, by rw [p3]; exact S.msk, nd1, led1, ?_, ref1⟩ (fun z => absurd z hm) fun _ => pm)
        have z := full
        unfold SetTable.tooFull at z
        rw [decide_eq_true_eq, m3, p3] at z
        rw [l1, p3]
        omega
    by_cases pl : t1.plain = true
    · first
        | (refine wpAny_bind (wp_if_pos pl (byVal_key k _ 8 _ _ hx fun b => ?_)))
        | (refine wp_if_pos pl (wpAny_bind (byVal_key k _ 8 _ _ hx fun b => ?_)))
      cases b with
      | true =>
        simp only [if_true]
        exact main t1 m2 m3 p3 p4
      | false =>
        simp only [Bool.false_eq_true, if_false]
        exact main { t1 with plain := false } ⟨m2.up, m2.nd, m2.len, m2.full, m2.top, m2.back⟩ m3 p3 p4
    · first
        | (refine wpAny_bind (wp_if_neg pl (wpAny_pure ?_)))
        | (refine wp_if_neg pl ?_; try refine wpAny_bind (wpAny_pure ?_))
      simp only [if_true]
      exact main t1 m2 m3 p3 p4
end
end NS
/-! NSe: a set of ints and texts; a set of any keys: new, one more put in. -/
namespace NS
open PySem PySem.Spec PyProof.Rows L2
def kOf : Key → NK
  | .inl i => .num i
  | .inr x => .text x
theorem kOf_inj {a b : Key} (h : kOf a = kOf b) : a = b := by
  cases a <;> cases b <;> simp only [kOf, reduceCtorEq, NestedKey.num.injEq, NestedKey.text.injEq] at h <;> rw [h]
theorem perm_unmap {α β : Type} {f : α → β} {l m : List β} (p : l.Perm m) : ∀ L : List α, m = L.map f → ∃ L1 : List α, l = L1.map f ∧ L1.Perm L := by
  induction p with
  | nil => exact fun L e => ⟨[], rfl, by cases L with | nil => exact .refl _ | cons _ _ => cases e⟩
  | cons x _ ih =>
    intro L e
    cases L with
    | nil => cases e
    | cons y L =>
      cases e
      obtain ⟨L1, e1, p1⟩ := ih L rfl
      exact ⟨y :: L1, by rw [e1, List.map_cons], p1.cons y⟩
  | swap x y l =>
    intro L e
    match L, e with
    | a :: b :: L, e =>
      cases e
      exact ⟨b :: a :: L, rfl, .swap ..⟩
  | trans _ _ ih1 ih2 =>
    intro L e
    obtain ⟨L1, e1, p1⟩ := ih2 L e
    obtain ⟨L2, e2, p2⟩ := ih1 L1 e1
    exact ⟨L2, e2, p2.trans p1⟩
def SetS (w : World) (h : Heap) (a : Addr) (L : List Row) : Prop := ∃ o es ep t, h.get? a = some o ∧ o.ExactSet ∧ o.data = .set es ep t ∧ es.toList = rows w L ∧ (L.map (·.1)).Nodup ∧ (∀ p ∈ L, ∃ k : Key, p.1 = kOf k ∧ keyIs k p.2 = true) ∧
  t.fits es.size = true ∧ Ris t.place.toList ∧ (w.params.followText "set-order" = true ∨ t.led = true)
section
variable {P : Program} {w : World} {A : Around} {E : Value → Shared → Prop} {s : Shared} {a : Addr} {L : List Row}
theorem hash_kOf (k : Key) : (kOf k).hash w = (mixKind P w).hash k := by cases k <;> rfl
theorem elems_of {es : Array (Int × Value)} (hr : es.toList = rows w L) (hk : ∀ p ∈ L, ∃ k : Key, p.1 = kOf k ∧ keyIs k p.2 = true) : ElemsOf (mixKind P w) es.toList := fun e he => by
  rw [hr] at he
  obtain ⟨p, hp, rfl⟩ := List.mem_map.mp he
  obtain ⟨k, e1, e2⟩ := hk p hp
  refine ⟨⟨k, e2, by show p.1.hash w = _; rw [e1, hash_kOf]⟩, ?_⟩
  rcases keyIs_shape e2 with ⟨i, t, _, e⟩ | ⟨x, t, _, e⟩
  · show p.2.scannable = true
    rw [e]
    rfl
  · show p.2.scannable = true
    rw [e]
    rfl
/-- the store, and the table laid anew where it is too full -/
theorem scan_tail {g : Bool → Sem Unit} (hg : ∀ (b : Bool) (s₁ : Shared) (Q' : Unit → Shared → Prop), Q' () s₁ → wpAny (model P w) A (g b) Q' E s₁) {o : Obj} {es : Array (Int × Value)} {ep : Nat} {t : SetTable} (ho : s.heap.get? a = some o) (hex : o.ExactSet)
    (hd : o.data = .set es ep t) {es1 : Array (Int × Value)} {t2 : SetTable} {L1 : List Row} (hr : es1.toList = rows w L1) (nd : (L1.map (·.1)).Nodup) (hk : ∀ p ∈ L1, ∃ k : Key, p.1 = kOf k ∧ keyIs k p.2 = true) (few : L1.length < 4096) (ft : t2.fits es1.size = true)
    (up : Ris t2.place.toList) (led : w.params.followText "set-order" = true ∨ t2.led = true) {dummy : Bool} {R : Option Bool → Shared → Prop} (hR : ∀ h' L2, Heap.SameBut a s.heap h' → L2.Perm L1 → SetS w h' a L2 → R (some true) { s with heap := h' }) :
    wpAny (model P w) A (do
        storeSet a es1 t2
        if (!dummy && t2.tooFull) = true then do
            g (relayAll t2 es1 (SetTable.grown es1.size)).2.2
            storeSet a (relayAll t2 es1 (SetTable.grown es1.size)).1 (relayAll t2 es1 (SetTable.grown es1.size)).2.1
            pure (some true)
          else pure (some true)) R E s := by
  have z1 := esz hr
  refine wpAny_bind (wpAny_storeSet_of ho hd ?_ (by rw [z1, sizeLine_eq]; omega))
  have ho1 := store_at (es' := es1) (t' := t2) ho hd
  have but : Heap.SameBut a s.heap (s.heap.update a (Obj.putSet es1 t2)) := Heap.SameBut.update ..
  split
  · have pm := relayAll_perm t2 es1 (SetTable.grown es1.size)
    have f3 := relayAll_fits t2 es1 (SetTable.grown es1.size)
    have r3 := relayAll_ris t2 es1 (SetTable.grown es1.size)
    have l3 := relayAll_led t2 es1 (SetTable.grown es1.size)
    generalize relayAll t2 es1 (SetTable.grown es1.size) = Z at pm f3 r3 l3 ⊢
    obtain ⟨es2, t3, gave⟩ := Z
    dsimp only at pm f3 r3 l3 ⊢
    rw [hr] at pm
    obtain ⟨L2, e2, p2⟩ := perm_unmap pm L1 rfl
    refine wpAny_bind (hg _ _ _ ?_)
    refine wpAny_bind (wpAny_storeSet_of ho1 rfl ?_ (by rw [esz (L := L2) e2, p2.length_eq, sizeLine_eq]; omega))
    have ho2 := store_at (es' := es2) (t' := t3) ho1 rfl
    refine wpAny_pure (hR _ L2 (but.trans (Heap.SameBut.update ..)) p2 ⟨_, es2, _, t3, ho2, hex, rfl, e2, (p2.map (·.1)).nodup_iff.mpr nd, fun p hp => hk p (p2.mem_iff.mp hp), f3, r3, led.imp id fun z => by rw [l3]; exact z⟩)
  · exact wpAny_pure (hR _ L1 but (.refl _) ⟨_, es1, _, t2, ho1, hex, rfl, hr, nd, hk, ft, up, led⟩)
theorem SetS.add (S : SetS w s.heap a L) {k : Key} {v : Value} (hv : keyIs k v = true) (few : L.length < 4000) {Q : Bool → Shared → Prop}
    (hQ : ∀ b h' L', Heap.SameBut a s.heap h' → SetS w h' a L' → (kOf k ∈ L.map (·.1) → L' = L) → (kOf k ∉ L.map (·.1) → L'.Perm ((kOf k, v) :: L)) → Q b { s with heap := h' }) : wpAny (model P w) A (setAddHashed a v ((kOf k).hash w)) Q E s := by
  obtain ⟨o, es, ep, t, ho, hex, hd, hr, nd, hk, ft, up, led⟩ := S
  have z0 := esz hr
  have hkey : (mixKind P w).is k v = true := hv
  have sc : v.scannable = true := by rcases keyIs_shape hv with ⟨i, t, _, e⟩ | ⟨x, t, _, e⟩ <;> (rw [e]; rfl)
  have hel : ElemsOf (mixKind P w) es.toList := elems_of hr hk
  have hb : es.size < scanBound := by show es.size < 4096; omega
  rw [hash_kOf (P := P)]
  unfold setAddHashed setAddHashedIn
  refine wpAny_holding (wpAny_bind (wpAny_setState_of ho hd ft ?_))
  dsimp only
  rw [byScan_of sc hb hel]
  simp only [↓reduceIte]
  unfold setAddByScan
  refine wpAny_bind (wpAny_bind (wpAny_rule (wpAny_bind (wpAny_setScan_of hkey ho hd ft hel ?_))))
  have isIn : ∀ p ∈ L, (mixKind P w).is k p.2 = true ↔ p.1 = kOf k := fun p hp => by
    obtain ⟨k', e1, e2⟩ := hk p hp
    exact ⟨fun z => by rw [e1, (mixKind P w).inj _ _ _ z e2], fun z => by rw [e1] at z; rw [← kOf_inj z]; exact e2⟩
  cases hf : List.findIdx? (fun e => (mixKind P w).is k e.2) es.toList with
  | some j =>
    dsimp only
    obtain ⟨hj, pj, _⟩ := List.findIdx?_eq_some_iff_getElem.mp hf
    have hm : kOf k ∈ L.map (·.1) := by
      have m1 : es.toList[j] ∈ rows w L := by rw [← hr]; exact List.getElem_mem hj
      obtain ⟨p, hp, e⟩ := List.mem_map.mp m1
      rw [← e] at pj
      exact List.mem_map.mpr ⟨p, hp, (isIn p hp).mp pj⟩
    exact wpAny_pure (wpAny_pure (hQ false s.heap L (Heap.SameBut.refl a s.heap) ⟨o, es, ep, t, ho, hex, hd, hr, nd, hk, ft, up, led⟩ (fun _ => rfl) fun z => absurd hm z))
  | none =>
    dsimp only
    have hm : kOf k ∉ L.map (·.1) := fun z => by
      obtain ⟨p, hp, e⟩ := List.mem_map.mp z
      have c := List.findIdx?_eq_none_iff.mp hf (p.1.hash w, p.2) (by rw [hr]; exact List.mem_map.mpr ⟨p, hp, rfl⟩)
      rw [(isIn p hp).mpr e] at c
      cases c
    have gw : ∀ (b : Bool) {s₁ : Shared} {Q' : Unit → Shared → Prop}, Q' () s₁ → wpAny (model P w) A (match b with | true => rule "set.scan.the-table-gave-way" | false => pure ()) Q' E s₁ :=
      fun b s₁ Q' q => by cases b <;> first | exact wpAny_pure q | exact wpAny_rule q
    have pm := layNew_perm t es ((mixKind P w).hash k) v
    have f1 := layNew_fits t es ((mixKind P w).hash k) v
    have r1 := layNew_ris t es ((mixKind P w).hash k) v up
    have l1 := layNew_led t es ((mixKind P w).hash k) v
    generalize layNew t es ((mixKind P w).hash k) v = Z at pm f1 r1 l1 ⊢
    obtain ⟨es1, t1, dummy, gave⟩ := Z
    dsimp only at pm f1 r1 l1 ⊢
    rw [Array.toList_push, hr] at pm
    have pm2 : es1.toList.Perm (rows w ((kOf k, v) :: L)) := by
      refine pm.trans ((List.perm_append_singleton _ _).trans ?_)
      show (((mixKind P w).hash k, v) :: rows w L).Perm (((kOf k).hash w, v) :: rows w L)
      rw [hash_kOf (P := P)]
    obtain ⟨L1, e1, p1⟩ := perm_unmap pm2 _ rfl
    have nd1 : (L1.map (·.1)).Nodup := (p1.map (·.1)).nodup_iff.mpr (List.nodup_cons.mpr ⟨hm, nd⟩)
    have hk1 : ∀ p ∈ L1, ∃ k : Key, p.1 = kOf k ∧ keyIs k p.2 = true := fun p hp => by
      rcases List.mem_cons.mp (p1.mem_iff.mp hp) with e | e
      · exact ⟨k, by rw [e], by rw [e]; exact hv⟩
      · exact hk p e
    have n1 : L1.length < 4096 := by rw [p1.length_eq, List.length_cons]; omega
    have led1 : w.params.followText "set-order" = true ∨ t1.led = true := led.imp id fun z => by rw [l1]; exact z
    have fin : ∀ h' L2, Heap.SameBut a s.heap h' → L2.Perm L1 → SetS w h' a L2 → Q true { s with heap := h' } := fun h' L2 b1 b2 b3 => hQ true h' L2 b1 b3 (fun z => absurd z hm) fun _ => b2.trans p1
    refine wpAny_bind (gw _ ?_)
    split
    · refine wpAny_bind ?_
      rw [hashByValue_scannable 8 sc]
      refine wpAny_pure ?_
      refine scan_tail ?_ ho hex hd e1 nd1 hk1 n1 ?_ ?_ ?_ ?_
      · intro b s₁ Q' q; cases b <;> first | exact wpAny_pure q | exact wpAny_rule q
      · first | (split <;> first | exact f1 | exact SetTable.fits_plain_off f1) | exact f1
      · first | (split <;> exact r1) | exact r1
      · first | (split <;> exact led1) | exact led1
      · intro h' L2 b1 b2 b3; dsimp only; exact wpAny_pure (fin h' L2 b1 b2 b3)
    · refine wpAny_bind (wpAny_pure ?_)
      simp only [↓reduceIte]
      refine scan_tail ?_ ho hex hd e1 nd1 hk1 n1 f1 r1 led1 ?_
      · intro b s₁ Q' q; cases b <;> first | exact wpAny_pure q | exact wpAny_rule q
      · intro h' L2 b1 b2 b3; dsimp only; exact wpAny_pure (fin h' L2 b1 b2 b3)
/-! ### both kinds -/
abbrev newSetO (w : World) : Obj := { cls := .type "set", dict := none, data := .set #[] 0 (.fresh 0 0 (!w.params.followText "set-order")) }
/-- a set at a: its rows; new, or all of them tuples, or all of them ints and texts -/
def SetG (w : World) (h : Heap) (a : Addr) (L : List Row) : Prop := (L = [] ∧ h.get? a = some (newSetO w)) ∨ (∃ es ep t, SetN w h a L es ep t) ∨ (L ≠ [] ∧ SetS w h a L)
theorem SetG.keep {h h' : Heap} (S : SetG w h a L) (k : ∀ o, h.get? a = some o → h'.get? a = some o) : SetG w h' a L := by
  rcases S with ⟨e, S⟩ | ⟨es, ep, t, S⟩ | ⟨n, o, es, ep, t, ho, r⟩
  · exact .inl ⟨e, k _ S⟩
  · obtain ⟨o, ho, r⟩ := S.ob
    exact .inr (.inl ⟨es, ep, t, ⟨o, k o ho, r⟩, S.rw_, S.tab, S.msk, S.nd, S.led, S.room, S.ref⟩)
  · exact .inr (.inr ⟨n, o, es, ep, t, k o ho, r⟩)
theorem SetG.there {h : Heap} (S : SetG w h a L) : ∃ o, h.get? a = some o := by
  rcases S with ⟨e, S⟩ | ⟨es, ep, t, S⟩ | ⟨n, o, es, ep, t, ho, r⟩
  · exact ⟨_, S⟩
  · obtain ⟨o, ho, r⟩ := S.ob
    exact ⟨o, ho⟩
  · exact ⟨o, ho⟩
theorem led_new (w : World) : w.params.followText "set-order" = true ∨ (!w.params.followText "set-order") = true := by
  cases w.params.followText "set-order"
  · exact .inr rfl
  · exact .inl rfl
theorem setN_new {h : Heap} (ho : h.get? a = some (newSetO w)) : SetN w h a [] #[] 0 (.fresh 0 0 (!w.params.followText "set-order")) :=
  ⟨⟨_, ho, ⟨rfl, rfl, rfl⟩, rfl⟩, rfl, ⟨List.Pairwise.nil, rfl, rfl, full7, fun x hx => (by cases hx), fun i g j hi => (by simp at hi)⟩, .inl rfl, List.nodup_nil, led_new w, by show 0 * 5 < 7 * 3; decide, fun p hp => (by cases hp)⟩
theorem setS_new {h : Heap} (ho : h.get? a = some (newSetO w)) : SetS w h a [] :=
  ⟨_, #[], 0, _, ho, ⟨rfl, rfl, rfl⟩, rfl, rfl, List.nodup_nil, fun p hp => (by cases hp), rfl, List.Pairwise.nil, led_new w⟩
theorem SetG.nd {h : Heap} (S : SetG w h a L) : (L.map (·.1)).Nodup := by
  rcases S with ⟨e, S⟩ | ⟨es, ep, t, S⟩ | ⟨_, o, es, ep, t, _, _, _, _, nd, _⟩
  · rw [e]
    exact List.nodup_nil
  · exact S.nd
  · exact nd
/-- what is put in: a tuple, an int, a text -/
inductive KindOf : NK → Bool → Prop
  | tup (ks : List NK) : KindOf (.tup ks) true
  | num (i : Int) : KindOf (.num i) false
  | text (x : Str) : KindOf (.text x) false
theorem SetG.add (S : SetG w s.heap a L) (ok : KeysOk s.heap L) {k : NK} {v : Value} {b : Bool} (hk : KindOf k b) (hL : ∀ p ∈ L, KindOf p.1 b) (hv : NestedIs s.heap k v) (nb : ∀ z, v ≠ .bool z) (dx : k.depth ≤ 8) (hu : A.units + 8 < cLine) (few : L.length < 3900) {Q : Bool → Shared → Prop}
    (hQ : ∀ c h' L', Heap.SameBut a s.heap h' → SetG w h' a L' → (k ∈ L.map (·.1) → L' = L) → (k ∉ L.map (·.1) → L'.Perm ((k, v) :: L)) → Q c { s with heap := h' }) : wpAny (model P w) A (setAddHashed a v (k.hash w)) Q E s := by
  have asS : (∀ p ∈ L, KindOf p.1 false) → SetS w s.heap a L := fun hf => by
    rcases S with ⟨e, S⟩ | ⟨es, ep, t, S⟩ | S
    · subst e
      exact setS_new S
    · cases L with
      | nil =>
        obtain ⟨o, ho, hex, hd⟩ := S.ob
        exact ⟨o, es, ep, t, ho, hex, hd, S.rw_, List.nodup_nil, fun p hp => (by cases hp), S.fits, S.tab.up, S.led⟩
      | cons p L =>
        exfalso
        obtain ⟨b, e⟩ := S.ref p List.mem_cons_self
        have n := (ok p List.mem_cons_self).1
        rw [e] at n
        have kk := hf p List.mem_cons_self
        generalize p.1 = k1 at n kk
        cases kk <;> cases n
    · exact S.2
  have asN : (∀ p ∈ L, KindOf p.1 true) → ∃ es ep t, SetN w s.heap a L es ep t := fun hf => by
    rcases S with ⟨e, S⟩ | S | S
    · subst e
      exact ⟨_, _, _, setN_new S⟩
    · exact S
    · exfalso
      obtain ⟨nL, _, _, _, _, _, _, _, _, _, hk2, _⟩ := S
      cases L with
      | nil => exact nL rfl
      | cons p L =>
        obtain ⟨k1, e, _⟩ := hk2 p List.mem_cons_self
        have z := hf p List.mem_cons_self
        rw [e] at z
        cases k1 <;> cases z
  have ne : ∀ L' : List Row, (k ∈ L.map (·.1) → L' = L) → (k ∉ L.map (·.1) → L'.Perm ((k, v) :: L)) → L' ≠ [] := fun L' a b z => by
    rcases Classical.em (k ∈ L.map (·.1)) with c | c
    · have e := a c
      rw [z] at e
      rw [← e] at c
      cases c
    · have e := (b c).length_eq
      rw [z] at e
      cases e
  cases hk with
  | tup ks =>
    obtain ⟨es, ep, t, S⟩ := asN hL
    cases hv with
    | tup h1 h2 h3 h4 =>
      exact S.add ok (.tup h1 h2 h3 h4) dx hu few fun c h' L' es' ep' t' q1 q2 q3 q4 => hQ c h' L' q1 (.inr (.inl ⟨_, _, _, q2⟩)) q3 q4
  | num i =>
    cases hv with
    | bool e => exact absurd rfl (nb _)
    | int _ tk => exact (asS hL).add (k := .inl i) (v := .int i tk) (keyIs_int i tk) (by omega) fun c h' L' q1 q2 q3 q4 => hQ c h' L' q1 (.inr (.inr ⟨ne L' q3 q4, q2⟩)) q3 q4
  | text x =>
    cases hv with
    | text _ tk => exact (asS hL).add (k := .inr x) (v := .str x tk) (keyIs_str x tk) (by omega) fun c h' L' q1 q2 q3 q4 => hQ c h' L' q1 (.inr (.inr ⟨ne L' q3 q4, q2⟩)) q3 q4
end
end NS
/-! NSf: set(a list); sorted(a set). -/
namespace NS
open PySem PySem.Spec PyProof.Rows L2
theorem KeysOk.keep {h h' : Heap} {L : List Row} (ok : KeysOk h L) (k : ∀ b o, h.get? b = some o → h'.get? b = some o) : KeysOk h' L := fun p hp => ⟨NestedIs.at (fun b ob vs n hb _ => k b ob hb) _ _ (ok p hp).1, (ok p hp).2⟩
theorem KeysOk.sub {h : Heap} {L L' : List Row} (ok : KeysOk h L) (k : ∀ p ∈ L', p ∈ L) : KeysOk h L' := fun p hp => ok p (k p hp)
end NS
/-! NSh: sorted(a set). -/
namespace NS
open PySem PySem.Spec PyProof.Rows L2
section
variable {P : Program} {w : World} {A : Around} {E : Value → Shared → Prop} {s : Shared} {a : Addr} {L : List Row}
/-- what walks over a set see -/
theorem SetG.seen (S : SetG w s.heap a L) (few : L.length < 4000) : ∃ es ep t, SetAt s.heap a es ep t ∧ t.fits es.size = true ∧ es.size < scanBound ∧ Ris t.place.toList ∧ (w.params.followText "set-order" = true ∨ t.led = true) ∧ es.toList.map (·.2) = L.map (·.2) := by
  have m : ∀ es : Array (Int × Value), es.toList = rows w L → es.toList.map (·.2) = L.map (·.2) ∧ es.size < scanBound := fun es e => by
    refine ⟨by rw [e, rows, List.map_map]; rfl, ?_⟩
    rw [esz e]
    show _ < 4096
    omega
  rcases S with ⟨e, S⟩ | ⟨es, ep, t, S⟩ | ⟨_, o, es, ep, t, ho, hex, hd, hr, _, _, ft, up, led⟩
  · subst e
    exact ⟨#[], 0, _, ⟨_, S, rfl, rfl⟩, rfl, by show 0 < 4096; decide, List.Pairwise.nil, led_new w, rfl⟩
  · obtain ⟨o, ho, hex, hd⟩ := S.ob
    exact ⟨es, ep, t, ⟨o, ho, hex.1, hd⟩, S.fits, (m es S.rw_).2, S.tab.up, S.led, (m es S.rw_).1⟩
  · exact ⟨es, ep, t, ⟨o, ho, hex.1, hd⟩, ft, (m es hr).2, up, led, (m es hr).1⟩
end
end NS
/-! NSi: sets and dicts of nested keys as tracked objects. -/
namespace NS
open PySem PySem.Spec PyProof.Rows L2
mutual
/-- the value is the key, by the abstract heap -/
inductive KV (H : Hp) : NK → V → Prop
  | none : KV H .none .non
  | bool (b : Bool) : KV H (.num (if b = true then 1 else 0)) (.bl b)
  | int (i : Int) : KV H (.num i) (.int i)
  | text (x : Str) : KV H (.text x) (.str x)
  | tup {a : Addr} {xs : List V} {ks : List NK} : H a = some (.tup xs) → KVs H ks xs → KV H (.tup ks) (.ref a)
inductive KVs (H : Hp) : List NK → List V → Prop
  | nil : KVs H [] []
  | cons {k : NK} {v : V} {ks : List NK} {vs : List V} : KV H k v → KVs H ks vs → KVs H (k :: ks) (v :: vs)
end
section
variable {X : Cx} {pins : List (Addr × Obj)} {σ : L2.St} {H : Hp} {s : Shared}
mutual
theorem KV.is (I : Inv X pins σ H s) : ∀ (n : NK) (v : V) (u : Value), KV H n v → RelV v u → NestedIs s.heap n u
  | .none, _, u, h, r => by
    cases h
    cases r
    exact .none
  | .num i, _, u, h, r => by
    cases h with
    | bool b =>
      cases r
      exact .bool rfl
    | int i =>
      obtain ⟨t, rfl⟩ := r
      exact .int i t
  | .text x, _, u, h, r => by
    cases h
    obtain ⟨t, rfl⟩ := r
    exact .text x t
  | .tup ks, _, u, h, r => by
    cases h with
    | tup e hk =>
      cases r
      obtain ⟨_, its, rv, o, ho, hc, n, hd⟩ := I.hok _ _ e
      exact .tup ho hc hd (KVs.is I ks _ its hk rv)
theorem KVs.is (I : Inv X pins σ H s) : ∀ (ns : List NK) (vs : List V) (us : List Value), KVs H ns vs → Vals vs us → NestedAll s.heap ns us
  | [], _, us, h, r => by
    cases h
    cases r
    exact .nil
  | n :: ns, _, us, h, r => by
    cases h with
    | cons h1 h2 =>
      cases r with
      | cons r1 r2 => exact .cons (KV.is I n _ _ h1 r1) (KVs.is I ns _ _ h2 r2)
end
end
mutual
theorem KV.mono {H H' : Hp} (k : ∀ a xs, H a = some (.tup xs) → H' a = some (.tup xs)) : ∀ (n : NK) (v : V), KV H n v → KV H' n v
  | .none, _, h => by cases h; exact .none
  | .num i, _, h => by
    cases h with
    | bool b => exact .bool b
    | int i => exact .int i
  | .text x, _, h => by cases h; exact .text x
  | .tup ks, _, h => by
    cases h with
    | tup e hk => exact .tup (k _ _ e) (KVs.mono k ks _ hk)
theorem KVs.mono {H H' : Hp} (k : ∀ a xs, H a = some (.tup xs) → H' a = some (.tup xs)) : ∀ (ns : List NK) (vs : List V), KVs H ns vs → KVs H' ns vs
  | [], _, h => by cases h; exact .nil
  | n :: ns, _, h => by
    cases h with
    | cons h1 h2 => exact .cons (KV.mono k n _ h1) (KVs.mono k ns _ h2)
end
/-- a set, tracked: its keys and values, in some order -/
def SO (w : World) (a : Addr) (kvs : List (NK × V)) : HO := .ext fun h => ∃ (kvs' : List (NK × V)) (L : List Row), kvs'.Perm kvs ∧ L.map (·.1) = kvs'.map (·.1) ∧ Vals (kvs'.map (·.2)) (L.map (·.2)) ∧ SetG w h a L
/-- an entry of a dict of nested keys -/
abbrev Ent := NK × Addr × V
def EntR (p : Ent) (q : NK × Addr × Value) : Prop := p.1 = q.1 ∧ p.2.1 = q.2.1 ∧ RelV p.2.2 q.2.2
/-- what a dict is laid as: its entries, its mark -/
abbrev Raw := Array DictEntry × Nat
def DictX (P : Program) (w : World) (h : Heap) (a : Addr) (xs : List (NK × Addr × Value)) (r : Raw) : Prop :=
  ∃ o, h.get? a = some o ∧ o.ExactDict ∧ o.data = .dict r.1 r.2 ∧ r.1.toList = xs.map (entryOfKey (nestedKind P w)) ∧ (xs.map (·.1)).Nodup
def DO (P : Program) (w : World) (a : Addr) (kvs : List Ent) (r : Raw) : HO := .ext fun h => (a == sysModules) = false ∧ kvs.length ≤ sizeLine ∧ (∀ e ∈ kvs, e.1.depth ≤ 8) ∧ ∃ xs, Paired EntR kvs xs ∧ DictX P w h a xs r
end NS
/-! TLa: values as trees; the relation of a tree to the layer's heap; readings of expressions by plain functions on trees. -/
namespace TL
open PySem PySem.Spec PyProof.Rows L2
/-- a value as a tree -/
inductive T where
  | non | bl (b : Bool) | int (i : Int) | str (x : Str)
  | tup (l : List T) | lst (l : List T) | dic (l : List (Key × T)) | dix (l : List (T × T))
  | ins (c : Str) (fs : List (Str × T))
  | dck
  | cls (c : Str)
/-- the deck's state -/
structure D where
  cells : List Int
  blend : Int
  laps : Nat
/-- an exception: its class by name, its attributes -/
structure Xn where
  cls : Str
  fs : List (Str × T)
/-- an outcome -/
inductive Out (α : Type) where
  | ok (a : α) (d : D)
  | exc (x : Xn) (d : D)
  | bad
/-- a computation on the deck -/
abbrev M (α : Type) := D → Out α
def Out.bind {α β : Type} (o : Out α) (k : α → M β) : Out β := match o with
  | .ok a d => k a d
  | .exc x d => .exc x d
  | .bad => .bad
def M.pure {α : Type} (a : α) : M α := fun d => .ok a d
def M.bind {α β : Type} (m : M α) (k : α → M β) : M β := fun d => (m d).bind k
/-- what may not be defined -/
def M.opt {α : Type} (o : Option α) : M α := fun d => match o with
  | some a => .ok a d
  | none => .bad
theorem M.bind_ok {α β : Type} {m : M α} {k : α → M β} {d d1 : D} {a : α} (h : m d = .ok a d1) : M.bind m k d = k a d1 := by
  show Out.bind (m d) k = _
  rw [h]
  rfl
theorem M.bind_exc {α β : Type} {m : M α} {k : α → M β} {d d1 : D} {x : Xn} (h : m d = .exc x d1) : M.bind m k d = .exc x d1 := by
  show Out.bind (m d) k = _
  rw [h]
  rfl
theorem M.bind_bad {α β : Type} {m : M α} {k : α → M β} {d : D} (h : m d = .bad) : M.bind m k d = .bad := by
  show Out.bind (m d) k = _
  rw [h]
  rfl
def M.bad {α : Type} : M α := fun _ => .bad
/-- a slot: without a value, a value that stays, an object of one's own -/
inductive O where
  | lst (l : List T)
  | dic (l : List (Key × T))
  | dix (l : List (T × T))
  | dil (l : List (T × List T))
  | set (l : List T)
  | ins (c : Str) (fs : List (Str × T))
inductive Sl where
  | no
  | val (t : T)
  | own (o : O)
abbrev En := List Sl
def O.t : O → T
  | .lst l => .lst l
  | .dic l => .dic l
  | .dix l => .dix l
  | .dil l => .dix (l.map fun kv => (kv.1, .lst kv.2))
  | .set _ => .non
  | .ins c fs => .ins c fs
/-- the two addresses of the deck -/
abbrev Dk := Addr × Addr
/-- what is fixed: the written part, classes by name, the form of the deck -/
structure Wd where
  K : PySem.W.Frag
  P : Program
  w : World
  ct : Str → Option Addr
  dk : Addr → D → HO
/-! ### trees as keys -/
mutual
def nkT : T → Option NS.NK
  | .non => some .none
  | .bl b => some (.num (if b = true then 1 else 0))
  | .int i => some (.num i)
  | .str x => some (.text x)
  | .tup l => (nkL l).map .tup
  | .lst _ => none
  | .dic _ => none
  | .dix _ => none
  | .ins _ _ => none
  | .dck => none
  | .cls _ => none
def nkL : List T → Option (List NS.NK)
  | [] => some []
  | t :: l => match nkT t, nkL l with
    | some n, some ns => some (n :: ns)
    | _, _ => none
end
mutual
def Rep (W : Wd) (H : Hp) (F : Addr → Prop) (dk : Dk) : T → V → Prop
  | .non, v => v = .non
  | .bl b, v => v = .bl b
  | .int i, v => v = .int i
  | .str x, v => v = .str x
  | .tup l, v => ∃ a xs, v = .ref a ∧ ¬ F a ∧ H a = some (.tup xs) ∧ RepL W H F dk l xs
  | .lst l, v => ∃ a xs, v = .ref a ∧ ¬ F a ∧ H a = some (.lst xs) ∧ RepL W H F dk l xs
  | .dic l, v => ∃ a xs, v = .ref a ∧ ¬ F a ∧ Rd H a (.dK xs) ∧ RepD W H F dk l xs
  | .dix l, v => ∃ a xs, v = .ref a ∧ ¬ F a ∧ (∃ r, Rd H a (NS.DO W.P W.w a xs r)) ∧ RepX W H F dk l xs
  | .ins c fs, v => ∃ a C dx xs, v = .ref a ∧ ¬ F a ∧ W.ct c = some C ∧ H a = some (.ins C dx xs) ∧ RepF W H F dk fs xs
  | .dck, v => v = .ref dk.1
  | .cls c, v => ∃ C, W.ct c = some C ∧ v = .ref C
def RepL (W : Wd) (H : Hp) (F : Addr → Prop) (dk : Dk) : List T → List V → Prop
  | [], xs => xs = []
  | t :: l, xs => ∃ x r, xs = x :: r ∧ Rep W H F dk t x ∧ RepL W H F dk l r
def RepD (W : Wd) (H : Hp) (F : Addr → Prop) (dk : Dk) : List (Key × T) → List (Key × V) → Prop
  | [], xs => xs = []
  | (k, t) :: l, xs => ∃ x r, xs = (k, x) :: r ∧ Rep W H F dk t x ∧ RepD W H F dk l r
def RepX (W : Wd) (H : Hp) (F : Addr → Prop) (dk : Dk) : List (T × T) → List (NS.NK × Addr × V) → Prop
  | [], xs => xs = []
  | (k, t) :: l, xs => ∃ n b x r, xs = (n, b, x) :: r ∧ nkT k = some n ∧ Rep W H F dk k (.ref b) ∧ Rep W H F dk t x ∧ RepX W H F dk l r
def RepF (W : Wd) (H : Hp) (F : Addr → Prop) (dk : Dk) : List (Str × T) → List (Str × V) → Prop
  | [], xs => xs = []
  | (k, t) :: l, xs => ∃ x r, xs = (k, x) :: r ∧ Rep W H F dk t x ∧ RepF W H F dk l r
end
/-- what stands stays, but for the deck -/
def Keep (dk : Dk) (H H' : Hp) : Prop := ∀ a o, H a = some o → a ≠ dk.1 → a ≠ dk.2 → H' a = some o
theorem Keep.refl (dk : Dk) (H : Hp) : Keep dk H H := fun _ _ h _ _ => h
theorem Keep.trans {dk : Dk} {H H1 H2 : Hp} (a : Keep dk H H1) (b : Keep dk H1 H2) : Keep dk H H2 := fun c o h n1 n2 => b c o (a c o h n1 n2) n1 n2
theorem Keep.of {dk : Dk} {H H' : Hp} (s : Same H H') : Keep dk H H' := fun a o h _ _ => s a o h
section
variable {W : Wd} {H H' : Hp} {F F' : Addr → Prop} {dk : Dk}
mutual
/-- a tree stands on objects outside F alone -/
theorem Rep.mono (k : ∀ a o, ¬ F a → H a = some o → H' a = some o ∧ ¬ F' a) : ∀ (t : T) (v : V), Rep W H F dk t v → Rep W H' F' dk t v
  | .non, v, h => by simpa only [Rep] using h
  | .bl _, v, h => by simpa only [Rep] using h
  | .int _, v, h => by simpa only [Rep] using h
  | .str _, v, h => by simpa only [Rep] using h
  | .dck, v, h => by simpa only [Rep] using h
  | .cls _, v, h => by simpa only [Rep] using h
  | .tup l, v, h => by
    simp only [Rep] at h ⊢
    obtain ⟨a, xs, e, nf, s, r⟩ := h
    exact ⟨a, xs, e, (k _ _ nf s).2, (k _ _ nf s).1, RepL.mono k l xs r⟩
  | .lst l, v, h => by
    simp only [Rep] at h ⊢
    obtain ⟨a, xs, e, nf, s, r⟩ := h
    exact ⟨a, xs, e, (k _ _ nf s).2, (k _ _ nf s).1, RepL.mono k l xs r⟩
  | .dic l, v, h => by
    simp only [Rep] at h ⊢
    obtain ⟨a, xs, e, nf, s, r⟩ := h
    refine ⟨a, xs, e, ?_, ?_, RepD.mono k l xs r⟩
    · rcases s with s | ⟨ob, s⟩
      · exact (k _ _ nf s).2
      · exact (k _ _ nf s).2
    · rcases s with s | ⟨ob, s⟩
      · exact .inl (k _ _ nf s).1
      · exact .inr ⟨ob, (k _ _ nf s).1⟩
  | .dix l, v, h => by
    simp only [Rep] at h ⊢
    obtain ⟨a, xs, e, nf, ⟨r0, s⟩, r⟩ := h
    refine ⟨a, xs, e, ?_, ⟨r0, ?_⟩, RepX.mono k l xs r⟩
    · rcases s with s | ⟨ob, s⟩
      · exact (k _ _ nf s).2
      · exact (k _ _ nf s).2
    · rcases s with s | ⟨ob, s⟩
      · exact .inl (k _ _ nf s).1
      · exact .inr ⟨ob, (k _ _ nf s).1⟩
  | .ins c fs, v, h => by
    simp only [Rep] at h ⊢
    obtain ⟨a, C, dx, xs, e, nf, c, s, r⟩ := h
    exact ⟨a, C, dx, xs, e, (k _ _ nf s).2, c, (k _ _ nf s).1, RepF.mono k fs xs r⟩
theorem RepL.mono (k : ∀ a o, ¬ F a → H a = some o → H' a = some o ∧ ¬ F' a) : ∀ (l : List T) (xs : List V), RepL W H F dk l xs → RepL W H' F' dk l xs
  | [], xs, h => by simpa only [RepL] using h
  | t :: l, xs, h => by
    simp only [RepL] at h ⊢
    obtain ⟨x, r, e, h1, h2⟩ := h
    exact ⟨x, r, e, Rep.mono k t x h1, RepL.mono k l r h2⟩
theorem RepD.mono (k : ∀ a o, ¬ F a → H a = some o → H' a = some o ∧ ¬ F' a) : ∀ (l : List (Key × T)) (xs : List (Key × V)), RepD W H F dk l xs → RepD W H' F' dk l xs
  | [], xs, h => by simpa only [RepD] using h
  | (q, t) :: l, xs, h => by
    simp only [RepD] at h ⊢
    obtain ⟨x, r, e, h1, h2⟩ := h
    exact ⟨x, r, e, Rep.mono k t x h1, RepD.mono k l r h2⟩
theorem RepX.mono (k : ∀ a o, ¬ F a → H a = some o → H' a = some o ∧ ¬ F' a) : ∀ (l : List (T × T)) (xs : List NS.Ent), RepX W H F dk l xs → RepX W H' F' dk l xs
  | [], xs, h => by simpa only [RepX] using h
  | (q, t) :: l, xs, h => by
    simp only [RepX] at h ⊢
    obtain ⟨n, b, x, r, e, h0, h1, h2, h3⟩ := h
    exact ⟨n, b, x, r, e, h0, Rep.mono k q _ h1, Rep.mono k t x h2, RepX.mono k l r h3⟩
theorem RepF.mono (k : ∀ a o, ¬ F a → H a = some o → H' a = some o ∧ ¬ F' a) : ∀ (l : List (Str × T)) (xs : List (Str × V)), RepF W H F dk l xs → RepF W H' F' dk l xs
  | [], xs, h => by simpa only [RepF] using h
  | (q, t) :: l, xs, h => by
    simp only [RepF] at h ⊢
    obtain ⟨x, r, e, h1, h2⟩ := h
    exact ⟨x, r, e, Rep.mono k t x h1, RepF.mono k l r h2⟩
end
end
section
variable {W : Wd} {H : Hp} {F : Addr → Prop} {dk : Dk}
theorem RepL.length : ∀ {l : List T} {xs : List V}, RepL W H F dk l xs → xs.length = l.length
  | [], xs, h => by
    simp only [RepL] at h
    rw [h]
    rfl
  | t :: l, xs, h => by
    simp only [RepL] at h
    obtain ⟨x, r, rfl, _, h2⟩ := h
    rw [List.length_cons, List.length_cons, RepL.length h2]
theorem RepL.get : ∀ {l : List T} {xs : List V} {i : Nat} {t : T}, RepL W H F dk l xs → l[i]? = some t → ∃ x, xs[i]? = some x ∧ Rep W H F dk t x
  | [], _, _, _, _, e => by simp at e
  | t :: l, xs, i, u, h, e => by
    simp only [RepL] at h
    obtain ⟨x, r, rfl, h1, h2⟩ := h
    cases i with
    | zero =>
      have e' : t = u := Option.some.inj (by simpa using e)
      subst e'
      exact ⟨x, rfl, h1⟩
    | succ i =>
      obtain ⟨y, q1, q2⟩ := RepL.get (i := i) h2 (by simpa using e)
      exact ⟨y, by simpa using q1, q2⟩
theorem RepL.nil : RepL W H F dk [] [] := by simp only [RepL]
theorem RepL.nil_inv {l : List T} (h : RepL W H F dk l []) : l = [] := by
  have := h.length
  exact List.length_eq_zero_iff.mp this.symm
theorem RepL.cons {t : T} {x : V} {l : List T} {xs : List V} (h : Rep W H F dk t x) (r : RepL W H F dk l xs) : RepL W H F dk (t :: l) (x :: xs) := by
  simp only [RepL]
  exact ⟨x, xs, rfl, h, r⟩
theorem RepL.append : ∀ {l l' : List T} {xs xs' : List V}, RepL W H F dk l xs → RepL W H F dk l' xs' → RepL W H F dk (l ++ l') (xs ++ xs')
  | [], _, _, _, h, h' => by
    simp only [RepL] at h
    subst h
    exact h'
  | t :: l, _, _, _, h, h' => by
    simp only [RepL] at h
    obtain ⟨x, r, rfl, h1, h2⟩ := h
    exact .cons h1 (RepL.append h2 h')
theorem RepL.take : ∀ {l : List T} {xs : List V} (n : Nat), RepL W H F dk l xs → RepL W H F dk (l.take n) (xs.take n)
  | _, _, 0, _ => .nil
  | [], _, n + 1, h => by
    simp only [RepL] at h
    subst h
    exact .nil
  | t :: l, _, n + 1, h => by
    simp only [RepL] at h
    obtain ⟨x, r, rfl, h1, h2⟩ := h
    exact .cons h1 (RepL.take n h2)
theorem RepL.drop : ∀ {l : List T} {xs : List V} (n : Nat), RepL W H F dk l xs → RepL W H F dk (l.drop n) (xs.drop n)
  | _, _, 0, h => h
  | [], _, n + 1, h => by
    simp only [RepL] at h
    subst h
    exact .nil
  | t :: l, _, n + 1, h => by
    simp only [RepL] at h
    obtain ⟨x, r, rfl, h1, h2⟩ := h
    exact RepL.drop n h2
theorem RepL.reverse : ∀ {l : List T} {xs : List V}, RepL W H F dk l xs → RepL W H F dk l.reverse xs.reverse
  | [], _, h => by
    simp only [RepL] at h
    subst h
    exact .nil
  | t :: l, _, h => by
    simp only [RepL] at h
    obtain ⟨x, r, rfl, h1, h2⟩ := h
    rw [List.reverse_cons, List.reverse_cons]
    exact (RepL.reverse h2).append (.cons h1 .nil)
theorem RepL.set : ∀ {l : List T} {xs : List V} {t : T} {x : V} (i : Nat), RepL W H F dk l xs → Rep W H F dk t x → RepL W H F dk (l.set i t) (xs.set i x)
  | [], _, _, _, _, h, _ => by
    simp only [RepL] at h
    subst h
    exact .nil
  | t :: l, _, u, y, i, h, hu => by
    simp only [RepL] at h
    obtain ⟨x, r, rfl, h1, h2⟩ := h
    cases i with
    | zero => exact .cons hu h2
    | succ i => exact .cons h1 (RepL.set i h2 hu)
theorem RepL.ints : ∀ {is : List Int}, RepL W H F dk (is.map T.int) (is.map V.int)
  | [] => .nil
  | i :: is => .cons (by simp only [Rep]) RepL.ints
theorem RepL.ints_inv : ∀ {is : List Int} {xs : List V}, RepL W H F dk (is.map T.int) xs → xs = is.map V.int
  | [], xs, h => by simpa only [List.map_nil, RepL] using h
  | i :: is, xs, h => by
    simp only [List.map_cons, RepL, Rep] at h
    obtain ⟨x, r, rfl, rfl, h2⟩ := h
    rw [RepL.ints_inv h2, List.map_cons]
theorem RepL.strs_inv : ∀ {is : List Str} {xs : List V}, RepL W H F dk (is.map T.str) xs → xs = is.map V.str
  | [], xs, h => by simpa only [List.map_nil, RepL] using h
  | i :: is, xs, h => by
    simp only [List.map_cons, RepL, Rep] at h
    obtain ⟨x, r, rfl, rfl, h2⟩ := h
    rw [RepL.strs_inv h2, List.map_cons]
end
section
variable {W : Wd} {H : Hp} {F : Addr → Prop} {dk : Dk}
mutual
/-- a key's value is the key -/
theorem Rep.nk : ∀ {t : T} {v : V} {n : NS.NK}, Rep W H F dk t v → nkT t = some n → NS.KV H n v
  | .non, v, n, r, e => by
    simp only [Rep] at r
    simp only [nkT, Option.some.injEq] at e
    subst r e
    exact .none
  | .bl b, v, n, r, e => by
    simp only [Rep] at r
    simp only [nkT, Option.some.injEq] at e
    subst r e
    exact .bool b
  | .int i, v, n, r, e => by
    simp only [Rep] at r
    simp only [nkT, Option.some.injEq] at e
    subst r e
    exact .int i
  | .str x, v, n, r, e => by
    simp only [Rep] at r
    simp only [nkT, Option.some.injEq] at e
    subst r e
    exact .text x
  | .tup l, v, n, r, e => by
    simp only [Rep] at r
    obtain ⟨a, xs, rfl, _, s, rl⟩ := r
    simp only [nkT, Option.map_eq_some_iff] at e
    obtain ⟨ns, e, rfl⟩ := e
    exact .tup s (RepL.nk rl e)
  | .lst _, v, n, r, e => by simp only [nkT] at e; cases e
  | .dic _, v, n, r, e => by simp only [nkT] at e; cases e
  | .dix _, v, n, r, e => by simp only [nkT] at e; cases e
  | .ins _ _, v, n, r, e => by simp only [nkT] at e; cases e
  | .dck, v, n, r, e => by simp only [nkT] at e; cases e
  | .cls _, v, n, r, e => by simp only [nkT] at e; cases e
theorem RepL.nk : ∀ {l : List T} {xs : List V} {ns : List NS.NK}, RepL W H F dk l xs → nkL l = some ns → NS.KVs H ns xs
  | [], xs, ns, r, e => by
    simp only [RepL] at r
    simp only [nkL, Option.some.injEq] at e
    subst r e
    exact .nil
  | t :: l, xs, ns, r, e => by
    simp only [RepL] at r
    obtain ⟨x, q, rfl, h1, h2⟩ := r
    simp only [nkL] at e
    split at e
    · rename_i d ds e1 e2
      cases e
      exact .cons (Rep.nk h1 e1) (RepL.nk h2 e2)
    · cases e
end
end
/-- a dict of lists of one's own: the lists stand in B, each for itself -/
def RepQ (W : Wd) (H : Hp) (F : Addr → Prop) (dk : Dk) (B : Addr → Prop) : List (T × List T) → List NS.Ent → Prop
  | [], xs => xs = []
  | (k, l) :: r, xs => ∃ n b q ys s, xs = (n, b, .ref q) :: s ∧ nkT k = some n ∧ Rep W H F dk k (.ref b) ∧ B q ∧ H q = some (.lst ys) ∧ RepL W H F dk l ys ∧ (∀ e ∈ s, e.2.2 ≠ .ref q) ∧ RepQ W H F dk B r s
/-- a set's trees and its keys and values -/
def RepS (W : Wd) (H : Hp) (F : Addr → Prop) (dk : Dk) : List T → List (NS.NK × V) → Prop
  | [], xs => xs = []
  | t :: l, xs => ∃ n x s, xs = (n, x) :: s ∧ nkT t = some n ∧ Rep W H F dk t x ∧ RepS W H F dk l s
/-- an object of one's own at p; what more belongs to it stands in B -/
def OwnR (W : Wd) (H : Hp) (F : Addr → Prop) (dk : Dk) (B : Addr → Prop) : O → Addr → Prop
  | .lst l, p => ∃ xs, H p = some (.lst xs) ∧ RepL W H F dk l xs
  | .dic l, p => ∃ xs, H p = some (.dK xs) ∧ RepD W H F dk l xs
  | .dix l, p => ∃ xs, (∃ r, H p = some (NS.DO W.P W.w p xs r)) ∧ RepX W H F dk l xs
  | .dil l, p => ∃ xs, (∃ r, H p = some (NS.DO W.P W.w p xs r)) ∧ (xs.map (·.1)).Nodup ∧ RepQ W H F dk B l xs
  | .set l, p => ∃ xs, H p = some (NS.SO W.w p xs) ∧ RepS W H F dk l xs
  | .ins c fs, p => ∃ C dx xs, W.ct c = some C ∧ H p = some (.ins C dx xs) ∧ RepF W H F dk fs xs
section
variable {W : Wd} {H H' : Hp} {F F' B B' : Addr → Prop} {dk : Dk}
theorem RepQ.mono (k : ∀ a o, ¬ F a → H a = some o → H' a = some o ∧ ¬ F' a) (kb : ∀ a o, B a → H a = some o → H' a = some o ∧ B' a) : ∀ (l : List (T × List T)) (xs : List NS.Ent), RepQ W H F dk B l xs → RepQ W H' F' dk B' l xs
  | [], xs, h => by simpa only [RepQ] using h
  | (q, t) :: l, xs, h => by
    simp only [RepQ] at h ⊢
    obtain ⟨n, b, q', ys, r, e, h0, h1, h2, h3, h4, h5, h6⟩ := h
    exact ⟨n, b, q', ys, r, e, h0, Rep.mono k q _ h1, (kb _ _ h2 h3).2, (kb _ _ h2 h3).1, RepL.mono k t ys h4, h5, RepQ.mono k kb l r h6⟩
theorem RepS.mono (k : ∀ a o, ¬ F a → H a = some o → H' a = some o ∧ ¬ F' a) : ∀ (l : List T) (xs : List (NS.NK × V)), RepS W H F dk l xs → RepS W H' F' dk l xs
  | [], xs, h => by simpa only [RepS] using h
  | t :: l, xs, h => by
    simp only [RepS] at h ⊢
    obtain ⟨n, x, r, e, h0, h1, h2⟩ := h
    exact ⟨n, x, r, e, h0, Rep.mono k t x h1, RepS.mono k l r h2⟩
/-- it stands on objects outside F and on its own ones -/
theorem OwnR.mono {o : O} {p : Addr} (k : ∀ a o, ¬ F a → H a = some o → H' a = some o ∧ ¬ F' a) (kb : ∀ a o, B a → H a = some o → H' a = some o ∧ B' a) (hp : B p) (r : OwnR W H F dk B o p) : OwnR W H' F' dk B' o p := by
  cases o with
  | lst l =>
    obtain ⟨xs, e, r⟩ := r
    exact ⟨xs, (kb _ _ hp e).1, RepL.mono k l xs r⟩
  | dic l =>
    obtain ⟨xs, e, r⟩ := r
    exact ⟨xs, (kb _ _ hp e).1, RepD.mono k l xs r⟩
  | dix l =>
    obtain ⟨xs, ⟨r0, e⟩, r⟩ := r
    exact ⟨xs, ⟨r0, (kb _ _ hp e).1⟩, RepX.mono k l xs r⟩
  | dil l =>
    obtain ⟨xs, ⟨r0, e⟩, nd, r⟩ := r
    exact ⟨xs, ⟨r0, (kb _ _ hp e).1⟩, nd, RepQ.mono k kb l xs r⟩
  | set l =>
    obtain ⟨xs, e, r⟩ := r
    exact ⟨xs, (kb _ _ hp e).1, RepS.mono k l xs r⟩
  | ins c fs =>
    obtain ⟨C, dx, xs, hc, e, r⟩ := r
    exact ⟨C, dx, xs, hc, (kb _ _ hp e).1, RepF.mono k fs xs r⟩
theorem OwnR.there {o : O} {p : Addr} (r : OwnR W H F dk B o p) : H p ≠ none := by
  cases o with
  | lst l =>
    obtain ⟨xs, e, r⟩ := r
    rw [e]
    exact fun z => nomatch z
  | dic l =>
    obtain ⟨xs, e, r⟩ := r
    rw [e]
    exact fun z => nomatch z
  | dix l =>
    obtain ⟨xs, ⟨r0, e⟩, r⟩ := r
    rw [e]
    exact fun z => nomatch z
  | dil l =>
    obtain ⟨xs, ⟨r0, e⟩, r⟩ := r
    rw [e]
    exact fun z => nomatch z
  | set l =>
    obtain ⟨xs, e, r⟩ := r
    rw [e]
    exact fun z => nomatch z
  | ins c fs =>
    obtain ⟨C, dx, xs, hc, e, r⟩ := r
    rw [e]
    exact fun z => nomatch z
end
/-- the deck stands -/
def DkAt (W : Wd) (dk : Dk) (H : Hp) (d : D) : Prop := dk.1 ≠ dk.2 ∧ H dk.2 = some (.lst (d.cells.map V.int)) ∧ H dk.1 = some (W.dk dk.2 d)
/-- the frame's slots and the heap are what the trees say -/
structure SR (W : Wd) (dk : Dk) (F : Addr → Prop) (G : Nat → Addr → Prop) (σ : L2.St) (H : Hp) (en : En) (d : D) : Prop where
  len : en.length = σ.length
  val : ∀ (i : Nat) (t : T), en[i]? = some (.val t) → ∃ v, σ[i]? = some (some v) ∧ Rep W H F dk t v
  own : ∀ (i : Nat) (o : O), en[i]? = some (.own o) → ∃ p, σ[i]? = some (some (.ref p)) ∧ G i p ∧ OwnR W H F dk (G i) o p
  sep : ∀ (i j : Nat) (a : Addr), G i a → G j a → i = j
  gf : ∀ i a, G i a → F a
  gd : ∀ i a, G i a → a ≠ dk.1 ∧ a ≠ dk.2
  fh : ∀ a, F a → H a ≠ none
  fd1 : F dk.1
  fd2 : F dk.2
  deck : DkAt W dk H d
section
variable {W : Wd} {H H' : Hp} {F : Addr → Prop} {G : Nat → Addr → Prop} {dk : Dk} {σ : L2.St} {en : En} {d d' : D}
theorem SR.free (s : SR W dk F G σ H en d) {p : Addr} (h : H p = none) : ¬ F p := fun z => s.fh p z h
theorem SR.keepR (s : SR W dk F G σ H en d) (k : Keep dk H H') {t : T} {v : V} (r : Rep W H F dk t v) : Rep W H' F dk t v :=
  Rep.mono (fun a o nf e => ⟨k a o e (fun z => nf (z ▸ s.fd1)) fun z => nf (z ▸ s.fd2), nf⟩) t v r
theorem SR.keepL (s : SR W dk F G σ H en d) (k : Keep dk H H') {t : List T} {v : List V} (r : RepL W H F dk t v) : RepL W H' F dk t v :=
  RepL.mono (fun a o nf e => ⟨k a o e (fun z => nf (z ▸ s.fd1)) fun z => nf (z ▸ s.fd2), nf⟩) t v r
theorem SR.keepD (s : SR W dk F G σ H en d) (k : Keep dk H H') {t : List (Key × T)} {v : List (Key × V)} (r : RepD W H F dk t v) : RepD W H' F dk t v :=
  RepD.mono (fun a o nf e => ⟨k a o e (fun z => nf (z ▸ s.fd1)) fun z => nf (z ▸ s.fd2), nf⟩) t v r
/-- behind an expression -/
theorem SR.keep (s : SR W dk F G σ H en d) (k : Keep dk H H') (hd : DkAt W dk H' d') : SR W dk F G σ H' en d' where
  len := s.len
  val := fun i t e => let ⟨v, h, r⟩ := s.val i t e; ⟨v, h, s.keepR k r⟩
  own := fun i o e => by
    obtain ⟨p, h, g, r⟩ := s.own i o e
    exact ⟨p, h, g, r.mono (fun a o nf e => ⟨k a o e (fun z => nf (z ▸ s.fd1)) fun z => nf (z ▸ s.fd2), nf⟩) (fun a o b e => ⟨k a o e (s.gd _ _ b).1 (s.gd _ _ b).2, b⟩) g⟩
  sep := s.sep
  gf := s.gf
  gd := s.gd
  fh := fun a z e => by
    by_cases e1 : a = dk.1
    · subst e1
      obtain ⟨_, _, h3⟩ := hd
      rw [e] at h3
      cases h3
    · by_cases e2 : a = dk.2
      · subst e2
        rw [hd.2.1] at e
        cases e
      · cases q : H a with
        | none => exact s.fh a z q
        | some o =>
          rw [k a o q e1 e2] at e
          cases e
  fd1 := s.fd1
  fd2 := s.fd2
  deck := hd
theorem DkAt.same (h : DkAt W dk H d) (s : Same H H') : DkAt W dk H' d := by
  obtain ⟨h1, h2, h3⟩ := h
  exact ⟨h1, s _ _ h2, s _ _ h3⟩
end
/-- how an exception lies: its class, its own dict, its attributes -/
def XRep (W : Wd) (H : Hp) (F : Addr → Prop) (dk : Dk) (x : Xn) (c : Value) (od : Option Addr) : Prop :=
  ∃ C, W.ct x.cls = some C ∧ c = .ref C ∧ match od with
    | none => x.fs = []
    | some q => ¬ F q ∧ ∃ xs, H q = some (.xd xs) ∧ RepF W H F dk x.fs xs
/-- what is wanted of an outcome -/
def Post (W : Wd) (Ex : XK) (F : Addr → Prop) (dk : Dk) (H : Hp) {α : Type} (R : α → D → Hp → Prop) : Out α → Prop
  | .ok a d' => ∀ H', Keep dk H H' → DkAt W dk H' d' → R a d' H'
  | .exc x d' => ∀ c od H', Keep dk H H' → DkAt W dk H' d' → XRep W H' F dk x c od → Ex c od H'
  | .bad => False
section
variable {W : Wd} {Ex : XK} {F : Addr → Prop} {dk : Dk} {H H1 : Hp} {α β : Type} {R R' : α → D → Hp → Prop} {S : β → D → Hp → Prop}
theorem Post.mono : ∀ {o : Out α}, Post W Ex F dk H R o → (∀ a d1 H1, Keep dk H H1 → DkAt W dk H1 d1 → R a d1 H1 → R' a d1 H1) → Post W Ex F dk H R' o
  | .ok a d', h, k => fun H' q1 q2 => k a d' H' q1 q2 (h H' q1 q2)
  | .exc _ _, h, _ => h
  | .bad, h, _ => h
theorem Post.later : ∀ {o : Out α}, Post W Ex F dk H R o → Keep dk H H1 → Post W Ex F dk H1 R o
  | .ok a d', h, k => fun H' q1 q2 => h H' (k.trans q1) q2
  | .exc _ _, h, k => fun c od H' q1 q2 q3 => h c od H' (k.trans q1) q2 q3
  | .bad, h, _ => h
theorem Post.bind {m : M α} {k : α → M β} {d : D} (h : Post W Ex F dk H S (M.bind m k d)) : Post W Ex F dk H (fun a d1 H1 => Post W Ex F dk H1 S (k a d1)) (m d) := by
  unfold M.bind Out.bind at h
  cases e : m d with
  | ok a d1 =>
    rw [e] at h
    exact fun H' q1 q2 => Post.later h q1
  | exc x d1 =>
    rw [e] at h
    exact h
  | bad =>
    rw [e] at h
    exact h
theorem Post.opt {o : Option α} {d : D} (h : Post W Ex F dk H R (M.opt o d)) (k : ∀ a, o = some a → (∀ H', Keep dk H H' → DkAt W dk H' d → R a d H') → Post W Ex F dk H R (M.opt o d)) : Post W Ex F dk H R (M.opt o d) := h
theorem Post.opt_some {o : Option α} {d : D} (h : Post W Ex F dk H R (M.opt o d)) : ∃ a, o = some a ∧ ∀ H', Keep dk H H' → DkAt W dk H' d → R a d H' := by
  cases o with
  | none => exact h.elim
  | some a => exact ⟨a, rfl, h⟩
end
/-- an expression's reading by a function on trees -/
def tE (W : Wd) (Ex : XK) (f : En → M T) : TE := fun σ H Q => ∃ dk F G en d, SR W dk F G σ H en d ∧
  Post W Ex F dk H (fun t d' H' => ∀ v, Rep W H' F dk t v → Q v H') (f en d)
/-- a list of one's own, new -/
def tN (W : Wd) (Ex : XK) (f : En → M (List T)) : TE := fun σ H Q => ∃ dk F G en d, SR W dk F G σ H en d ∧
  Post W Ex F dk H (fun l d' H' => ∀ p xs, RepL W H' F dk l xs → xs.length ≤ sizeLine → H' p = none → Q (.ref p) (upd H' p (.lst xs))) (f en d)
/-- a test's -/
def tT (W : Wd) (Ex : XK) (f : En → M Bool) : TT := fun σ H Q => ∃ dk F G en d, SR W dk F G σ H en d ∧
  Post W Ex F dk H (fun t d' H' => Q t H') (f en d)
/-- arguments -/
def tA (W : Wd) (Ex : XK) (f : En → M (List T)) : TA := fun σ H Q => ∃ dk F G en d, SR W dk F G σ H en d ∧
  Post W Ex F dk H (fun l d' H' => ∀ xs, RepL W H' F dk l xs → Q xs H') (f en d)
end TL
/-! TLb: expressions. -/
namespace TL
open PySem PySem.Spec PyProof.Rows L2
/-! ### slots -/
def getS : En → Nat → Sl
  | [], _ => .no
  | s :: _, 0 => s
  | _ :: r, n + 1 => getS r n
def setS : En → Nat → Sl → En
  | [], _, _ => []
  | _ :: r, 0, s => s :: r
  | x :: r, n + 1, s => x :: setS r n s
theorem getS_eq : ∀ (en : En) (i : Nat), getS en i = (en[i]?).getD .no
  | [], _ => rfl
  | _ :: _, 0 => rfl
  | _ :: r, n + 1 => by
    show getS r n = _
    rw [getS_eq r n]
    rfl
theorem setS_eq : ∀ (en : En) (i : Nat) (s : Sl), setS en i s = en.set i s
  | [], _, _ => rfl
  | _ :: _, 0, _ => rfl
  | x :: r, n + 1, s => by
    show x :: setS r n s = _
    rw [setS_eq r n s]
    rfl
theorem getS_val {en : En} {i : Nat} {t : T} (h : getS en i = .val t) : en[i]? = some (.val t) := by
  rw [getS_eq] at h
  cases e : en[i]? with
  | none =>
    rw [e] at h
    cases h
  | some s =>
    rw [e] at h
    exact congrArg some h
theorem getS_own {en : En} {i : Nat} {t : O} (h : getS en i = .own t) : en[i]? = some (.own t) := by
  rw [getS_eq] at h
  cases e : en[i]? with
  | none =>
    rw [e] at h
    cases h
  | some s =>
    rw [e] at h
    exact congrArg some h
/-! ### weaker readings -/
section
variable {X : Cx} {e : Expr} {es : List Expr}
theorem _root_.L2.PE.imp {t t' : TE} (h : PE X e t) (k : ∀ σ H Q, t' σ H Q → t σ H Q) : PE X e t' := ⟨fun pins s σ H Q I q => h.run pins s σ H Q I (k σ H Q q)⟩
theorem _root_.L2.PT.imp {t t' : TT} (h : PT X e t) (k : ∀ σ H Q, t' σ H Q → t σ H Q) : PT X e t' := ⟨fun pins s σ H Q I q => h.run pins s σ H Q I (k σ H Q q)⟩
theorem _root_.L2.PA.imp {t t' : TA} (h : PA X es t) (k : ∀ σ H Q, t' σ H Q → t σ H Q) : PA X es t' := ⟨fun pos pins s σ H Q I q => h.run pos pins s σ H Q I (k σ H Q q)⟩
end
/-! ### functions on trees -/
def xC (t : T) : En → M T := fun _ => .pure t
def xVar (i : Nat) : En → M T := fun en => match getS en i with
  | .val t => .pure t
  | _ => .bad
def xBin (op : T → T → Option T) (f g : En → M T) : En → M T := fun en => (f en).bind fun x => (g en).bind fun y => .opt (op x y)
def xUn (op : T → Option T) (f : En → M T) : En → M T := fun en => (f en).bind fun x => .opt (op x)
/-- a value used as a test: a bool -/
def boolT : T → Option Bool
  | .bl b => some b
  | _ => none
def xTest (f : En → M T) : En → M Bool := fun en => (f en).bind fun x => .opt (boolT x)
section
variable {W : Wd} {Ex : XK} {X : Cx} {a b c : Expr} {f g : En → M T} {pos : Pos}
theorem te_bl {b j} : PE X (.Constant (.bool b) j pos) (tE W Ex (xC (.bl b))) := pe_bl.imp fun σ H Q ⟨dk, F, G, en, d, S, h⟩ => h H (.refl _ _) S.deck (.bl b) (by simp only [Rep])
theorem te_int {i j} : PE X (.Constant (.int i) j pos) (tE W Ex (xC (.int i))) := pe_int.imp fun σ H Q ⟨dk, F, G, en, d, S, h⟩ => h H (.refl _ _) S.deck (.int i) (by simp only [Rep])
theorem te_str {x j} : PE X (.Constant (.str x) j pos) (tE W Ex (xC (.str x))) := pe_str.imp fun σ H Q ⟨dk, F, G, en, d, S, h⟩ => h H (.refl _ _) S.deck (.str x) (by simp only [Rep])
/-- the name that stands in the i-th slot -/
theorem te_v (i : Nat) {x : Str} (hN : X.N[i]? = some x := by rfl) (hv : Vis X.env.scope x := by first | exact Or.inl rfl | exact Or.inr (Or.inl rfl) | exact Or.inr (Or.inr rfl)) (hd : (x == ("__debug__" : Str)) = false := by decide)
    (hcd : (x == ("__classdict__" : Str)) = false := by decide) : PE X (.Name x pos) (tE W Ex (xVar i)) := (pv i hN hv hd hcd).imp fun σ H Q ⟨dk, F, G, en, d, S, h⟩ => by
  unfold xVar at h
  cases e : getS en i with
  | val t =>
    rw [e] at h
    obtain ⟨v, hv, r⟩ := S.val i t (getS_val e)
    exact ⟨v, hv, h H (.refl _ _) S.deck v r⟩
  | no =>
    rw [e] at h
    exact h.elim
  | own o =>
    rw [e] at h
    exact h.elim
/-! ### two values -/
/-- what a two-place reading asks, by trees -/
def Agr2 (W : Wd) (r : R2) (op : T → T → Option T) : Prop := ∀ {dk : Dk} {F : Addr → Prop} {H : Hp} {x y : V} {a b t : T} {Q : VK}, (∀ p, H p = none → ¬ F p) → Rep W H F dk a x → Rep W H F dk b y → op a b = some t →
  (∀ v H', Same H H' → Rep W H' F dk t v → Q v H') → r x y H Q
def Agr1 (W : Wd) (r : V → Hp → VK → Prop) (op : T → Option T) : Prop := ∀ {dk : Dk} {F : Addr → Prop} {H : Hp} {x : V} {a t : T} {Q : VK}, (∀ p, H p = none → ¬ F p) → Rep W H F dk a x → op a = some t →
  (∀ v H', Same H H' → Rep W H' F dk t v → Q v H') → r x H Q
def AgrL (W : Wd) (r : List V → Hp → VK → Prop) (op : List T → Option T) : Prop := ∀ {dk : Dk} {F : Addr → Prop} {H : Hp} {xs : List V} {l : List T} {t : T} {Q : VK}, (∀ p, H p = none → ¬ F p) → RepL W H F dk l xs → op l = some t →
  (∀ v H', Same H H' → Rep W H' F dk t v → Q v H') → r xs H Q
theorem tOp_of {r : R2} {op : T → T → Option T} (ag : Agr2 W r op) : ∀ σ H Q, tE W Ex (xBin op f g) σ H Q → tOp r (tE W Ex f) (tE W Ex g) σ H Q := fun σ H Q ⟨dk, F, G, en, d, S, h⟩ => by
  refine ⟨dk, F, G, en, d, S, (Post.bind h).mono fun t d1 H1 k1 D1 h1 v rv => ?_⟩
  have S1 := S.keep k1 D1
  refine ⟨dk, F, G, en, d1, S1, (Post.bind h1).mono fun u d2 H2 k2 D2 h2 w rw => ?_⟩
  have S2 := S1.keep k2 D2
  obtain ⟨z, e, q⟩ := Post.opt_some h2
  exact ag (fun p hp => S2.free hp) (S1.keepR k2 rv) rw e fun v' H' s r' => q H' (.of s) (D2.same s) v' r'
theorem te_bin {o : Operator} {r : R2} {op : T → T → Option T} (ho : OpR X (binaryOp o) r) (ag : Agr2 W r op) (ha : PE X a (tE W Ex f)) (hb : PE X b (tE W Ex g)) : PE X (.BinOp a o b pos) (tE W Ex (xBin op f g)) :=
  (pe_op ho ha hb).imp (tOp_of ag)
theorem te_cmp {o : CmpOp} {r : R2} {op : T → T → Option T} (ho : OpR X (compareOp o) r) (ag : Agr2 W r op) (ha : PE X a (tE W Ex f)) (hb : PE X b (tE W Ex g)) (hm : behindInMarks o b = false) : PE X (.Compare a [o] [b] pos) (tE W Ex (xBin op f g)) :=
  (pe_cmpR ho ha hb hm).imp (tOp_of ag)
theorem tTest_of : ∀ σ H (Q : Bool → Hp → Prop), tT W Ex (xTest f) σ H Q → tTest (tE W Ex f) σ H Q := fun σ H Q ⟨dk, F, G, en, d, S, h⟩ => by
  refine ⟨dk, F, G, en, d, S, (Post.bind h).mono fun t d1 H1 k1 D1 h1 v rv => ?_⟩
  obtain ⟨z, e, q⟩ := Post.opt_some h1
  cases t with
  | bl b =>
    cases e
    simp only [Rep] at rv
    exact ⟨_, rv, q H1 (.refl _ _) D1⟩
  | _ => cases e
theorem tt_cmp {o : CmpOp} {r : R2} {op : T → T → Option T} (ho : OpR X (compareOp o) r) (ag : Agr2 W r op) (ha : PE X a (tE W Ex f)) (hb : PE X b (tE W Ex g)) (hm : behindInMarks o b = false) : PT X (.Compare a [o] [b] pos) (tT W Ex (xTest (xBin op f g))) :=
  (pt_cmpR ho ha hb hm).imp fun σ H Q h => by
    obtain ⟨dk, F, G, en, d, S, h⟩ := h
    refine tOp_of ag σ H _ ⟨dk, F, G, en, d, S, (Post.bind h).mono fun t d1 H1 k1 D1 h1 v rv => ?_⟩
    obtain ⟨z, e, q⟩ := Post.opt_some h1
    cases t with
    | bl b =>
      cases e
      simp only [Rep] at rv
      exact ⟨_, rv, q H1 (.refl _ _) D1⟩
    | _ => cases e
theorem te_un {o : UnaryOp} {r : V → Hp → VK → Prop} {op : T → Option T} (ho : UnR X (unaryOp o) r) (ag : Agr1 W r op) (ha : PE X a (tE W Ex f)) : PE X (.UnaryOp o a pos) (tE W Ex (xUn op f)) :=
  (pe_un ho ha).imp fun σ H Q ⟨dk, F, G, en, d, S, h⟩ => by
    refine ⟨dk, F, G, en, d, S, (Post.bind h).mono fun t d1 H1 k1 D1 h1 v rv => ?_⟩
    have S1 := S.keep k1 D1
    obtain ⟨z, e, q⟩ := Post.opt_some h1
    exact ag (fun p hp => S1.free hp) rv e fun v' H' s r' => q H' (.of s) (D1.same s) v' r'
end
/-! ### ints, texts, sequences -/
def capL (n : Nat) {α : Type} (a : α) : Option α := if n ≤ 16777216 then some a else none
theorem capL_some {n : Nat} {α : Type} {a b : α} (h : capL n a = some b) : n ≤ sizeLine ∧ a = b := by
  unfold capL at h
  split at h
  · rename_i q
    exact ⟨by rw [sizeLine_eq]; exact q, Option.some.inj h⟩
  · cases h
def addT : T → T → Option T
  | .int i, .int j => some (.int (i + j))
  | .str x, .str y => capL (x.length + y.length) (.str (x ++ y))
  | .lst l, .lst m => capL (l.length + m.length) (.lst (l ++ m))
  | .tup l, .tup m => capL (l.length + m.length) (.tup (l ++ m))
  | _, _ => none
def subT : T → T → Option T
  | .int i, .int j => some (.int (i - j))
  | _, _ => none
/-- numbers of at most a million bits together -/
def smallI (i : Int) : Bool := decide (-(2 ^ 64) < i ∧ i < 2 ^ 64)
def wideI (i j : Int) : Bool := decide (i.natAbs.log2 + j.natAbs.log2 < 1000000)
def repT (x : Str) (k : Nat) : Str := ⟨(List.replicate k x.cps.toList).flatten.toArray⟩
def mulT : T → T → Option T
  | .int i, .int j => if smallI i || smallI j || wideI i j then some (.int (i * j)) else none
  | .lst l, .int k => if 0 ≤ k ∧ k < 2 ^ 63 then capL (l.length * k.toNat) (.lst (List.replicate k.toNat l).flatten) else none
  | .tup l, .int k => if 0 ≤ k ∧ k ≤ 1000 ∧ 0 < l.length ∧ l.length ≤ 1000 then some (.tup (List.replicate k.toNat l).flatten) else none
  | .str x, .int k => if 0 ≤ k ∧ k < 2 ^ 62 then capL (x.length * k.toNat) (.str (repT x k.toNat)) else none
  | _, _ => none
def fdivT : T → T → Option T
  | .int i, .int j => if 0 < j ∧ j < 1073741824 then some (.int (i / j)) else none
  | _, _ => none
def modT : T → T → Option T
  | .int i, .int j => if 0 < j then some (.int (i % j)) else none
  | _, _ => none
def powT : T → T → Option T
  | .int i, .int j => if 0 ≤ j ∧ j ≤ 1000000 ∧ i.natAbs < 2 ^ 64 then some (.int (i ^ j.toNat)) else none
  | _, _ => none
def negT : T → Option T
  | .int i => some (.int (-i))
  | _ => none
section
variable {W : Wd} {X : Cx}
theorem upd_same' {H : Hp} {p : Addr} {o : HO} (h : H p = none) : Same H (upd H p o) := fun b x e => by
  rw [upd_ne (ne_of_none e h)]
  exact e
/-- a new list, a new tuple of what stands -/
theorem rep_lst {H : Hp} {F : Addr → Prop} {dk : Dk} {l : List T} {xs : List V} {p : Addr} (hF : ∀ p, H p = none → ¬ F p) (hp : H p = none) (r : RepL W H F dk l xs) : Rep W (upd H p (.lst xs)) F dk (.lst l) (.ref p) := by
  simp only [Rep]
  exact ⟨p, xs, rfl, hF p hp, upd_same, RepL.mono (fun a o nf e => ⟨upd_same' hp a o e, nf⟩) l xs r⟩
theorem rep_tup {H : Hp} {F : Addr → Prop} {dk : Dk} {l : List T} {xs : List V} {p : Addr} (hF : ∀ p, H p = none → ¬ F p) (hp : H p = none) (r : RepL W H F dk l xs) : Rep W (upd H p (.tup xs)) F dk (.tup l) (.ref p) := by
  simp only [Rep]
  exact ⟨p, xs, rfl, hF p hp, upd_same, RepL.mono (fun a o nf e => ⟨upd_same' hp a o e, nf⟩) l xs r⟩
def rAddA (K : PySem.W.Frag) : R2 := fun x y H Q => (∃ i j, x = .int i ∧ y = .int j ∧ Q (.int (i + j)) H) ∨ (∃ i j, x = .str i ∧ y = .str j ∧ i.length + j.length ≤ sizeLine ∧ Q (.str (i ++ j)) H) ∨ rCat x y H Q ∨ rCatA K x y H Q
theorem op_addA : OpR X (binaryOp .Add) (rAddA X.K) := op_add.or (op_add_str.or (op_cat.or op_catA))
theorem agr_add : Agr2 W (rAddA W.K) addT := fun {dk F H x y a b t Q} hF ra rb e q => by
  unfold addT at e
  split at e
  · cases e
    simp only [Rep] at ra rb
    exact .inl ⟨_, _, ra, rb, q _ H (.refl _) (by simp only [Rep])⟩
  · obtain ⟨hz, rfl⟩ := capL_some e
    simp only [Rep] at ra rb
    exact .inr (.inl ⟨_, _, ra, rb, hz, q _ H (.refl _) (by simp only [Rep])⟩)
  · obtain ⟨hz, rfl⟩ := capL_some e
    simp only [Rep] at ra rb
    obtain ⟨p, xs, rfl, n1, h1, r1⟩ := ra
    obtain ⟨p2, ys, rfl, n2, h2, r2⟩ := rb
    exact .inr (.inr (.inl ⟨_, _, _, _, rfl, rfl, h1, h2, by rw [r1.length, r2.length]; exact hz, fun p hp => q _ _ (upd_same' hp) (rep_lst hF hp (r1.append r2))⟩))
  · obtain ⟨hz, rfl⟩ := capL_some e
    simp only [Rep] at ra rb
    obtain ⟨p, xs, rfl, n1, h1, r1⟩ := ra
    obtain ⟨p2, ys, rfl, n2, h2, r2⟩ := rb
    refine .inr (.inr (.inr ⟨_, _, _, _, rfl, rfl, .of h1, .of h2, by rw [r1.length, r2.length]; exact hz, fun e => ?_, fun _ e => ?_, fun _ _ p hp => q _ _ (upd_same' hp) (rep_tup hF hp (r1.append r2))⟩))
    · subst e
      cases RepL.nil_inv r1
      refine q _ H (.refl _) ?_
      simp only [Rep, List.nil_append]
      exact ⟨_, _, rfl, n2, h2, r2⟩
    · subst e
      cases RepL.nil_inv r2
      refine q _ H (.refl _) ?_
      simp only [Rep, List.append_nil]
      exact ⟨_, _, rfl, n1, h1, r1⟩
  · cases e
theorem agr_sub : Agr2 W (rI0 fun i j => .int (i - j)) subT := fun {dk F H x y a b t Q} hF ra rb e q => by
  unfold subT at e
  split at e
  · cases e
    simp only [Rep] at ra rb
    exact ⟨_, _, ra, rb, q _ H (.refl _) (by simp only [Rep])⟩
  · cases e
theorem agr_mod : Agr2 W (rI (fun _ j => 0 < j) fun i j => .int (i % j)) modT := fun {dk F H x y a b t Q} hF ra rb e q => by
  unfold modT at e
  split at e
  · split at e
    · rename_i h
      cases e
      simp only [Rep] at ra rb
      exact ⟨_, _, ra, rb, h, q _ H (.refl _) (by simp only [Rep])⟩
    · cases e
  · cases e
theorem agr_fdiv : Agr2 W (rI CDiv fun i j => .int (i / j)) fdivT := fun {dk F H x y a b t Q} hF ra rb e q => by
  unfold fdivT at e
  split at e
  · split at e
    · rename_i h
      cases e
      simp only [Rep] at ra rb
      exact ⟨_, _, ra, rb, h, q _ H (.refl _) (by simp only [Rep])⟩
    · cases e
  · cases e
theorem agr_pow : Agr2 W (rI CPow fun i j => .int (i ^ j.toNat)) powT := fun {dk F H x y a b t Q} hF ra rb e q => by
  unfold powT at e
  split at e
  · split at e
    · rename_i h
      cases e
      simp only [Rep] at ra rb
      exact ⟨_, _, ra, rb, h, q _ H (.refl _) (by simp only [Rep])⟩
    · cases e
  · cases e
theorem agr_neg : Agr1 W (rU fun i => .int (-i)) negT := fun {dk F H x a t Q} hF ra e q => by
  unfold negT at e
  split at e
  · cases e
    simp only [Rep] at ra
    exact ⟨_, ra, q _ H (.refl _) (by simp only [Rep])⟩
  · cases e
end
end TL
/-! TLc: comparisons, truth, places, slices, displays, calls of built-ins. -/
namespace TL
open PySem PySem.Spec PyProof.Rows L2
/-! ### trees as plain data -/
mutual
def T.py : T → Option PyData
  | .non => some .none
  | .bl b => some (.bool b)
  | .int i => some (.int i)
  | .str x => some (.str x)
  | .tup l => (pyL l).map .tuple
  | .lst l => (pyL l).map .list
  | .dic _ => none
  | .dix _ => none
  | .ins _ _ => none
  | .dck => none
  | .cls _ => none
def pyL : List T → Option (List PyData)
  | [] => some []
  | t :: l => match t.py, pyL l with
    | some d, some ds => some (d :: ds)
    | _, _ => none
end
mutual
theorem Rep.dp {W : Wd} {H : Hp} {F : Addr → Prop} {dk : Dk} : ∀ {t : T} {v : V} {d : PyData}, Rep W H F dk t v → t.py = some d → Dp W.K H v d
  | .non, v, d, r, e => by
    simp only [Rep] at r
    simp only [T.py, Option.some.injEq] at e
    subst r e
    exact .non
  | .bl b, v, d, r, e => by
    simp only [Rep] at r
    simp only [T.py, Option.some.injEq] at e
    subst r e
    exact .bl b
  | .int b, v, d, r, e => by
    simp only [Rep] at r
    simp only [T.py, Option.some.injEq] at e
    subst r e
    exact .int b
  | .str b, v, d, r, e => by
    simp only [Rep] at r
    simp only [T.py, Option.some.injEq] at e
    subst r e
    exact .str b
  | .tup l, v, d, r, e => by
    simp only [Rep] at r
    obtain ⟨a, xs, rfl, _, s, rl⟩ := r
    simp only [T.py, Option.map_eq_some_iff] at e
    obtain ⟨ds, e, rfl⟩ := e
    exact .tup (.of s) (RepL.dp rl e)
  | .lst l, v, d, r, e => by
    simp only [Rep] at r
    obtain ⟨a, xs, rfl, _, s, rl⟩ := r
    simp only [T.py, Option.map_eq_some_iff] at e
    obtain ⟨ds, e, rfl⟩ := e
    exact .lst (.of s) (RepL.dp rl e)
  | .dic _, v, d, r, e => by simp only [T.py] at e; cases e
  | .dix _, v, d, r, e => by simp only [T.py] at e; cases e
  | .ins _ _, v, d, r, e => by simp only [T.py] at e; cases e
  | .dck, v, d, r, e => by simp only [T.py] at e; cases e
  | .cls _, v, d, r, e => by simp only [T.py] at e; cases e
theorem RepL.dp {W : Wd} {H : Hp} {F : Addr → Prop} {dk : Dk} : ∀ {l : List T} {xs : List V} {ds : List PyData}, RepL W H F dk l xs → pyL l = some ds → DpAll W.K H xs ds
  | [], xs, ds, r, e => by
    simp only [RepL] at r
    simp only [pyL, Option.some.injEq] at e
    subst r e
    exact .nil
  | t :: l, xs, ds, r, e => by
    simp only [RepL] at r
    obtain ⟨x, q, rfl, h1, h2⟩ := r
    simp only [pyL] at e
    split at e
    · rename_i d ds e1 e2
      cases e
      exact .cons (Rep.dp h1 e1) (RepL.dp h2 e2)
    · cases e
end
/-- equality of plain data -/
def eqB (a b : T) : Option Bool := match a, b with
  | .int i, .int j => some (decide (i = j))
  | .str x, .str y => some (decide (x = y))
  | .bl x, .bl y => some (decide (x = y))
  | a, b => match a.py, b.py with
    | some d, some e => if SeqAt.shaped d && SeqAt.shaped e then some (PyData.eqv d e) else none
    | _, _ => none
def eqT (a b : T) : Option T := (eqB a b).map .bl
def neT (a b : T) : Option T := (eqB a b).map fun z => .bl (!z)
def ltB : T → T → Option Bool
  | .int i, .int j => some (decide (i < j))
  | .str x, .str y => some (decide (x.cps.toList < y.cps.toList))
  | _, _ => none
def ltT (a b : T) : Option T := (ltB a b).map .bl
def leT (a b : T) : Option T := (ltB b a).map fun z => .bl (!z)
def gtT (a b : T) : Option T := (ltB b a).map .bl
def geT (a b : T) : Option T := (ltB a b).map fun z => .bl (!z)
def T.isNon : T → Bool
  | .non => true
  | _ => false
def isNonT (a b : T) : Option T := match b with
  | .non => some (.bl a.isNon)
  | _ => none
def notNonT (a b : T) : Option T := match b with
  | .non => some (.bl (!a.isNon))
  | _ => none
def keyT : T → Option Key
  | .int i => some (.inl i)
  | .str x => some (.inr x)
  | _ => none
def lookK (l : List (Key × T)) (k : Key) : Option T := (l.find? fun kv => decide (kv.1 = k)).map (·.2)
section
variable {W : Wd} {H : Hp} {F : Addr → Prop} {dk : Dk}
theorem RepD.look : ∀ {l : List (Key × T)} {xs : List (Key × V)} {k : Key}, RepD W H F dk l xs → match lookK l k with
    | some t => ∃ v, valV xs k = some v ∧ Rep W H F dk t v
    | none => valV xs k = none
  | [], xs, k, r => by
    simp only [RepD] at r
    subst r
    exact valV_nil
  | (q, t) :: l, xs, k, r => by
    simp only [RepD] at r
    obtain ⟨x, s, rfl, h1, h2⟩ := r
    by_cases e : q = k
    · have e1 : lookK ((q, t) :: l) k = some t := by simp [lookK, e]
      have e2 : valV ((q, x) :: s) k = some x := by simp [valV, e]
      rw [e1, e2]
      exact ⟨x, rfl, h1⟩
    · have e1 : lookK ((q, t) :: l) k = lookK l k := by simp [lookK, e]
      have e2 : valV ((q, x) :: s) k = valV s k := by simp [valV, e]
      rw [e1, e2]
      exact RepD.look h2
theorem key_rep {k : T} {y : V} {q : Key} (r : Rep W H F dk k y) (e : keyT k = some q) : y = kV q := by
  cases k <;> first
    | (simp only [Rep] at r; cases e; exact r)
    | cases e
end
/-- membership: a text in a text, plain data in a list or tuple -/
def flatT : T → Bool
  | .non => true | .bl _ => true | .int _ => true | .str _ => true
  | _ => false
def inB (a b : T) : Option Bool := match a, b with
  | a, .dic l => (keyT a).map fun k => (lookK l k).isSome
  | .str x, .str y => some (!(Builtin.Str.occurrences y x 0 y.length 1).isEmpty)
  | a, .lst l => match a.py, pyL l with
    | some d, some ds => if SeqAt.shaped d && SeqAt.shaped (.list ds) then some (ds.any fun z => PyData.eqv z d) else none
    | _, _ => none
  | a, .tup l => match a.py, pyL l with
    | some d, some ds => if flatT a && l.all flatT then some (ds.any fun z => PyData.eqv z d) else none
    | _, _ => none
  | _, _ => none
def inT (a b : T) : Option T := (inB a b).map .bl
def notInT (a b : T) : Option T := (inB a b).map fun z => .bl (!z)
section
variable {W : Wd} {X : Cx}
def rEqA (K : PySem.W.Frag) : R2 := fun x y H Q => rEq x y H Q ∨ rEqD K x y H Q
def rNeA (K : PySem.W.Frag) : R2 := fun x y H Q => rNe x y H Q ∨ rNeD K x y H Q
theorem op_eqA (hu : X.A.units + 64 < cLine) : OpR X (compareOp .Eq) (rEqA X.K) := op_eq.or (op_eqD hu)
theorem op_neA (hu : X.A.units + 64 < cLine) : OpR X (compareOp .NotEq) (rNeA X.K) := op_ne.or (op_neD hu)
theorem eqB_reads {H : Hp} {F : Addr → Prop} {dk : Dk} {a b : T} {x y : V} {z : Bool} (ra : Rep W H F dk a x) (rb : Rep W H F dk b y) (e : eqB a b = some z) :
    (scal x y = true ∧ decide (x = y) = z) ∨ ∃ d e, Dp W.K H x d ∧ Dp W.K H y e ∧ SeqAt.shaped d = true ∧ SeqAt.shaped e = true ∧ PyData.eqv d e = z := by
  unfold eqB at e
  split at e
  · simp only [Rep] at ra rb
    subst ra rb
    refine .inl ⟨rfl, ?_⟩
    have := Option.some.inj e
    rw [← this]
    exact decide_eq_decide.mpr ⟨fun h => V.int.inj h, fun h => congrArg _ h⟩
  · simp only [Rep] at ra rb
    subst ra rb
    refine .inl ⟨rfl, ?_⟩
    have := Option.some.inj e
    rw [← this]
    exact decide_eq_decide.mpr ⟨fun h => V.str.inj h, fun h => congrArg _ h⟩
  · simp only [Rep] at ra rb
    subst ra rb
    refine .inl ⟨rfl, ?_⟩
    have := Option.some.inj e
    rw [← this]
    exact decide_eq_decide.mpr ⟨fun h => V.bl.inj h, fun h => congrArg _ h⟩
  · split at e
    · rename_i d f ed ef
      split at e
      · rename_i hs
        obtain ⟨h1, h2⟩ := Bool.and_eq_true_iff.mp hs
        exact .inr ⟨d, f, ra.dp ed, rb.dp ef, h1, h2, Option.some.inj e⟩
      · cases e
    · cases e
theorem rep_bl {H : Hp} {F : Addr → Prop} {dk : Dk} {b : Bool} : Rep W H F dk (.bl b) (.bl b) := by simp only [Rep]
theorem rep_int {H : Hp} {F : Addr → Prop} {dk : Dk} {b : Int} : Rep W H F dk (.int b) (.int b) := by simp only [Rep]
theorem rep_str {H : Hp} {F : Addr → Prop} {dk : Dk} {b : Str} : Rep W H F dk (.str b) (.str b) := by simp only [Rep]
theorem agr_eq : Agr2 W (rEqA W.K) eqT := fun {dk F H x y a b t Q} hF ra rb e q => by
  simp only [eqT, Option.map_eq_some_iff] at e
  obtain ⟨z, e, rfl⟩ := e
  rcases eqB_reads ra rb e with ⟨h1, h2⟩ | ⟨d, f, h1, h2, h3, h4, h5⟩
  · exact .inl ⟨h1, by rw [h2]; exact q _ H (.refl _) rep_bl⟩
  · exact .inr ⟨d, f, h1, h2, h3, h4, by rw [h5]; exact q _ H (.refl _) rep_bl⟩
theorem agr_ne : Agr2 W (rNeA W.K) neT := fun {dk F H x y a b t Q} hF ra rb e q => by
  simp only [neT, Option.map_eq_some_iff] at e
  obtain ⟨z, e, rfl⟩ := e
  rcases eqB_reads ra rb e with ⟨h1, h2⟩ | ⟨d, f, h1, h2, h3, h4, h5⟩
  · exact .inl ⟨h1, by rw [h2]; exact q _ H (.refl _) rep_bl⟩
  · exact .inr ⟨d, f, h1, h2, h3, h4, by rw [h5]; exact q _ H (.refl _) rep_bl⟩
/-- the order of ints and of texts -/
def rOrd (p : Int → Int → Bool) (s : Str → Str → Bool) : R2 := fun x y H Q => (∃ i j, x = .int i ∧ y = .int j ∧ Q (.bl (p i j)) H) ∨ ∃ i j, x = .str i ∧ y = .str j ∧ Q (.bl (s i j)) H
theorem op_ltA : OpR X (compareOp .Lt) (rOrd (fun i j => decide (i < j)) fun i j => decide (i.cps.toList < j.cps.toList)) := op_lt.or op_lt_str
theorem op_gtA : OpR X (compareOp .Gt) (rOrd (fun i j => decide (j < i)) fun i j => decide (j.cps.toList < i.cps.toList)) := op_gt.or op_gt_str
theorem op_geA : OpR X (compareOp .GtE) (rOrd (fun i j => decide (j ≤ i)) fun i j => !decide (i.cps.toList < j.cps.toList)) := op_ge.or op_ge_str
theorem le_not (i j : Int) : decide (i ≤ j) = !decide (j < i) := by
  by_cases h : i ≤ j
  · rw [decide_eq_true h, decide_eq_false (by omega)]
    rfl
  · rw [decide_eq_false h, decide_eq_true (by omega)]
    rfl
theorem agr_ord {p : Int → Int → Bool} {s : Str → Str → Bool} {op : T → T → Option T} (h : ∀ a b t, op a b = some t → (∃ i j, a = .int i ∧ b = .int j ∧ t = .bl (p i j)) ∨ ∃ i j, a = .str i ∧ b = .str j ∧ t = .bl (s i j)) : Agr2 W (rOrd p s) op :=
  fun {dk F H x y a b t Q} hF ra rb e q => by
    rcases h a b t e with ⟨i, j, rfl, rfl, rfl⟩ | ⟨i, j, rfl, rfl, rfl⟩
    · simp only [Rep] at ra rb
      exact .inl ⟨i, j, ra, rb, q _ H (.refl _) rep_bl⟩
    · simp only [Rep] at ra rb
      exact .inr ⟨i, j, ra, rb, q _ H (.refl _) rep_bl⟩
theorem ltB_inv {a b : T} {z : Bool} (h : ltB a b = some z) : (∃ i j, a = .int i ∧ b = .int j ∧ z = decide (i < j)) ∨ ∃ i j, a = .str i ∧ b = .str j ∧ z = decide (i.cps.toList < j.cps.toList) := by
  unfold ltB at h
  split at h
  · exact .inl ⟨_, _, rfl, rfl, (Option.some.inj h).symm⟩
  · exact .inr ⟨_, _, rfl, rfl, (Option.some.inj h).symm⟩
  · cases h
theorem agr_lt : Agr2 W (rOrd (fun i j => decide (i < j)) fun i j => decide (i.cps.toList < j.cps.toList)) ltT := agr_ord fun a b t h => by
  simp only [ltT, Option.map_eq_some_iff] at h
  obtain ⟨z, h, rfl⟩ := h
  rcases ltB_inv h with ⟨i, j, rfl, rfl, rfl⟩ | ⟨i, j, rfl, rfl, rfl⟩
  · exact .inl ⟨_, _, rfl, rfl, rfl⟩
  · exact .inr ⟨_, _, rfl, rfl, rfl⟩
theorem agr_gt : Agr2 W (rOrd (fun i j => decide (j < i)) fun i j => decide (j.cps.toList < i.cps.toList)) gtT := agr_ord fun a b t h => by
  simp only [gtT, Option.map_eq_some_iff] at h
  obtain ⟨z, h, rfl⟩ := h
  rcases ltB_inv h with ⟨i, j, rfl, rfl, rfl⟩ | ⟨i, j, rfl, rfl, rfl⟩
  · exact .inl ⟨_, _, rfl, rfl, rfl⟩
  · exact .inr ⟨_, _, rfl, rfl, rfl⟩
theorem agr_ge : Agr2 W (rOrd (fun i j => decide (j ≤ i)) fun i j => !decide (i.cps.toList < j.cps.toList)) geT := agr_ord fun a b t h => by
  simp only [geT, Option.map_eq_some_iff] at h
  obtain ⟨z, h, rfl⟩ := h
  rcases ltB_inv h with ⟨i, j, rfl, rfl, rfl⟩ | ⟨i, j, rfl, rfl, rfl⟩
  · exact .inl ⟨_, _, rfl, rfl, by rw [le_not]⟩
  · exact .inr ⟨_, _, rfl, rfl, rfl⟩
/-! #### in -/
def rInA (K : PySem.W.Frag) (neg : Bool) : R2 := fun x y H Q => (∃ i j, x = .str i ∧ y = .str j ∧ Q (.bl (if neg then !(!(Builtin.Str.occurrences j i 0 j.length 1).isEmpty) else !(Builtin.Str.occurrences j i 0 j.length 1).isEmpty)) H) ∨
  (∃ d ds, Dp K H x d ∧ Dp K H y (.list ds) ∧ SeqAt.shaped d = true ∧ SeqAt.shaped (.list ds) = true ∧ Q (.bl (if neg then !ds.any fun z => PyData.eqv z d else ds.any fun z => PyData.eqv z d)) H) ∨ rIn K neg x y H Q ∨ ∃ a o, y = .ref a ∧ DGet H a x o ∧ Q (.bl (if neg then !o.isSome else o.isSome)) H
theorem op_inDk (hu : X.A.units + 65 < cLine) : OpR X (compareOp .In) (fun x y H Q => ∃ a o, y = .ref a ∧ DGet H a x o ∧ Q (.bl o.isSome) H) := by
  intro pins s σ H x y v u Q I rx ry h
  obtain ⟨a, o, rfl, g, q⟩ := h
  cases ry
  exact d_in (by omega) I g rx fun s' I' => ⟨.bl _, H, I', rfl, q⟩
theorem op_notInDk (hu : X.A.units + 65 < cLine) : OpR X (compareOp .NotIn) (fun x y H Q => ∃ a o, y = .ref a ∧ DGet H a x o ∧ Q (.bl (!o.isSome)) H) := by
  intro pins s σ H x y v u Q I rx ry h
  obtain ⟨a, o, rfl, g, q⟩ := h
  cases ry
  exact d_notIn (by omega) I g rx fun s' I' => ⟨.bl _, H, I', rfl, q⟩
theorem op_inA (hu : X.A.units + 65 < cLine) : OpR X (compareOp .In) (rInA X.K false) := op_in_str.or ((op_inD hu).or (op_in_seq.or (op_inDk hu)))
theorem op_notInA (hu : X.A.units + 65 < cLine) : OpR X (compareOp .NotIn) (rInA X.K true) := op_notin_str.or ((op_notInD hu).or (op_notIn_seq.or (op_notInDk hu)))
theorem flat_of {H : Hp} {F : Addr → Prop} {dk : Dk} {t : T} {v : V} (r : Rep W H F dk t v) (h : flatT t = true) : flatV v = true := by
  cases t <;> first
    | (simp only [Rep] at r; subst r; rfl)
    | cases h
theorem eqV_of {H : Hp} {F : Addr → Prop} {dk : Dk} {s t : T} {v u : V} {d e : PyData} (r : Rep W H F dk s v) (r' : Rep W H F dk t u) (h : flatT s = true) (h' : flatT t = true) (ed : s.py = some d) (ee : t.py = some e) : eqV v u = PyData.eqv d e := by
  cases s <;> first
    | (simp only [Rep] at r
       simp only [T.py, Option.some.injEq] at ed
       subst r ed
       cases t <;> first
         | (simp only [Rep] at r'
            simp only [T.py, Option.some.injEq] at ee
            subst r' ee
            first | rfl | simp [eqV, PyData.eqv])
         | cases h')
    | cases h
theorem anyV_of {H : Hp} {F : Addr → Prop} {dk : Dk} {a : T} {x : V} {d : PyData} (ra : Rep W H F dk a x) (fa : flatT a = true) (ed : a.py = some d) : ∀ {l : List T} {xs : List V} {ds : List PyData}, RepL W H F dk l xs → l.all flatT = true → pyL l = some ds →
    xs.all flatV = true ∧ inV x xs = ds.any fun z => PyData.eqv z d
  | [], xs, ds, r, _, e => by
    simp only [RepL] at r
    simp only [pyL, Option.some.injEq] at e
    subst r e
    exact ⟨rfl, rfl⟩
  | t :: l, xs, ds, r, h, e => by
    simp only [RepL] at r
    obtain ⟨y, q, rfl, h1, h2⟩ := r
    simp only [List.all_cons, Bool.and_eq_true] at h
    simp only [pyL] at e
    split at e
    · rename_i d' ds e1 e2
      cases e
      obtain ⟨i1, i2⟩ := anyV_of ra fa ed h2 h.2 e2
      refine ⟨?_, ?_⟩
      · rw [List.all_cons, flat_of h1 h.1, i1]
        rfl
      · unfold inV at i2 ⊢
        rw [List.any_cons, List.any_cons, i2, eqV_of h1 ra h.1 fa e1 ed]
    · cases e
theorem inB_reads {H : Hp} {F : Addr → Prop} {dk : Dk} {a b : T} {x y : V} {z : Bool} {neg : Bool} {Q : VK} (ra : Rep W H F dk a x) (rb : Rep W H F dk b y) (e : inB a b = some z) (q : Q (.bl (if neg then !z else z)) H) : rInA W.K neg x y H Q := by
  unfold inB at e
  split at e
  · obtain ⟨k, ek, rfl⟩ := Option.map_eq_some_iff.mp e
    simp only [Rep] at rb
    obtain ⟨p, xs, rfl, _, s, rd⟩ := rb
    have hl := rd.look (k := k)
    have ey := key_rep ra ek
    subst ey
    refine .inr (.inr (.inr ⟨p, valV xs k, rfl, .inl ⟨xs, k, s, rfl, rfl⟩, ?_⟩))
    generalize hlk : lookK _ k = lk at hl q
    cases lk with
    | none =>
      rw [hl]
      exact q
    | some t =>
      obtain ⟨v, hv, _⟩ := hl
      rw [hv]
      exact q
  · simp only [Rep] at ra rb
    cases e
    exact .inl ⟨_, _, ra, rb, q⟩
  · split at e
    · rename_i d ds ed eds
      split at e
      · rename_i hs
        obtain ⟨h1, h2⟩ := Bool.and_eq_true_iff.mp hs
        cases e
        refine .inr (.inl ⟨d, ds, ra.dp ed, rb.dp (by simp only [T.py, eds, Option.map_some]), h1, h2, ?_⟩)
        exact q
      · cases e
    · cases e
  · split at e
    · rename_i d ds ed eds
      split at e
      · rename_i hs
        obtain ⟨h1, h2⟩ := Bool.and_eq_true_iff.mp hs
        cases e
        simp only [Rep] at rb
        obtain ⟨p, ys, rfl, _, st, rl⟩ := rb
        obtain ⟨i1, i2⟩ := anyV_of ra h1 ed rl h2 eds
        refine .inr (.inr (.inl ⟨p, ys, rfl, .inr (.of st), flat_of ra h1, i1, ?_⟩))
        rw [i2]
        exact q
      · cases e
    · cases e
  · cases e
theorem agr_in : Agr2 W (rInA W.K false) inT := fun {dk F H x y a b t Q} hF ra rb e q => by
  simp only [inT, Option.map_eq_some_iff] at e
  obtain ⟨z, e, rfl⟩ := e
  exact inB_reads ra rb e (q _ H (.refl _) rep_bl)
theorem agr_notIn : Agr2 W (rInA W.K true) notInT := fun {dk F H x y a b t Q} hF ra rb e q => by
  simp only [notInT, Option.map_eq_some_iff] at e
  obtain ⟨z, e, rfl⟩ := e
  exact inB_reads ra rb e (q _ H (.refl _) rep_bl)
/-! #### repr -/
end
end TL
/-! TLc1: max, min of a tuple of ints. -/
namespace TL
open PySem PySem.Spec PyProof.Rows L2
/-- max, min of a list or a tuple of ints or texts -/
def Sq (K : PySem.W.Frag) (H : Hp) (a : Addr) (xs : List V) : Prop := SqL K H a xs ∨ SqT K H a xs
def rBest (K : PySem.W.Frag) (f : Int → List Int → Int) (g : Str → List Str → Str) : List V → Hp → VK → Prop := fun vs H Q => ∃ (a : Addr), vs = [V.ref a] ∧
  ((∃ x xs, Sq K H a ((x :: xs).map V.int) ∧ Q (.int (f x xs)) H) ∨ ∃ x xs, Sq K H a ((x :: xs).map V.str) ∧ Q (.str (g x xs)) H)
section
variable {X : Cx}
theorem cr_maxG (hc : X.calm = true) (hu : X.A.units + 64 < cLine) : CallR X (.builtin "max") (rBest X.K PySem.W.maxOf PySem.W.maxOf) := by
  intro pins s σ H vs us Q I r h
  obtain ⟨a, rfl, ⟨x, xs, hs, q⟩ | ⟨x, xs, hs, q⟩⟩ := h
  · rw [Vals.ref1 r]
    rcases hs with hs | hs
    · obtain ⟨its, rv, hl, _⟩ := I.list hs
      refine PySem.W.max_list_datum (α := Int) (I.ok.hd hc) hl.isList (x := x) (xs := xs) (.of_ints rv.ints) (by show X.A.units + 1 + 0 < cLine; omega) fun i v h' tk hv hH hk => ?_
      obtain ⟨as, rd⟩ := hH
      cases rd
      exact ⟨.int _, H, I.kept hk, ⟨_, rfl⟩, q⟩
    · obtain ⟨its, rv, hl, _⟩ := I.tuple hs
      refine PySem.W.max_tuple_datum (α := Int) (I.ok.hd hc) (show s.heap.IsTuple a _ from hl) (x := x) (xs := xs) (.of_ints rv.ints) (by show X.A.units + 1 + 0 < cLine; omega) fun i v h' tk hv hH hk => ?_
      obtain ⟨as, rd⟩ := hH
      cases rd
      exact ⟨.int _, H, I.kept hk, ⟨_, rfl⟩, q⟩
  · rw [Vals.ref1 r]
    rcases hs with hs | hs
    · obtain ⟨its, rv, hl, _⟩ := I.list hs
      refine PySem.W.max_list_datum (α := Str) (I.ok.hd hc) hl.isList (x := x) (xs := xs) (.of_strs rv.strs) (by show X.A.units + 1 + 0 < cLine; omega) fun i v h' tk hv hH hk => ?_
      obtain ⟨as, rd⟩ := hH
      cases rd
      exact ⟨.str _, H, I.kept hk, ⟨_, rfl⟩, q⟩
    · obtain ⟨its, rv, hl, _⟩ := I.tuple hs
      refine PySem.W.max_tuple_datum (α := Str) (I.ok.hd hc) (show s.heap.IsTuple a _ from hl) (x := x) (xs := xs) (.of_strs rv.strs) (by show X.A.units + 1 + 0 < cLine; omega) fun i v h' tk hv hH hk => ?_
      obtain ⟨as, rd⟩ := hH
      cases rd
      exact ⟨.str _, H, I.kept hk, ⟨_, rfl⟩, q⟩
theorem cr_minG (hc : X.calm = true) (hu : X.A.units + 64 < cLine) : CallR X (.builtin "min") (rBest X.K PySem.W.minOf PySem.W.minOf) := by
  intro pins s σ H vs us Q I r h
  obtain ⟨a, rfl, ⟨x, xs, hs, q⟩ | ⟨x, xs, hs, q⟩⟩ := h
  · rw [Vals.ref1 r]
    rcases hs with hs | hs
    · obtain ⟨its, rv, hl, _⟩ := I.list hs
      refine PySem.W.min_list_datum (α := Int) (I.ok.hd hc) hl.isList (x := x) (xs := xs) (.of_ints rv.ints) (by show X.A.units + 1 + 0 < cLine; omega) fun i v h' tk hv hH hk => ?_
      obtain ⟨as, rd⟩ := hH
      cases rd
      exact ⟨.int _, H, I.kept hk, ⟨_, rfl⟩, q⟩
    · obtain ⟨its, rv, hl, _⟩ := I.tuple hs
      refine PySem.W.min_tuple_datum (α := Int) (I.ok.hd hc) (show s.heap.IsTuple a _ from hl) (x := x) (xs := xs) (.of_ints rv.ints) (by show X.A.units + 1 + 0 < cLine; omega) fun i v h' tk hv hH hk => ?_
      obtain ⟨as, rd⟩ := hH
      cases rd
      exact ⟨.int _, H, I.kept hk, ⟨_, rfl⟩, q⟩
  · rw [Vals.ref1 r]
    rcases hs with hs | hs
    · obtain ⟨its, rv, hl, _⟩ := I.list hs
      refine PySem.W.min_list_datum (α := Str) (I.ok.hd hc) hl.isList (x := x) (xs := xs) (.of_strs rv.strs) (by show X.A.units + 1 + 0 < cLine; omega) fun i v h' tk hv hH hk => ?_
      obtain ⟨as, rd⟩ := hH
      cases rd
      exact ⟨.str _, H, I.kept hk, ⟨_, rfl⟩, q⟩
    · obtain ⟨its, rv, hl, _⟩ := I.tuple hs
      refine PySem.W.min_tuple_datum (α := Str) (I.ok.hd hc) (show s.heap.IsTuple a _ from hl) (x := x) (xs := xs) (.of_strs rv.strs) (by show X.A.units + 1 + 0 < cLine; omega) fun i v h' tk hv hH hk => ?_
      obtain ⟨as, rd⟩ := hH
      cases rd
      exact ⟨.str _, H, I.kept hk, ⟨_, rfl⟩, q⟩
end
end TL
/-! TLd: truth, places, slices, displays, calls of built-ins. -/
namespace TL
open PySem PySem.Spec PyProof.Rows L2
/-! ### and, or, not, if else -/
def xAnd (f g : En → M T) : En → M T := fun en => (f en).bind fun x => match x with
  | .bl true => g en
  | .bl false => .pure (.bl false)
  | _ => .bad
def xOr (f g : En → M T) : En → M T := fun en => (f en).bind fun x => match x with
  | .bl false => g en
  | .bl true => .pure (.bl true)
  | _ => .bad
def xAndB (f g : En → M Bool) : En → M Bool := fun en => (f en).bind fun x => match x with
  | true => g en
  | false => .pure false
def xOrB (f g : En → M Bool) : En → M Bool := fun en => (f en).bind fun x => match x with
  | false => g en
  | true => .pure true
def xNotB (f : En → M Bool) : En → M Bool := fun en => (f en).bind fun x => .pure (!x)
def notT : T → Option T
  | .bl b => some (.bl (!b))
  | _ => none
def xIf (c : En → M Bool) (f g : En → M T) : En → M T := fun en => (c en).bind fun x => match x with
  | true => f en
  | false => g en
section
variable {W : Wd} {Ex : XK} {X : Cx} {a b c : Expr} {f g : En → M T} {fb gb hb : En → M Bool} {pos : Pos} {rest : List Expr}
theorem te_one {op} (h : PE X a (tE W Ex f)) : PE X (.BoolOp op [a] pos) (tE W Ex f) := pe_one h
theorem te_and (ha : PE X a (tE W Ex f)) (hb : PE X (.BoolOp .And (b :: rest) pos) (tE W Ex g)) : PE X (.BoolOp .And (a :: b :: rest) pos) (tE W Ex (xAnd f g)) :=
  (pe_and ha hb).imp fun σ H Q ⟨dk, F, G, en, d, S, h⟩ => by
    refine ⟨dk, F, G, en, d, S, (Post.bind h).mono fun t d1 H1 k1 D1 h1 v rv => ?_⟩
    have S1 := S.keep k1 D1
    cases t with
    | bl b =>
      simp only [Rep] at rv
      subst rv
      refine ⟨b, rfl, ?_⟩
      cases b with
      | true =>
        rw [if_pos rfl]
        exact ⟨dk, F, G, en, d1, S1, h1⟩
      | false =>
        rw [if_neg (by decide)]
        exact h1 H1 (.refl _ _) D1 _ rep_bl
    | _ => exact h1.elim
theorem tB_of : ∀ σ H (Q : Bool → Hp → Prop), tT W Ex (xTest f) σ H Q → tB (tE W Ex f) σ H Q := tTest_of
/-- a bool as a test -/
theorem tt_val (h : PE X a (tE W Ex f)) (he : ∀ whole, isTrue a X.env whole = (do let v ← whole; standAt a.pos; holding [v] (truthy v)) := by intro _; rfl) : PT X a (tT W Ex (xTest f)) := (pt_val h he).imp tB_of
theorem tw_and1 (ha : PT X a (tT W Ex fb)) : PW X (.BoolOp .And [a] pos) (tT W Ex fb) := pw_and1 ha
theorem _root_.L2.PW.imp {e : Expr} {t t' : TT} (h : PW X e t) (k : ∀ σ H Q, t' σ H Q → t σ H Q) : PW X e t' := ⟨fun wh pins s σ H Q I q => h.run wh pins s σ H Q I (k σ H Q q)⟩
theorem tw_and (ha : PT X a (tT W Ex fb)) (hb : PW X (.BoolOp .And (b :: rest) pos) (tT W Ex gb)) : PW X (.BoolOp .And (a :: b :: rest) pos) (tT W Ex (xAndB fb gb)) :=
  (pw_and ha hb).imp fun σ H Q ⟨dk, F, G, en, d, S, h⟩ => by
    refine ⟨dk, F, G, en, d, S, (Post.bind h).mono fun b d1 H1 k1 D1 h1 => ?_⟩
    cases b with
    | true =>
      rw [if_pos rfl]
      exact ⟨dk, F, G, en, d1, S.keep k1 D1, h1⟩
    | false =>
      rw [if_neg (by decide)]
      exact h1 H1 (.refl _ _) D1
theorem tt_not (ha : PT X a (tT W Ex fb)) : PT X (.UnaryOp .Not a pos) (tT W Ex (xNotB fb)) :=
  (pt_not ha).imp fun σ H Q ⟨dk, F, G, en, d, S, h⟩ => ⟨dk, F, G, en, d, S, (Post.bind h).mono fun b d1 H1 k1 D1 h1 => h1 H1 (.refl _ _) D1⟩
end
/-! ### a op b op c -/
def xChain (op op' : T → T → Option T) (f g h : En → M T) : En → M T := fun en => (f en).bind fun x => (g en).bind fun y => (M.opt (op x y)).bind fun z => match z with
  | .bl true => (h en).bind fun w => .opt (op' y w)
  | .bl false => .pure (.bl false)
  | _ => .bad
section
variable {W : Wd} {Ex : XK} {X : Cx} {a b c : Expr} {f g h : En → M T} {pos : Pos}
theorem tChain_of {r r' : R2} {op op' : T → T → Option T} (ag : Agr2 W r op) (ag' : Agr2 W r' op') : ∀ σ H Q, tE W Ex (xChain op op' f g h) σ H Q → tChain r r' (tE W Ex f) (tE W Ex g) (tE W Ex h) σ H Q := fun σ H Q ⟨dk, F, G, en, d, S, q⟩ => by
  refine ⟨dk, F, G, en, d, S, (Post.bind q).mono fun t d1 H1 k1 D1 h1 v rv => ?_⟩
  have S1 := S.keep k1 D1
  refine ⟨dk, F, G, en, d1, S1, (Post.bind h1).mono fun u d2 H2 k2 D2 h2 w rw => ?_⟩
  have S2 := S1.keep k2 D2
  obtain ⟨z, e, q2⟩ := Post.opt_some (Post.bind h2)
  refine ag (fun p hp => S2.free hp) (S1.keepR k2 rv) rw e fun v' H3 s r3 => ?_
  have S3 := S2.keep (.of s) (D2.same s)
  have q3 := q2 H3 (.of s) (D2.same s)
  cases z with
  | bl b =>
    simp only [Rep] at r3
    subst r3
    refine ⟨b, rfl, ?_⟩
    cases b with
    | true =>
      rw [if_pos rfl]
      refine ⟨dk, F, G, en, d2, S3, (Post.bind q3).mono fun x d4 H4 k4 D4 h4 y ry => ?_⟩
      have S4 := S3.keep k4 D4
      obtain ⟨z', e', q4⟩ := Post.opt_some h4
      exact ag' (fun p hp => S4.free hp) (S3.keepR k4 (S2.keepR (.of s) rw)) ry e' fun v' H' s r' => q4 H' (.of s) (D4.same s) v' r'
    | false =>
      rw [if_neg (by decide)]
      exact q3 H3 (.refl _ _) (D2.same s) _ rep_bl
  | _ => exact q3.elim
theorem tt_chain {o o' : CmpOp} {r r' : R2} {op op' : T → T → Option T} (ho : OpR X (compareOp o) r) (ho' : OpR X (compareOp o') r') (ag : Agr2 W r op) (ag' : Agr2 W r' op') (ha : PE X a (tE W Ex f)) (hb : PE X b (tE W Ex g)) (hc : PE X c (tE W Ex h))
    (hm : lastMarks [o, o'] [b, c] = false := by with_unfolding_all rfl) : PT X (.Compare a [o, o'] [b, c] pos) (tT W Ex (xTest (xChain op op' f g h))) := (pt_chain ho ho' ha hb hc hm).imp fun σ H Q q => by
  obtain ⟨dk, F, G, en, d, S, q⟩ := q
  refine tChain_of ag ag' σ H _ ⟨dk, F, G, en, d, S, (Post.bind q).mono fun t d1 H1 k1 D1 h1 v rv => ?_⟩
  obtain ⟨z, e, q⟩ := Post.opt_some h1
  cases t with
  | bl b =>
    cases e
    simp only [Rep] at rv
    exact ⟨_, rv, q H1 (.refl _ _) D1⟩
  | _ => cases e
end
/-! ### places -/
def ixT : T → T → Option T
  | .lst l, .int i => atI l i
  | .tup l, .int i => atI l i
  | .str z, .int i => if z.length ≤ 16777216 then (atI z.cps.toList i).map fun c => .str ⟨#[c]⟩ else none
  | .dic l, k => (keyT k).bind fun q => lookK l q
  | _, _ => none
def isDic : T → Bool
  | .dic _ => true
  | _ => false
section
variable {W : Wd} {H : Hp} {F : Addr → Prop} {dk : Dk}
theorem RepL.atI {l : List T} {xs : List V} {i : Int} {t : T} (r : RepL W H F dk l xs) (e : atI l i = some t) : ∃ v, L2.atI xs i = some v ∧ Rep W H F dk t v := by
  unfold L2.atI at e ⊢
  rw [r.length]
  cases q : ixN l.length i with
  | none =>
    rw [q] at e
    cases e
  | some j =>
    rw [q] at e
    exact r.get e
theorem RepD.length : ∀ {l : List (Key × T)} {xs : List (Key × V)}, RepD W H F dk l xs → xs.length = l.length
  | [], xs, h => by
    simp only [RepD] at h
    rw [h]
    rfl
  | (k, t) :: l, xs, h => by
    simp only [RepD] at h
    obtain ⟨x, r, rfl, _, h2⟩ := h
    rw [List.length_cons, List.length_cons, RepD.length h2]
end
def rDG : R2 := fun x y H Q => ∃ a v, x = .ref a ∧ DGet H a y (some v) ∧ Q v H
def ixS (a b : T) : Option T := if isDic a then none else ixT a b
def ixD : T → T → Option T
  | .dic l, k => (keyT k).bind fun q => lookK l q
  | _, _ => none
section
variable {W : Wd} {Ex : XK} {X : Cx} {a b c : Expr} {f g h : En → M T} {pos : Pos}
theorem agr_ixS : Agr2 W (rIx W.K) ixS := fun {dk F H x y a b t Q} hF ra rb e q => by
  unfold ixS at e
  split at e
  · cases e
  · unfold ixT at e
    split at e
    · simp only [Rep] at ra rb
      obtain ⟨p, xs, rfl, _, s, rl⟩ := ra
      obtain ⟨v, e1, rv⟩ := rl.atI e
      exact .inl ⟨p, xs, _, v, rfl, rb, .of s, e1, q v H (.refl _) rv⟩
    · simp only [Rep] at ra rb
      obtain ⟨p, xs, rfl, _, s, rl⟩ := ra
      obtain ⟨v, e1, rv⟩ := rl.atI e
      exact .inr (.inl ⟨p, xs, _, v, rfl, rb, .of s, e1, q v H (.refl _) rv⟩)
    · split at e
      · rename_i hz
        simp only [Option.map_eq_some_iff] at e
        obtain ⟨c, e, rfl⟩ := e
        simp only [Rep] at ra rb
        exact .inr (.inr ⟨_, _, c, ra, rb, by rw [sizeLine_eq]; exact hz, e, q _ H (.refl _) rep_str⟩)
      · cases e
    · rename_i h
      exact absurd rfl h
    · cases e
theorem agr_ixD : Agr2 W rDG ixD := fun {dk F H x y a b t Q} hF ra rb e q => by
  unfold ixD at e
  split at e
  · simp only [Option.bind_eq_some_iff] at e
    obtain ⟨k, ek, e⟩ := e
    simp only [Rep] at ra
    obtain ⟨p, xs, rfl, _, s, rd⟩ := ra
    have hl := rd.look (k := k)
    rw [e] at hl
    obtain ⟨v, hv, rv⟩ := hl
    have ey := key_rep rb ek
    subst ey
    exact ⟨p, v, rfl, .inl ⟨xs, k, s, rfl, hv.symm⟩, q v H (.refl _) rv⟩
  · cases e
/-- a[b] -/
theorem te_ix (hu : X.A.units + 1 < cLine) (hK : W.K = X.K) (ha : PE X a (tE W Ex f)) (hb : PE X b (tE W Ex g)) (hs : PlainIx b := by intro _ _; rfl) : PE X (.Subscript a b pos) (tE W Ex (xBin ixT f g)) := by
  have p1 : PE X (.Subscript a b pos) (tE W Ex (xBin ixS f g)) := (pe_ix ix_seq ha hb hs).imp (tOp_of (hK ▸ agr_ixS))
  have p2 : PE X (.Subscript a b pos) (tE W Ex (xBin ixD f g)) := (pe_dget hu ha hb hs).imp (tOp_of (r := rDG) agr_ixD)
  refine ⟨fun pins s σ H Q I q => ?_⟩
  obtain ⟨dk, F, G, en, d, S, q⟩ := q
  by_cases hd : ∃ l d1, f en d = .ok (.dic l) d1
  · obtain ⟨l, d1, e⟩ := hd
    refine p2.run pins s σ H Q I ⟨dk, F, G, en, d, S, ?_⟩
    unfold xBin M.bind Out.bind at q ⊢
    rw [e] at q ⊢
    exact q
  · refine p1.run pins s σ H Q I ⟨dk, F, G, en, d, S, ?_⟩
    unfold xBin M.bind Out.bind at q ⊢
    cases e : f en d with
    | ok t d1 =>
      rw [e] at q
      cases t <;> first
        | exact q
        | exact absurd ⟨_, _, e⟩ hd
    | exc x d1 =>
      rw [e] at q
      exact q
    | bad =>
      rw [e] at q
      exact q
end
/-! ### slices -/
def cutT (l : List T) (lo hi : Option Int) : List T := (l.drop (HT.sIx l.length 0 lo)).take (HT.sIx l.length l.length hi - HT.sIx l.length 0 lo)
def slT (t : T) (lo hi : Option Int) : Option T := match t with
  | .lst l => some (.lst (cutT l lo hi))
  | .tup l => some (.tup (cutT l lo hi))
  | .str z => if z.length ≤ 16777216 then some (.str (cutS z lo hi)) else none
  | _ => none
def xSl (f : En → M T) (lo hi : En → M (Option Int)) : En → M T := fun en => (f en).bind fun x => (lo en).bind fun l => (hi en).bind fun h => .opt (slT x l h)
def intT? : T → Option (Option Int)
  | .int i => some (some i)
  | _ => none
def xPart (f : En → M T) : En → M (Option Int) := fun en => (f en).bind fun x => .opt (intT? x)
def xNoPart : En → M (Option Int) := fun _ => .pure none
/-- a slice's part -/
def tO (W : Wd) (Ex : XK) (f : En → M (Option Int)) : TO := fun σ H Q => ∃ dk F G en d, SR W dk F G σ H en d ∧
  Post W Ex F dk H (fun o d' H' => Q o H') (f en d)
section
variable {W : Wd} {Ex : XK} {X : Cx} {a b c : Expr} {f g h : En → M T} {lo hi : En → M (Option Int)} {pos p2 : Pos} {el eh : Option Expr}
theorem _root_.L2.PO.imp {e : Option Expr} {t t' : TO} (h : PO X e t) (k : ∀ σ H Q, t' σ H Q → t σ H Q) : PO X e t' := ⟨fun pins s σ H Q I q => h.run pins s σ H Q I (k σ H Q q)⟩
theorem to_none : PO X none (tO W Ex xNoPart) := po_none.imp fun σ H Q ⟨dk, F, G, en, d, S, h⟩ => h H (.refl _ _) S.deck
theorem to_some (ha : PE X a (tE W Ex f)) : PO X (some a) (tO W Ex (xPart f)) := (po_some ha).imp fun σ H Q ⟨dk, F, G, en, d, S, h⟩ => by
  refine ⟨dk, F, G, en, d, S, (Post.bind h).mono fun t d1 H1 k1 D1 h1 v rv => ?_⟩
  obtain ⟨z, e, q⟩ := Post.opt_some h1
  cases t <;> first
    | (cases e
       simp only [Rep] at rv
       exact ⟨_, rv, q H1 (.refl _ _) D1⟩)
    | cases e
theorem RepL.cut {W : Wd} {H : Hp} {F : Addr → Prop} {dk : Dk} {l : List T} {xs : List V} (r : RepL W H F dk l xs) (lo hi : Option Int) : RepL W H F dk (cutT l lo hi) (cutV xs lo hi) := by
  unfold cutT cutV
  rw [r.length]
  exact (r.drop _).take _
theorem cut_whole {l : List T} {lo hi : Option Int} (h : HT.sIx l.length 0 lo = 0 ∧ HT.sIx l.length l.length hi = l.length) : cutT l lo hi = l := by
  unfold cutT
  rw [h.1, h.2, List.drop_zero, Nat.sub_zero, List.take_length]
theorem te_sl (hK : W.K = X.K) (ha : PE X a (tE W Ex f)) (hl : PO X el (tO W Ex lo)) (hh : PO X eh (tO W Ex hi)) : PE X (.Subscript a (.Slice el eh none p2) pos) (tE W Ex (xSl f lo hi)) :=
  (pe_slice (sl_list.or (sl_tupA.or sl_str)) ha hl hh).imp fun σ H Q ⟨dk, F, G, en, d, S, h⟩ => by
    refine ⟨dk, F, G, en, d, S, (Post.bind h).mono fun t d1 H1 k1 D1 h1 v rv => ?_⟩
    have S1 := S.keep k1 D1
    refine ⟨dk, F, G, en, d1, S1, (Post.bind h1).mono fun l d2 H2 k2 D2 h2 => ?_⟩
    have S2 := S1.keep k2 D2
    refine ⟨dk, F, G, en, d2, S2, (Post.bind h2).mono fun u d3 H3 k3 D3 h3 => ?_⟩
    have S3 := S2.keep k3 D3
    have rv3 := S2.keepR k3 (S1.keepR k2 rv)
    obtain ⟨z, e, q⟩ := Post.opt_some h3
    unfold slT at e
    rw [← hK]
    split at e
    · cases e
      simp only [Rep] at rv3
      obtain ⟨p, xs, rfl, _, s, rl⟩ := rv3
      exact .inl ⟨p, xs, rfl, .of s, fun p hp => q _ (.of (upd_same' hp)) (D3.same (upd_same' hp)) _ (rep_lst (fun p hp => S3.free hp) hp (rl.cut l u))⟩
    · cases e
      have rv3' := rv3
      simp only [Rep] at rv3
      obtain ⟨p, xs, rfl, _, s, rl⟩ := rv3
      refine .inr (.inl ⟨p, xs, rfl, .of s, fun hw => ?_, fun _ p hp => q _ (.of (upd_same' hp)) (D3.same (upd_same' hp)) _ (rep_tup (fun p hp => S3.free hp) hp (rl.cut l u))⟩)
      rw [rl.length] at hw
      rw [cut_whole hw] at q
      exact q H3 (.refl _ _) D3 _ rv3'
    · split at e
      · rename_i hz
        cases e
        simp only [Rep] at rv3
        exact .inr (.inr ⟨_, rv3, by rw [sizeLine_eq]; exact hz, q H3 (.refl _ _) D3 _ rep_str⟩)
      · cases e
    · cases e
end
/-! ### displays, arguments -/
def xNil : En → M (List T) := fun _ => .pure []
def xCons (f : En → M T) (g : En → M (List T)) : En → M (List T) := fun en => (f en).bind fun x => (g en).bind fun l => .pure (x :: l)
def xTup (f : En → M (List T)) : En → M T := fun en => (f en).bind fun l => .opt (capL l.length (.tup l))
def xLst (f : En → M (List T)) : En → M (List T) := fun en => (f en).bind fun l => .opt (capL l.length l)
def xToL (f : En → M (List T)) : En → M T := fun en => (f en).bind fun l => .pure (.lst l)
section
variable {W : Wd} {Ex : XK} {X : Cx} {a b c : Expr} {es : List Expr} {f g h : En → M T} {fl gl : En → M (List T)} {pos : Pos}
theorem ta_nil : PA X [] (tA W Ex xNil) := pa_nil.imp fun σ H Q ⟨dk, F, G, en, d, S, h⟩ => h H (.refl _ _) S.deck [] .nil
theorem ta_cons (ha : PE X a (tE W Ex f)) (hr : PA X es (tA W Ex gl)) (hs : starEach (a :: es) X.env = (false, eval a X.env) :: starEach es X.env := by rfl) : PA X (a :: es) (tA W Ex (xCons f gl)) :=
  (pa_cons ha hr hs).imp fun σ H Q ⟨dk, F, G, en, d, S, h⟩ => by
    refine ⟨dk, F, G, en, d, S, (Post.bind h).mono fun t d1 H1 k1 D1 h1 v rv => ?_⟩
    have S1 := S.keep k1 D1
    refine ⟨dk, F, G, en, d1, S1, (Post.bind h1).mono fun l d2 H2 k2 D2 h2 xs rl => ?_⟩
    exact h2 H2 (.refl _ _) D2 _ (.cons (S1.keepR k2 rv) rl)
theorem te_tup {x1} (h : PA X es (tA W Ex fl)) : PE X (.Tuple es x1 pos) (tE W Ex (xTup fl)) := (pe_tup h).imp fun σ H Q ⟨dk, F, G, en, d, S, h⟩ => by
  refine ⟨dk, F, G, en, d, S, (Post.bind h).mono fun l d1 H1 k1 D1 h1 xs rl => ?_⟩
  obtain ⟨z, e, q⟩ := Post.opt_some h1
  obtain ⟨hz, rfl⟩ := capL_some e
  exact ⟨by rw [rl.length]; exact hz, fun p hp => q _ (.of (upd_same' hp)) (D1.same (upd_same' hp)) _ (rep_tup (fun p hp => (S.keep k1 D1).free hp) hp rl)⟩
theorem tn_lst (h : PA X es (tA W Ex fl)) : PE X (.List es pos) (tN W Ex (xLst fl)) := (pe_lst h).imp fun σ H Q ⟨dk, F, G, en, d, S, h⟩ => by
  refine ⟨dk, F, G, en, d, S, (Post.bind h).mono fun l d1 H1 k1 D1 h1 xs rl => ?_⟩
  obtain ⟨z, e, q⟩ := Post.opt_some h1
  obtain ⟨hz, rfl⟩ := capL_some e
  have hx : xs.length ≤ sizeLine := by rw [rl.length]; exact hz
  exact ⟨hx, fun p hp => q H1 (.refl _ _) D1 p xs rl hx hp⟩
/-- a new list that is kept -/
theorem tE_of_tN : ∀ σ H Q, tE W Ex (xToL fl) σ H Q → tN W Ex fl σ H Q := fun σ H Q ⟨dk, F, G, en, d, S, h⟩ =>
  ⟨dk, F, G, en, d, S, (Post.bind h).mono fun l d1 H1 k1 D1 h1 p xs rl _ hp => h1 _ (.of (upd_same' hp)) (D1.same (upd_same' hp)) _ (rep_lst (fun p hp => (S.keep k1 D1).free hp) hp rl)⟩
theorem te_new (h : PE X a (tN W Ex fl)) : PE X a (tE W Ex (xToL fl)) := h.imp tE_of_tN
end
/-! ### built-ins -/
def xCall (op : List T → Option T) (f : En → M (List T)) : En → M T := fun en => (f en).bind fun l => .opt (op l)
section
variable {W : Wd} {Ex : XK} {X : Cx} {a b c e : Expr} {es : List Expr} {f g h : En → M T} {fl gl : En → M (List T)} {pos p : Pos} {x : Str} {id T : String} {r : List V → Hp → VK → Prop} {op : List TL.T → Option TL.T}
theorem tCB_of (ag : AgrL W r op) : ∀ σ H Q, tE W Ex (xCall op fl) σ H Q → tCB r (tA W Ex fl) σ H Q := fun σ H Q ⟨dk, F, G, en, d, S, h⟩ => by
  refine ⟨dk, F, G, en, d, S, (Post.bind h).mono fun l d1 H1 k1 D1 h1 xs rl => ?_⟩
  obtain ⟨z, e, q⟩ := Post.opt_some h1
  exact ag (fun p hp => (S.keep k1 D1).free hp) rl e fun v' H' s r' => q H' (.of s) (D1.same s) v' r'
theorem te_callB (hc : CallR X (.builtin id) r) (ag : AgrL W r op) (hg : Gl X x) (hm : X.mg x = none) (hv : bootBuiltins x = some (.builtin id)) (ha : PA X (e :: es) (tA W Ex fl)) (hn : x ≠ "__name__" := by decide) (hdb : (x == ("__debug__" : Str)) = false := by decide)
    (he : starEach (e :: es) X.env = (false, eval e X.env) :: starEach es X.env := by rfl) (hpl : (backTo pos (starEach es X.env)).any (·.1) = false := by rfl) : PE X (.Call (.Name x p) (e :: es) [] pos) (tE W Ex (xCall op fl)) :=
  (pe_callB hc hg hm hv ha hn hdb he hpl).imp (tCB_of ag)
theorem te_callTy (hc : CallR X (.type T) r) (ag : AgrL W r op) (hg : Gl X x) (hm : X.mg x = none) (hv : bootBuiltins x = some (.type T)) (ha : PA X (e :: es) (tA W Ex fl)) (hn : x ≠ "__name__" := by decide) (hdb : (x == ("__debug__" : Str)) = false := by decide)
    (he : starEach (e :: es) X.env = (false, eval e X.env) :: starEach es X.env := by rfl) (hpl : (backTo pos (starEach es X.env)).any (·.1) = false := by rfl) : PE X (.Call (.Name x p) (e :: es) [] pos) (tE W Ex (xCall op fl)) :=
  (pe_callTy hc hg hm hv ha hn hdb he hpl).imp (tCB_of ag)
end
def lenT : List T → Option T
  | [.str z] => if z.length ≤ 16777216 then some (.int z.length) else none
  | [.lst l] => some (.int l.length)
  | [.tup l] => some (.int l.length)
  | [.dic l] => some (.int l.length)
  | _ => none
def toIntT : List T → Option T
  | [.int i] => some (.int i)
  | [.bl b] => some (.int (if b then 1 else 0))
  | _ => none
def intsOf : List T → Option (List Int)
  | [] => some []
  | .int i :: l => (intsOf l).map (i :: ·)
  | _ => none
def boolsOf : List T → Option (List Bool)
  | [] => some []
  | .bl i :: l => (boolsOf l).map (i :: ·)
  | _ => none
def strsOf : List T → Option (List Str)
  | [] => some []
  | .str i :: l => (strsOf l).map (i :: ·)
  | _ => none
theorem intsOf_eq : ∀ {l : List T} {ns : List Int}, intsOf l = some ns → l = ns.map T.int
  | [], ns, h => by cases h; rfl
  | t :: l, ns, h => by
    cases t <;> simp only [intsOf, Option.map_eq_some_iff, reduceCtorEq] at h <;> first
      | (obtain ⟨ms, h, rfl⟩ := h
         rw [List.map_cons, ← intsOf_eq h])
theorem boolsOf_eq : ∀ {l : List T} {ns : List Bool}, boolsOf l = some ns → l = ns.map T.bl
  | [], ns, h => by cases h; rfl
  | t :: l, ns, h => by
    cases t <;> simp only [boolsOf, Option.map_eq_some_iff, reduceCtorEq] at h <;> first
      | (obtain ⟨ms, h, rfl⟩ := h
         rw [List.map_cons, ← boolsOf_eq h])
theorem strsOf_eq : ∀ {l : List T} {ns : List Str}, strsOf l = some ns → l = ns.map T.str
  | [], ns, h => by cases h; rfl
  | t :: l, ns, h => by
    cases t <;> simp only [strsOf, Option.map_eq_some_iff, reduceCtorEq] at h <;> first
      | (obtain ⟨ms, h, rfl⟩ := h
         rw [List.map_cons, ← strsOf_eq h])
theorem RepL.bools_inv {W : Wd} {H : Hp} {F : Addr → Prop} {dk : Dk} : ∀ {is : List Bool} {xs : List V}, RepL W H F dk (is.map T.bl) xs → xs = is.map V.bl
  | [], xs, h => by simpa only [List.map_nil, RepL] using h
  | i :: is, xs, h => by
    simp only [List.map_cons, RepL, Rep] at h
    obtain ⟨x, r, rfl, rfl, h2⟩ := h
    rw [RepL.bools_inv h2, List.map_cons]
def sumT : List T → Option T
  | [.lst l] => (intsOf l).map fun ns => .int ns.sum
  | _ => none
def anyT : List T → Option T
  | [.lst l] => (boolsOf l).map fun ns => .bl (ns.any id)
  | _ => none
/-- the greatest, the least of a list, a tuple; of two ints -/
def bestL (f : Int → List Int → Int) (g : Str → List Str → Str) : List T → Option T
  | .int x :: r => (intsOf r).map fun xs => .int (f x xs)
  | .str x :: r => (strsOf r).map fun xs => .str (g x xs)
  | _ => none
def maxT : List T → Option T
  | [.lst l] => bestL PySem.W.maxOf PySem.W.maxOf l
  | [.tup l] => bestL PySem.W.maxOf PySem.W.maxOf l
  | [.int i, .int j] => some (.int (if j > i then j else i))
  | _ => none
def minT : List T → Option T
  | [.lst l] => bestL PySem.W.minOf PySem.W.minOf l
  | [.tup l] => bestL PySem.W.minOf PySem.W.minOf l
  | [.int i, .int j] => some (.int (if j < i then j else i))
  | _ => none
def tupleT : List T → Option T
  | [.lst l] => some (.tup l)
  | [.tup l] => some (.tup l)
  | _ => none
section
variable {W : Wd} {X : Cx}
theorem RepL.one_inv {H : Hp} {F : Addr → Prop} {dk : Dk} {t : T} {xs : List V} (r : RepL W H F dk [t] xs) : ∃ x, xs = [x] ∧ Rep W H F dk t x := by
  simp only [RepL] at r
  obtain ⟨x, s, rfl, h, rfl⟩ := r
  exact ⟨x, rfl, h⟩
theorem RepL.two_inv {H : Hp} {F : Addr → Prop} {dk : Dk} {t u : T} {xs : List V} (r : RepL W H F dk [t, u] xs) : ∃ x y, xs = [x, y] ∧ Rep W H F dk t x ∧ Rep W H F dk u y := by
  simp only [RepL] at r
  obtain ⟨x, s, rfl, h, y, s', rfl, h', rfl⟩ := r
  exact ⟨x, y, rfl, h, h'⟩
def rLenA (K : PySem.W.Frag) : List V → Hp → VK → Prop := fun xs H Q => (∃ p ys, xs = [.ref p] ∧ (SqL K H p ys ∨ SqT K H p ys) ∧ Q (.int ys.length) H) ∨ (∃ z, xs = [.str z] ∧ z.length ≤ sizeLine ∧ Q (.int z.length) H) ∨
  ∃ a kvs, xs = [V.ref a] ∧ Rd H a (.dK kvs) ∧ Q (.int kvs.length) H
theorem call_lenR : CallR X (.builtin "len") (fun xs H Q => ∃ a kvs, xs = [V.ref a] ∧ Rd H a (.dK kvs) ∧ Q (.int kvs.length) H) := by
  intro pins s σ H xs us Q I r h
  obtain ⟨a, kvs, rfl, ha, q⟩ := h
  obtain ⟨u, rfl, ru⟩ := vals1 r
  cases ru
  exact d_len I ha fun t s' I' => ⟨.int kvs.length, H, I', ⟨t, rfl⟩, q⟩
theorem cr_lenA : CallR X (.builtin "len") (rLenA X.K) := call_len_seq.or (call_len_str.or call_lenR)
theorem agr_len : AgrL W (rLenA W.K) lenT := fun {dk F H xs l t Q} hF r e q => by
  unfold lenT at e
  split at e
  · split at e
    · rename_i hz
      cases e
      obtain ⟨x, rfl, rx⟩ := r.one_inv
      simp only [Rep] at rx
      exact .inr (.inl ⟨_, by rw [rx], by rw [sizeLine_eq]; exact hz, q _ H (.refl _) rep_int⟩)
    · cases e
  · cases e
    obtain ⟨x, rfl, rx⟩ := r.one_inv
    simp only [Rep] at rx
    obtain ⟨p, ys, rfl, _, s, rl⟩ := rx
    exact .inl ⟨p, ys, rfl, .inl (.of s), by rw [rl.length]; exact q _ H (.refl _) rep_int⟩
  · cases e
    obtain ⟨x, rfl, rx⟩ := r.one_inv
    simp only [Rep] at rx
    obtain ⟨p, ys, rfl, _, s, rl⟩ := rx
    exact .inl ⟨p, ys, rfl, .inr (.of s), by rw [rl.length]; exact q _ H (.refl _) rep_int⟩
  · cases e
    obtain ⟨x, rfl, rx⟩ := r.one_inv
    simp only [Rep] at rx
    obtain ⟨p, ys, rfl, _, s, rl⟩ := rx
    exact .inr (.inr ⟨p, ys, rfl, s, by rw [rl.length]; exact q _ H (.refl _) rep_int⟩)
  · cases e
theorem agr_int : AgrL W (fun xs H Q => (∃ i, xs = [.int i] ∧ Q (.int i) H) ∨ ∃ k, xs = [.bl k] ∧ Q (.int (if k then 1 else 0)) H) toIntT := fun {dk F H xs l t Q} hF r e q => by
  unfold toIntT at e
  split at e
  · cases e
    obtain ⟨x, rfl, rx⟩ := r.one_inv
    simp only [Rep] at rx
    exact .inl ⟨_, by rw [rx], q _ H (.refl _) rep_int⟩
  · cases e
    obtain ⟨x, rfl, rx⟩ := r.one_inv
    simp only [Rep] at rx
    exact .inr ⟨_, by rw [rx], q _ H (.refl _) rep_int⟩
  · cases e
theorem agr_any : AgrL W (rAny W.K) anyT := fun {dk F H xs l t Q} hF r e q => by
  unfold anyT at e
  split at e
  · simp only [Option.map_eq_some_iff] at e
    obtain ⟨ns, e, rfl⟩ := e
    cases boolsOf_eq e
    obtain ⟨x, rfl, rx⟩ := r.one_inv
    simp only [Rep] at rx
    obtain ⟨p, ys, rfl, _, s, rl⟩ := rx
    cases rl.bools_inv
    exact ⟨p, ns, rfl, .of s, q _ H (.refl _) rep_bl⟩
  · cases e
def rMaxA (K : PySem.W.Frag) : List V → Hp → VK → Prop := fun xs H Q => rBest K PySem.W.maxOf PySem.W.maxOf xs H Q ∨ ∃ i j, xs = [.int i, .int j] ∧ Q (.int (if j > i then j else i)) H
def rMinA (K : PySem.W.Frag) : List V → Hp → VK → Prop := fun xs H Q => rBest K PySem.W.minOf PySem.W.minOf xs H Q ∨ ∃ i j, xs = [.int i, .int j] ∧ Q (.int (if j < i then j else i)) H
theorem cr_maxA (hc : X.calm = true) (hu : X.A.units + 64 < cLine) : CallR X (.builtin "max") (rMaxA X.K) := (cr_maxG hc hu).or (call_max2 hc)
theorem cr_minA (hc : X.calm = true) (hu : X.A.units + 64 < cLine) : CallR X (.builtin "min") (rMinA X.K) := (cr_minG hc hu).or (call_min2 hc)
theorem best_of {f : Int → List Int → Int} {g : Str → List Str → Str} {H : Hp} {F : Addr → Prop} {dk : Dk} {p : Addr} {l : List T} {ys : List V} {t : T} {Q : VK} (hs : Sq W.K H p ys) (rl : RepL W H F dk l ys) (e : bestL f g l = some t) (q : ∀ v, Rep W H F dk t v → Q v H) : rBest W.K f g [.ref p] H Q := by
  unfold bestL at e
  split at e
  · obtain ⟨xs, ex, rfl⟩ := Option.map_eq_some_iff.mp e
    cases intsOf_eq ex
    rename_i x
    have : ys = (x :: xs).map V.int := RepL.ints_inv rl
    subst this
    exact ⟨p, rfl, .inl ⟨x, xs, hs, q _ rep_int⟩⟩
  · obtain ⟨xs, ex, rfl⟩ := Option.map_eq_some_iff.mp e
    cases strsOf_eq ex
    rename_i x
    have : ys = (x :: xs).map V.str := RepL.strs_inv rl
    subst this
    exact ⟨p, rfl, .inr ⟨x, xs, hs, q _ rep_str⟩⟩
  · cases e
theorem agr_max : AgrL W (rMaxA W.K) maxT := fun {dk F H xs l t Q} hF r e q => by
  unfold maxT at e
  split at e
  · obtain ⟨x, rfl, rx⟩ := r.one_inv
    simp only [Rep] at rx
    obtain ⟨p, ys, rfl, _, s, rl⟩ := rx
    exact .inl (best_of (.inl (.of s)) rl e fun v rv => q v H (.refl _) rv)
  · obtain ⟨x, rfl, rx⟩ := r.one_inv
    simp only [Rep] at rx
    obtain ⟨p, ys, rfl, _, s, rl⟩ := rx
    exact .inl (best_of (.inr (.of s)) rl e fun v rv => q v H (.refl _) rv)
  · cases e
    obtain ⟨x, y, rfl, rx, ry⟩ := r.two_inv
    simp only [Rep] at rx ry
    exact .inr ⟨_, _, by rw [rx, ry], q _ H (.refl _) rep_int⟩
  · cases e
theorem agr_min : AgrL W (rMinA W.K) minT := fun {dk F H xs l t Q} hF r e q => by
  unfold minT at e
  split at e
  · obtain ⟨x, rfl, rx⟩ := r.one_inv
    simp only [Rep] at rx
    obtain ⟨p, ys, rfl, _, s, rl⟩ := rx
    exact .inl (best_of (.inl (.of s)) rl e fun v rv => q v H (.refl _) rv)
  · obtain ⟨x, rfl, rx⟩ := r.one_inv
    simp only [Rep] at rx
    obtain ⟨p, ys, rfl, _, s, rl⟩ := rx
    exact .inl (best_of (.inr (.of s)) rl e fun v rv => q v H (.refl _) rv)
  · cases e
    obtain ⟨x, y, rfl, rx, ry⟩ := r.two_inv
    simp only [Rep] at rx ry
    exact .inr ⟨_, _, by rw [rx, ry], q _ H (.refl _) rep_int⟩
  · cases e
theorem agr_tuple : AgrL W (fun xs H Q => ∃ p ys, xs = [.ref p] ∧ ((SqL W.K H p ys ∧ ∀ l, H l = none → Q (.ref l) (upd H l (.tup ys))) ∨ (SqT W.K H p ys ∧ Q (.ref p) H))) tupleT := fun {dk F H xs l t Q} hF r e q => by
  unfold tupleT at e
  split at e
  · cases e
    obtain ⟨x, rfl, rx⟩ := r.one_inv
    simp only [Rep] at rx
    obtain ⟨p, ys, rfl, _, s, rl⟩ := rx
    exact ⟨p, ys, rfl, .inl ⟨.of s, fun p hp => q _ _ (upd_same' hp) (rep_tup hF hp rl)⟩⟩
  · cases e
    obtain ⟨x, rfl, rx⟩ := r.one_inv
    have rx' := rx
    simp only [Rep] at rx
    obtain ⟨p, ys, rfl, _, s, rl⟩ := rx
    exact ⟨p, ys, rfl, .inr ⟨.of s, q _ _ (.refl _) rx'⟩⟩
  · cases e
end
end TL
/-! TLe: statements, loops, defs. -/
namespace TL
open PySem PySem.Spec PyProof.Rows L2
/-! ### statements' functions -/
inductive Fl where
  | nx | brk | ct
  | ret (t : T)
abbrev MS := M (Fl × En)
/-- what was seen of a heap is seen -/
def Vis (c : Hp × (Addr → Prop)) (F : Addr → Prop) (H : Hp) : Prop := ∀ a o, c.1 a = some o → ¬ c.2 a → H a = some o ∧ ¬ F a
theorem Vis.refl (F : Addr → Prop) (H : Hp) : Vis (H, F) F H := fun _ _ h n => ⟨h, n⟩
theorem Vis.repL {W : Wd} {c : Hp × (Addr → Prop)} {F : Addr → Prop} {H : Hp} {dk : Dk} (v : Vis c F H) {t : List T} {x : List V} (r : RepL W c.1 c.2 dk t x) : RepL W H F dk t x := RepL.mono (fun a o nf e => v a o e nf) t x r
theorem Vis.trans {c : Hp × (Addr → Prop)} {F F' : Addr → Prop} {H H' : Hp} (v : Vis c F H) (v' : Vis (H, F) F' H') : Vis c F' H' := fun a o h n => v' a o (v a o h n).1 (v a o h n).2
abbrev Cps := List (Hp × (Addr → Prop))
/-- within a def: F0 and H0 as at the entry; what stood stands; what was seen at the marks is seen -/
structure StR' (W : Wd) (dk : Dk) (F0 : Addr → Prop) (H0 : Hp) (cp : Cps) (F : Addr → Prop) (G : Nat → Addr → Prop) (σ : L2.St) (H : Hp) (en : En) (d : D) : Prop where
  s : SR W dk F G σ H en d
  ff : ∀ a, F0 a → F a
  g0 : ∀ i a, G i a → H0 a = none
  kp : Keep dk H0 H
  vs : ∀ c ∈ cp, Vis c F H
  fz : ∀ a, F0 a → H0 a ≠ none
def StR (W : Wd) (dk : Dk) (F0 : Addr → Prop) (H0 : Hp) (cp : Cps) (σ : L2.St) (H : Hp) (en : En) (d : D) : Prop := ∃ F G, StR' W dk F0 H0 cp F G σ H en d
def PostS (W : Wd) (Ex : XK) (dk : Dk) (F0 : Addr → Prop) (H0 : Hp) (cp : Cps) (D : Ends) : Out (Fl × En) → Prop
  | .ok (.nx, en) d => ∀ σ H, StR W dk F0 H0 cp σ H en d → D.nx σ H
  | .ok (.brk, en) d => ∀ σ H, StR W dk F0 H0 cp σ H en d → D.bk σ H
  | .ok (.ct, en) d => ∀ σ H, StR W dk F0 H0 cp σ H en d → D.ct σ H
  | .ok (.ret t, _) d => ∀ v H, Keep dk H0 H → DkAt W dk H d → Rep W H F0 dk t v → D.rt v H
  | .exc x d => ∀ c od H, Keep dk H0 H → DkAt W dk H d → XRep W H F0 dk x c od → Ex c od H
  | .bad => False
def tS (W : Wd) (Ex : XK) (g : En → MS) : TS := fun D σ H => ∃ dk F0 H0 cp en d, StR W dk F0 H0 cp σ H en d ∧ PostS W Ex dk F0 H0 cp D (g en d)
section
variable {W : Wd} {Ex : XK} {dk : Dk} {F F' F0 : Addr → Prop} {G : Nat → Addr → Prop} {H H' H0 : Hp} {cp : Cps} {σ : L2.St} {en : En} {d d' : D}
theorem RepF.weak : ∀ {l : List (Str × T)} {xs : List (Str × V)}, (∀ a, F' a → F a) → RepF W H F dk l xs → RepF W H F' dk l xs := fun {l xs} h r => RepF.mono (fun a o nf e => ⟨e, fun z => nf (h a z)⟩) l xs r
theorem Rep.weak {t : T} {v : V} (h : ∀ a, F' a → F a) (r : Rep W H F dk t v) : Rep W H F' dk t v := Rep.mono (fun a o nf e => ⟨e, fun z => nf (h a z)⟩) t v r
theorem XRep.weak {x : Xn} {c : Value} {od : Option Addr} (h : ∀ a, F' a → F a) (r : XRep W H F dk x c od) : XRep W H F' dk x c od := by
  obtain ⟨C, h1, h2, h3⟩ := r
  refine ⟨C, h1, h2, ?_⟩
  cases od with
  | none => exact h3
  | some q =>
    obtain ⟨n, xs, e, r⟩ := h3
    exact ⟨fun z => n (h q z), xs, e, r.weak h⟩
theorem StR'.keep (R : StR' W dk F0 H0 cp F G σ H en d) (k : Keep dk H H') (hd : DkAt W dk H' d') : StR' W dk F0 H0 cp F G σ H' en d' :=
  ⟨R.s.keep k hd, R.ff, R.g0, R.kp.trans k, fun c hc => fun a o h n => ⟨k a o ((R.vs c hc) a o h n).1 (fun z => ((R.vs c hc) a o h n).2 (z ▸ R.s.fd1)) (fun z => ((R.vs c hc) a o h n).2 (z ▸ R.s.fd2)), ((R.vs c hc) a o h n).2⟩, R.fz⟩
theorem SR.setVal {i : Nat} {t : T} {v : V} (S : SR W dk F G σ H en d) (r : Rep W H F dk t v) : SR W dk F G (σ.set i (some v)) H (setS en i (.val t)) d := by
  rw [setS_eq]
  refine ⟨by simp [S.len], fun j u e => ?_, fun j o e => ?_, S.sep, S.gf, S.gd, S.fh, S.fd1, S.fd2, S.deck⟩
  · by_cases h : i = j
    · subst h
      have hl : i < en.length := by
        have := (List.getElem?_eq_some_iff.mp e).1
        simpa using this
      rw [List.getElem?_set_self hl] at e
      cases e
      exact ⟨v, List.getElem?_set_self (by rw [← S.len]; exact hl), r⟩
    · rw [List.getElem?_set_ne h] at e
      obtain ⟨w, h1, h2⟩ := S.val j u e
      exact ⟨w, by rw [List.getElem?_set_ne h]; exact h1, h2⟩
  · by_cases h : i = j
    · subst h
      have hl : i < en.length := by
        have := (List.getElem?_eq_some_iff.mp e).1
        simpa using this
      rw [List.getElem?_set_self hl] at e
      cases e
    · rw [List.getElem?_set_ne h] at e
      obtain ⟨w, h1, h2⟩ := S.own j o e
      exact ⟨w, by rw [List.getElem?_set_ne h]; exact h1, h2⟩
theorem StR'.setVal {i : Nat} {t : T} {v : V} (R : StR' W dk F0 H0 cp F G σ H en d) (r : Rep W H F dk t v) : StR' W dk F0 H0 cp F G (σ.set i (some v)) H (setS en i (.val t)) d := ⟨R.s.setVal r, R.ff, R.g0, R.kp, R.vs, R.fz⟩
/-- an expression within a statement -/
theorem StR'.use {f : En → M T} {k : T → MS} {D : Ends} {Q : VK} (R : StR' W dk F0 H0 cp F G σ H en d) (p : PostS W Ex dk F0 H0 cp D (M.bind (f en) k d))
    (q : ∀ t d1 v H1, Keep dk H H1 → StR' W dk F0 H0 cp F G σ H1 en d1 → Rep W H1 F dk t v → PostS W Ex dk F0 H0 cp D (k t d1) → Q v H1) : tE W Ex f σ H Q := by
  refine ⟨dk, F, G, en, d, R.s, ?_⟩
  unfold M.bind Out.bind at p
  cases e : f en d with
  | ok t d1 =>
    rw [e] at p
    exact fun H1 k1 D1 v rv => q t d1 v H1 k1 (R.keep k1 D1) rv p
  | exc x d1 =>
    rw [e] at p
    exact fun c od H1 k1 D1 xr => p c od H1 (R.kp.trans k1) D1 (xr.weak R.ff)
  | bad =>
    rw [e] at p
    exact p.elim
theorem StR'.useT {f : En → M Bool} {k : Bool → MS} {D : Ends} {Q : Bool → Hp → Prop} (R : StR' W dk F0 H0 cp F G σ H en d) (p : PostS W Ex dk F0 H0 cp D (M.bind (f en) k d))
    (q : ∀ t d1 H1, StR' W dk F0 H0 cp F G σ H1 en d1 → PostS W Ex dk F0 H0 cp D (k t d1) → Q t H1) : tT W Ex f σ H Q := by
  refine ⟨dk, F, G, en, d, R.s, ?_⟩
  unfold M.bind Out.bind at p
  cases e : f en d with
  | ok t d1 =>
    rw [e] at p
    exact fun H1 k1 D1 => q t d1 H1 (R.keep k1 D1) p
  | exc x d1 =>
    rw [e] at p
    exact fun c od H1 k1 D1 xr => p c od H1 (R.kp.trans k1) D1 (xr.weak R.ff)
  | bad =>
    rw [e] at p
    exact p.elim
theorem StR'.useN {f : En → M (List T)} {k : List T → MS} {D : Ends} {Q : VK} (R : StR' W dk F0 H0 cp F G σ H en d) (p : PostS W Ex dk F0 H0 cp D (M.bind (f en) k d))
    (q : ∀ l d1 p xs H1, StR' W dk F0 H0 cp F G σ H1 en d1 → RepL W H1 F dk l xs → H1 p = none → PostS W Ex dk F0 H0 cp D (k l d1) → Q (.ref p) (upd H1 p (.lst xs))) : tN W Ex f σ H Q := by
  refine ⟨dk, F, G, en, d, R.s, ?_⟩
  unfold M.bind Out.bind at p
  cases e : f en d with
  | ok t d1 =>
    rw [e] at p
    exact fun H1 k1 D1 a xs rl _ ha => q t d1 a xs H1 (R.keep k1 D1) rl ha p
  | exc x d1 =>
    rw [e] at p
    exact fun c od H1 k1 D1 xr => p c od H1 (R.kp.trans k1) D1 (xr.weak R.ff)
  | bad =>
    rw [e] at p
    exact p.elim
end
/-! ### blocks -/
def sNext : En → MS := fun en => .pure (.nx, en)
def sSeq (g h : En → MS) : En → MS := fun en => (g en).bind fun r => match r.1 with
  | .nx => h r.2
  | _ => .pure r
def sAsg (i : Nat) (f : En → M T) : En → MS := fun en => (f en).bind fun t => .pure (.nx, setS en i (.val t))
def sExpr (f : En → M T) : En → MS := fun en => (f en).bind fun _ => .pure (.nx, en)
def sRet (f : En → M T) : En → MS := fun en => (f en).bind fun t => .pure (.ret t, en)
def sIf (c : En → M Bool) (g h : En → MS) : En → MS := fun en => (c en).bind fun b => match b with
  | true => g en
  | false => h en
section
variable {W : Wd} {Ex : XK} {X : Cx} {st : Stmt} {rest body els : List Stmt} {g h : En → MS} {f : En → M T} {fb : En → M Bool} {e c : Expr} {pos : Pos}
theorem _root_.L2.PS.imp {t t' : TS} (h : PS X st t) (k : ∀ D σ H, t' D σ H → t D σ H) : PS X st t' := ⟨fun pins s σ H D I q => h.run pins s σ H D I (k D σ H q)⟩
theorem _root_.L2.PSs.imp {t t' : TS} (h : PSs X rest t) (k : ∀ D σ H, t' D σ H → t D σ H) : PSs X rest t' := ⟨fun pins s σ H D I q => h.run pins s σ H D I (k D σ H q)⟩
theorem ts_nil : PSs X [] (tS W Ex sNext) := pss_nil.imp fun D σ H ⟨dk, F0, H0, cp, en, d, R, p⟩ => p σ H R
theorem ts_cons (h1 : PS X st (tS W Ex g)) (h2 : PSs X rest (tS W Ex h)) : PSs X (st :: rest) (tS W Ex (sSeq g h)) := (pss_cons h1 h2).imp fun D σ H ⟨dk, F0, H0, cp, en, d, R, p⟩ => by
  refine ⟨dk, F0, H0, cp, en, d, R, ?_⟩
  unfold sSeq M.bind Out.bind at p
  cases q : g en d with
  | ok r d1 =>
    obtain ⟨fl, en1⟩ := r
    rw [q] at p
    cases fl with
    | nx => exact fun σ' H' R' => ⟨dk, F0, H0, cp, en1, d1, R', p⟩
    | brk => exact p
    | ct => exact p
    | ret t => exact p
  | exc x d1 =>
    rw [q] at p
    exact p
  | bad =>
    rw [q] at p
    exact p.elim
theorem ts_one (h1 : PS X st (tS W Ex g)) : PSs X [st] (tS W Ex g) := pss_one h1
theorem ts_set {i : Nat} {x : Str} {pos' : Pos} (hN : X.N.Nodup) (he : PE X e (tE W Ex f)) (hi : X.N[i]? = some x := by rfl) (hx : Loc X.env.scope x := by first | exact Or.inl rfl | exact Or.inr rfl) (hs : swapsWith e (some (.Name x pos')) pos.line X.env = pure false := by rfl)
    (hf : X.fn x = true ∨ X.env.scope.names.lookup x = some .local := by first | exact .inl rfl | exact .inr rfl | assumption) : PS X (.Assign [.Name x pos'] e pos) (tS W Ex (sAsg i f)) :=
  (ps_set hN hi hx he hs hf).imp fun D σ H ⟨dk, F0, H0, cp, en, d, ⟨F, G, R⟩, p⟩ => R.use p fun t d1 v H1 k1 R1 rv q => q _ _ ⟨F, G, R1.setVal rv⟩
theorem ts_expr (he : PE X e (tE W Ex f)) (hs : swapsWith e none pos.line X.env = pure false := by rfl) : PS X (.Expr e pos) (tS W Ex (sExpr f)) :=
  (ps_expr he hs).imp fun D σ H ⟨dk, F0, H0, cp, en, d, ⟨F, G, R⟩, p⟩ => R.use p fun t d1 v H1 k1 R1 rv q => q _ _ ⟨F, G, R1⟩
theorem ts_ret (he : PE X e (tE W Ex f)) : PS X (.Return (some e) pos) (tS W Ex (sRet f)) :=
  (ps_ret he).imp fun D σ H ⟨dk, F0, H0, cp, en, d, ⟨F, G, R⟩, p⟩ => R.use p fun t d1 v H1 k1 R1 rv q => q _ _ R1.kp R1.s.deck (rv.weak R.ff)
theorem ts_if (hc : PT X c (tT W Ex fb)) (ha : PSs X body (tS W Ex g)) (hb : PSs X els (tS W Ex h)) : PS X (.If c body els pos) (tS W Ex (sIf fb g h)) :=
  (ps_if hc ha hb).imp fun D σ H ⟨dk, F0, H0, cp, en, d, ⟨F, G, R⟩, p⟩ => R.useT p fun b d1 H1 R1 q => by
    cases b with
    | true =>
      rw [if_pos rfl]
      exact ⟨dk, F0, H0, cp, en, d1, ⟨F, G, R1⟩, q⟩
    | false =>
      rw [if_neg (by decide)]
      exact ⟨dk, F0, H0, cp, en, d1, ⟨F, G, R1⟩, q⟩
end
/-! ### what a loop walks -/
/-- J goes over the trees l, wherever what was seen at (H1, F1) is seen -/
structure ItOk (W : Wd) (dk : Dk) (c : Hp × (Addr → Prop)) (J : It) (l : List T) : Prop where
  go : ∀ i F H, Vis c F H → i < l.length → J.go i H
  stop : ∀ F H, Vis c F H → J.stop l.length H
  yld : ∀ i F H x H', Vis c F H → (∀ a, F a → H a ≠ none) → i < l.length → J.yld i H x H' → Same H H' ∧ ∃ t, l[i]? = some t ∧ Rep W H' F dk t x
def tI (W : Wd) (Ex : XK) (f : En → M (List T)) : TI := fun σ H R => ∃ dk F G en d, SR W dk F G σ H en d ∧
  Post W Ex F dk H (fun l d' H' => ∀ J, ItOk W dk (H', F) J l → R J H') (f en d)
def itemsT : T → Option (List T)
  | .lst l => some l
  | .tup l => some l
  | .str z => some (z.cps.toList.map fun c => .str ⟨#[c]⟩)
  | _ => none
def xItems (f : En → M T) : En → M (List T) := fun en => (f en).bind fun t => .opt (itemsT t)
def itL : T → Option (List T)
  | .lst l => some l
  | _ => none
def itT : T → Option (List T)
  | .tup l => some l
  | _ => none
def itSt : T → Option (List T)
  | .str z => some (z.cps.toList.map fun c => .str ⟨#[c]⟩)
  | _ => none
section
variable {W : Wd} {Ex : XK} {X : Cx} {tg e : Expr} {f : En → M T} {dk : Dk} {H : Hp} {F : Addr → Prop}
theorem _root_.L2.PI.imp {t t' : TI} (h : PI X tg e t) (k : ∀ σ H R, t' σ H R → t σ H R) : PI X tg e t' := ⟨fun pins s σ H R I q => h.run pins s σ H R I (k σ H R q)⟩
theorem itOk_list {K : PySem.W.Frag} {a : Addr} {xs : List V} {l : List T} (nf : ¬ F a) (h : H a = some (.lst xs)) (r : RepL W H F dk l xs) : ItOk W dk (H, F) (Itl K a) l where
  go := fun i F' H' v hi => by
    obtain ⟨x, hx, _⟩ := r.get (List.getElem?_eq_getElem hi)
    exact ⟨xs, x, .of (v a _ h nf).1, hx⟩
  stop := fun F' H' v => ⟨xs, .of (v a _ h nf).1, Nat.le_of_eq r.length⟩
  yld := fun i F' H' x H'' v _ hi y => by
    obtain ⟨rfl, hy⟩ := y
    obtain ⟨x', hx, rx⟩ := (v.repL r).get (List.getElem?_eq_getElem hi)
    have e := hy xs (.of (v a _ h nf).1)
    rw [hx] at e
    cases e
    exact ⟨.refl _, _, List.getElem?_eq_getElem hi, rx⟩
theorem itOk_tup {K : PySem.W.Frag} {a : Addr} {xs : List V} {l : List T} (nf : ¬ F a) (h : H a = some (.tup xs)) (r : RepL W H F dk l xs) : ItOk W dk (H, F) (Itt K a) l where
  go := fun i F' H' v hi => by
    obtain ⟨x, hx, _⟩ := r.get (List.getElem?_eq_getElem hi)
    exact ⟨xs, x, .of (v a _ h nf).1, hx⟩
  stop := fun F' H' v => ⟨xs, .of (v a _ h nf).1, Nat.le_of_eq r.length⟩
  yld := fun i F' H' x H'' v _ hi y => by
    obtain ⟨rfl, hy⟩ := y
    obtain ⟨x', hx, rx⟩ := (v.repL r).get (List.getElem?_eq_getElem hi)
    have e := hy xs (.of (v a _ h nf).1)
    rw [hx] at e
    cases e
    exact ⟨.refl _, _, List.getElem?_eq_getElem hi, rx⟩
theorem itOk_str {z : Str} : ItOk W dk (H, F) (Its z) (z.cps.toList.map fun c => .str ⟨#[c]⟩) where
  go := fun i F' H' v hi => by
    have h : i < z.cps.size := by simpa using hi
    exact h
  stop := fun F' H' v => by simp [Its]
  yld := fun i F' H' x H'' v _ hi y => by
    obtain ⟨rfl, c, hc, rfl⟩ := y
    refine ⟨.refl _, .str ⟨#[c]⟩, ?_, rep_str⟩
    rw [List.getElem?_map, Array.getElem?_toList, hc]
    rfl
theorem ti_list (hK : W.K = X.K) (he : PE X e (tE W Ex f)) : PI X tg e (tI W Ex fun en => (f en).bind fun t => .opt (itL t)) := (pi_list he).imp fun σ H R ⟨dk, F, G, en, d, S, h⟩ => by
  refine ⟨dk, F, G, en, d, S, (Post.bind h).mono fun t d1 H1 k1 D1 h1 v rv => ?_⟩
  obtain ⟨z, e, q⟩ := Post.opt_some h1
  cases t <;> simp only [itL, reduceCtorEq, Option.some.injEq] at e
  subst e
  simp only [Rep] at rv
  obtain ⟨a, xs, rfl, nf, s, r⟩ := rv
  exact ⟨a, rfl, ⟨xs, .of s⟩, q H1 (.refl _ _) D1 _ (itOk_list nf s r)⟩
theorem ti_tup (hK : W.K = X.K) (he : PE X e (tE W Ex f)) : PI X tg e (tI W Ex fun en => (f en).bind fun t => .opt (itT t)) := (pi_tup he).imp fun σ H R ⟨dk, F, G, en, d, S, h⟩ => by
  refine ⟨dk, F, G, en, d, S, (Post.bind h).mono fun t d1 H1 k1 D1 h1 v rv => ?_⟩
  obtain ⟨z, e, q⟩ := Post.opt_some h1
  cases t <;> simp only [itT, reduceCtorEq, Option.some.injEq] at e
  subst e
  simp only [Rep] at rv
  obtain ⟨a, xs, rfl, nf, s, r⟩ := rv
  exact ⟨a, rfl, ⟨xs, .of s⟩, q H1 (.refl _ _) D1 _ (itOk_tup nf s r)⟩
theorem ti_str (he : PE X e (tE W Ex f)) : PI X tg e (tI W Ex fun en => (f en).bind fun t => .opt (itSt t)) := (pi_str he).imp fun σ H R ⟨dk, F, G, en, d, S, h⟩ => by
  refine ⟨dk, F, G, en, d, S, (Post.bind h).mono fun t d1 H1 k1 D1 h1 v rv => ?_⟩
  obtain ⟨z, e, q⟩ := Post.opt_some h1
  cases t <;> simp only [itSt, reduceCtorEq, Option.some.injEq] at e
  subst e
  simp only [Rep] at rv
  exact ⟨_, rv, q H1 (.refl _ _) D1 _ itOk_str⟩
/-- a list, a tuple, a text -/
theorem ti_seq (hK : W.K = X.K) (he : PE X e (tE W Ex f)) : PI X tg e (tI W Ex (xItems f)) := by
  refine ⟨fun pins s σ H R I q => ?_⟩
  obtain ⟨dk, F, G, en, d, S, q⟩ := q
  unfold xItems at q
  cases h : f en d with
  | ok t d1 =>
    rw [M.bind_ok h] at q
    cases t with
    | lst l => exact (ti_list hK he).run pins s σ H R I ⟨dk, F, G, en, d, S, by show Post W Ex F dk H _ (M.bind (f en) _ d); rw [M.bind_ok h]; exact q⟩
    | tup l => exact (ti_tup hK he).run pins s σ H R I ⟨dk, F, G, en, d, S, by show Post W Ex F dk H _ (M.bind (f en) _ d); rw [M.bind_ok h]; exact q⟩
    | str z => exact (ti_str he).run pins s σ H R I ⟨dk, F, G, en, d, S, by show Post W Ex F dk H _ (M.bind (f en) _ d); rw [M.bind_ok h]; exact q⟩
    | _ => exact q.elim
  | exc x d1 =>
    rw [M.bind_exc h] at q
    exact (ti_list hK he).run pins s σ H R I ⟨dk, F, G, en, d, S, by show Post W Ex F dk H _ (M.bind (f en) _ d); rw [M.bind_exc h]; exact q⟩
  | bad =>
    rw [M.bind_bad h] at q
    exact q.elim
end
/-! ### targets -/
/-- the slots at is alone may have changed -/
def OnlyAt (is : List Nat) (σ σ' : L2.St) : Prop := σ'.length = σ.length ∧ ∀ j, j ∉ is → σ'[j]? = σ[j]?
theorem OnlyAt.refl (is : List Nat) (σ : L2.St) : OnlyAt is σ σ := ⟨rfl, fun _ _ => rfl⟩
theorem OnlyAt.trans {is js : List Nat} {σ σ1 σ2 : L2.St} (a : OnlyAt is σ σ1) (b : OnlyAt js σ1 σ2) : OnlyAt (is ++ js) σ σ2 :=
  ⟨b.1.trans a.1, fun j hj => (b.2 j fun z => hj (List.mem_append_right _ z)).trans (a.2 j fun z => hj (List.mem_append_left _ z))⟩
def tG (W : Wd) (is : List Nat) (a : T → En → Option En) : TG := fun v σ H Q => ∃ dk F G en d t en', SR W dk F G σ H en d ∧ Rep W H F dk t v ∧ a t en = some en' ∧ ∀ σ', SR W dk F G σ' H en' d → OnlyAt is σ σ' → Q σ' H
def tGs (W : Wd) (is : List Nat) (a : List T → En → Option En) : TGs := fun vs σ H Q => ∃ dk F G en d l en', SR W dk F G σ H en d ∧ RepL W H F dk l vs ∧ a l en = some en' ∧ ∀ σ', SR W dk F G σ' H en' d → OnlyAt is σ σ' → Q σ' H
def aName (i : Nat) : T → En → Option En := fun t en => some (setS en i (.val t))
def aNil : List T → En → Option En := fun l en => match l with
  | [] => some en
  | _ => none
def aCons (a : T → En → Option En) (b : List T → En → Option En) : List T → En → Option En := fun l en => match l with
  | t :: r => (a t en).bind (b r)
  | _ => none
def aTup (b : List T → En → Option En) : T → En → Option En := fun t en => match t with
  | .tup l => b l en
  | _ => none
section
variable {W : Wd} {Ex : XK} {X : Cx} {tg : Expr} {tgs : List Expr} {pos : Pos} {a : T → En → Option En} {b : List T → En → Option En} {is js : List Nat}
theorem _root_.L2.PG.imp {t t' : TG} (h : PG X tg t) (k : ∀ v σ H Q, t' v σ H Q → t v σ H Q) : PG X tg t' := ⟨fun pins s σ H v u Q I r q => h.run pins s σ H v u Q I r (k v σ H Q q)⟩
theorem _root_.L2.PGs.imp {t t' : TGs} (h : PGs X tgs t) (k : ∀ v σ H Q, t' v σ H Q → t v σ H Q) : PGs X tgs t' := ⟨fun pins s σ H v u Q I r q => h.run pins s σ H v u Q I r (k v σ H Q q)⟩
theorem tg_name {i : Nat} {x : Str} (hN : X.N.Nodup) (hi : X.N[i]? = some x := by rfl) (hx : Loc X.env.scope x := by first | exact Or.inl rfl | exact Or.inr rfl) (hf : X.fn x = true ∨ X.env.scope.names.lookup x = some .local := by first | exact .inl rfl | exact .inr rfl | assumption) :
    PG X (.Name x pos) (tG W [i] (aName i)) := (pg_name hN hi hx hf).imp fun v σ H Q ⟨dk, F, G, en, d, t, en', S, r, e, q⟩ => by
  cases e
  exact q _ (S.setVal r) ⟨List.length_set, fun j hj => List.getElem?_set_ne fun z => hj (by simp [z])⟩
theorem tgs_nil : PGs X [] (tGs W [] aNil) := pgs_nil.imp fun vs σ H Q ⟨dk, F, G, en, d, l, en', S, r, e, q⟩ => by
  cases l with
  | nil =>
    cases e
    simp only [RepL] at r
    exact ⟨r, q _ S (.refl _ _)⟩
  | cons t l => cases e
theorem tgs_cons (h1 : PG X tg (tG W is a)) (h2 : PGs X tgs (tGs W js b)) (hs : (assignEach (tg :: tgs) X.env).map (·.2) = assign tg X.env :: (assignEach tgs X.env).map (·.2) := by rfl) : PGs X (tg :: tgs) (tGs W (is ++ js) (aCons a b)) :=
  (pgs_cons h1 h2 hs).imp fun vs σ H Q ⟨dk, F, G, en, d, l, en', S, r, e, q⟩ => by
    cases l with
    | nil => cases e
    | cons t l =>
      simp only [aCons, Option.bind_eq_some_iff] at e
      obtain ⟨en1, e1, e2⟩ := e
      simp only [RepL] at r
      obtain ⟨x, rs, rfl, r1, r2⟩ := r
      exact ⟨x, rs, rfl, dk, F, G, en, d, t, en1, S, r1, e1, fun σ' S' o => ⟨dk, F, G, en1, d, l, en', S', r2, e2, fun σ2 S2 o2 => q σ2 S2 (o.trans o2)⟩⟩
theorem tg_tup {k n : Nat} (hc : X.calm = true) (h : PGs X tgs (tGs W is b)) (hl : ∀ l en en', b l en = some en' → l.length = n) (hn : (assignEach tgs X.env).length = n := by rfl) (hst : (assignEach tgs X.env).findIdx? (·.1) = none := by rfl) : PG X (.Tuple tgs k pos) (tG W is (aTup b)) :=
  (pg_tup hc h hn hst).imp fun v σ H Q ⟨dk, F, G, en, d, t, en', S, r, e, q⟩ => by
    cases t with
    | tup l =>
      simp only [Rep] at r
      obtain ⟨a, xs, rfl, nf, s, rl⟩ := r
      exact ⟨a, xs, rfl, .of s, by rw [rl.length]; exact hl _ _ _ e, dk, F, G, en, d, l, en', S, rl, e, q⟩
    | _ => cases e
end
theorem aNil_len : ∀ l en en', aNil l en = some en' → l.length = 0 := fun l en en' h => by
  cases l with
  | nil => rfl
  | cons _ _ => cases h
theorem aCons_len {a : T → En → Option En} {b : List T → En → Option En} {n : Nat} (h : ∀ l en en', b l en = some en' → l.length = n) : ∀ l en en', aCons a b l en = some en' → l.length = n + 1 := fun l en en' e => by
  cases l with
  | nil => cases e
  | cons t l =>
    simp only [aCons, Option.bind_eq_some_iff] at e
    obtain ⟨en1, e1, e2⟩ := e
    rw [List.length_cons, h _ _ _ e2]
/-! ### loops -/
def forL (a : T → En → Option En) (g : En → MS) : List T → En → MS
  | [], en => .pure (.nx, en)
  | t :: l, en => (M.opt (a t en)).bind fun en1 => (g en1).bind fun r => match r.1 with
    | .nx => forL a g l r.2
    | .ct => forL a g l r.2
    | .brk => .pure (.nx, r.2)
    | .ret _ => .pure r
def sFor (f : En → M (List T)) (a : T → En → Option En) (g : En → MS) : En → MS := fun en => (f en).bind fun l => forL a g l en
def whileL (c : En → M Bool) (g : En → MS) : Nat → En → MS
  | 0, _ => .bad
  | n + 1, en => (c en).bind fun b => match b with
    | true => (g en).bind fun r => match r.1 with
      | .nx => whileL c g n r.2
      | .ct => whileL c g n r.2
      | .brk => .pure (.nx, r.2)
      | .ret _ => .pure r
    | false => .pure (.nx, en)
def sWhile (n : Nat) (c : En → M Bool) (g : En → MS) : En → MS := fun en => whileL c g n en
section
variable {W : Wd} {Ex : XK} {X : Cx} {tg it c : Expr} {body : List Stmt} {pos : Pos} {a : T → En → Option En} {f : En → M (List T)} {g : En → MS} {fb : En → M Bool} {is : List Nat}
theorem StR'.mark {W : Wd} {dk : Dk} {F0 F : Addr → Prop} {G : Nat → Addr → Prop} {H0 H : Hp} {cp : Cps} {σ : L2.St} {en : En} {d : D} (R : StR' W dk F0 H0 cp F G σ H en d) : StR' W dk F0 H0 ((H, F) :: cp) F G σ H en d :=
  ⟨R.s, R.ff, R.g0, R.kp, fun c hc => by
    rcases List.mem_cons.mp hc with rfl | hc
    · exact .refl _ _
    · exact R.vs c hc, R.fz⟩
theorem StR.unmark {W : Wd} {dk : Dk} {F0 : Addr → Prop} {H0 H : Hp} {cp : Cps} {m : Hp × (Addr → Prop)} {σ : L2.St} {en : En} {d : D} (R : StR W dk F0 H0 (m :: cp) σ H en d) : StR W dk F0 H0 cp σ H en d :=
  let ⟨F, G, r⟩ := R
  ⟨F, G, r.s, r.ff, r.g0, r.kp, fun c hc => r.vs c (List.mem_cons_of_mem _ hc), r.fz⟩
theorem ts_for (hp : PassesOwn (model X.prog X.w) X.A X.env X.xe) (hi : PI X tg it (tI W Ex f)) (hg : PG X tg (tG W is a)) (hb : PSs X body (tS W Ex g)) (hc : X.calm = true := by rfl) (hs : ∀ x, foldedSetIterable it X.env x = pure x := by intro _; rfl) :
    PS X (.For tg it body [] pos) (tS W Ex (sFor f a g)) := (ps_for hp hc hi hg hb hs).imp fun D σ H ⟨dk, F0, H0, cp, en, d, ⟨F, G, R⟩, p⟩ => by
  refine ⟨dk, F, G, en, d, R.s, ?_⟩
  unfold sFor M.bind Out.bind at p
  cases e : f en d with
  | bad =>
    rw [e] at p
    exact p.elim
  | exc x d1 =>
    rw [e] at p
    exact fun c od H1 k1 D1 xr => p c od H1 (R.kp.trans k1) D1 (xr.weak R.ff)
  | ok l d1 =>
    rw [e] at p
    intro H1 k1 D1 J hJ
    have R1 := (R.keep k1 D1).mark
    refine ⟨fun i m σ' H' => m = l.length - i ∧ i ≤ l.length ∧ ∃ en' d', StR W dk F0 H0 ((H1, F) :: cp) σ' H' en' d' ∧ PostS W Ex dk F0 H0 cp D (forL a g (l.drop i) en' d'), ⟨l.length, by simp, Nat.zero_le _, en, d1, ⟨F, G, R1⟩, by rw [List.drop_zero]; exact p⟩, ?_⟩
    rintro i m σ' H' ⟨rfl, hi, en', d', ⟨F', G', R'⟩, p'⟩
    have hv : Vis (H1, F) F' H' := R'.vs _ List.mem_cons_self
    by_cases hlt : i < l.length
    · refine .inr ⟨hJ.go i F' H' hv hlt, fun σ2 H2 => ∃ en2 d2, StR W dk F0 H0 ((H1, F) :: cp) σ2 H2 en2 d2 ∧ PostS W Ex dk F0 H0 cp D (forL a g (l.drop (i + 1)) en2 d2), fun σ2 H2 ⟨en2, d2, R2, p2⟩ => ⟨l.length - (i + 1), by omega, rfl, by omega, en2, d2, R2, p2⟩, fun x H2 y => ?_⟩
      obtain ⟨sm, t, et, rt⟩ := hJ.yld i F' H' x H2 hv R'.s.fh hlt y
      have R2 := R'.keep (.of sm) (R'.s.deck.same sm)
      have hd : l.drop i = t :: l.drop (i + 1) := by
        rw [List.getElem?_eq_getElem hlt] at et
        rw [List.drop_eq_getElem_cons hlt, Option.some.inj et]
      rw [hd] at p'
      unfold forL M.bind Out.bind at p'
      cases ea : a t en' with
      | none =>
        rw [ea] at p'
        exact p'.elim
      | some en3 =>
        rw [ea] at p'
        have p' : PostS W Ex dk F0 H0 cp D (M.bind (g en3) (fun r => match r.1 with
            | .nx => forL a g (l.drop (i + 1)) r.2
            | .ct => forL a g (l.drop (i + 1)) r.2
            | .brk => .pure (.nx, r.2)
            | .ret _ => .pure r) d') := p'
        refine ⟨dk, F', G', en', d', t, en3, R2.s, rt, ea, fun σ3 S3 _ => ?_⟩
        have R3 : StR W dk F0 H0 ((H1, F) :: cp) σ3 H2 en3 d' := ⟨F', G', S3, R2.ff, R2.g0, R2.kp, R2.vs, R2.fz⟩
        refine ⟨dk, F0, H0, (H1, F) :: cp, en3, d', R3, ?_⟩
        cases eg : g en3 d' with
        | bad =>
          rw [M.bind_bad eg] at p'
          exact p'.elim
        | exc x d4 =>
          rw [M.bind_exc eg] at p'
          exact p'
        | ok r d4 =>
          obtain ⟨fl, en4⟩ := r
          rw [M.bind_ok eg] at p'
          cases fl with
          | nx => exact fun σ4 H4 R4 => ⟨en4, d4, R4, p'⟩
          | ct => exact fun σ4 H4 R4 => ⟨en4, d4, R4, p'⟩
          | brk => exact fun σ4 H4 R4 => p' _ _ R4.unmark
          | ret t => exact p'
    · have ei : i = l.length := by omega
      subst ei
      rw [List.drop_length] at p'
      exact .inl ⟨hJ.stop F' H' hv, p' _ _ (StR.unmark ⟨F', G', R'⟩)⟩
theorem ts_while {n : Nat} (hp : PassesOwn (model X.prog X.w) X.A X.env X.xe) (hc : PT X c (tT W Ex fb)) (hb : PSs X body (tS W Ex g)) : PS X (.While c body [] pos) (tS W Ex (sWhile n fb g)) := (ps_while hp hc hb).imp fun D σ H ⟨dk, F0, H0, cp, en, d, R, p⟩ => by
  refine ⟨fun m σ' H' => ∃ en' d', StR W dk F0 H0 cp σ' H' en' d' ∧ PostS W Ex dk F0 H0 cp D (whileL fb g m en' d'), ⟨n, en, d, R, p⟩, ?_⟩
  rintro m σ' H' ⟨en', d', ⟨F, G, R'⟩, p'⟩
  cases m with
  | zero => exact p'.elim
  | succ m =>
    unfold whileL at p'
    refine R'.useT p' fun b d1 H1 R1 q => ?_
    cases b with
    | false =>
      rw [if_neg (by decide)]
      exact q _ _ ⟨F, G, R1⟩
    | true =>
      rw [if_pos rfl]
      refine ⟨fun σ2 H2 => ∃ en2 d2, StR W dk F0 H0 cp σ2 H2 en2 d2 ∧ PostS W Ex dk F0 H0 cp D (whileL fb g m en2 d2), fun σ2 H2 h => ⟨m, Nat.lt_succ_self m, h⟩, dk, F0, H0, cp, en', d1, ⟨F, G, R1⟩, ?_⟩
      have q : PostS W Ex dk F0 H0 cp D (M.bind (g en') (fun r => match r.1 with
        | .nx => whileL fb g m r.2
        | .ct => whileL fb g m r.2
        | .brk => .pure (.nx, r.2)
        | .ret _ => .pure r) d1) := q
      cases eg : g en' d1 with
      | bad =>
        rw [M.bind_bad eg] at q
        exact q.elim
      | exc x d4 =>
        rw [M.bind_exc eg] at q
        exact q
      | ok r d4 =>
        obtain ⟨fl, en4⟩ := r
        rw [M.bind_ok eg] at q
        cases fl with
        | nx => exact fun σ4 H4 R4 => ⟨en4, d4, R4, q⟩
        | ct => exact fun σ4 H4 R4 => ⟨en4, d4, R4, q⟩
        | brk => exact fun σ4 H4 R4 => q _ _ R4
        | ret t => exact q
end
end TL
/-! TLf: objects of one's own, comprehensions, defs. -/
namespace TL
open PySem PySem.Spec PyProof.Rows L2
/-! ### objects of one's own -/
section
variable {W : Wd} {Ex : XK} {dk : Dk} {F F' F0 : Addr → Prop} {G : Nat → Addr → Prop} {H H' H0 : Hp} {cp : Cps} {σ : L2.St} {en : En} {d d' : D} {p : Addr} {ho : HO}
theorem SR.repL_mut {i : Nat} (S : SR W dk F G σ H en d) (hG : G i p) {t : List T} {v : List V} (r : RepL W H F dk t v) : RepL W (upd H p ho) F dk t v :=
  RepL.mono (fun a o nf e => ⟨by rw [upd_ne (fun z => nf (by rw [z]; exact S.gf _ _ hG))]; exact e, nf⟩) t v r
theorem DkAt.other (h : DkAt W dk H d) (h1 : p ≠ dk.1) (h2 : p ≠ dk.2) : DkAt W dk (upd H p ho) d := by
  obtain ⟨a, b, c⟩ := h
  exact ⟨a, by rw [upd_ne h2.symm]; exact b, by rw [upd_ne h1.symm]; exact c⟩
theorem set_slot {i j : Nat} {s s' : Sl} (e : (setS en i s)[j]? = some s') : (j = i ∧ s' = s ∧ i < en.length) ∨ (j ≠ i ∧ en[j]? = some s') := by
  rw [setS_eq] at e
  by_cases h : i = j
  · subst h
    have hil : i < en.length := by
      have := (List.getElem?_eq_some_iff.mp e).1
      simpa using this
    rw [List.getElem?_set_self hil] at e
    cases e
    exact .inl ⟨rfl, rfl, hil⟩
  · rw [List.getElem?_set_ne h] at e
    exact .inr ⟨fun z => h z.symm, e⟩
/-- what belongs to the i-th slot changes, and new objects with it -/
theorem StR'.turn {i : Nat} {o' : O} {σ' : L2.St} {B : Addr → Prop} {p : Addr} (R : StR' W dk F0 H0 cp F G σ H en d) (hσ : σ'.length = σ.length) (hj : ∀ j, j ≠ i → σ'[j]? = σ[j]?) (hp : i < σ.length → σ'[i]? = some (some (.ref p))) (hB : B p) (hN : ∀ a, B a → G i a ∨ H a = none) (hH : ∀ a, ¬ B a → H' a = H a)
    (there : ∀ a, B a → H' a ≠ none) (new : OwnR W H' (fun a => F a ∨ B a) dk B o' p) : StR' W dk F0 H0 cp (fun a => F a ∨ B a) (fun j a => (j = i ∧ B a) ∨ (j ≠ i ∧ G j a)) σ' H' (setS en i (.own o')) d := by
  have S := R.s
  have nF : ∀ a, ¬ F a → H a ≠ none → ¬ B a := fun a nf h b => (hN a b).elim (fun z => nf (S.gf _ _ z)) h
  have up : ∀ (a : Addr) (o : HO), ¬ F a → H a = some o → H' a = some o ∧ ¬ (F a ∨ B a) := fun a o nf e => by
    have nb := nF a nf (by rw [e]; exact fun z => nomatch z)
    exact ⟨by rw [hH a nb]; exact e, fun z => z.elim nf nb⟩
  have nd : ∀ a, B a → a ≠ dk.1 ∧ a ≠ dk.2 := fun a b => (hN a b).elim (S.gd i a) fun z => ⟨fun y => S.fh a (y ▸ S.fd1) z, fun y => S.fh a (y ▸ S.fd2) z⟩
  have h0 : ∀ a, B a → H0 a = none := fun a b => (hN a b).elim (R.g0 i a) fun z => by
    cases q : H0 a with
    | none => rfl
    | some o =>
      have := R.kp a o q (nd a b).1 (nd a b).2
      rw [z] at this
      cases this
  have other : ∀ (j : Nat) (a : Addr), j ≠ i → G j a → ¬ B a := fun j a n g b => (hN a b).elim (fun z => n (S.sep j i a g z)) (S.fh a (S.gf _ _ g))
  refine ⟨⟨by rw [setS_eq, List.length_set, hσ]; exact S.len, fun j t e => ?_, fun j q e => ?_, fun j k a e1 e2 => ?_, fun j a z => ?_, fun j a z => ?_, fun a z => ?_, .inl S.fd1, .inl S.fd2, ?_⟩, fun a z => .inl (R.ff a z), fun j a z => ?_, fun a o h n1 n2 => ?_, fun c hc a o h n => ?_, R.fz⟩
  · rcases set_slot e with ⟨_, z, _⟩ | ⟨n, e⟩
    · cases z
    · obtain ⟨v, h1, h2⟩ := S.val j t e
      exact ⟨v, by rw [hj j n]; exact h1, Rep.mono up t v h2⟩
  · rcases set_slot e with ⟨rfl, z, hl⟩ | ⟨n, e⟩
    · cases z
      refine ⟨p, hp (by rw [← S.len]; exact hl), .inl ⟨rfl, hB⟩, OwnR.mono (B := B) (fun a o nf e => ⟨e, nf⟩) (fun a o b e => ⟨e, .inl ⟨rfl, b⟩⟩) hB new⟩
    · obtain ⟨a, h1, h2, h3⟩ := S.own j q e
      exact ⟨a, by rw [hj j n]; exact h1, .inr ⟨n, h2⟩, OwnR.mono up (fun b o g e => ⟨by rw [hH b (other j b n g)]; exact e, .inr ⟨n, g⟩⟩) h2 h3⟩
  · rcases e1 with ⟨rfl, b1⟩ | ⟨n1, g1⟩
    · rcases e2 with ⟨rfl, _⟩ | ⟨n2, g2⟩
      · rfl
      · exact absurd b1 (other k a n2 g2)
    · rcases e2 with ⟨rfl, b2⟩ | ⟨n2, g2⟩
      · exact absurd b2 (other j a n1 g1)
      · exact S.sep j k a g1 g2
  · rcases z with ⟨_, b⟩ | ⟨_, g⟩
    · exact .inr b
    · exact .inl (S.gf _ _ g)
  · rcases z with ⟨_, b⟩ | ⟨_, g⟩
    · exact nd a b
    · exact S.gd _ _ g
  · rcases Classical.em (B a) with b | b
    · exact there a b
    · rw [hH a b]
      exact z.elim (S.fh a) fun y => absurd y b
  · obtain ⟨q1, q2, q3⟩ := S.deck
    exact ⟨q1, by rw [hH _ fun b => (nd _ b).2 rfl]; exact q2, by rw [hH _ fun b => (nd _ b).1 rfl]; exact q3⟩
  · rcases z with ⟨_, b⟩ | ⟨_, g⟩
    · exact h0 a b
    · exact R.g0 _ _ g
  · rw [hH a fun b => by rw [h0 a b] at h; cases h]
    exact R.kp a o h n1 n2
  · obtain ⟨h1, h2⟩ := R.vs c hc a o h n
    exact up a o h2 h1
theorem StR'.mut {i : Nat} {o o' : O} (R : StR' W dk F0 H0 cp F G σ H en d) (hs : getS en i = .own o) (hp : σ[i]? = some (some (.ref p))) (hG : G i p) (new : OwnR W (upd H p ho) F dk (G i) o' p) :
    StR' W dk F0 H0 cp (fun a => F a ∨ G i a) (fun j a => (j = i ∧ G i a) ∨ (j ≠ i ∧ G j a)) σ (upd H p ho) (setS en i (.own o')) d :=
  R.turn (B := G i) rfl (fun _ _ => rfl) (fun _ => hp) hG (fun a z => .inl z) (fun a z => upd_ne fun y => z (y ▸ hG)) (fun a z => by
    by_cases h : a = p
    · subst h
      rw [upd_same]
      exact fun z => nomatch z
    · rw [upd_ne h]
      exact R.s.fh a (R.s.gf _ _ z)) (OwnR.mono (fun a o nf e => ⟨e, fun z => z.elim nf fun g => nf (R.s.gf _ _ g)⟩) (fun a o g e => ⟨e, g⟩) hG new)
/-- a new object is one's own -/
theorem StR'.fresh {i : Nat} {o : O} (R : StR' W dk F0 H0 cp F G σ H en d) (hp : H p = none) (new : OwnR W (upd H p ho) (fun a => F a ∨ a = p) dk (fun a => a = p) o p) :
    StR' W dk F0 H0 cp (fun a => F a ∨ a = p) (fun j a => (j = i ∧ a = p) ∨ (j ≠ i ∧ G j a)) (σ.set i (some (.ref p))) (upd H p ho) (setS en i (.own o)) d :=
  R.turn (B := fun a => a = p) (List.length_set ..) (fun j n => List.getElem?_set_ne (Ne.symm n)) (fun hl => List.getElem?_set_self hl) rfl (fun a z => .inr (z ▸ hp)) (fun a z => upd_ne z) (fun a z => by
    subst z
    rw [upd_same]
    exact fun z => nomatch z) new
/-- an object of one's own is kept from now on -/
def frz (i : Nat) (en : En) : En := match getS en i with
  | .own (.set _) => en
  | .own o => setS en i (.val o.t)
  | _ => en
theorem rep_qs {B F' : Addr → Prop} (hF : ∀ a, F' a → F a) (hB : ∀ a, B a → ¬ F' a) : ∀ (l : List (T × List T)) (xs : List NS.Ent), RepQ W H F dk B l xs → RepX W H F' dk (l.map fun kv => (kv.1, .lst kv.2)) xs
  | [], xs, h => by simpa only [List.map_nil, RepX, RepQ] using h
  | (k, l) :: r, xs, h => by
    simp only [List.map_cons, RepX, RepQ] at h ⊢
    obtain ⟨n, b, q, ys, s, rfl, h0, h1, h2, h3, h4, h5, h6⟩ := h
    exact ⟨n, b, .ref q, s, rfl, h0, h1.weak hF, by simp only [Rep]; exact ⟨q, ys, rfl, hB q h2, h3, RepL.mono (fun a o nf e => ⟨e, fun z => nf (hF a z)⟩) l ys h4⟩, rep_qs hF hB r s h6⟩
theorem rep_own {o : O} {B : Addr → Prop} (F' : Addr → Prop) (hF : ∀ a, F' a → F a) (hB : ∀ a, B a → ¬ F' a) (hp : ¬ F' p) (r : OwnR W H F dk B o p) (ns : ∀ l, o ≠ .set l) : Rep W H F' dk o.t (.ref p) := by
  have w : ∀ (a : Addr) (o : HO), ¬ F a → H a = some o → H a = some o ∧ ¬ F' a := fun a o nf e => ⟨e, fun z => nf (hF a z)⟩
  cases o with
  | lst l =>
    obtain ⟨xs, e, r⟩ := r
    simp only [O.t, Rep]
    exact ⟨p, xs, rfl, hp, e, RepL.mono w l xs r⟩
  | dic l =>
    obtain ⟨xs, e, r⟩ := r
    simp only [O.t, Rep]
    exact ⟨p, xs, rfl, hp, .inl e, RepD.mono w l xs r⟩
  | dix l =>
    obtain ⟨xs, ⟨r0, e⟩, r⟩ := r
    simp only [O.t, Rep]
    exact ⟨p, xs, rfl, hp, ⟨r0, .inl e⟩, RepX.mono w l xs r⟩
  | dil l =>
    obtain ⟨xs, ⟨r0, e⟩, _, r⟩ := r
    simp only [O.t, Rep]
    exact ⟨p, xs, rfl, hp, ⟨r0, .inl e⟩, rep_qs hF hB l xs r⟩
  | set l => exact absurd rfl (ns l)
  | ins c fs =>
    obtain ⟨C, dx, xs, hc, e, r⟩ := r
    simp only [O.t, Rep]
    exact ⟨p, C, dx, xs, rfl, hp, hc, e, RepF.mono w fs xs r⟩
theorem SR.frz {i : Nat} (S : SR W dk F G σ H en d) : ∃ (F' : Addr → Prop) (G' : Nat → Addr → Prop), (∀ a, F' a → F a) ∧ (∀ j a, G' j a → G j a) ∧ (∀ a, F a → F' a ∨ G i a) ∧ SR W dk F' G' σ H (frz i en) d := by
  have stay : SR W dk F G σ H en d → ∃ (F' : Addr → Prop) (G' : Nat → Addr → Prop), (∀ a, F' a → F a) ∧ (∀ j a, G' j a → G j a) ∧ (∀ a, F a → F' a ∨ G i a) ∧ SR W dk F' G' σ H en d := fun S => ⟨F, G, fun _ z => z, fun _ _ z => z, fun _ z => .inl z, S⟩
  unfold TL.frz
  cases hs : getS en i with
  | no => exact stay S
  | val t => exact stay S
  | own o =>
    have main : (∀ l, o ≠ .set l) → ∃ (F' : Addr → Prop) (G' : Nat → Addr → Prop), (∀ a, F' a → F a) ∧ (∀ j a, G' j a → G j a) ∧ (∀ a, F a → F' a ∨ G i a) ∧ SR W dk F' G' σ H (setS en i (.val o.t)) d := fun ns => by
      have hs' := getS_own hs
      obtain ⟨p, hp, hG, hr⟩ := S.own i o hs'
      have sub : ∀ a, (F a ∧ ¬ G i a) → F a := fun a z => z.1
      have w : ∀ (a : Addr) (o : HO), ¬ F a → H a = some o → H a = some o ∧ ¬ (F a ∧ ¬ G i a) := fun a o nf e => ⟨e, fun z => nf z.1⟩
      refine ⟨fun a => F a ∧ ¬ G i a, fun j a => j ≠ i ∧ G j a, sub, fun j a z => z.2, fun a z => ?_, by rw [setS_eq, List.length_set]; exact S.len, fun j t e => ?_, fun j q e => ?_, fun j k a e1 e2 => S.sep j k a e1.2 e2.2, fun j a z => ⟨S.gf j a z.2, fun y => z.1 (S.sep j i a z.2 y)⟩, fun j a z => S.gd j a z.2, fun a z => S.fh a z.1, ⟨S.fd1, fun z => (S.gd i _ z).1 rfl⟩, ⟨S.fd2, fun z => (S.gd i _ z).2 rfl⟩, S.deck⟩
      · rcases Classical.em (G i a) with g | g
        · exact .inr g
        · exact .inl ⟨z, g⟩
      · rcases set_slot e with ⟨rfl, z, _⟩ | ⟨_, e⟩
        · cases z
          exact ⟨.ref p, hp, rep_own _ sub (fun a b z => z.2 b) (fun z => z.2 hG) hr ns⟩
        · obtain ⟨v, h1, h2⟩ := S.val j t e
          exact ⟨v, h1, h2.weak sub⟩
      · rcases set_slot e with ⟨_, z, _⟩ | ⟨ne, e⟩
        · cases z
        · obtain ⟨a, h1, h2, h3⟩ := S.own j q e
          exact ⟨a, h1, ⟨ne, h2⟩, OwnR.mono w (fun b o g e => ⟨e, ne, g⟩) h2 h3⟩
    cases o with
    | set l => exact stay S
    | lst l => exact main fun l z => nomatch z
    | dic l => exact main fun l z => nomatch z
    | dix l => exact main fun l z => nomatch z
    | dil l => exact main fun l z => nomatch z
    | ins c fs => exact main fun l z => nomatch z
theorem StR.frz {i : Nat} (R : StR W dk F0 H0 cp σ H en d) : StR W dk F0 H0 cp σ H (frz i en) d := by
  obtain ⟨F, G, R⟩ := R
  obtain ⟨F', G', h1, h2, h3, S⟩ := R.s.frz (i := i)
  refine ⟨F', G', S, fun a z => ?_, fun j a z => R.g0 j a (h2 j a z), R.kp, fun c hc a o h n => ⟨(R.vs c hc a o h n).1, fun z => (R.vs c hc a o h n).2 (h1 a z)⟩, R.fz⟩
  rcases h3 a (R.ff a z) with q | q
  · exact q
  · exact absurd (R.g0 i a q) (R.fz a z)
end
def M.noX {α : Type} (m : M α) : M α := fun d => match m d with
  | .ok a d' => .ok a d'
  | _ => .bad
theorem Post.noX {W : Wd} {Ex Ex' : XK} {F : Addr → Prop} {dk : Dk} {H : Hp} {α : Type} {R : α → D → Hp → Prop} {m : M α} {d : D} (h : Post W Ex F dk H R (m.noX d)) : Post W Ex' F dk H R (m d) := by
  unfold M.noX at h
  cases q : m d with
  | ok a d1 =>
    rw [q] at h
    exact h
  | exc x d1 =>
    rw [q] at h
    exact h.elim
  | bad =>
    rw [q] at h
    exact h.elim
theorem Post.reF {W : Wd} {Ex : XK} {F F' : Addr → Prop} {dk : Dk} {H : Hp} {α : Type} {R : α → D → Hp → Prop} {m : M α} {d : D} (h : Post W Ex F dk H R (m.noX d)) : Post W Ex F' dk H R (m.noX d) := by
  unfold M.noX at h ⊢
  cases q : m d with
  | ok a d1 =>
    rw [q] at h
    exact h
  | exc x d1 =>
    rw [q] at h
    exact h.elim
  | bad =>
    rw [q] at h
    exact h.elim
/-! ### statements on objects of one's own -/
def sFrz (i : Nat) (g : En → MS) : En → MS := fun en => g (frz i en)
def scalT : T → Bool
  | .non => true | .bl _ => true | .int _ => true | .str _ => true
  | _ => false
def guardT (t : T) : Option T := if scalT t then some t else none
/-- to look at an object of one's own: the value is a scalar -/
def xPk (i : Nat) (f : En → M T) : En → M T := fun en => (f (frz i en)).noX.bind fun t => .opt (guardT t)
def xPkB (i : Nat) (f : En → M Bool) : En → M Bool := fun en => (f (frz i en)).noX
def sNew (i : Nat) (f : En → M (List T)) : En → MS := fun en => (f en).bind fun l => .pure (.nx, setS en i (.own (.lst l)))
def withL (en : En) (i : Nat) (k : List T → MS) : MS := match getS en i with
  | .own (.lst l) => k l
  | _ => .bad
def withD (en : En) (i : Nat) (k : List (Key × T) → MS) : MS := match getS en i with
  | .own (.dic l) => k l
  | _ => .bad
def sApp (i : Nat) (f : En → M T) : En → MS := fun en => withL en i fun l => (f en).bind fun t => (M.opt (capL (l.length + 1) ())).bind fun _ => .pure (.nx, setS en i (.own (.lst (l ++ [t]))))
def lstT? : T → Option (List T)
  | .lst l => some l
  | _ => none
def intT1 : T → Option Int
  | .int i => some i
  | _ => none
def sExt (i : Nat) (f : En → M T) : En → MS := fun en => withL en i fun l => (f en).bind fun t => (M.opt (lstT? t)).bind fun m => (M.opt (capL (l.length + m.length) ())).bind fun _ => .pure (.nx, setS en i (.own (.lst (l ++ m))))
/-- own[b] = e: the value first, then the place -/
def sPut (i : Nat) (fb f : En → M T) : En → MS := fun en => withL en i fun l => (f en).bind fun t => (fb en).bind fun k => (M.opt ((intT1 k).bind (ixN l.length))).bind fun j => .pure (.nx, setS en i (.own (.lst (l.set j t))))
def sNewD (i : Nat) : En → MS := fun en => .pure (.nx, setS en i (.own (.dic [])))
/-- name = own.pop(): the last item goes -/
def sPop (i j : Nat) : En → MS := fun en => withL en i fun l => (M.opt (l[l.length - 1]?)).bind fun t => .pure (.nx, setS (setS en i (.own (.lst l.dropLast))) j (.val t))
section
variable {W : Wd} {Ex : XK} {dk : Dk} {F0 : Addr → Prop} {H0 : Hp} {cp : Cps} {D : Ends} {en : En} {d : TL.D} {i : Nat}
theorem PostS.withL {k : List T → MS} (p : PostS W Ex dk F0 H0 cp D (withL en i k d)) : ∃ l, getS en i = .own (.lst l) ∧ PostS W Ex dk F0 H0 cp D (k l d) := by
  unfold TL.withL at p
  cases h : getS en i with
  | own o =>
    rw [h] at p
    cases o with
    | lst l => exact ⟨l, rfl, p⟩
    | _ => exact p.elim
  | no =>
    rw [h] at p
    exact p.elim
  | val t =>
    rw [h] at p
    exact p.elim
theorem PostS.opt {α : Type} {o : Option α} {k : α → MS} (p : PostS W Ex dk F0 H0 cp D (M.bind (.opt o) k d)) : ∃ a, o = some a ∧ PostS W Ex dk F0 H0 cp D (k a d) := by
  cases o with
  | none => exact p.elim
  | some a => exact ⟨a, rfl, p⟩
end
section
variable {W : Wd} {Ex : XK} {X : Cx} {st : Stmt} {rest : List Stmt} {g h : En → MS} {f fb : En → M T} {fB : En → M Bool} {fl : En → M (List T)} {e b c : Expr} {pos cpos p1 p2 p3 : Pos} {i j : Nat} {x : Str}
theorem tss_frz (i : Nat) (h : PSs X rest (tS W Ex g)) : PSs X rest (tS W Ex (sFrz i g)) := h.imp fun D σ H ⟨dk, F0, H0, cp, en, d, R, p⟩ => ⟨dk, F0, H0, cp, frz i en, d, R.frz, p⟩
theorem rep_scal {H : Hp} {F F' : Addr → Prop} {dk : Dk} {t u : T} {v : V} (h : guardT t = some u) (r : Rep W H F dk t v) : Rep W H F' dk u v := by
  unfold guardT at h
  cases t <;> simp only [scalT, if_true, if_false, Option.some.injEq, reduceCtorEq, Bool.false_eq_true] at h <;> (subst h; simpa only [Rep] using r)
theorem te_pk (i : Nat) (he : PE X e (tE W Ex f)) : PE X e (tE W Ex (xPk i f)) := he.imp fun σ H Q ⟨dk, F, G, en, d, S, h⟩ => by
  obtain ⟨F', G', h1, h2, h3, S'⟩ := S.frz (i := i)
  refine ⟨dk, F', G', frz i en, d, S', ?_⟩
  have h : Post W Ex F' dk H _ ((f (frz i en)).noX d) := Post.reF (Post.bind h)
  refine (Post.noX h).mono fun t d1 H1 k1 D1 h1 v rv => ?_
  obtain ⟨z, e, w⟩ := Post.opt_some h1
  exact w H1 (.refl _ _) D1 v (rep_scal e rv)
theorem tt_pk (i : Nat) (he : PT X e (tT W Ex fB)) : PT X e (tT W Ex (xPkB i fB)) := he.imp fun σ H Q ⟨dk, F, G, en, d, S, h⟩ => by
  obtain ⟨F', G', h1, h2, h3, S'⟩ := S.frz (i := i)
  exact ⟨dk, F', G', frz i en, d, S', Post.noX (Post.reF h : Post W Ex F' dk H _ ((fB (frz i en)).noX d))⟩
theorem ts_new (hN : X.N.Nodup) (he : PE X e (tN W Ex fl)) (hi : X.N[i]? = some x := by rfl) (hx : Loc X.env.scope x := by first | exact Or.inl rfl | exact Or.inr rfl) (hs : swapsWith e (some (.Name x p1)) pos.line X.env = pure false := by rfl)
    (hf : X.fn x = true ∨ X.env.scope.names.lookup x = some .local := by first | exact .inl rfl | exact .inr rfl | assumption) : PS X (.Assign [.Name x p1] e pos) (tS W Ex (sNew i fl)) :=
  (ps_set hN hi hx he hs hf).imp fun D σ H ⟨dk, F0, H0, cp, en, d, ⟨F, G, R⟩, p⟩ => R.useN p fun l d1 a xs H1 R1 rl ha q => q _ _ ⟨_, _, R1.fresh ha ⟨xs, upd_same, RepL.mono (fun b o nf e => ⟨upd_same' ha b o e, fun z => z.elim nf (ne_of_none e ha)⟩) l xs rl⟩⟩
theorem ownL {W : Wd} {dk : Dk} {F : Addr → Prop} {G : Nat → Addr → Prop} {σ : L2.St} {H : Hp} {en : En} {d : D} {i : Nat} {l : List T} (S : SR W dk F G σ H en d) (hs : getS en i = .own (.lst l)) : ∃ p xs, σ[i]? = some (some (.ref p)) ∧ G i p ∧ H p = some (.lst xs) ∧ RepL W H F dk l xs := by
  obtain ⟨p, h1, h2, xs, h3, h4⟩ := S.own i _ (getS_own hs)
  exact ⟨p, xs, h1, h2, h3, h4⟩
/-- own.append(e) -/
theorem ts_app (he : PE X e (tE W Ex f)) (hi : X.N[i]? = some x := by rfl) (hv : L2.Vis X.env.scope x := by first | exact Or.inl rfl | exact Or.inr (Or.inl rfl) | exact Or.inr (Or.inr rfl))
    (hd : (x == ("__debug__" : Str)) = false := by decide) (hcd : (x == ("__classdict__" : Str)) = false := by decide)
    (hbase : attributeBase (.Name x p1) "append" X.env (eval (.Name x p1) X.env) = eval (.Name x p1) X.env := by rfl)
    (hfew : ((backTo cpos (starEach [e] X.env)).all (fun x => !x.1) && (backToKw cpos (keywordEach [] X.env)).all (fun x => x.1.isSome) && decide ([e].length + ([] : List Keyword).length + (if ([] : List Keyword).isEmpty then 0 else 1) < 30)) = true := by rfl)
    (hline : (p2.endLine == cpos.line) = true := by rfl) (hs : starEach [e] X.env = (false, eval e X.env) :: starEach [] X.env := by rfl) (hplain : (backTo cpos (starEach [] X.env)).any (·.1) = false := by rfl)
    (hsw : swapsWith (.Call (.Attribute (.Name x p1) "append" p2) [e] [] cpos) none pos.line X.env = pure false := by rfl) : PS X (.Expr (.Call (.Attribute (.Name x p1) "append" p2) [e] [] cpos) pos) (tS W Ex (sApp i f)) :=
  (ps_expr (pe_bm PySem.F.plainAttrs_list PySem.F.slot_list_append PySem.F.type_list_append mt_append (pv i hi hv hd hcd) (pa_cons he pa_nil hs) hbase hfew hline hs hplain) hsw).imp fun D σ H ⟨dk, F0, H0, cp, en, d, ⟨F, G, R⟩, p⟩ => by
    obtain ⟨l, hs, p⟩ := PostS.withL p
    obtain ⟨a, xs, h1, h2, h3, h4⟩ := ownL R.s hs
    refine ⟨.ref a, h1, .inl ⟨rfl, xs, .of h3⟩, R.use p fun t d1 v H1 k1 R1 rv q => ?_⟩
    obtain ⟨a', xs', h1', h2', h3', h4'⟩ := ownL R1.s hs
    rw [h1] at h1'
    cases h1'
    obtain ⟨u, hz, q⟩ := PostS.opt q
    refine ⟨a, xs', v, rfl, rfl, h3', ?_, q _ _ ⟨_, _, R1.mut hs h1 h2' ⟨xs' ++ [v], upd_same, R1.s.repL_mut h2' (h4'.append (.cons rv .nil))⟩⟩⟩
    rw [h4'.length]
    exact (capL_some hz).1
/-- own[b] = e, a list -/
theorem ts_put (he : PE X e (tE W Ex f)) (hb : PE X b (tE W Ex fb)) (hi : X.N[i]? = some x := by rfl) (hv : L2.Vis X.env.scope x := by first | exact Or.inl rfl | exact Or.inr (Or.inl rfl) | exact Or.inr (Or.inr rfl))
    (hd : (x == ("__debug__" : Str)) = false := by decide) (hcd : (x == ("__classdict__" : Str)) = false := by decide)
    (ha : ∀ v, assign (.Subscript (.Name x p1) b p2) X.env v = (do let ov ← holding [v] (eval (.Name x p1) X.env); let iv ← holding [v, ov] (eval b X.env); standAt p2; holding [v, ov, iv] (setItem ov iv v); release [v, ov, iv] []) := by intro _; rfl)
    (hs : swapsWithSole [.Subscript (.Name x p1) b p2] e pos.line X.env = pure false := by rfl) (hw : swappedStores [.Subscript (.Name x p1) b p2] e X.env = pure none := by rfl)
    (h1 : (assignEach [.Subscript (.Name x p1) b p2] X.env).map (·.2) = [assign (.Subscript (.Name x p1) b p2) X.env] := by rfl) : PS X (.Assign [.Subscript (.Name x p1) b p2] e pos) (tS W Ex (sPut i fb f)) :=
  (ps_asg he (pg_sub (pv i hi hv hd hcd) hb set_list ha) hs hw h1).imp fun D σ H ⟨dk, F0, H0, cp, en, d, ⟨F, G, R⟩, p⟩ => by
    obtain ⟨l, hs, p⟩ := PostS.withL p
    obtain ⟨a, xs, h1, h2, h3, h4⟩ := ownL R.s hs
    refine R.use p fun t d1 v H1 k1 R1 rv q => ?_
    refine ⟨.ref a, h1, R1.use q fun k d2 y H2 k2 R2 ry q2 => ?_⟩
    obtain ⟨a', xs', h1', h2', h3', h4'⟩ := ownL R2.s hs
    rw [h1] at h1'
    cases h1'
    obtain ⟨j, hj, q3⟩ := PostS.opt q2
    cases k <;> simp only [intT1, Option.bind_none, Option.bind_some, reduceCtorEq] at hj
    simp only [Rep] at ry
    refine ⟨a, xs', _, j, rfl, ry, h3', by rw [h4'.length]; exact hj, q3 _ _ ⟨_, _, R2.mut hs h1 h2' ⟨xs'.set j v, upd_same, R2.s.repL_mut h2' (h4'.set j (R1.s.keepR k2 rv))⟩⟩⟩
end
end TL
/-! TLg: comprehensions, defs. -/
namespace TL
open PySem PySem.Spec PyProof.Rows L2
theorem Post.bind0 {W : Wd} {Ex : XK} {F : Addr → Prop} {dk : Dk} {H : Hp} {α β : Type} {S : β → D → Hp → Prop} {m : M α} {k : α → M β} {d : D} (h : Post W Ex F dk H S (M.bind m k d)) : Post W Ex F dk H (fun a d1 _ => Post W Ex F dk H S (k a d1)) (m d) := by
  cases e : m d with
  | ok a d1 =>
    rw [M.bind_ok e] at h
    exact fun _ _ _ => h
  | exc x d1 =>
    rw [M.bind_exc e] at h
    exact h
  | bad =>
    rw [M.bind_bad e] at h
    exact h
/-! ### list comprehensions -/
def wipeE (en : En) : List Nat → En
  | [] => en
  | v :: vs => setS (wipeE en vs) v .no
def lcL (a : T → En → Option En) (c : En → M Bool) (f : En → M T) (en : En) : List T → M (List T)
  | [] => .pure []
  | t :: l => (M.opt (a t en)).bind fun en1 => (c en1).noX.bind fun b => match b with
    | true => (f en1).noX.bind fun y => (lcL a c f en l).bind fun r => .pure (y :: r)
    | false => lcL a c f en l
def xLc (fi : En → M (List T)) (a : T → En → Option En) (vs : List Nat) (c : En → M Bool) (f : En → M T) : En → M (List T) := fun en => (fi en).bind fun l => (M.opt (capL l.length ())).bind fun _ => lcL a c f (wipeE en vs) l
def xYes : En → M Bool := fun _ => .pure true
section
variable {W : Wd} {dk : Dk} {F : Addr → Prop} {G : Nat → Addr → Prop} {σ : L2.St} {H : Hp} {en : En} {d : D}
theorem SR.setNo {i : Nat} (S : SR W dk F G σ H en d) : SR W dk F G (σ.set i none) H (setS en i .no) d := by
  rw [setS_eq]
  have ne : ∀ {j : Nat} {s : Sl}, (en.set i .no)[j]? = some s → s ≠ .no → i ≠ j ∧ en[j]? = some s := fun {j s} e hs => by
    by_cases h : i = j
    · subst h
      have hl : i < en.length := by
        have := (List.getElem?_eq_some_iff.mp e).1
        simpa using this
      rw [List.getElem?_set_self hl] at e
      cases e
      exact absurd rfl hs
    · rw [List.getElem?_set_ne h] at e
      exact ⟨h, e⟩
  refine ⟨by simp [S.len], fun j u e => ?_, fun j o e => ?_, S.sep, S.gf, S.gd, S.fh, S.fd1, S.fd2, S.deck⟩
  · obtain ⟨n, e⟩ := ne e (fun z => nomatch z)
    obtain ⟨w, h1, h2⟩ := S.val j u e
    exact ⟨w, by rw [List.getElem?_set_ne n]; exact h1, h2⟩
  · obtain ⟨n, e⟩ := ne e (fun z => nomatch z)
    obtain ⟨w, h1, h2⟩ := S.own j o e
    exact ⟨w, by rw [List.getElem?_set_ne n]; exact h1, h2⟩
theorem SR.wipe (S : SR W dk F G σ H en d) : ∀ vs : List Nat, SR W dk F G (wipe σ vs) H (wipeE en vs) d
  | [] => S
  | v :: vs => (S.wipe vs).setNo
theorem wipe_get {σ : L2.St} {vs : List Nat} {j : Nat} : (wipe σ vs)[j]? = if j ∈ vs then (if j < σ.length then some none else none) else σ[j]? := by
  induction vs with
  | nil => simp [wipe]
  | cons v vs ih =>
    show ((wipe σ vs).set v none)[j]? = _
    by_cases h : v = j
    · subst h
      rw [if_pos List.mem_cons_self]
      by_cases hl : v < σ.length
      · rw [List.getElem?_set_self (by rw [wipe_length]; exact hl), if_pos hl]
      · rw [if_neg hl, List.getElem?_eq_none_iff, List.length_set, wipe_length]
        omega
    · rw [List.getElem?_set_ne h, ih]
      by_cases hm : j ∈ vs
      · rw [if_pos hm, if_pos (List.mem_cons_of_mem _ hm)]
      · rw [if_neg hm, if_neg (fun z => (List.mem_cons.mp z).elim (fun e => h e.symm) hm)]
theorem wipe_only {σ σ2 : L2.St} {is vs : List Nat} (h : OnlyAt is (wipe σ vs) σ2) (hs : ∀ j ∈ is, j ∈ vs) : wipe σ2 vs = wipe σ vs := by
  have hl : σ2.length = σ.length := h.1.trans (wipe_length _ _)
  refine List.ext_getElem? fun j => ?_
  rw [wipe_get, wipe_get, hl]
  by_cases hm : j ∈ vs
  · rw [if_pos hm, if_pos hm]
  · rw [if_neg hm, if_neg hm, h.2 j (fun z => hm (hs j z)), wipe_get, if_neg hm]
/-- a hidden object that is nobody's changes -/
theorem SR.mutH {p : Addr} {ho : HO} (S : SR W dk F G σ H en d) (hF : F p) (hG : ∀ i, ¬ G i p) (n1 : p ≠ dk.1) (n2 : p ≠ dk.2) : SR W dk F G σ (upd H p ho) en d := by
  have up : ∀ (a : Addr) (o : HO), ¬ F a → H a = some o → upd H p ho a = some o ∧ ¬ F a := fun a o nf e => ⟨by rw [upd_ne (fun z => nf (by rw [z]; exact hF))]; exact e, nf⟩
  refine ⟨S.len, fun j u e => ?_, fun j o e => ?_, S.sep, S.gf, S.gd, fun a z => ?_, S.fd1, S.fd2, S.deck.other n1 n2⟩
  · obtain ⟨v, h1, h2⟩ := S.val j u e
    exact ⟨v, h1, Rep.mono up u v h2⟩
  · obtain ⟨a, h1, h2, h3⟩ := S.own j o e
    exact ⟨a, h1, h2, OwnR.mono up (fun b o g e => ⟨by rw [upd_ne (fun z => hG j (by rw [← z]; exact g))]; exact e, g⟩) h2 h3⟩
  · by_cases h : a = p
    · subst h
      rw [upd_same]
      exact fun z => nomatch z
    · rw [upd_ne h]
      exact S.fh a z
/-- one more hidden, new object -/
theorem SR.hide {p : Addr} {ho : HO} (S : SR W dk F G σ H en d) (hp : H p = none) : SR W dk (fun a => F a ∨ a = p) G σ (upd H p ho) en d := by
  have sm : Same H (upd H p ho) := upd_same' hp
  have up : ∀ (a : Addr) (o : HO), ¬ F a → H a = some o → upd H p ho a = some o ∧ ¬ (F a ∨ a = p) := fun a o nf e => ⟨sm a o e, fun z => z.elim nf (ne_of_none e hp)⟩
  refine ⟨S.len, fun j u e => ?_, fun j o e => ?_, S.sep, fun i a z => .inl (S.gf i a z), S.gd, fun a z => ?_, .inl S.fd1, .inl S.fd2, S.deck.same sm⟩
  · obtain ⟨v, h1, h2⟩ := S.val j u e
    exact ⟨v, h1, Rep.mono up u v h2⟩
  · obtain ⟨a, h1, h2, h3⟩ := S.own j o e
    exact ⟨a, h1, h2, OwnR.mono up (fun b o g e => ⟨sm b o e, g⟩) h2 h3⟩
  · rcases z with z | rfl
    · intro q
      have := S.fh a z
      cases h : H a with
      | none => exact this h
      | some o =>
        rw [sm a o h] at q
        cases q
    · rw [upd_same]
      exact fun z => nomatch z
end
/-- a heap without an address -/
def without (H : Hp) (p : Addr) : Hp := fun a => if a = p then none else H a
theorem without_upd {H : Hp} {p : Addr} {o : HO} (h : H p = some o) : upd (without H p) p o = H := by
  funext a
  unfold upd without
  by_cases e : a = p
  · subst e
    rw [if_pos rfl, h]
  · rw [if_neg e, if_neg e]
section
variable {W : Wd} {Ex : XK} {X : Cx} {tg iter elt c : Expr} {ifs : List Expr} {scope : Scope} {own : List (Str × Nat)} {pos : Pos} {fi : En → M (List T)} {a : T → En → Option En} {is : List Nat} {fc : En → M Bool} {f : En → M T}
theorem _root_.L2.PTs.imp {t t' : TT} (h : PTs X ifs t) (k : ∀ σ H Q, t' σ H Q → t σ H Q) : PTs X ifs t' := ⟨fun pins s σ H Q I q => h.run pins s σ H Q I (k σ H Q q)⟩
theorem tts_nil : PTs X [] (tT W Ex xYes) := pts_nil.imp fun σ H Q ⟨dk, F, G, en, d, S, h⟩ => h H (.refl _ _) S.deck
theorem tts_one (h : PT X c (tT W Ex fc)) : PTs X [c] (tT W Ex fc) := pts_one h
theorem lc_of {vs : List Nat} (hs : ∀ j ∈ is, j ∈ vs) : ∀ σ H Q, tN W Ex (xLc fi a vs fc f) σ H Q → tLc (tI W Ex fi) (tG W is a) (tT W E0 fc) (tE W E0 f) vs σ H Q := fun σ H Q ⟨dk, F, G, en, d, S, h⟩ => by
  refine ⟨dk, F, G, en, d, S, (Post.bind h).mono fun l d1 H1 k1 D1 h1 J hJ Dd hD => ?_⟩
  have S1 := S.keep k1 D1
  cases hz : capL l.length () with
  | none =>
    rw [hz] at h1
    exact h1.elim
  | some u =>
    rw [hz] at h1
    have hcap := (capL_some hz).1
    have n1 : Dd ≠ dk.1 := fun z => S1.fh _ (z ▸ S1.fd1) hD
    have n2 : Dd ≠ dk.2 := fun z => S1.fh _ (z ▸ S1.fd2) hD
    have nG : ∀ i, ¬ G i Dd := fun i z => S1.fh _ (S1.gf _ _ z) hD
    refine ⟨fun i m H' => m = l.length - i ∧ i ≤ l.length ∧ ∃ acc ts d', H' Dd = some (.lst acc) ∧ acc.length ≤ i ∧ SR W dk (fun b => F b ∨ b = Dd) G (wipe σ vs) H' (wipeE en vs) d' ∧ Keep dk H1 H' ∧ RepL W H' (fun b => F b ∨ b = Dd) dk ts acc ∧
      Post W Ex F dk H1 (fun r d'' H'' => ∀ p xs, RepL W H'' F dk (ts ++ r) xs → xs.length ≤ sizeLine → H'' p = none → Q (.ref p) (upd H'' p (.lst xs))) (lcL a fc f (wipeE en vs) (l.drop i) d'),
      ⟨l.length, by simp, Nat.zero_le _, [], [], d1, upd_same, Nat.le_refl _, (S1.wipe vs).hide hD, .of (upd_same' hD), .nil, by simp only [List.nil_append]; exact h1⟩, ?_⟩
    rintro i m H' ⟨rfl, hi, acc, ts, d', hDd, hacc, S', k', rl, P⟩
    have hv : TL.Vis (H1, F) (fun b => F b ∨ b = Dd) H' := fun b o e nf => ⟨k' b o e (fun z => nf (z ▸ S1.fd1)) (fun z => nf (z ▸ S1.fd2)), fun z => z.elim nf (ne_of_none e hD)⟩
    by_cases hlt : i < l.length
    · refine .inr ⟨hJ.go i _ H' hv hlt, fun H2 => i + 1 ≤ l.length ∧ ∃ acc ts d', H2 Dd = some (.lst acc) ∧ acc.length ≤ i + 1 ∧ SR W dk (fun b => F b ∨ b = Dd) G (wipe σ vs) H2 (wipeE en vs) d' ∧ Keep dk H1 H2 ∧ RepL W H2 (fun b => F b ∨ b = Dd) dk ts acc ∧
        Post W Ex F dk H1 (fun r d'' H'' => ∀ p xs, RepL W H'' F dk (ts ++ r) xs → xs.length ≤ sizeLine → H'' p = none → Q (.ref p) (upd H'' p (.lst xs))) (lcL a fc f (wipeE en vs) (l.drop (i + 1)) d'),
        fun H2 h => ⟨l.length - (i + 1), by omega, rfl, h⟩, fun x H2 y => ?_⟩
      obtain ⟨sm, t, et, rt⟩ := hJ.yld i _ H' x H2 hv S'.fh hlt y
      have S2 := S'.keep (.of sm) (S'.deck.same sm)
      have hd : l.drop i = t :: l.drop (i + 1) := by
        rw [List.getElem?_eq_getElem hlt] at et
        rw [List.drop_eq_getElem_cons hlt, Option.some.inj et]
      rw [hd] at P
      cases ea : a t (wipeE en vs) with
      | none =>
        unfold lcL at P
        rw [ea] at P
        exact P.elim
      | some en1 =>
        have P : Post W Ex F dk H1 (fun r d'' H'' => ∀ p xs, RepL W H'' F dk (ts ++ r) xs → xs.length ≤ sizeLine → H'' p = none → Q (.ref p) (upd H'' p (.lst xs))) (M.bind (fc en1).noX (fun b => match b with
            | true => (f en1).noX.bind fun y => (lcL a fc f (wipeE en vs) (l.drop (i + 1))).bind fun r => .pure (y :: r)
            | false => lcL a fc f (wipeE en vs) (l.drop (i + 1))) d') := by
          unfold lcL at P
          rw [ea] at P
          exact P
        refine ⟨dk, _, G, wipeE en vs, d', t, en1, S2, rt, ea, fun σ3 S3 on => ⟨wipe_only on hs, ?_⟩⟩
        refine ⟨dk, _, G, en1, d', S3, (Post.later (Post.noX (Ex' := E0) (Post.reF (Post.bind0 P))) (k'.trans (.of sm))).mono fun b d3 H3 k3 D3 P => ?_⟩
        have S2w := S2.keep k3 D3
        have k13 : Keep dk H1 H3 := (k'.trans (.of sm)).trans k3
        have rl3 : RepL W H3 (fun b => F b ∨ b = Dd) dk ts acc := S2.keepL k3 (S'.keepL (.of sm) rl)
        have hD3 : H3 Dd = some (.lst acc) := k3 _ _ (sm _ _ hDd) n1 n2
        cases b with
        | false =>
          refine iteF ?_
          exact ⟨hlt, acc, ts, d3, hD3, by omega, S2w, k13, rl3, P⟩
        | true =>
          refine iteT ?_
          have S33 := S3.keep k3 D3
          refine ⟨dk, _, G, en1, d3, S33, (Post.later (Post.noX (Ex' := E0) (Post.reF (Post.bind0 P))) k13).mono fun y d4 H4 k4 D4 P v rv => ?_⟩
          have hD4 : H4 Dd = some (.lst acc) := k4 _ _ hD3 n1 n2
          have S4w := S2w.keep k4 D4
          refine ⟨acc, hD4, by omega, hlt, acc ++ [v], ts ++ [y], d4, upd_same, by rw [List.length_append]; exact Nat.succ_le_succ hacc, S4w.mutH (.inr rfl) nG n1 n2, fun b o e q1 q2 => ?_, ?_, ?_⟩
          · rw [upd_ne (ne_of_none e hD)]
            exact k4 _ _ (k13 b o e q1 q2) q1 q2
          · refine RepL.mono (fun b o nf e => ⟨by rw [upd_ne (fun z => nf (.inr z))]; exact e, nf⟩) _ _ ((S2w.keepL k4 rl3).append (.cons rv .nil))
          · refine (Post.bind0 P).mono fun r d5 H5 k5 D5 h5 p xs rx hx hp => ?_
            rw [List.append_assoc] at rx
            exact h5 H5 k5 D5 p xs rx hx hp
    · have ei : i = l.length := by omega
      subst ei
      rw [List.drop_length] at P
      refine .inl ⟨hJ.stop _ H' hv, ?_⟩
      have nw : ∀ b o, b ≠ Dd → H' b = some o → without H' Dd b = some o := fun b o e h => by
        unfold without
        rw [if_neg e]
        exact h
      have hk : Keep dk H1 (without H' Dd) := fun b o e q1 q2 => nw b o (ne_of_none e hD) (k' b o e q1 q2)
      have hdk : DkAt W dk (without H' Dd) d' := by
        obtain ⟨z1, z2, z3⟩ := S'.deck
        exact ⟨z1, nw _ _ n2.symm z2, nw _ _ n1.symm z3⟩
      have := P (without H' Dd) hk hdk Dd acc (by
        rw [List.append_nil]
        exact RepL.mono (fun b o nf e => ⟨nw b o (fun z => nf (.inr z)) e, fun z => nf (.inl z)⟩) _ _ rl) (Nat.le_trans hacc hcap) (by unfold without; rw [if_pos rfl])
      rw [without_upd hDd] at this
      exact this
theorem tn_lc (hN : X.N.Nodup) (hi : PI X tg iter (tI W Ex fi)) (ok : BlkOk X.N X.env.scope scope own)
    (hg : ∀ (s : Shared) (H : Hp) (C : Addr) (cl : List (Str × Addr)) (fp : List Addr), PG (X.blk s H scope (compEnvC scope cl C X.env) fp) tg (tG W is a))
    (ht : ∀ (s : Shared) (H : Hp) (C : Addr) (cl : List (Str × Addr)) (fp : List Addr), PTs (X.blk s H scope (compEnvC scope cl C X.env) fp) ifs (tT W E0 fc))
    (he : ∀ (s : Shared) (H : Hp) (C : Addr) (cl : List (Str × Addr)) (fp : List Addr), PE (X.blk s H scope (compEnvC scope cl C X.env) fp) elt (tE W E0 f)) (his : ∀ j ∈ is, j ∈ own.map (·.2) := by decide) (hc : X.calm = true := by rfl)
    (hs : ∀ x, foldedSetIterable iter X.env x = pure x := by intro _; rfl) : PE X (.ListComp elt [⟨tg, iter, ifs, 0⟩] scope pos) (tN W Ex (xLc fi a (own.map (·.2)) fc f)) :=
  (pe_lc hc hN hi ok hg ht he hs).imp (lc_of his)
/-- name = [..], the name a local: kept (val), or one's own (own) -/
theorem ts_setLc {i : Nat} {y : Str} {py spos : Pos} (hN : X.N.Nodup) (hi : PI X tg iter (tI W Ex fi)) (ok : BlkOk X.N X.env.scope scope own)
    (hg : ∀ (s : Shared) (H : Hp) (C : Addr) (cl : List (Str × Addr)) (fp : List Addr), PG (X.blk s H scope (compEnvC scope cl C X.env) fp) tg (tG W is a))
    (ht : ∀ (s : Shared) (H : Hp) (C : Addr) (cl : List (Str × Addr)) (fp : List Addr), PTs (X.blk s H scope (compEnvC scope cl C X.env) fp) ifs (tT W E0 fc))
    (he : ∀ (s : Shared) (H : Hp) (C : Addr) (cl : List (Str × Addr)) (fp : List Addr), PE (X.blk s H scope (compEnvC scope cl C X.env) fp) elt (tE W E0 f)) (his : ∀ j ∈ is, j ∈ own.map (·.2) := by decide)
    (hy : X.N[i]? = some y := by rfl) (hyl : X.env.scope.names.lookup y = some .local := by rfl) (hsw : swapsWith (.ListComp elt [⟨tg, iter, ifs, 0⟩] scope pos) (some (.Name y py)) spos.line X.env = pure true := by exact sw_true rfl rfl rfl (by decide +kernel)) (hc : X.calm = true := by rfl)
    (hs : ∀ x, foldedSetIterable iter X.env x = pure x := by intro _; rfl) : PS X (.Assign [.Name y py] (.ListComp elt [⟨tg, iter, ifs, 0⟩] scope pos) spos) (tS W Ex (sAsg i (xToL (xLc fi a (own.map (·.2)) fc f)))) :=
  (ps_setLc hc hN hy hyl hsw hi ok hg ht he hs).imp fun D σ H ⟨dk, F0, H0, cp, en, d, ⟨F, G, R⟩, p⟩ => lc_of his _ _ _ (tE_of_tN _ _ _ (R.use p fun t d1 v H1 k1 R1 rv q => q _ _ ⟨F, G, R1.setVal rv⟩))
end
end TL
/-! TLh: defs and their calls. -/
namespace TL
open PySem PySem.Spec PyProof.Rows L2
/-- a def's promise, by a function on trees -/
def spT (W : Wd) (n : Nat) (Fm : List T → M T) : Sp := fun vs H Q E => ∃ (dk : Dk) (F : Addr → Prop) (ts : List T) (d : D), vs.length = n ∧ RepL W H F dk ts vs ∧ (∀ a, F a → H a ≠ none) ∧ F dk.1 ∧ F dk.2 ∧ DkAt W dk H d ∧
  Post W E F dk H (fun t d' H' => ∀ v, Rep W H' F dk t v → Q v H') (Fm ts d)
/-- the def at f does what Fm says, called where no repr runs -/
structure FnT (W : Wd) (P : Program) (w : World) (mg : Str → Option Value) (base : Heap) (CX : CXT) (k : Nat) (f : Addr) (fd : FuncData) (ps : List Str) (Fm : List T → M T) : Prop where
  run : ∀ (A : Around) (outer : List Env) (s : Shared) (H : Hp) (args : Args) (us : List Value) (vs : List V) (Q : VK) (E : XK), A.guards = some [] → Room k A → Env0 P w W.K mg base A outer s H → BindsTo s fd args (ps.zip us) → Vals vs us →
    spT W ps.length Fm vs H Q E → codeAny (model P w) A (.call (.ref f) args) (CR CX outer P w H s Q E) s
theorem FnT.mono {W : Wd} {P : Program} {w : World} {mg : Str → Option Value} {base : Heap} {CX : CXT} {j k : Nat} {f : Addr} {fd : FuncData} {ps : List Str} {Fm : List T → M T} (h : FnT W P w mg base CX j f fd ps Fm) (hk : j ≤ k) : FnT W P w mg base CX k f fd ps Fm :=
  ⟨fun A outer s H args us vs Q E hg hr => h.run A outer s H args us vs Q E hg (hr.mono hk)⟩
def startE (n : Nat) (ts : List T) : En := ts.map Sl.val ++ List.replicate (n - ts.length) .no
def retM : Fl × En → M T
  | (.ret t, _) => .pure t
  | (.nx, _) => .pure .non
  | _ => .bad
def fnM (n : Nat) (g : En → MS) : List T → M T := fun ts => (g (startE n ts)).noX.bind retM
section
variable {W : Wd} {dk : Dk} {F : Addr → Prop} {H : Hp} {d : D}
theorem SR.start {n : Nat} {N : List Str} {ts : List T} {vs : List V} (hN : N.length = n) (r : RepL W H F dk ts vs) (fh : ∀ a, F a → H a ≠ none) (f1 : F dk.1) (f2 : F dk.2) (hd : DkAt W dk H d) : SR W dk F (fun _ _ => False) (start N vs) H (startE n ts) d := by
  have hl := r.length
  refine ⟨?_, fun i t e => ?_, fun i o e => ?_, fun _ _ _ z => z.elim, fun _ _ z => z.elim, fun _ _ z => z.elim, fh, f1, f2, hd⟩
  · unfold L2.start startE
    rw [List.length_append, List.length_append, List.length_map, List.length_map, List.length_replicate, List.length_replicate, hl, hN]
  · unfold startE at e
    by_cases h : i < ts.length
    · rw [List.getElem?_append_left (by simpa using h), List.getElem?_map] at e
      cases q : ts[i]? with
      | none =>
        rw [q] at e
        cases e
      | some u =>
        rw [q] at e
        cases e
        obtain ⟨v, hv, rv⟩ := r.get q
        refine ⟨v, ?_, rv⟩
        unfold L2.start
        rw [List.getElem?_append_left (by rw [List.length_map, hl]; exact h), List.getElem?_map, hv]
        rfl
    · rw [List.getElem?_append_right (by simpa using h), List.getElem?_replicate] at e
      split at e <;> cases e
  all_goals
    unfold startE at e
    by_cases h : i < ts.length
    · rw [List.getElem?_append_left (by simpa using h), List.getElem?_map] at e
      cases q : ts[i]? with
      | none =>
        rw [q] at e
        cases e
      | some u =>
        rw [q] at e
        cases e
    · rw [List.getElem?_append_right (by simpa using h), List.getElem?_replicate] at e
      split at e <;> cases e
end
section
variable {W : Wd} {P : Program} {w : World} {mg : Str → Option Value} {base : Heap}
/-- any promise of a def, by its body, called where no repr runs; nothing is raised -/
theorem fg_of {x qual : Str} {st : Stmt} {f : Addr} {fd : FuncData} {N ps : List Str} {k : Nat} {CX : CXT} {sp : Sp} {K : PySem.W.Frag} (Fd : Fun K x qual st f fd) (S : FnScope N ps (defScope st)) (hlen : ∀ vs H Q E, sp vs H Q E → vs.length = ps.length)
    (hbody : ∀ (cdv : Value) (A : Around) (outer : List Env) (s : Shared) (H : Hp) (vs : List V) (Q : VK) (E : XK), A.guards = some [] → Room k (A.deeper (envOfC qual (defScope st) s.heap.objs.size f cdv)) → sp vs H Q E →
      ∃ t, PSs (cxOf CX P w K mg base N qual (defScope st) f cdv A outer s H E).nox (defBody st) t ∧ t { nx := fun _ H' => Q .non H', rt := Q } (start N vs) H)
    (A : Around) (outer : List Env) (s : Shared) (H : Hp) (args : Args) (us : List Value) (vs : List V) (Q : VK) (E : XK) (hg : A.guards = some []) (hr : Room (k + 1) A) (env : Env0 P w K mg base A outer s H) (hb : BindsTo s fd args (ps.zip us)) (rv : Vals vs us)
    (hsp : sp vs H Q E) : codeAny (model P w) A (.call (.ref f) args) (CR CX outer P w H s Q E) s := by
  obtain ⟨oc, od, kV, doc, pm, an, cdv, ct, osl, rfl, look, hcode⟩ := Fd.ex
  have kin : K.In s.heap := env.mod.kin.keeps fun b o e => (env.bs b o e).1
  have noLim : s.heap.NoLimit := env.mod.nolimit.keeps fun b o e => (env.bs b o e).1
  refine codeAny_call_function hr.depth (kin _ _ look) rfl S.co S.gen rfl (PySem.W.codeRec_of kin hcode) (hb _ _ _ _ ?_)
  refine wpAny_newFunctionEnv_cells S.kind (fun y hy => ?_) fun fe he s1 ic => ?_
  · obtain ⟨nm, v⟩ := y
    rcases S.par nm (List.of_mem_zip hy).1 with z | z
    · exact .inl z
    · exact .inr ⟨z, PySem.W.cellsFrom_some _ _ _ (.inl z)⟩
  subst he
  refine ⟨noLim.keeps ic.toInCall.keep, codeAny_func ?_⟩
  obtain ⟨t, body, run0⟩ := hbody cdv A outer s H vs Q E hg (hr.deeper _) hsp
  have I := inv_start (CX := CX) (E := E) S hr.hd env (hlen _ _ _ _ hsp) rv ic
  refine wpAny_mono (body.nox.run [] s1 (start N vs) H _ I run0) (fun fl s' hs => ?_) fun _ _ z => z
  cases fl with
  | ret u =>
    obtain ⟨v, σ', H', J, r', q⟩ := hs
    exact ⟨v, H', J.os, J.bare, J.base, J.hok, r', q⟩
  | next =>
    obtain ⟨σ', H', J, q⟩ := hs
    exact ⟨.non, H', J.os, J.bare, J.base, J.hok, rfl, q⟩
  | brk =>
    obtain ⟨_, _, _, q⟩ := hs
    exact q.elim
  | cont =>
    obtain ⟨_, _, _, q⟩ := hs
    exact q.elim
theorem spT_len {n : Nat} {Fm : List T → M T} : ∀ vs H Q E, spT W n Fm vs H Q E → vs.length = n := fun _ _ _ _ ⟨_, _, _, _, h, _⟩ => h
/-- .. by a function on trees -/
theorem ft_raw {x qual : Str} {st : Stmt} {f : Addr} {fd : FuncData} {N ps : List Str} {k : Nat} {CX : CXT} {Fm : List T → M T} (Fd : Fun W.K x qual st f fd) (S : FnScope N ps (defScope st))
    (hbody : ∀ (cdv : Value) (A : Around) (outer : List Env) (s : Shared) (H : Hp) (vs : List V) (Q : VK) (E : XK), A.guards = some [] → Room k (A.deeper (envOfC qual (defScope st) s.heap.objs.size f cdv)) → spT W ps.length Fm vs H Q E →
      ∃ t, PSs (cxOf CX P w W.K mg base N qual (defScope st) f cdv A outer s H E).nox (defBody st) t ∧ t { nx := fun _ H' => Q .non H', rt := Q } (start N vs) H) : FnT W P w mg base CX (k + 1) f fd ps Fm :=
  ⟨fun A outer s H args us vs Q E hg hr env hb rv hsp => fg_of Fd S spT_len hbody A outer s H args us vs Q E hg hr env hb rv hsp⟩
/-- the body's run, from the entry -/
theorem run_start {n : Nat} {N : List Str} {g : En → MS} {ts : List T} {vs : List V} {H : Hp} {F : Addr → Prop} {dk : Dk} {d : D} {E : XK} {Q : VK} (hN : N.length = n) (rl : RepL W H F dk ts vs) (fh : ∀ a, F a → H a ≠ none) (f1 : F dk.1) (f2 : F dk.2) (hd : DkAt W dk H d)
    (P0 : Post W E F dk H (fun t d' H' => ∀ v, Rep W H' F dk t v → Q v H') (fnM n g ts d)) : tS W E0 g { nx := fun _ H' => Q .non H', rt := Q } (start N vs) H := by
  refine ⟨dk, F, H, [], startE n ts, d, ⟨F, _, SR.start hN rl fh f1 f2 hd, fun _ z => z, fun _ _ z => z.elim, .refl _ _, (fun c hc => nomatch hc), fh⟩, ?_⟩
  have P1 := Post.bind0 P0
  unfold M.noX at P1
  cases e : g (startE n ts) d with
  | bad =>
    rw [e] at P1
    exact P1.elim
  | exc xx d1 =>
    rw [e] at P1
    exact P1.elim
  | ok r d1 =>
    rw [e] at P1
    obtain ⟨fl, en1⟩ := r
    cases fl with
    | nx =>
      intro σ1 H1 R1
      obtain ⟨F1, G1, R1⟩ := R1
      exact P1 H1 R1.kp R1.s.deck H1 R1.kp R1.s.deck .non (by simp only [Rep])
    | ret t => exact fun v H1 k1 D1 rt => P1 H1 k1 D1 H1 k1 D1 v rt
    | brk =>
      intro σ1 H1 R1
      obtain ⟨F1, G1, R1⟩ := R1
      exact (P1 H1 R1.kp R1.s.deck).elim
    | ct =>
      intro σ1 H1 R1
      obtain ⟨F1, G1, R1⟩ := R1
      exact (P1 H1 R1.kp R1.s.deck).elim
/-- a def by its body's function -/
theorem ft_of {x qual : Str} {st : Stmt} {f : Addr} {fd : FuncData} {N ps : List Str} {k n : Nat} {g : En → MS} {CX : CXT} (Fd : Fun W.K x qual st f fd) (S : FnScope N ps (defScope st)) (hn : N.length = n)
    (hbody : ∀ (cdv : Value) (A : Around) (outer : List Env) (s : Shared) (H : Hp) (E : XK), A.guards = some [] → Room k (A.deeper (envOfC qual (defScope st) s.heap.objs.size f cdv)) →
      PSs (cxOf CX P w W.K mg base N qual (defScope st) f cdv A outer s H E).nox (defBody st) (tS W E0 g)) : FnT W P w mg base CX (k + 1) f fd ps (fnM n g) :=
  ft_raw Fd S fun cdv A outer s H vs Q E hg hr hsp => by
    obtain ⟨dk, F, ts, d, hlen, rl, fh, f1, f2, hd, P0⟩ := hsp
    exact ⟨_, hbody cdv A outer s H E hg hr, run_start hn rl fh f1 f2 hd P0⟩
end
/-! ### calls -/
def xFn (Fm : List T → M T) (fl : En → M (List T)) : En → M T := fun en => (fl en).bind Fm
def perm {α : Type} (is : List Nat) (l : List α) : List α := is.filterMap fun i => l[i]?
theorem perm_vals {is : List Nat} {vs : List V} {us : List Value} (r : Vals vs us) : Vals (perm is vs) (perm is us) := by
  induction is with
  | nil => exact .nil
  | cons i is ih =>
    unfold perm at ih ⊢
    rw [List.filterMap_cons, List.filterMap_cons]
    cases e : vs[i]? with
    | none =>
      rw [r.none_of e]
      exact ih
    | some v =>
      obtain ⟨u, hu, ru⟩ := r.get e
      rw [hu]
      exact .cons ru ih
theorem perm_rep {W : Wd} {H : Hp} {F : Addr → Prop} {dk : Dk} {is : List Nat} {ts : List T} {vs : List V} (r : RepL W H F dk ts vs) : RepL W H F dk (perm is ts) (perm is vs) := by
  induction is with
  | nil => exact .nil
  | cons i is ih =>
    unfold perm at ih ⊢
    rw [List.filterMap_cons, List.filterMap_cons]
    cases e : ts[i]? with
    | none =>
      have : vs[i]? = none := by
        rw [List.getElem?_eq_none_iff] at e ⊢
        rw [r.length]
        exact e
      rw [this]
      exact ih
    | some t =>
      obtain ⟨v, hv, rv⟩ := r.get e
      rw [hv]
      exact .cons rv ih
section
variable {W : Wd} {Ex : XK} {X : Cx} {CX : CXT} {k : Nat} {f : Addr} {fd : FuncData} {ps ks : List Str} {Fm : List T → M T} {x : Str} {p pos kpos : Pos} {e : Expr} {es : List Expr} {fe : En → M T} {fl gl : En → M (List T)} {kws : List Keyword} {nm : Option Str} {is : List Nat}
theorem spT_of {dk : Dk} {F : Addr → Prop} {G : Nat → Addr → Prop} {σ : L2.St} {H : Hp} {en : En} {d : D} {ts : List T} {vs : List V} {Q : VK} {n : Nat} (S : SR W dk F G σ H en d) (r : RepL W H F dk ts vs) (hn : vs.length = n) (h : Post W Ex F dk H (fun t d' H' => ∀ v, Rep W H' F dk t v → Q v H') (Fm ts d)) :
    spT W n Fm vs H Q Ex := ⟨dk, F, ts, d, hn, r, S.fh, S.fd1, S.fd2, S.deck, h⟩
theorem run_ft {pins : List (Addr × Obj)} {σ : L2.St} {H : Hp} {s : Shared} {Q : VK} {us : List Value} {kw : List (Str × Value)} {bs : List Value} {ws : List V} (hF : FnT W X.prog X.w X.mg X.base CX k f fd ps Fm) (hK : W.K = X.K) (hgd : X.A.guards = some []) (hr : Room k X.A) (hx : Passes CX X Ex)
    (I : L2.Inv X pins σ H s) (hb : BindsTo s fd ⟨us, kw⟩ (ps.zip bs)) (r : Vals ws bs) (h : spT W ps.length Fm ws H Q Ex) : wpAny (model X.prog X.w) X.A (call (.ref f) us kw) (EP X pins σ Q) X.xe s := by
  have e0 : Env0 X.prog X.w W.K X.mg X.base X.A X.stack s H := by
    rw [hK]
    exact I.env0
  refine wpAny_call (codeAny_mono (hF.run X.A X.stack s H ⟨us, kw⟩ bs ws Q Ex hgd hr e0 hb r h) fun o s' hq => ?_)
  cases o with
  | error er => exact hx pins σ H s er s' I hq
  | ok fl =>
    cases fl with
    | ret u => exact I.after hq
    | next => exact False.elim hq
    | brk => exact False.elim hq
    | cont => exact False.elim hq
/-- f(e, ..) -/
theorem te_call (hF : FnT W X.prog X.w X.mg X.base CX k f fd ps Fm) (hK : W.K = X.K) (hgd : X.A.guards = some []) (hr : Room k X.A) (hg : Gl X x) (hm : X.mg x = some (.ref f)) (hk : PySem.W.keepIn X.K (.ref f) = true) (hb : Binds X.K fd ps []) (hx : Passes CX X Ex)
    (ha : PA X (e :: es) (tA W Ex fl)) (hlen : (e :: es).length = ps.length := by rfl) (hfl : ∀ en d l d', fl en d = .ok l d' → l.length = ps.length) (hdb : (x == ("__debug__" : Str)) = false := by decide) (he : starEach (e :: es) X.env = (false, eval e X.env) :: starEach es X.env := by rfl) (hpl : (backTo pos (starEach es X.env)).any (·.1) = false := by rfl) :
    PE X (.Call (.Name x p) (e :: es) [] pos) (tE W Ex (xFn Fm fl)) := by
  constructor
  intro pins s σ H Q I h
  obtain ⟨dk, F, G, en, d, S, h⟩ := h
  refine wpAny_Call_Name_kw (ld_glob I hg hm ?_ hdb)
  refine PySem.W.callWith_K (h₀ := X.base) I.ok.mod.kin hk (thn (ha.run pos pins s σ H (fun vs H1 => spT W ps.length Fm vs H1 Q Ex) I ⟨dk, F, G, en, d, S, ?_⟩) fun us s1 ⟨vs, H1, I1, r, q⟩ => ⟨I1.kIn, ?_⟩) he hpl
  · have P1 := Post.bind h
    cases q : fl en d with
    | bad =>
      rw [q] at P1
      exact P1.elim
    | exc xx d1 =>
      rw [q] at P1
      exact P1
    | ok l d1 =>
      rw [q] at P1
      exact fun H1 k1 D1 xs rl => spT_of (S.keep k1 D1) rl (by rw [rl.length]; exact hfl _ _ _ _ q) (P1 H1 k1 D1)
  · have hl : vs.length = ps.length := by
      obtain ⟨_, _, _, _, hl, _⟩ := q
      exact hl
    have b := hb s1 us I1.kIn (by rw [List.append_nil, ← r.length]; exact hl)
    rw [List.append_nil] at b
    exact run_ft hF hK hgd hr hx I1 b r q
theorem tk_nil : PK X [] (tA W Ex xNil) := ⟨fun pos pins s σ H Q I h => pk_nil.run pos pins s σ H Q I (by
  obtain ⟨dk, F, G, en, d, S, h⟩ := h
  exact h H (.refl _ _) S.deck [] .nil)⟩
theorem tk_cons (ha : PE X e (tE W Ex fe)) (hr : PK X kws (tA W Ex gl)) : PK X (⟨nm, e, kpos⟩ :: kws) (tA W Ex (xCons fe gl)) := ⟨fun pos pins s σ H Q I h => (pk_cons ha hr).run pos pins s σ H Q I (by
  obtain ⟨dk, F, G, en, d, S, h⟩ := h
  refine ⟨dk, F, G, en, d, S, (Post.bind h).mono fun t d1 H1 k1 D1 h1 v rv => ?_⟩
  have S1 := S.keep k1 D1
  refine ⟨dk, F, G, en, d1, S1, (Post.bind h1).mono fun l d2 H2 k2 D2 h2 xs rl => ?_⟩
  exact h2 H2 (.refl _ _) D2 _ (.cons (S1.keepR k2 rv) rl))⟩
/-- f(k = v, ..): is puts the values in the parameters' order -/
theorem te_callK (hF : FnT W X.prog X.w X.mg X.base CX k f fd ps Fm) (hK : W.K = X.K) (hgd : X.A.guards = some []) (hr : Room k X.A) (hg : Gl X x) (hm : X.mg x = some (.ref f)) (hk : PySem.W.keepIn X.K (.ref f) = true)
    (hb : ∀ (s : Shared) (ws : List Value), ws.length = ks.length → BindsTo s fd ⟨[], ks.zip ws⟩ (ps.zip (perm is ws))) (hx : Passes CX X Ex)
    (ha : PK X kws (tA W Ex fl)) (hfl : ∀ en d l d', fl en d = .ok l d' → l.length = ks.length) (hpm : ∀ {α : Type} (l : List α), l.length = ks.length → (perm is l).length = ps.length)
    (hall : (backToKw pos (keywordEach kws X.env)).all (·.1.isSome) = true := by rfl) (hks : (backToKw pos (keywordEach kws X.env)).filterMap (·.1) = ks := by rfl)
    (hpl : (backToKw pos (keywordEach kws X.env)).any (·.1.isNone) = false := by rfl) (hdb : (x == ("__debug__" : Str)) = false := by decide) :
    PE X (.Call (.Name x p) [] kws pos) (tE W Ex (xFn (fun l => Fm (perm is l)) fl)) := by
  constructor
  intro pins s σ H Q I h
  obtain ⟨dk, F, G, en, d, S, h⟩ := h
  refine wpAny_Call_Name_kw (ld_glob I hg hm ?_ hdb)
  refine PySem.W.callWith_KW0 (h₀ := X.base) I.ok.mod.kin hk hall (thn (ha.run pos pins s σ H (fun vs H1 => vs.length = ks.length ∧ spT W ps.length Fm (perm is vs) H1 Q Ex) I ⟨dk, F, G, en, d, S, ?_⟩) fun us s1 ⟨vs, H1, I1, r, q⟩ => ⟨I1.kIn, ?_⟩) hpl
  · have P1 := Post.bind h
    cases q : fl en d with
    | bad =>
      rw [q] at P1
      exact P1.elim
    | exc xx d1 =>
      rw [q] at P1
      exact P1
    | ok l d1 =>
      rw [q] at P1
      intro H1 k1 D1 xs rl
      have hl : xs.length = ks.length := by rw [rl.length]; exact hfl _ _ _ _ q
      exact ⟨hl, spT_of (S.keep k1 D1) (perm_rep rl) (hpm xs hl) (P1 H1 k1 D1)⟩
  · rw [hks]
    exact run_ft hF hK hgd hr hx I1 (hb s1 us (by rw [← r.length]; exact q.1)) (perm_vals r) q.2
end
end TL
/-! TLi: range, enumerate; isinstance, join; two targets. -/
namespace TL
open PySem PySem.Spec PyProof.Rows L2
/-! ### range -/
def upI (lo : Int) (n : Nat) : List T := (List.range n).map fun (k : Nat) => .int (lo + (k : Int))
def rng1 : List T → Option (List T)
  | [.int j] => if -(2 ^ 62) ≤ j ∧ j < 2 ^ 62 then some (upI 0 j.toNat) else none
  | _ => none
def rng2 : List T → Option (List T)
  | [.int i, .int j] => if -(2 ^ 62) ≤ i ∧ i < 2 ^ 62 ∧ -(2 ^ 62) ≤ j ∧ j < 2 ^ 62 then some (upI i (j - i).toNat) else none
  | _ => none
def xIt (op : List T → Option (List T)) (fl : En → M (List T)) : En → M (List T) := fun en => (fl en).bind fun l => .opt (op l)
section
variable {W : Wd} {Ex : XK} {X : Cx} {tg e a b : Expr} {es : List Expr} {f : En → M T} {fl : En → M (List T)} {dk : Dk} {H : Hp} {F : Addr → Prop} {p pos : Pos}
theorem upI_get {lo : Int} {n i : Nat} (h : i < n) : (upI lo n)[i]? = some (.int (lo + (i : Int))) := by
  unfold upI
  rw [List.getElem?_map, List.getElem?_range h]
  rfl
theorem itOk_rng {lo : Int} {n : Nat} : ItOk W dk (H, F) (Itr lo n) (upI lo n) where
  go := fun i F' H' v hi => by
    have h : i < n := by simpa [upI] using hi
    exact h
  stop := fun F' H' v => by
    show n ≤ (upI lo n).length
    simp [upI]
  yld := fun i F' H' x H'' v _ hi y => by
    obtain ⟨rfl, rfl⟩ := y
    have h : i < n := by simpa [upI] using hi
    exact ⟨.refl _, _, upI_get h, rep_int⟩
theorem ti_rng1 (hg : Gl X "range") (hm : X.mg "range" = none) (ha : PA X [a] (tA W Ex fl)) (hs : starEach [a] X.env = [(false, eval a X.env)] := by rfl) : PI X tg (.Call (.Name "range" p) [a] [] pos) (tI W Ex (xIt rng1 fl)) :=
  (pi_range1 hg hm ha hs).imp fun σ H R ⟨dk, F, G, en, d, S, h⟩ => by
    refine ⟨dk, F, G, en, d, S, (Post.bind h).mono fun l d1 H1 k1 D1 h1 xs rl => ?_⟩
    obtain ⟨z, e, q⟩ := Post.opt_some h1
    unfold rng1 at e
    split at e
    · split at e
      · rename_i hb
        cases e
        obtain ⟨x, rfl, rx⟩ := rl.one_inv
        simp only [Rep] at rx
        exact ⟨_, by rw [rx], hb.1, hb.2, q H1 (.refl _ _) D1 _ itOk_rng⟩
      · cases e
    · cases e
theorem ti_rng2 (hg : Gl X "range") (hm : X.mg "range" = none) (ha : PA X [a, b] (tA W Ex fl)) (hs : starEach [a, b] X.env = [(false, eval a X.env), (false, eval b X.env)] := by rfl) (hs2 : starEach [b] X.env = [(false, eval b X.env)] := by rfl) : PI X tg (.Call (.Name "range" p) [a, b] [] pos) (tI W Ex (xIt rng2 fl)) :=
  (pi_range2 hg hm ha hs hs2).imp fun σ H R ⟨dk, F, G, en, d, S, h⟩ => by
    refine ⟨dk, F, G, en, d, S, (Post.bind h).mono fun l d1 H1 k1 D1 h1 xs rl => ?_⟩
    obtain ⟨z, e, q⟩ := Post.opt_some h1
    unfold rng2 at e
    split at e
    · split at e
      · rename_i hb
        cases e
        obtain ⟨x, y, rfl, rx, ry⟩ := rl.two_inv
        simp only [Rep] at rx ry
        exact ⟨_, _, by rw [rx, ry], hb, q H1 (.refl _ _) D1 _ itOk_rng⟩
      · cases e
    · cases e
end
/-! ### enumerate -/
def seqO (tp : Bool) (xs : List V) : HO := if tp = true then .tup xs else .lst xs
def IterAt (tp : Bool) (h : Heap) (it a : Addr) (i : Nat) : Prop := if tp = true then h.IsTupleIter it a i else h.IsListIter it a i
def SrcAt (tp : Bool) (h : Heap) (a : Addr) (items : Array Value) : Prop := if tp = true then h.IsTuple a items else h.IsList a items
def IteC (tp : Bool) (c : Int) (a : Addr) : It :=
  ⟨fun i H => ∃ xs x, H a = some (seqO tp xs) ∧ xs[i]? = some x, fun i H v H' => ∃ q x, v = .ref q ∧ H q = none ∧ H' = upd H q (.tup [.int (c + (i : Nat)), x]) ∧ ∀ xs, H a = some (seqO tp xs) → xs[i]? = some x, fun i H => ∃ xs, H a = some (seqO tp xs) ∧ xs.length = i⟩
section
variable {P : Program} {w : World}
theorem srcDraws (tp : Bool) {A : Around} (hh : A.handled = none) (it a : Addr) (hne : a ≠ it) (items : Array Value) : Draws P w A it [it, a] items.size (fun i v => items[i]? = some v) (fun i h => IterAt tp h it a i ∧ SrcAt tp h a items) := by
  cases tp
  · exact Draws.list hh it a hne items
  · exact Draws.tuple hh it a hne items
theorem iterAt_obj {tp : Bool} {h : Heap} {it a : Addr} {i : Nat} (st : IterAt tp h it a i) : ∃ o, h.get? it = some o ∧ ∀ v, o.data ≠ .cell v := by
  cases tp <;> (obtain ⟨o, ho, hc, hd⟩ := st; exact ⟨o, ho, fun v q => by rw [hd] at q; cases q⟩)
theorem iterAt_keep {tp : Bool} {h h' : Heap} {it a : Addr} {i : Nat} (st : IterAt tp h it a i) (k : ∀ o, h.get? it = some o → h'.get? it = some o) : IterAt tp h' it a i := by
  cases tp
  · exact Heap.IsListIter.at (h := h) st k
  · exact Heap.IsTupleIter.at (h := h) st k
theorem srcAt_of {X : Cx} {pins : List (Addr × Obj)} {σ : L2.St} {H : Hp} {s : Shared} {tp : Bool} {a : Addr} {xs : List V} (I : L2.Inv X pins σ H s) (h : H a = some (seqO tp xs)) : ∃ its : List Value, Vals xs its ∧ SrcAt tp s.heap a its.toArray := by
  cases tp
  · obtain ⟨its, r, q, _⟩ := I.list (.of h)
    exact ⟨its, r, q.isList⟩
  · obtain ⟨its, r, q, _⟩ := I.tuple (.of h)
    obtain ⟨o, ho, hc, n, hd⟩ := q
    exact ⟨its, r, ⟨o, ho, hc, n, hd⟩⟩
theorem seqO_inj {tp : Bool} {xs ys : List V} (h : seqO tp xs = seqO tp ys) : xs = ys := by
  cases tp <;> (injection h)
theorem turn_enumC {K : PySem.W.Frag} {elts : List Expr} {kk : Nat} {tpos : Pos} (tp : Bool) (c : Int) (a e it : Addr) (hai : a ≠ it) (hei : e ≠ it) :
    Turn P w K (.Tuple elts kk tpos) (IteC tp c a) [e, it] e (fun i h => (∃ old, IsEnum h e it (c + (i : Int)) old) ∧ IterAt tp h it a i) where
  mem := List.mem_cons_self
  obj := fun i h st b hb => by
    obtain ⟨⟨old, he⟩, hi⟩ := st
    rcases List.mem_cons.mp hb with rfl | hb
    · exact ⟨_, he, fun v q => nomatch q⟩
    · rw [List.mem_singleton.mp hb]
      exact iterAt_obj hi
  keep := fun i h h' st k => by
    obtain ⟨⟨old, he⟩, hi⟩ := st
    exact ⟨⟨old, k e List.mem_cons_self _ he⟩, iterAt_keep hi fun o q => k it (List.mem_cons_of_mem _ List.mem_cons_self) o q⟩
  item := by
    intro X hP hw hK hc i pins s σ H E I hf st hg
    subst hP hw hK
    obtain ⟨⟨old, he⟩, hit⟩ := st
    obtain ⟨xs, x, hq, hx⟩ := hg
    obtain ⟨its, rv, src⟩ := srcAt_of I hq
    obtain ⟨u, hu, ru⟩ := rv.get hx
    have hin : i < its.toArray.size := by
      have := (List.getElem?_eq_some_iff.mp hu).1
      simpa using this
    have e0 : H e = none := (hf e List.mem_cons_self).1
    have hea : e ≠ a := fun z => by
      rw [z, hq] at e0
      cases e0
    have hel : e < s.heap.objs.size := Heap.lt_size he
    obtain ⟨oi, hoi, _⟩ := iterAt_obj hit
    have hil : it < s.heap.objs.size := Heap.lt_size hoi
    refine wpAny_pyNext_enum_itemC (srcDraws tp (A := X.A.in1) (I.ok.hd hc) it a hai its.toArray) he ⟨hit, src⟩ hin hei (by simp [hei, hea]) fun y h' tk hy ho hst hT hsz hk => ?_
    have ey : y = u := by
      rw [List.getElem?_toArray, hu] at hy
      exact (Option.some.inj hy).symm
    subst ey
    refine ⟨_, rfl, wpAny_letOwnedTupleGo_enum (s := { s with heap := h', toks := tk + 1 }) ho fun h2 he2 sb => ?_⟩
    have hT2 : h2.get? s.heap.objs.size = some { cls := .type "tuple", data := .seq #[.int (c + (i : Int)) tk, y] } := (sb.2 _ (Nat.ne_of_gt hel)).trans hT
    have new : ObjOk X.prog X.w (upd H s.heap.objs.size (.tup [.int (c + (i : Nat)), x])) h2 s.heap.objs.size (.tup [.int (c + (i : Nat)), x]) :=
      ⟨by show 2 ≤ sizeLine; decide, [.int (c + (i : Int)) tk, y], .cons ⟨_, rfl⟩ (.cons ru .nil), ⟨_, hT2, rfl, _, rfl⟩⟩
    have I1 := I.turnedNew (t' := tk + 1) (ch := [e, it]) (fun b ob hb q => (sb.2 b (fun z => hb (by simp [z]))).trans (hk b ob (fun z => hb (by simp [z])) (fun z => hb (by simp [z])) q)) hf (Nat.le_refl _) new
    refine ⟨.ref s.heap.objs.size, _, I1, rfl, ⟨_, x, rfl, I.hok.fresh (Nat.le_refl _), rfl, fun ys hy => ?_⟩, ⟨⟨y, ?_⟩, iterAt_keep hst.1 fun o q => (sb.2 it (Ne.symm hei)).trans q⟩, fun b hb => ?_⟩
    · rw [hq] at hy
      rw [← seqO_inj (Option.some.inj hy)]
      exact hx
    · have e1 : c + ((i + 1 : Nat) : Int) = c + (i : Int) + 1 := by omega
      rw [e1]
      exact he2
    · have hb' : b < s.heap.objs.size := by
        rcases List.mem_cons.mp hb with rfl | hb
        · exact hel
        · rw [List.mem_singleton.mp hb]
          exact hil
      rw [upd_ne (Nat.ne_of_lt hb')]
      exact (hf b hb).1
  done := by
    intro X hP hw hK hc i pins s σ H E I hf st hg
    subst hP hw hK
    obtain ⟨⟨old, he⟩, hit⟩ := st
    obtain ⟨xs, hq, hx⟩ := hg
    obtain ⟨its, rv, src⟩ := srcAt_of I hq
    obtain ⟨f0, f1, f2, f3, f4, f5⟩ := hf it (List.mem_cons_of_mem _ List.mem_cons_self)
    have hn : its.toArray.size = i := by
      rw [List.size_toArray, ← rv.length]
      exact hx
    subst hn
    exact wpAny_pyNext_enum_endD (srcDraws tp (A := X.A.in1) (I.ok.hd hc) it a hai its.toArray) he ⟨hit, src⟩ fun h' eb => ⟨rfl, I.turned (t' := s.toks) (fun b o hb q => eb b o hb q) f0 f1 f3 f4 f5⟩
  self := fun A i s Q E st h => by
    obtain ⟨⟨_, he⟩, _⟩ := st
    exact wpAny_pyIter_enum he h
end
/-- the items of enumerate: new pairs -/
def enumL (c : Int) : List T → List T
  | [] => []
  | t :: l => .tup [.int c, t] :: enumL (c + 1) l
theorem enumL_length : ∀ (l : List T) (c : Int), (enumL c l).length = l.length
  | [], _ => rfl
  | t :: l, c => congrArg Nat.succ (enumL_length l (c + 1))
theorem enumL_get : ∀ (l : List T) (c : Int) (i : Nat), (enumL c l)[i]? = (l[i]?).map fun t => T.tup [.int (c + (i : Int)), t]
  | [], _, _ => rfl
  | t :: l, c, 0 => by
    show some (T.tup [.int c, t]) = some (T.tup [.int (c + ((0 : Nat) : Int)), t])
    rw [show c + ((0 : Nat) : Int) = c by omega]
  | t :: l, c, i + 1 => by
    show (enumL (c + 1) l)[i]? = _
    rw [enumL_get l (c + 1) i, show c + 1 + (i : Int) = c + ((i + 1 : Nat) : Int) by omega]
    rfl
section
variable {W : Wd} {Ex : XK} {X : Cx} {e b : Expr} {es elts : List Expr} {f : En → M T} {fl gl : En → M (List T)} {dk : Dk} {H : Hp} {F : Addr → Prop} {p pos tpos : Pos} {kk : Nat} {kws : List Keyword}
theorem itOk_enum {tp : Bool} {c : Int} {a : Addr} {xs : List V} {l : List T} (nf : ¬ F a) (h : H a = some (seqO tp xs)) (r : RepL W H F dk l xs) : ItOk W dk (H, F) (IteC tp c a) (enumL c l) where
  go := fun i F' H' v hi => by
    rw [enumL_length] at hi
    obtain ⟨x, hx, _⟩ := r.get (List.getElem?_eq_getElem hi)
    exact ⟨xs, x, (v a _ h nf).1, hx⟩
  stop := fun F' H' v => ⟨xs, (v a _ h nf).1, by rw [enumL_length]; exact r.length⟩
  yld := fun i F' H' x H'' v fh hi y => by
    rw [enumL_length] at hi
    obtain ⟨q, z, rfl, hq, rfl, hz⟩ := y
    have e := hz xs (v a _ h nf).1
    obtain ⟨x', hx, rx⟩ := (v.repL r).get (List.getElem?_eq_getElem hi)
    rw [hx] at e
    cases e
    refine ⟨upd_same' hq, _, by rw [enumL_get, List.getElem?_eq_getElem hi]; rfl, ?_⟩
    exact rep_tup (fun p hp z => fh p z hp) hq (.cons rep_int (.cons rx .nil))
/-- the source of enumerate -/
def enuS : T → Option (Bool × List T)
  | .lst l => some (false, l)
  | .tup l => some (true, l)
  | _ => none
theorem enuS_rep {t : T} {v : V} {tp : Bool} {l : List T} (r : Rep W H F dk t v) (e : enuS t = some (tp, l)) : ∃ a xs, v = .ref a ∧ ¬ F a ∧ H a = some (seqO tp xs) ∧ RepL W H F dk l xs := by
  cases t <;> simp only [enuS, reduceCtorEq, Option.some.injEq, Prod.mk.injEq] at e
  · obtain ⟨rfl, rfl⟩ := e
    simp only [Rep] at r
    exact r
  · obtain ⟨rfl, rfl⟩ := e
    simp only [Rep] at r
    exact r
theorem srcBegins {tp : Bool} {a : Addr} {items : Array Value} : ∃ o, Begins (.ref a) o (fun h => SrcAt tp h a items) ∧ o.isFreed = false ∧ ∀ (h : Heap) (it : Addr), h.get? it = some o → IterAt tp h it a 0 := by
  cases tp
  · exact ⟨_, begins_list a items, rfl, fun h it e => ⟨_, e, rfl, rfl⟩⟩
  · exact ⟨_, begins_tuple a items, rfl, fun h it e => ⟨_, e, rfl, rfl⟩⟩
theorem enum_done {pins : List (Addr × Obj)} {σ : L2.St} {s : Shared} {R : It → Hp → Prop} {E : Value → Shared → Prop} {tp : Bool} {c : Int} {a : Addr} {h' : Heap} {xs : List V} (I : L2.Inv X pins σ H s) (ha : H a = some (seqO tp xs)) (he : IsEnum h' (s.heap.objs.size + 1) s.heap.objs.size c .none) (hit : IterAt tp h' s.heap.objs.size a 0)
    (hk : ∀ b o, s.heap.get? b = some o → h'.get? b = some o) (q : R (IteC tp c a) H) : wpAny (model X.prog X.w) X.A (pyIter (.ref (s.heap.objs.size + 1))) (PIE X pins σ (.Tuple elts kk tpos) R) E { s with heap := h' } := by
  have hal : a < s.heap.objs.size := I.hok.lt ha
  refine wpAny_pyIter_enum he ⟨s.heap.objs.size + 1, [s.heap.objs.size + 1, s.heap.objs.size], _, _, H, rfl, I.kept (t' := s.toks) hk, turn_enumC tp c a _ _ (Nat.ne_of_lt hal) (Nat.succ_ne_self _), ⟨⟨.none, ?_⟩, hit⟩, fun b hb => ?_, q⟩
  · show IsEnum h' _ _ (c + ((0 : Nat) : Int)) _
    rw [show c + ((0 : Nat) : Int) = c by omega]
    exact he
  · have hle : s.heap.objs.size ≤ b := by
      rcases List.mem_cons.mp hb with rfl | hb
      · exact Nat.le_succ _
      · rw [List.mem_singleton.mp hb]
        exact Nat.le_refl _
    exact I.fpOk hle (I.hok.fresh hle)
def enu1 : List T → Option (List T)
  | [t] => (enuS t).map fun r => enumL 0 r.2
  | _ => none
def enu2 (zs : List T) : List T → Option (List T)
  | [t] => match zs with
    | [.int c] => if -(2 ^ 63) ≤ c ∧ c < 2 ^ 63 then (enuS t).map fun r => enumL c r.2 else none
    | _ => none
  | _ => none
set_option maxHeartbeats 1000000 in
theorem enumNew {v : Value} {o : Obj} {Hb : Heap → Prop} (B : Begins v o Hb) : Meets (Builtin.«enumerate.__new__» ⟨[.type "enumerate", v], []⟩) (fun _ R s => Hb s.heap ∧
    R (.ok (.ret (.ref (s.heap.push o).objs.size))) { s with heap := (s.heap.push o).push { cls := .type "enumerate", data := .fields #[.none, .bool false, .ref s.heap.objs.size, rawInt 0, .none, .none] } }) :=
  .of_wp fun prog w A R s hyp => by
    obtain ⟨hp, gs, dr, tk, os⟩ := s
    obtain ⟨hb, hr⟩ := hyp
    have sub := sub_enumerate
    have begin_ : ∀ {A' : Around} {E : Value → Shared → Prop} {Q : Value → Shared → Prop}, Q (.ref hp.objs.size) ⟨hp.push o, gs, dr, tk, os⟩ → wpAny (model prog w) A' (pyIter v) Q E ⟨hp, gs, dr, tk, os⟩ := fun q => B.iter prog w _ _ ⟨hp, gs, dr, tk, os⟩ _ hb q
    wp_walk using begin_
    refine wpAny_stack_any fun st => wpAny_pure ?_
    split
    · rename_i cl _ _ _ _ _
      cases (cl == Value.type "enumerate") <;> (wp_walk using begin_; exact ⟨_, rfl, hr⟩)
    · wp_walk using begin_
      exact ⟨_, rfl, hr⟩
theorem call_enumC {s : Shared} {v : Value} {o : Obj} {Hb : Heap → Prop} {Q : Value → Shared → Prop} {A : Around} {E : Value → Shared → Prop} (B : Begins v o Hb) (h1 : Hb s.heap)
    (h : ∀ h', IsEnum h' (s.heap.objs.size + 1) s.heap.objs.size 0 .none → h'.get? s.heap.objs.size = some o → (∀ b o, s.heap.get? b = some o → h'.get? b = some o) → Q (.ref (s.heap.objs.size + 1)) { s with heap := h' }) :
    wpAny (model X.prog X.w) A (call (.type "enumerate") [v]) Q E s := by
  refine callType_new F.called_enumerate (by decide) (F.typeCall_enumerate_1 _) (F.newCall_enumerate_1 _) (fun obj => F.args_object_init_2 obj _) F.entry_enumerate_new (enumNew B) ⟨h1, ?_⟩
  have size1 : (s.heap.push o).objs.size = s.heap.objs.size + 1 := Heap.size_push ..
  have there : IsEnum ((s.heap.push o).push { cls := .type "enumerate", data := .fields #[.none, .bool false, .ref s.heap.objs.size, rawInt 0, .none, .none] }) (s.heap.objs.size + 1) s.heap.objs.size 0 .none := by
    have g := Heap.get?_push_size (s.heap.push o) (o := { cls := .type "enumerate", data := .fields #[.none, .bool false, .ref s.heap.objs.size, rawInt 0, .none, .none] }) rfl
    rw [size1] at g
    exact g
  show _ ∧ _
  rw [size1]
  exact ⟨⟨_, there, rfl⟩, h _ there (Heap.get?_push_of_some _ (Heap.get?_push_size _ B.free)) fun b q x => Heap.get?_push_of_some _ (Heap.get?_push_of_some _ x)⟩
theorem ti_enum (hg : Gl X "enumerate") (hm : X.mg "enumerate" = none) (ha : PA X [e] (tA W Ex fl)) (hs : starEach [e] X.env = [(false, eval e X.env)] := by rfl) : PI X (.Tuple elts kk tpos) (.Call (.Name "enumerate" p) [e] [] pos) (tI W Ex (xIt enu1 fl)) := by
  constructor
  intro pins s σ H R I h
  obtain ⟨dk, F, G, en, d, S, h⟩ := h
  refine Call_ (ld_blt I hg hm boot_enumerate (PyProof.Rows.callWith_type1 (thn (ha.run pos pins s σ H (fun vs H1 => ∃ a tp xs, vs = [V.ref a] ∧ H1 a = some (seqO tp xs) ∧ R (IteC tp 0 a) H1) I ⟨dk, F, G, en, d, S, (Post.bind h).mono fun l d1 H1 k1 D1 h1 xs rl => ?_⟩) fun us s1 ⟨vs, H1, I1, r1, q1⟩ => ?_) hs rfl))
  · obtain ⟨z, ez, q⟩ := Post.opt_some h1
    unfold enu1 at ez
    split at ez
    · obtain ⟨⟨tp, l'⟩, ee, rfl⟩ := Option.map_eq_some_iff.mp ez
      obtain ⟨x, rfl, rx⟩ := rl.one_inv
      obtain ⟨a, ys, rfl, nf, ha', rl'⟩ := enuS_rep rx ee
      exact ⟨a, tp, ys, rfl, ha', q H1 (.refl _ _) D1 _ (itOk_enum nf ha' rl')⟩
    · cases ez
  · obtain ⟨a, tp, xs, rfl, ha', q⟩ := q1
    obtain ⟨u, rfl, ru⟩ := Vals.one r1
    cases ru
    obtain ⟨its, rv, src⟩ := srcAt_of I1 ha'
    obtain ⟨o, B, _, hit⟩ := srcBegins (tp := tp) (a := a) (items := its.toArray)
    exact call_enumC B src fun h' he ho hk => enum_done I1 ha' he (hit _ _ ho) hk q
def xIt2 (op : List T → List T → Option (List T)) (fl gl : En → M (List T)) : En → M (List T) := fun en => (fl en).bind fun l => (gl en).bind fun m => .opt (op m l)
end
end TL
/-! TLi1: tuple * 0, tuple * 1, text * n. -/
namespace TL
open PySem PySem.Spec PyProof.Rows L2
theorem tuple_mul1 (l : Addr) (items : Array Value) (n : Nat) (sl : Array (Option Value)) (u : Tok) (dd : Option Addr) :
    Meets (Builtin.«tuple.__mul__» ⟨[.ref l, .int 1 u], []⟩) (fun _ R s => s.heap.get? l = some { cls := .type "tuple", dict := dd, data := .seq items n, slots := sl } ∧ R (.ok (.ret (.ref l))) s) :=
  .of_wp fun prog w A R s h => by
    obtain ⟨hp, g, d, tk, os⟩ := s
    obtain ⟨hl, h⟩ := h
    have f1 := AutoSeq1.idx_int
    have c0 : (decide ((1 : Int) < -(2 ^ 63)) || decide ((1 : Int) ≥ 2 ^ 63)) = false := by decide
    have c1 : (items.isEmpty || (1 : Int) == 1) = true := by simp
    wp_walk using wpAny_loadPart' hl
    repeat (first
      | (refine wpAny_ite_false (decide_eq_false (by rw [c0]; exact Bool.false_ne_true)) ?_; wp_walk using wpAny_loadPart' hl)
      | (refine wpAny_ite_true (decide_eq_true c1) ?_; wp_walk using wpAny_loadPart' hl))
    exact ⟨_, rfl, h⟩
theorem tuple_mul0 (l : Addr) (items : Array Value) (n : Nat) (sl : Array (Option Value)) (x : Int) (u : Tok) (dd : Option Addr) (c0 : (decide (x < -(2 ^ 63)) || decide (x ≥ 2 ^ 63)) = false) (c1 : (items.isEmpty || x == 1) = false) (c2 : (decide (x ≤ 0) || items.isEmpty) = true) :
    Meets (Builtin.«tuple.__mul__» ⟨[.ref l, .int x u], []⟩) (fun _ R s => s.heap.get? l = some { cls := .type "tuple", dict := dd, data := .seq items n, slots := sl } ∧
      R (.ok (.ret (Value.ref s.heap.objs.size))) { s with heap := s.heap.push { cls := Value.type "tuple", data := Data.seq #[] }, toks := s.toks }) :=
  .of_wp fun prog w A R s h => by
    obtain ⟨hp, g, d, tk, os⟩ := s
    obtain ⟨hl, h⟩ := h
    have f1 := AutoSeq1.idx_int
    wp_walk using wpAny_loadPart' hl
    repeat (first
      | (refine wpAny_ite_false (decide_eq_false (by rw [c0]; exact Bool.false_ne_true)) ?_; wp_walk using wpAny_loadPart' hl)
      | (refine wpAny_ite_false (decide_eq_false (by rw [c1]; exact Bool.false_ne_true)) ?_; wp_walk using wpAny_loadPart' hl)
      | (refine wpAny_ite_true (decide_eq_true c2) ?_; wp_walk using wpAny_loadPart' hl))
    exact ⟨_, rfl, h⟩
section
variable {X : Cx}
def rRepT1 (K : PySem.W.Frag) : R2 := fun x y H Q => ∃ l xs, x = .ref l ∧ y = .int 1 ∧ SqT K H l xs ∧ Q (.ref l) H
theorem op_repT1 : OpR X (binaryOp .Mult) (rRepT1 X.K) := by
  intro pins s σ H x y v u Q I rx ry h
  obtain ⟨l, xs, rfl, rfl, hT, q⟩ := h
  cases rx
  obtain ⟨t, rfl⟩ := ry
  obtain ⟨its, r, ⟨⟨cls, dd, data, sl⟩, ho, hc, n, hd⟩, hs⟩ := I.tuple hT
  simp only at hc hd
  subst hc hd
  refine wpAny_binaryOp_repeat_ref (T := "tuple") (U := "int") (by decide) ⟨_, ho, rfl⟩ (fun s' => typeIs_int s' 1 t) noFill_tuple_mul F.fills_int_mul F.slot_int_rmul repeat_tuple F.slot_int_index.lookup
    (call_meets F.slot_int_rmul (typeIs_int s 1 t) F.entry_int_rmul (F.args_int_rmul_2 _ _) (int_rmul_tuple 1 t l its.toArray n dd sl)
      ⟨ho, rfl, ⟨_, ho, rfl⟩, call_meets F.slot_tuple_mul ⟨_, ho, rfl⟩ F.entry_tuple_mul (F.args_tuple_mul_2 _ _) (tuple_mul1 l its.toArray n sl t dd) ⟨ho, ?_⟩⟩)
  exact ⟨.ref l, H, I, rfl, q⟩
def rRepT0 (K : PySem.W.Frag) : R2 := fun x y H Q => ∃ l xs, x = .ref l ∧ y = .int 0 ∧ xs ≠ [] ∧ SqT K H l xs ∧ ∀ p, H p = none → Q (.ref p) (upd H p (.tup []))
theorem op_repT0 : OpR X (binaryOp .Mult) (rRepT0 X.K) := by
  intro pins s σ H x y v u Q I rx ry h
  obtain ⟨l, xs, rfl, rfl, hne, hT, q⟩ := h
  cases rx
  obtain ⟨t, rfl⟩ := ry
  obtain ⟨its, r, ⟨⟨cls, dd, data, sl⟩, ho, hc, n, hd⟩, hs⟩ := I.tuple hT
  simp only at hc hd
  subst hc hd
  have hle : its.length = xs.length := r.length.symm
  have hn : its ≠ [] := fun e => hne (by
    rw [e] at hle
    exact List.eq_nil_of_length_eq_zero hle.symm)
  have hi : its.toArray.isEmpty = false := by
    cases its with
    | nil => exact absurd rfl hn
    | cons a b => rfl
  refine wpAny_binaryOp_repeat_ref (T := "tuple") (U := "int") (by decide) ⟨_, ho, rfl⟩ (fun s' => typeIs_int s' 0 t) noFill_tuple_mul F.fills_int_mul F.slot_int_rmul repeat_tuple F.slot_int_index.lookup
    (call_meets F.slot_int_rmul (typeIs_int s 0 t) F.entry_int_rmul (F.args_int_rmul_2 _ _) (int_rmul_tuple 0 t l its.toArray n dd sl)
      ⟨ho, rfl, ⟨_, ho, rfl⟩, call_meets F.slot_tuple_mul ⟨_, ho, rfl⟩ F.entry_tuple_mul (F.args_tuple_mul_2 _ _) (tuple_mul0 l its.toArray n sl 0 t dd (by decide) (by rw [hi]; rfl) (by rfl)) ⟨ho, ?_⟩⟩)
  refine ⟨.ref s.heap.objs.size, _, I.laid (t' := s.toks) (o := .tup []) (fun b ob q => Heap.get?_push_of_some _ q) (Nat.le_refl _) ?_, rfl, q _ (I.hok.fresh (Nat.le_refl _))⟩
  exact ⟨Nat.zero_le _, _, .nil, IsTup.new _ _⟩
def repS (x : Str) (k : Nat) : Str := ⟨(List.replicate k x.cps.toList).flatten.toArray⟩
def rRepS : R2 := fun x y H Q => ∃ z k, x = .str z ∧ y = .int k ∧ 0 ≤ k ∧ k < 2 ^ 62 ∧ z.length * k.toNat ≤ 16777216 ∧ Q (.str (repS z k.toNat)) H
theorem repS_fold (x : Str) : ∀ (k : Nat), (List.replicate k x.cps).foldl (· ++ ·) #[] = (List.replicate k x.cps.toList).flatten.toArray := by
  intro k
  have key : ∀ (k : Nat) (acc : List Nat), (List.replicate k x.cps).foldl (· ++ ·) acc.toArray = (acc ++ (List.replicate k x.cps.toList).flatten).toArray := by
    intro k
    induction k with
    | zero => intro acc; simp
    | succ k ih =>
      intro acc
      rw [List.replicate_succ, List.foldl_cons, List.replicate_succ, List.flatten_cons]
      have : acc.toArray ++ x.cps = (acc ++ x.cps.toList).toArray := by
        rw [← List.append_toArray]
      rw [this, ih, List.append_assoc]
  exact key k []
theorem op_repS : OpR X (binaryOp .Mult) rRepS := by
  intro pins s σ H x y v u Q I rx ry h
  obtain ⟨z, k, rfl, rfl, k0, k1, hz, q⟩ := h
  obtain ⟨t, rfl⟩ := rx
  obtain ⟨t', rfl⟩ := ry
  have hlim : ¬ k < 1 → ¬ ((z.length : Int) > (2 ^ 63 - 1) / k) := fun hk hgt => by
    have hq : ((z.length : Nat) : Int) * k ≤ 16777216 := by
      have : ((z.length * k.toNat : Nat) : Int) ≤ 16777216 := by omega
      rw [Int.natCast_mul, Int.toNat_of_nonneg k0] at this
      exact this
    have hq2 : ((z.length : Nat) : Int) ≤ (2 ^ 63 - 1) / k := Int.le_ediv_of_mul_le (by omega) (by omega)
    omega
  refine P.mul_str (by rw [decide_eq_false (by omega), decide_eq_false (by omega)]; rfl) (fun h1 _ => hlim h1) (fun _ _ => ?_) ?_
  · unfold Builtin.Str.tooLong
    rw [sizeLine_eq]
    exact decide_eq_false (by omega)
  · by_cases h1 : k < 1
    · rw [if_pos h1]
      have : k.toNat = 0 := by omega
      rw [this] at q
      exact ⟨by decide, .str Str.empty, H, I.tok _, ⟨_, rfl⟩, q⟩
    · rw [if_neg h1]
      by_cases h2 : (k == 1 || z.length == 0) = true
      · rw [if_pos h2]
        have e : repS z k.toNat = z := by
          rcases Bool.or_eq_true_iff.mp h2 with h3 | h3
          · have : k = 1 := by simpa using h3
            subst this
            show (⟨(List.replicate 1 z.cps.toList).flatten.toArray⟩ : Str) = z
            simp
          · have : z.cps = #[] := Array.eq_empty_of_size_eq_zero (by simpa [Str.length] using h3)
            obtain ⟨c⟩ := z
            simp only at this
            subst this
            show (⟨(List.replicate k.toNat []).flatten.toArray⟩ : Str) = _
            simp
        rw [e] at q
        exact ⟨.str z, H, I, ⟨_, rfl⟩, q⟩
      · rw [if_neg h2, repS_fold]
        refine ⟨?_, .str (repS z k.toNat), H, I.tok _, ⟨_, rfl⟩, q⟩
        show (List.replicate k.toNat z.cps.toList).flatten.toArray.size ≤ sizeLine
        rw [List.size_toArray, List.length_flatten, List.map_replicate, List.sum_replicate_nat, sizeLine_eq, Nat.mul_comm]
        exact hz
end
end TL
/-! TLj: short words, isinstance, join, list, two targets; what is drawn. -/
namespace TL
open PySem PySem.Spec PyProof.Rows L2
/-! ### short words (hu: room on the machine's stack) -/
section
variable {W : Wd} {Ex : XK} {X : Cx} {a b c e : Expr} {es : List Expr} {f g h : En → M T} {fl : En → M (List T)} {pos p : Pos} {x : Str}
theorem room_of {k : Nat} {A : Around} (hr : Room k A) : A.units + 100 < cLine := by
  have := hr.un
  omega
theorem te_add (hK : W.K = X.K) (ha : PE X a (tE W Ex f)) (hb : PE X b (tE W Ex g)) : PE X (.BinOp a .Add b pos) (tE W Ex (xBin addT f g)) := te_bin op_addA (hK ▸ agr_add) ha hb
theorem te_sub (ha : PE X a (tE W Ex f)) (hb : PE X b (tE W Ex g)) : PE X (.BinOp a .Sub b pos) (tE W Ex (xBin subT f g)) := te_bin op_sub agr_sub ha hb
theorem te_mod (ha : PE X a (tE W Ex f)) (hb : PE X b (tE W Ex g)) : PE X (.BinOp a .Mod b pos) (tE W Ex (xBin modT f g)) := te_bin op_mod agr_mod ha hb
theorem te_fdiv (ha : PE X a (tE W Ex f)) (hb : PE X b (tE W Ex g)) : PE X (.BinOp a .FloorDiv b pos) (tE W Ex (xBin fdivT f g)) := te_bin op_fdiv agr_fdiv ha hb
theorem te_pow (ha : PE X a (tE W Ex f)) (hb : PE X b (tE W Ex g)) : PE X (.BinOp a .Pow b pos) (tE W Ex (xBin powT f g)) := te_bin op_pow agr_pow ha hb
theorem te_neg (ha : PE X a (tE W Ex f)) : PE X (.UnaryOp .USub a pos) (tE W Ex (xUn negT f)) := te_un un_neg agr_neg ha
def rMulA (K : PySem.W.Frag) : R2 := fun x y H Q => rI CMul (fun i j => .int (i * j)) x y H Q ∨ rI CMulW (fun i j => .int (i * j)) x y H Q ∨ rRep x y H Q ∨ rRepT K x y H Q ∨ rRepT1 K x y H Q ∨ rRepT0 K x y H Q ∨ rRepS x y H Q
theorem rep_repeat {H : Hp} {F : Addr → Prop} {dk : Dk} {l : List T} {xs : List V} (r : RepL W H F dk l xs) : ∀ n : Nat, RepL W H F dk (List.replicate n l).flatten (List.replicate n xs).flatten
  | 0 => .nil
  | n + 1 => by
    rw [List.replicate_succ, List.replicate_succ, List.flatten_cons, List.flatten_cons]
    exact r.append (rep_repeat r n)
theorem agr_mul : Agr2 W (rMulA W.K) mulT := fun {dk F H x y a b t Q} hF ra rb e q => by
  unfold mulT at e
  split at e
  · split at e
    · rename_i i j h
      cases e
      simp only [Rep] at ra rb
      rw [Bool.or_eq_true] at h
      rcases h with h | h
      · refine .inl ⟨_, _, ra, rb, ?_, q _ H (.refl _) rep_int⟩
        simp only [smallI, Bool.or_eq_true, decide_eq_true_eq] at h
        exact h
      · refine .inr (.inl ⟨_, _, ra, rb, ?_, q _ H (.refl _) rep_int⟩)
        unfold wideI at h
        show i.natAbs.log2 + j.natAbs.log2 < 1000000
        exact of_decide_eq_true h
    · cases e
  · split at e
    · rename_i h
      obtain ⟨hz, rfl⟩ := capL_some e
      simp only [Rep] at ra rb
      obtain ⟨p, xs, rfl, _, s, rl⟩ := ra
      refine .inr (.inr (.inl ⟨p, _, xs, rfl, rb, s, by omega, h.2, by rw [rl.length]; exact hz, fun p hp => q _ _ (upd_same' hp) (rep_lst hF hp (rep_repeat rl _))⟩))
    · cases e
  · split at e
    · rename_i l k h
      cases e
      have ra0 := ra
      simp only [Rep] at ra rb
      obtain ⟨p, xs, rfl, _, s, rl⟩ := ra
      have hlen := rl.length
      have hne : xs ≠ [] := fun z => by rw [z] at hlen; simp at hlen; omega
      by_cases h2 : 2 ≤ k
      · exact .inr (.inr (.inr (.inl ⟨p, _, xs, rfl, rb, .of s, hne, h2, h.2.1, by omega, fun p hp => q _ _ (upd_same' hp) (rep_tup hF hp (rep_repeat rl _))⟩)))
      · by_cases h3 : k = 1
        · subst h3
          have e1 : (List.replicate (1 : Int).toNat l).flatten = l := by
            show (List.replicate 1 l).flatten = l
            simp
          rw [e1] at q
          exact .inr (.inr (.inr (.inr (.inl ⟨p, xs, rfl, rb, .of s, q _ H (.refl _) ra0⟩))))
        · have h4 : k = 0 := by omega
          subst h4
          exact .inr (.inr (.inr (.inr (.inr (.inl ⟨p, xs, rfl, rb, hne, .of s, fun p hp => q _ _ (upd_same' hp) (rep_tup hF hp .nil)⟩)))))
    · cases e
  · split at e
    · rename_i h
      obtain ⟨hz, rfl⟩ := capL_some e
      simp only [Rep] at ra rb
      exact .inr (.inr (.inr (.inr (.inr (.inr ⟨_, _, ra, rb, h.1, h.2, hz, q _ H (.refl _) rep_str⟩)))))
    · cases e
  · cases e
theorem te_mul (hK : W.K = X.K) (ha : PE X a (tE W Ex f)) (hb : PE X b (tE W Ex g)) : PE X (.BinOp a .Mult b pos) (tE W Ex (xBin mulT f g)) := te_bin (op_mul.or (op_mulW.or (op_rep.or (op_repT.or (op_repT1.or (op_repT0.or op_repS)))))) (hK ▸ agr_mul) ha hb
theorem te_eq (hu : X.A.units + 100 < cLine) (hK : W.K = X.K) (ha : PE X a (tE W Ex f)) (hb : PE X b (tE W Ex g)) : PE X (.Compare a [.Eq] [b] pos) (tE W Ex (xBin eqT f g)) := te_cmp (op_eqA (by omega)) (hK ▸ agr_eq) ha hb (nomark _)
theorem te_ge (ha : PE X a (tE W Ex f)) (hb : PE X b (tE W Ex g)) : PE X (.Compare a [.GtE] [b] pos) (tE W Ex (xBin geT f g)) := te_cmp op_geA agr_ge ha hb (nomark _)
theorem te_in (hu : X.A.units + 100 < cLine) (hK : W.K = X.K) (ha : PE X a (tE W Ex f)) (hb : PE X b (tE W Ex g)) (hm : behindInMarks .In b = false := by with_unfolding_all rfl) : PE X (.Compare a [.In] [b] pos) (tE W Ex (xBin inT f g)) := te_cmp (op_inA (by omega)) (hK ▸ agr_in) ha hb hm
theorem te_at (hu : X.A.units + 100 < cLine) (hK : W.K = X.K) (ha : PE X a (tE W Ex f)) (hb : PE X b (tE W Ex g)) (hs : PlainIx b := by intro _ _; rfl) : PE X (.Subscript a b pos) (tE W Ex (xBin ixT f g)) := te_ix (by omega) hK ha hb hs
theorem te_len (hK : W.K = X.K) (hm : X.mg "len" = none) (ha : PA X (e :: es) (tA W Ex fl)) (hg : Gl X "len" := by rfl) (he : starEach (e :: es) X.env = (false, eval e X.env) :: starEach es X.env := by rfl) (hpl : (backTo pos (starEach es X.env)).any (·.1) = false := by rfl) :
    PE X (.Call (.Name "len" p) (e :: es) [] pos) (tE W Ex (xCall lenT fl)) := te_callB cr_lenA (hK ▸ agr_len) hg hm PySem.boot_len ha (he := he) (hpl := hpl)
theorem te_any (hc : X.calm = true) (hK : W.K = X.K) (hm : X.mg "any" = none) (ha : PA X (e :: es) (tA W Ex fl)) (hg : Gl X "any" := by rfl) (he : starEach (e :: es) X.env = (false, eval e X.env) :: starEach es X.env := by rfl) (hpl : (backTo pos (starEach es X.env)).any (·.1) = false := by rfl) :
    PE X (.Call (.Name "any" p) (e :: es) [] pos) (tE W Ex (xCall anyT fl)) := te_callB (cr_any hc) (hK ▸ agr_any) hg hm (by decide +kernel) ha (he := he) (hpl := hpl)
theorem te_max (hc : X.calm = true) (hu : X.A.units + 100 < cLine) (hK : W.K = X.K) (hm : X.mg "max" = none) (ha : PA X (e :: es) (tA W Ex fl)) (hg : Gl X "max" := by rfl) (he : starEach (e :: es) X.env = (false, eval e X.env) :: starEach es X.env := by rfl) (hpl : (backTo pos (starEach es X.env)).any (·.1) = false := by rfl) :
    PE X (.Call (.Name "max" p) (e :: es) [] pos) (tE W Ex (xCall maxT fl)) := te_callB (cr_maxA hc (by omega)) (hK ▸ agr_max) hg hm (by decide +kernel) ha (he := he) (hpl := hpl)
theorem te_min (hc : X.calm = true) (hu : X.A.units + 100 < cLine) (hK : W.K = X.K) (hm : X.mg "min" = none) (ha : PA X (e :: es) (tA W Ex fl)) (hg : Gl X "min" := by rfl) (he : starEach (e :: es) X.env = (false, eval e X.env) :: starEach es X.env := by rfl) (hpl : (backTo pos (starEach es X.env)).any (·.1) = false := by rfl) :
    PE X (.Call (.Name "min" p) (e :: es) [] pos) (tE W Ex (xCall minT fl)) := te_callB (cr_minA hc (by omega)) (hK ▸ agr_min) hg hm (by decide +kernel) ha (he := he) (hpl := hpl)
theorem te_toInt (hm : X.mg "int" = none) (ha : PA X (e :: es) (tA W Ex fl)) (hg : Gl X "int" := by rfl) (he : starEach (e :: es) X.env = (false, eval e X.env) :: starEach es X.env := by rfl) (hpl : (backTo pos (starEach es X.env)).any (·.1) = false := by rfl) :
    PE X (.Call (.Name "int" p) (e :: es) [] pos) (tE W Ex (xCall toIntT fl)) := te_callTy call_int1 agr_int hg hm (by decide +kernel) ha (he := he) (hpl := hpl)
theorem te_toTup (hK : W.K = X.K) (hm : X.mg "tuple" = none) (ha : PA X (e :: es) (tA W Ex fl)) (hg : Gl X "tuple" := by rfl) (he : starEach (e :: es) X.env = (false, eval e X.env) :: starEach es X.env := by rfl) (hpl : (backTo pos (starEach es X.env)).any (·.1) = false := by rfl) :
    PE X (.Call (.Name "tuple" p) (e :: es) [] pos) (tE W Ex (xCall tupleT fl)) := te_callTy call_tuple_of (hK ▸ agr_tuple) hg hm (by decide +kernel) ha (he := he) (hpl := hpl)
end
/-! ### isinstance(e, T), T a built-in class -/
def T.tyN : T → Option String
  | .non => some "NoneType" | .bl _ => some "bool" | .int _ => some "int" | .str _ => some "str" | .tup _ => some "tuple" | .lst _ => some "list" | .dic _ => some "dict"
  | _ => none
def isiT (n : String) (t : T) : Option T := (t.tyN).bind fun m => (kitB m n).map T.bl
/-! ### sep.join(e) -/
def joinT (a b : T) : Option T := match a, b with
  | .str s, .lst l => (strsOf l).bind fun ys => if (ys.map (·.length)).sum + ys.length * s.length ≤ 16777216 then some (.str (Txt.join s ys)) else none
  | .str s, .tup l => (strsOf l).bind fun ys => if (ys.map (·.length)).sum + ys.length * s.length ≤ 16777216 then some (.str (Txt.join s ys)) else none
  | _, _ => none
def strT? : T → Option Str
  | .str s => some s
  | _ => none
def xJoin (f g : En → M T) : En → M T := fun en => (f en).bind fun x => (M.opt (strT? x)).bind fun s => (g en).bind fun y => .opt (joinT (.str s) y)
section
variable {W : Wd} {Ex : XK} {X : Cx} {o e : Expr} {f g : En → M T} {apos pos : Pos}
theorem te_join (hK : W.K = X.K) (ho : PE X o (tE W Ex f)) (he : PE X e (tE W Ex g)) (hs : starEach [e] X.env = [(false, eval e X.env)] := by rfl) (hbase : attributeBase o "join" X.env (eval o X.env) = eval o X.env := by rfl) (hline : (apos.endLine == pos.line) = true := by rfl) :
    PE X (.Call (.Attribute o "join" apos) [e] [] pos) (tE W Ex (xJoin f g)) := (pe_join ho he hs hbase hline).imp fun σ H Q ⟨dk, F, G, en, d, S, h⟩ => by
  refine ⟨dk, F, G, en, d, S, (Post.bind h).mono fun t d1 H1 k1 D1 h1 v rv => ?_⟩
  have S1 := S.keep k1 D1
  cases hz : strT? t with
  | none =>
    rw [hz] at h1
    exact h1.elim
  | some s =>
    rw [hz] at h1
    have h1 : Post W Ex F dk H1 _ (M.bind (g en) (fun y => .opt (joinT (.str s) y)) d1) := h1
    cases t <;> simp only [strT?, reduceCtorEq, Option.some.injEq] at hz
    subst hz
    simp only [Rep] at rv
    subst rv
    refine ⟨⟨_, rfl⟩, dk, F, G, en, d1, S1, (Post.bind h1).mono fun u d2 H2 k2 D2 h2 y ry => ?_⟩
    obtain ⟨z, ez, q⟩ := Post.opt_some h2
    unfold joinT at ez
    split at ez
    · obtain ⟨ys, ey, ez⟩ := Option.bind_eq_some_iff.mp ez
      split at ez
      · rename_i s' l e1 e2 hsz
        cases e1
        cases ez
        cases strsOf_eq ey
        simp only [Rep] at ry
        obtain ⟨b, xs, rfl, _, st, rl⟩ := ry
        cases rl.strs_inv
        exact ⟨_, b, ys, rfl, rfl, .inl (.of st), hsz, q H2 (.refl _ _) D2 _ rep_str⟩
      · cases ez
    · obtain ⟨ys, ey, ez⟩ := Option.bind_eq_some_iff.mp ez
      split at ez
      · rename_i s' l e1 e2 hsz
        cases e1
        cases ez
        cases strsOf_eq ey
        simp only [Rep] at ry
        obtain ⟨b, xs, rfl, _, st, rl⟩ := ry
        cases rl.strs_inv
        exact ⟨_, b, ys, rfl, rfl, .inr (.of st), hsz, q H2 (.refl _ _) D2 _ rep_str⟩
      · cases ez
    · cases ez
end
/-! ### list(e) of a list or a tuple -/
def xCallN (op : List T → Option (List T)) (f : En → M (List T)) : En → M (List T) := fun en => (f en).bind fun l => .opt (op l)
end TL
/-! TLk: the deck's own words. -/
namespace TL
open PySem PySem.Spec PyProof.Rows L2
/-- a deck that is a dict with three keys -/
def dkD (k0 k1 k2 : Str) (c : Addr) (d : D) : HO := .dK [(.inr k0, .ref c), (.inr k1, .int d.blend), (.inr k2, .int d.laps)]
def dckP (p : D → T) : T → M T := fun t d => match t with
  | .dck => .ok (p d) d
  | _ => .bad
def xDkB (f : En → M T) : En → M T := fun en => (f en).bind (dckP fun d => .int d.blend)
def xDkN (f : En → M T) : En → M T := fun en => (f en).bind (dckP fun d => .int d.laps)
def xDkNe (f : En → M T) : En → M T := fun en => (f en).bind (dckP fun d => .bl (!d.cells.isEmpty))
def popD : T → M T := fun t d => match t with
  | .dck => match d.cells[d.cells.length - 1]? with
    | some i => .ok (.int i) { d with cells := d.cells.dropLast }
    | none => .bad
  | _ => .bad
def xDkPop (f : En → M T) : En → M T := fun en => (f en).bind popD
def appD : T → M T := fun t d => match t with
  | .int i => if d.cells.length < 16777216 then .ok .non { d with cells := d.cells ++ [i] } else .bad
  | _ => .bad
def xDkApp (f g : En → M T) : En → M T := fun en => (f en).bind fun o => match o with
  | .dck => (g en).bind appD
  | _ => .bad
def setD : T → T → En → MS := fun o t en d => match o, t with
  | .dck, .int i => if 0 ≤ i then .ok (.nx, en) { d with laps := i.toNat } else .bad
  | _, _ => .bad
def sDkSet (fo f : En → M T) : En → MS := fun en => (f en).bind fun t => (fo en).bind fun o => setD o t en
section
variable {W : Wd} {Ex : XK} {F : Addr → Prop} {G : Nat → Addr → Prop} {dk : Dk} {H H1 : Hp} {d d1 : D} {α : Type} {R : α → D → Hp → Prop}
theorem Keep.upd1 {o : HO} : Keep dk H (upd H dk.1 o) := fun a x e n1 n2 => by
  rw [upd_ne n1]
  exact e
theorem Keep.upd2 {o : HO} : Keep dk H (upd H dk.2 o) := fun a x e n1 n2 => by
  rw [upd_ne n2]
  exact e
end
/-! ### the deck is a list -/
section
variable {W : Wd} {Ex : XK} {X : Cx} {o e : Expr} {f g : En → M T} {pos p1 p2 apos : Pos} {j : Nat}
def intsD (is : List Int) : List PyData := is.map PyData.int
theorem intsD_dp {K : PySem.W.Frag} {H : Hp} : ∀ is : List Int, DpAll K H (is.map V.int) (intsD is)
  | [] => .nil
  | i :: is => .cons (.int i) (intsD_dp is)
theorem intsD_lay : ∀ is : List Int, PyData.canLayAll0 (intsD is) = true
  | [] => rfl
  | i :: is => by
    simp only [intsD, List.map_cons, PyData.canLayAll0, PyData.canLay0, Bool.true_and]
    exact intsD_lay is
theorem intsD_depth : ∀ is : List Int, PyData.depthAll (intsD is) ≤ 1
  | [] => by simp [intsD, PyData.depthAll]
  | i :: is => by
    have := intsD_depth is
    simp only [intsD, List.map_cons, PyData.depthAll, PyData.depth] at *
    omega
theorem intsD_shaped (is : List Int) : SeqAt.shaped (.list (intsD is)) = true := by
  unfold SeqAt.shaped
  have h1 := intsD_lay is
  have h2 := intsD_depth is
  simp only [PyData.canLay0, PyData.depth, Bool.and_eq_true, decide_eq_true_eq]
  exact ⟨h1, decide_eq_true (by omega)⟩
theorem intsD_ne (is : List Int) : (!PyData.eqv (.list (intsD is)) (.list [])) = !is.isEmpty := by
  cases is <;> simp [intsD, PyData.eqv, PyData.eqvAll]
theorem Rep.atDk {dk : Dk} {H : Hp} {F : Addr → Prop} {v : V} (r : Rep W H F dk .dck v) : v = .ref dk.1 := by simpa only [Rep] using r
/-- the cells shrink, grow -/
theorem DkAt.cells {dk : Dk} {H : Hp} {d d' : D} (h : DkAt W dk H d) (hb : ∀ c, W.dk c d' = W.dk c d) : DkAt W dk (upd H dk.2 (.lst (d'.cells.map V.int))) d' :=
  ⟨h.1, upd_same, by rw [upd_ne h.1, hb]; exact h.2.2⟩
end
end TL
/-! TLl: two targets; lengths of arguments; a law's beginning and end. -/
namespace TL
open PySem PySem.Spec PyProof.Rows L2
/-! ### lengths of arguments -/
theorem xNil_len : ∀ (en : En) (d : D) (l : List T) (d' : D), xNil en d = .ok l d' → l.length = 0 := fun en d l d' h => by
  cases h
  rfl
theorem xCons_len {f : En → M T} {g : En → M (List T)} {n : Nat} (h : ∀ en d l d', g en d = .ok l d' → l.length = n) : ∀ en d l d', xCons f g en d = .ok l d' → l.length = n + 1 := fun en d l d' e => by
  unfold xCons M.bind Out.bind at e
  cases q : f en d with
  | ok t d1 =>
    rw [q] at e
    have e : Out.bind (g en d1) (fun l => .pure (t :: l)) = .ok l d' := e
    cases q2 : g en d1 with
    | ok m d2 =>
      rw [q2] at e
      have e : Out.ok (t :: m) d2 = .ok l d' := e
      injection e with e1 e2
      rw [← e1, List.length_cons, h _ _ _ _ q2]
    | exc x d2 =>
      rw [q2] at e
      cases e
    | bad =>
      rw [q2] at e
      cases e
  | exc x d1 =>
    rw [q] at e
    cases e
  | bad =>
    rw [q] at e
    cases e
/-! ### a, b = .. -/
def sPar (i j : Nat) (fl : En → M (List T)) : En → MS := fun en => (fl en).bind fun l => match l with
  | [a, b] => .pure (.nx, setS (setS en i (.val a)) j (.val b))
  | _ => .bad
def sPar3 (i j k : Nat) (fl : En → M (List T)) : En → MS := fun en => (fl en).bind fun l => match l with
  | [a, b, c] => .pure (.nx, setS (setS (setS en i (.val a)) j (.val b)) k (.val c))
  | _ => .bad
def sAsgG (a : T → En → Option En) (f : En → M T) : En → MS := fun en => (f en).bind fun t => (M.opt (a t en)).bind fun en' => .pure (.nx, en')
section
variable {W : Wd} {Ex : XK} {X : Cx} {a b c e tg : Expr} {fl : En → M (List T)} {f : En → M T} {px py pz pt pos : Pos} {i j l kt : Nat} {k2 pt2} {x y z : Str} {ag : T → En → Option En} {is : List Nat}
theorem StR'.useA {dk : Dk} {F F0 : Addr → Prop} {G : Nat → Addr → Prop} {H H0 : Hp} {cp : Cps} {σ : L2.St} {en : En} {d : D} {k : List T → MS} {Dd : Ends} {Q : List V → Hp → Prop} (R : StR' W dk F0 H0 cp F G σ H en d) (p : PostS W Ex dk F0 H0 cp Dd (M.bind (fl en) k d))
    (q : ∀ t d1 v H1, StR' W dk F0 H0 cp F G σ H1 en d1 → RepL W H1 F dk t v → PostS W Ex dk F0 H0 cp Dd (k t d1) → Q v H1) : tA W Ex fl σ H Q := by
  refine ⟨dk, F, G, en, d, R.s, ?_⟩
  unfold M.bind Out.bind at p
  cases e : fl en d with
  | ok t d1 =>
    rw [e] at p
    exact fun H1 k1 D1 v rv => q t d1 v H1 (R.keep k1 D1) rv p
  | exc x d1 =>
    rw [e] at p
    exact fun c od H1 k1 D1 xr => p c od H1 (R.kp.trans k1) D1 (xr.weak R.ff)
  | bad =>
    rw [e] at p
    exact p.elim
theorem ts_par (hc : X.calm = true) (hN : X.N.Nodup) (ha : PA X [a, b] (tA W Ex fl)) (hij : i ≠ j := by decide) (hi : X.N[i]? = some x := by rfl) (hj : X.N[j]? = some y := by rfl)
    (hx : X.env.scope.names.lookup x = some .local := by rfl) (hy : X.env.scope.names.lookup y = some .local := by rfl)
    (hw : swappedStores [.Tuple [.Name x px, .Name y py] kt pt] (.Tuple [a, b] k2 pt2) X.env = pure (some [x, y]) := by rfl)
    (hs : swapsWithSole [.Tuple [.Name x px, .Name y py] kt pt] (.Tuple [a, b] k2 pt2) pos.line X.env = pure false := by rfl) :
    PS X (.Assign [.Tuple [.Name x px, .Name y py] kt pt] (.Tuple [a, b] k2 pt2) pos) (tS W Ex (sPar i j fl)) :=
  (ps_par hc hN hi hj hij hx hy ha hw hs).imp fun Dd σ H ⟨dk, F0, H0, cp, en, d, ⟨F, G, R⟩, p⟩ => R.useA p fun t d1 v H1 R1 rv q => by
    match t, rv, q with
    | [], _, q => exact q.elim
    | [_], _, q => exact q.elim
    | _ :: _ :: _ :: _, _, q => exact q.elim
    | [u, w], rv, q =>
      obtain ⟨x1, x2, rfl, r1, r2⟩ := RepL.two_inv rv
      have R2 := R1.setVal (i := i) r1
      exact ⟨x1, x2, rfl, q _ _ ⟨F, G, R2.setVal (i := j) r2⟩⟩
end
/-! ### a law's beginning: the script -/
/-- the law's promise: of at most n whole numbers it says True -/
def spS (K : PySem.W.Frag) (n : Nat) : Sp := fun vs H Q _ => ∃ (a : Addr) (ns : List Int), vs = [.ref a] ∧ SqL K H a (ns.map V.int) ∧ ns.length ≤ n ∧ ∀ H', Q (.bl true) H'
/-- behind the deck's making: the rest of the law, in trees -/
theorem law_rest {W : Wd} {dk : Dk} {H : Hp} {d : D} {σ : L2.St} {en : En} {g : En → MS} {Q : VK} (hD : DkAt W dk H d) (hl : en.length = σ.length) (hen : ∀ (i : Nat) (s : Sl), en[i]? = some s → s = .no ∨ (s = .val .dck ∧ σ[i]? = some (some (.ref dk.1))))
    (hr : ∃ d', (∃ en', g en d = .ok (.ret (.bl true), en') d')) (hq : ∀ H', Q (.bl true) H') : tS W E0 g { nx := fun _ H' => Q .non H', rt := Q } σ H := by
  refine ⟨dk, fun a => a = dk.1 ∨ a = dk.2, H, [], en, d, ⟨fun a => a = dk.1 ∨ a = dk.2, fun _ _ => False, ⟨hl, fun i t e => ?_, fun i o e => ?_, fun _ _ _ z => z.elim, fun _ _ z => z.elim, fun _ _ z => z.elim, fun a z => ?_, .inl rfl, .inr rfl, hD⟩, fun _ z => z, fun _ _ z => z.elim, .refl _ _, (fun c hc => nomatch hc), fun a z => ?_⟩, ?_⟩
  · rcases hen i _ e with z | ⟨z, h⟩
    · cases z
    · cases z
      exact ⟨_, h, by simp only [Rep]⟩
  · rcases hen i _ e with z | ⟨z, h⟩ <;> cases z
  · rcases z with rfl | rfl
    · rw [hD.2.2]
      exact fun z => nomatch z
    · rw [hD.2.1]
      exact fun z => nomatch z
  · rcases z with rfl | rfl
    · rw [hD.2.2]
      exact fun z => nomatch z
    · rw [hD.2.1]
      exact fun z => nomatch z
  · obtain ⟨d', en', e⟩ := hr
    rw [e]
    intro v H' k D' r
    simp only [Rep] at r
    rw [r]
    exact hq _
/-! ### a law's end -/
/-- the script alone is tracked, if it is no object of the module -/
def scrH (K : PySem.W.Frag) (a : Addr) (o : Obj) (xs : List V) : Hp := fun b => if b = a ∧ K.lookup a = none then some (.frz o (.lst xs)) else none
theorem scrH_some {K : PySem.W.Frag} {a b : Addr} {o : Obj} {xs : List V} {u : HO} (h : scrH K a o xs b = some u) : b = a ∧ K.lookup a = none ∧ u = .frz o (.lst xs) := by
  unfold scrH at h
  split at h
  · rename_i z
    exact ⟨z.1, z.2, (Option.some.inj h).symm⟩
  · cases h
/-- a def's promise, called by the law's caller alone -/
def CallS (P : Program) (w : World) (K : PySem.W.Frag) (mg : Str → Option Value) (base : Heap) (CX : CXT) (fa : Addr) (fd : FuncData) (x : Str) (sp : Sp) : Prop :=
  ∀ (s : Shared) (H : Hp) (u : Value) (v : V) (Q : VK) (E : XK), Env0 P w K mg base callerA [] s H → BindsTo s fd ⟨[u], []⟩ [(x, u)] → RelV v u → sp [v] H Q E → codeAny (model P w) callerA (.call (.ref fa) ⟨[u], []⟩) (CR CX [] P w H s Q E) s
section
variable {P : Program} {w : World} {K : PySem.W.Frag} {mg mb : Str → Option Value} {CX : CXT} {fa a : Addr} {fd : FuncData} {x : Str} {n : Nat} {s1 : Shared} {vs : List Value} {ns : List Int}
theorem law_run (KX : K.In s1.heap) (gM : s1.heap.Ns mainGlobals mg) (gB : s1.heap.Ns builtinsNs mb) (boot : ∀ y : Str, y ≠ "__name__" → mb y = bootBuiltins y) (nl : s1.heap.NoLimit) (g0 : s1.gens = #[])
    (ha : s1.heap.get? a = some { cls := .type "list", data := .seq vs.toArray }) (ia : IntsAre vs ns) (hn : ns.length ≤ n) (hz : n ≤ sizeLine)
    (F : ∀ base : Heap, K.In base → base.Ns mainGlobals mg → CallS P w K mg base CX fa fd x (spS K n)) (bnd : ∀ (s : Shared) (u : Value), BindsTo s fd ⟨[u], []⟩ [(x, u)])
    (hCX : ∀ (H : Hp) (e : Value) (s' : Shared), ¬ CX [] H s1 (fun _ _ _ => False) e s') :
    codeAny (model P w) callerA (.call (.ref fa) ⟨[.ref a], []⟩) (fun r s' => r = .ok (.ret (.bool true)) ∧ OldK s1.heap s'.heap ∧ s'.os = s1.os ∧ AllBare s'.gens) s1 := by
  have are := L2.vals_ints ia
  have cnt : ns.length = vs.length := by
    have := are.length
    rwa [List.length_map] at this
  let obj : Obj := { cls := .type "list", data := .seq vs.toArray }
  let Hs : Hp := scrH K a obj (ns.map V.int)
  have hid : ∀ {b : Addr} {o : Obj}, s1.heap.get? b = some o → Hs b = none → (hidT s1.heap Hs).get? b = some o := fun h1 h2 => hidT_get h1 h2
  have dct : ∀ {b : Addr} {o : Obj} {es : Array DictEntry} {ep : Nat}, s1.heap.get? b = some o → o.data = .dict es ep → Hs b = none := fun {b o es ep} h1 h2 => by
    cases q : Hs b with
    | none => rfl
    | some u =>
      obtain ⟨rfl, _, _⟩ := scrH_some q
      rw [ha] at h1
      cases h1
      exact nomatch h2
  have nsH : ∀ {b : Addr} {m : Str → Option Value}, s1.heap.Ns b m → (hidT s1.heap Hs).Ns b m := fun ⟨o, es, ep, h1, h2, r⟩ => ⟨o, es, ep, hid h1 (dct h1 h2), h2, r⟩
  have kinH : K.In (hidT s1.heap Hs) := fun b o h1 => hid (KX b o h1) (by
    cases q : Hs b with
    | none => rfl
    | some u =>
      obtain ⟨rfl, hk, _⟩ := scrH_some q
      rw [hk] at h1
      cases h1)
  have ok0 : HOk P w Hs s1.heap := fun b u q => by
    obtain ⟨rfl, _, rfl⟩ := scrH_some q
    exact ⟨ha, by rw [List.length_map]; exact Nat.le_trans hn hz, vs, _, are, ha⟩
  have seq0 : SqL K Hs a (ns.map V.int) := by
    cases hk : K.lookup a with
    | none => exact .inl (.inr ⟨obj, if_pos ⟨rfl, hk⟩⟩)
    | some o =>
      have h1 := KX a o hk
      rw [ha] at h1
      cases h1
      exact .inr ⟨_, vs.toArray, _, hk, rfl, rfl, rfl, by rw [List.size_toArray, ← cnt]; exact Nat.le_trans hn hz, by simpa using are⟩
  have env0 : Env0 P w K mg (hidT s1.heap Hs) callerA [] s1 Hs :=
    { frames := rfl, mod := ⟨kinH, nsH gM, ⟨mb, nsH gB, boot⟩, by obtain ⟨mc, m1, m2⟩ := nl; exact ⟨mc, nsH m1, m2⟩⟩
      bs := fun b o h1 => of_hidT h1, bsz := Nat.le_of_eq (hidT_size _ _), funs := trivial, frf := (fun b hb => nomatch hb), hok := ok0, bare := .of_eq g0 }
  refine codeAny_mono (F _ kinH (nsH gM) s1 Hs (.ref a) (.ref a) (fun v _ => v = .bl true) (fun _ _ _ => False) env0 (bnd s1 _) rfl ⟨a, ns, rfl, seq0, hn, fun _ => rfl⟩) ?_
  rintro (er | (_ | _ | _ | u)) s2 hr
  · exact (hCX Hs er s2 hr).elim
  all_goals first | exact False.elim hr | skip
  obtain ⟨v, H2, eos, bare, un, ok2, rel, ev⟩ := hr
  have ev : v = .bl true := ev
  subst ev
  have rel : u = .bool true := rel
  subst rel
  refine ⟨rfl, OldK.of_keep fun b o h1 => ?_, eos, bare⟩
  cases q : Hs b with
  | none => exact un.keep b o h1 q (fun z => nomatch z) (fun z => nomatch z)
  | some u =>
    obtain ⟨rfl, _, rfl⟩ := scrH_some q
    have h2 := (ok2 b _ (un.frzs b _ _ q)).1
    rw [ha] at h1
    cases h1
    exact h2
end
/-- the goal that the head leaves -/
theorem law_walk {l : PySem.W.OpenLaw} {n : Nat} {q : Program} {loose : List Str} {XP : (Str → Option Value) → Heap → Prop} {YP : World → Heap → Prop} {d : DefRec} {K : Params → PySem.W.Frag} {CX : World → CXT} {x : Str}
    (hn : l.most = some n) (hz : n ≤ sizeLine) (hdf : d.params.defaults = []) (hY : ∀ (w : World) (h : Heap), YP w h → (K w.params).In h)
    (F : ∀ (w : World) (mg : Str → Option Value) (fa : Addr) (h : Heap), (K w.params).In h → h.Ns mainGlobals mg → mg d.name = some (.ref fa) →
      ∃ fd : FuncData, (∀ (s : Shared) (u : Value), BindsTo s fd ⟨[u], []⟩ [(x, u)]) ∧
        ∀ base : Heap, (K w.params).In base → base.Ns mainGlobals mg → CallS l.prog w (K w.params) mg base (CX w) fa fd x (spS (K w.params) n))
    (hCX : ∀ (w : World) (H : Hp) (s : Shared) (e : Value) (s' : Shared), ¬ CX w [] H s (fun _ _ _ => False) e s') :
    PySem.W.WalkO q loose XP YP l.row.toRowW d [] (fun f vs => PySem.call f vs) :=
  Att.attach_call hn hdf fun w s₀ s₁ mg mb fa o pm cd doc a vs ns G Y ho hd hcd hmg hobj hints hlen hg => by
    obtain ⟨fd, hb, hF⟩ := F w mg fa s₁.heap (hY w _ Y) G.T.g hmg
    exact law_run (hY w _ Y) G.T.g G.T.b G.T.builtins G.T.nolimit hg hobj hints hlen hz hF hb fun H e s' => hCX w H s₁ e s'
end TL
/-! TLm: comparisons as tests; keywords. -/
namespace TL
open PySem PySem.Spec PyProof.Rows L2
section
variable {W : Wd} {Ex : XK} {X : Cx} {a b c e : Expr} {f g h : En → M T} {pos p : Pos}
theorem tt_eq (hu : X.A.units + 100 < cLine) (hK : W.K = X.K) (ha : PE X a (tE W Ex f)) (hb : PE X b (tE W Ex g)) : PT X (.Compare a [.Eq] [b] pos) (tT W Ex (xTest (xBin eqT f g))) := tt_cmp (op_eqA (by omega)) (hK ▸ agr_eq) ha hb (nomark _)
theorem tt_ne (hu : X.A.units + 100 < cLine) (hK : W.K = X.K) (ha : PE X a (tE W Ex f)) (hb : PE X b (tE W Ex g)) : PT X (.Compare a [.NotEq] [b] pos) (tT W Ex (xTest (xBin neT f g))) := tt_cmp (op_neA (by omega)) (hK ▸ agr_ne) ha hb (nomark _)
theorem tt_lt (ha : PE X a (tE W Ex f)) (hb : PE X b (tE W Ex g)) : PT X (.Compare a [.Lt] [b] pos) (tT W Ex (xTest (xBin ltT f g))) := tt_cmp op_ltA agr_lt ha hb (nomark _)
theorem tt_gt (ha : PE X a (tE W Ex f)) (hb : PE X b (tE W Ex g)) : PT X (.Compare a [.Gt] [b] pos) (tT W Ex (xTest (xBin gtT f g))) := tt_cmp op_gtA agr_gt ha hb (nomark _)
theorem tt_ge (ha : PE X a (tE W Ex f)) (hb : PE X b (tE W Ex g)) : PT X (.Compare a [.GtE] [b] pos) (tT W Ex (xTest (xBin geT f g))) := tt_cmp op_geA agr_ge ha hb (nomark _)
theorem tt_in (hu : X.A.units + 100 < cLine) (hK : W.K = X.K) (ha : PE X a (tE W Ex f)) (hb : PE X b (tE W Ex g)) (hm : behindInMarks .In b = false := by with_unfolding_all rfl) : PT X (.Compare a [.In] [b] pos) (tT W Ex (xTest (xBin inT f g))) := tt_cmp (op_inA (by omega)) (hK ▸ agr_in) ha hb hm
theorem tt_notIn (hu : X.A.units + 100 < cLine) (hK : W.K = X.K) (ha : PE X a (tE W Ex f)) (hb : PE X b (tE W Ex g)) (hm : behindInMarks .NotIn b = false := by with_unfolding_all rfl) : PT X (.Compare a [.NotIn] [b] pos) (tT W Ex (xTest (xBin notInT f g))) := tt_cmp (op_notInA (by omega)) (hK ▸ agr_notIn) ha hb hm
end
/-- a def called with keywords alone -/
theorem bindsK {K : PySem.W.Frag} {x qual : Str} {st : Stmt} {f : Addr} {fd : FuncData} {ks ps : List Str} {is : List Nat} (F : Fun K x qual st f fd)
    (h : ∀ (kV doc pm : Value) (an : Option Addr) (cdv ct : Value) (ws : List Value), ws.length = ks.length → bindArgs (PySem.W.fnOf x qual (defArgs st) (defBody st) (defScope st) .none kV doc pm an cdv ct) ⟨[], ks.zip ws⟩ = pure (ps.zip (perm is ws))) :
    ∀ (s : Shared) (ws : List Value), ws.length = ks.length → BindsTo s fd ⟨[], ks.zip ws⟩ (ps.zip (perm is ws)) := fun s ws hl => by
  obtain ⟨oc, od, kV, doc, pm, an, cdv, ct, osl, rfl, lk, hcd⟩ := F.ex
  exact .of_eq (h kV doc pm an cdv ct ws hl)
/-- so many draws, at most -/
def Dok (k : Nat) (d : D) : Prop := d.laps ≤ k ∧ d.cells.length ≤ 63
/-- the deck's making -/
def spDeck (W : Wd) (n : Nat) : Sp := fun vs H Q _ => ∃ (a : Addr) (ns : List Int), vs = [.ref a] ∧ SqL W.K H a (ns.map V.int) ∧ ns.length ≤ n ∧ ∀ (H' : Hp) (dk : Dk) (d : D), DkAt W dk H' d → Dok 0 d → Q (.ref dk.1) H'
/-- the frame behind the deck's making -/
def lawE (n i : Nat) : En := (List.replicate n Sl.no).set i (.val .dck)
theorem law_rest2 {W : Wd} {dk : Dk} {H : Hp} {d : D} {σ : L2.St} {n i : Nat} {g : En → MS} {Q : VK} (hD : DkAt W dk H d) (hl : σ.length = n) (h0 : Dok 0 d)
    (hr : ∀ d : D, Dok 0 d → ∃ d' en', g (lawE n i) d = .ok (.ret (.bl true), en') d') (hq : ∀ H', Q (.bl true) H') : tS W E0 g { nx := fun _ H' => Q .non H', rt := Q } (σ.set i (some (.ref dk.1))) H := by
  refine law_rest (en := lawE n i) hD (by unfold lawE; rw [List.length_set, List.length_set, List.length_replicate, hl]) (fun j s e => ?_) (hr d h0) hq
  unfold lawE at e
  by_cases q : i = j
  · subst q
    have hi : i < n := by
      have := (List.getElem?_eq_some_iff.mp e).1
      simpa using this
    rw [List.getElem?_set_self (by simpa using hi)] at e
    cases e
    exact .inr ⟨rfl, List.getElem?_set_self (by rw [hl]; exact hi)⟩
  · rw [List.getElem?_set_ne q, List.getElem?_replicate] at e
    split at e
    · cases e
      exact .inl rfl
    · cases e
end TL
/-! TLn: plain law: how the functions on trees run. -/
namespace TL
open PySem PySem.Spec PyProof.Rows L2
section
variable {α β : Type} {en : En} {d d1 : D} {i j k : Nat} {t u : T} {f g h : En → M T} {fl gl : En → M (List T)} {c cb : En → M Bool}
@[simp] theorem ev_pure (a : α) : M.pure a d = .ok a d := (rfl)
@[simp] theorem ev_bind (m : M α) (k : α → M β) : M.bind m k d = Out.bind (m d) k := (rfl)
@[simp] theorem ev_ok (a : α) (k : α → M β) : Out.bind (.ok a d) k = k a d := (rfl)
@[simp] theorem ev_exc (x : Xn) (k : α → M β) : Out.bind (.exc x d) k = .exc x d := (rfl)
@[simp] theorem ev_badO (k : α → M β) : Out.bind (.bad : Out α) k = .bad := (rfl)
@[simp] theorem ev_bad : (M.bad : M α) d = .bad := (rfl)
@[simp] theorem ev_opt (a : α) : M.opt (some a) d = .ok a d := (rfl)
@[simp] theorem ev_opt0 : M.opt (none : Option α) d = .bad := (rfl)
@[simp] theorem ev_noX (m : M α) : M.noX m d = (match m d with | .ok a d' => .ok a d' | _ => .bad) := (rfl)
@[simp] theorem ev_C : xC t en d = .ok t d := (rfl)
@[simp] theorem ev_Var : xVar i en d = (match getS en i with | .val t => .ok t d | _ => .bad) := by
  unfold xVar
  cases getS en i <;> rfl
@[simp] theorem ev_Bin (op : T → T → Option T) : xBin op f g en d = (f en d).bind fun x => (g en).bind fun y => .opt (op x y) := (rfl)
@[simp] theorem ev_Un (op : T → Option T) : xUn op f en d = (f en d).bind fun x => .opt (op x) := (rfl)
@[simp] theorem ev_Test : xTest f en d = (f en d).bind fun x => .opt (boolT x) := (rfl)
@[simp] theorem ev_boolT (b : Bool) : boolT (.bl b) = some b := (rfl)
@[simp] theorem ev_If : xIf c f g en d = (c en d).bind fun x => match x with | true => f en | false => g en := (rfl)
@[simp] theorem ev_NotB : xNotB c en d = (c en d).bind fun x => .pure (!x) := (rfl)
@[simp] theorem ev_AndB : xAndB c cb en d = (c en d).bind fun x => match x with | true => cb en | false => .pure false := (rfl)
@[simp] theorem ev_OrB : xOrB c cb en d = (c en d).bind fun x => match x with | false => cb en | true => .pure true := (rfl)
@[simp] theorem ev_And : xAnd f g en d = (f en d).bind fun x => match x with | .bl true => g en | .bl false => .pure (.bl false) | _ => .bad := (rfl)
@[simp] theorem ev_Or : xOr f g en d = (f en d).bind fun x => match x with | .bl false => g en | .bl true => .pure (.bl true) | _ => .bad := (rfl)
@[simp] theorem ev_Yes : xYes en d = .ok true d := (rfl)
@[simp] theorem ev_Chain (op op' : T → T → Option T) : xChain op op' f g h en d = (f en d).bind fun x => (g en).bind fun y => (M.opt (op x y)).bind fun z => match z with | .bl true => (h en).bind fun w => .opt (op' y w) | .bl false => .pure (.bl false) | _ => .bad := (rfl)
@[simp] theorem ev_Nil : xNil en d = .ok [] d := (rfl)
@[simp] theorem ev_Cons : xCons f fl en d = (f en d).bind fun x => (fl en).bind fun l => .pure (x :: l) := (rfl)
@[simp] theorem ev_Tup : xTup fl en d = (fl en d).bind fun l => .opt (capL l.length (.tup l)) := (rfl)
@[simp] theorem ev_Lst : xLst fl en d = (fl en d).bind fun l => .opt (capL l.length l) := (rfl)
@[simp] theorem ev_ToL : xToL fl en d = (fl en d).bind fun l => .pure (.lst l) := (rfl)
@[simp] theorem ev_Call (op : List T → Option T) : xCall op fl en d = (fl en d).bind fun l => .opt (op l) := (rfl)
@[simp] theorem ev_CallN (op : List T → Option (List T)) : xCallN op fl en d = (fl en d).bind fun l => .opt (op l) := (rfl)
@[simp] theorem ev_Items : xItems f en d = (f en d).bind fun t => .opt (itemsT t) := (rfl)
@[simp] theorem ev_It (op : List T → Option (List T)) : xIt op fl en d = (fl en d).bind fun l => .opt (op l) := (rfl)
@[simp] theorem ev_It2 (op : List T → List T → Option (List T)) : xIt2 op fl gl en d = (fl en d).bind fun l => (gl en).bind fun m => .opt (op m l) := (rfl)
@[simp] theorem ev_Pk : xPk i f en d = ((f (frz i en)).noX d).bind fun t => .opt (guardT t) := (rfl)
@[simp] theorem ev_PkB : xPkB i c en d = (c (frz i en)).noX d := (rfl)
@[simp] theorem ev_Fn (Fm : List T → M T) : xFn Fm fl en d = (fl en d).bind Fm := (rfl)
@[simp] theorem ev_Sl (lo hi : En → M (Option Int)) : xSl f lo hi en d = (f en d).bind fun x => (lo en).bind fun l => (hi en).bind fun h => .opt (slT x l h) := (rfl)
@[simp] theorem ev_Part : xPart f en d = (f en d).bind fun x => .opt (intT? x) := (rfl)
@[simp] theorem ev_NoPart : xNoPart en d = .ok none d := (rfl)
@[simp] theorem ev_Lc (a : T → En → Option En) (vs : List Nat) : xLc fl a vs c f en d = (fl en d).bind fun l => (M.opt (capL l.length ())).bind fun _ => lcL a c f (wipeE en vs) l := (rfl)
@[simp] theorem ev_wipe0 : wipeE en [] = en := (rfl)
@[simp] theorem ev_wipe1 (v : Nat) (vs : List Nat) : wipeE en (v :: vs) = setS (wipeE en vs) v .no := (rfl)
/-! statements -/
variable {s s' : En → MS}
@[simp] theorem ev_Seq : sSeq s s' en d = (s en d).bind fun r => match r.1 with | .nx => s' r.2 | _ => .pure r := (rfl)
@[simp] theorem ev_Asg : sAsg i f en d = (f en d).bind fun t => .pure (.nx, setS en i (.val t)) := (rfl)
@[simp] theorem ev_Expr : sExpr f en d = (f en d).bind fun _ => .pure (.nx, en) := (rfl)
@[simp] theorem ev_Ret : sRet f en d = (f en d).bind fun t => .pure (.ret t, en) := (rfl)
@[simp] theorem ev_sIf : sIf c s s' en d = (c en d).bind fun b => match b with | true => s en | false => s' en := (rfl)
@[simp] theorem ev_Next : sNext en d = .ok (.nx, en) d := (rfl)
@[simp] theorem ev_For (a : T → En → Option En) : sFor fl a s en d = (fl en d).bind fun l => forL a s l en := (rfl)
@[simp] theorem ev_Frz : sFrz i s en d = s (frz i en) d := (rfl)
@[simp] theorem ev_New : sNew i fl en d = (fl en d).bind fun l => .pure (.nx, setS en i (.own (.lst l))) := (rfl)
@[simp] theorem ev_NewD : sNewD i en d = .ok (.nx, setS en i (.own (.dic []))) d := (rfl)
@[simp] theorem ev_App : sApp i f en d = withL en i (fun l => (f en).bind fun t => (M.opt (capL (l.length + 1) ())).bind fun _ => .pure (.nx, setS en i (.own (.lst (l ++ [t]))))) d := (rfl)
@[simp] theorem ev_Ext : sExt i f en d = withL en i (fun l => (f en).bind fun t => (M.opt (lstT? t)).bind fun m => (M.opt (capL (l.length + m.length) ())).bind fun _ => .pure (.nx, setS en i (.own (.lst (l ++ m))))) d := (rfl)
@[simp] theorem ev_Put : sPut i f g en d = withL en i (fun l => (g en).bind fun t => (f en).bind fun k => (M.opt ((intT1 k).bind (ixN l.length))).bind fun j => .pure (.nx, setS en i (.own (.lst (l.set j t))))) d := (rfl)
@[simp] theorem ev_withL (k : List T → MS) : withL en i k d = (match getS en i with | .own (.lst l) => k l d | _ => .bad) := by
  unfold withL
  cases getS en i with
  | no => rfl
  | val t => rfl
  | own o => cases o <;> rfl
@[simp] theorem ev_Par : sPar i j fl en d = (fl en d).bind fun l => match l with | [a, b] => .pure (.nx, setS (setS en i (.val a)) j (.val b)) | _ => .bad := (rfl)
@[simp] theorem ev_Par3 : sPar3 i j k fl en d = (fl en d).bind fun l => match l with | [a, b, c] => .pure (.nx, setS (setS (setS en i (.val a)) j (.val b)) k (.val c)) | _ => .bad := (rfl)
@[simp] theorem ev_AsgG (a : T → En → Option En) : sAsgG a f en d = (f en d).bind fun t => (M.opt (a t en)).bind fun en' => .pure (.nx, en') := (rfl)
@[simp] theorem ev_lstT (l : List T) : lstT? (.lst l) = some l := (rfl)
@[simp] theorem ev_frz : frz i en = (match getS en i with | .own (.set _) => en | .own o => setS en i (.val o.t) | _ => en) := (rfl)
@[simp] theorem ev_Ot (l : List T) : (O.lst l).t = .lst l := (rfl)
@[simp] theorem ev_Otd (l : List (Key × T)) : (O.dic l).t = .dic l := (rfl)
@[simp] theorem ev_get0 (x : Sl) : getS (x :: en) 0 = x := (rfl)
@[simp] theorem ev_getS (x : Sl) (n : Nat) : getS (x :: en) (n + 1) = getS en n := (rfl)
@[simp] theorem ev_set0 (x y : Sl) : setS (x :: en) 0 y = y :: en := (rfl)
@[simp] theorem ev_setS (x y : Sl) (n : Nat) : setS (x :: en) (n + 1) y = x :: setS en n y := (rfl)
@[simp] theorem ev_fn (n : Nat) (s : En → MS) (ts : List T) : fnM n s ts d = (match s (startE n ts) d with | .ok a d' => retM a d' | _ => .bad) := by
  unfold fnM
  rw [ev_bind, ev_noX]
  cases s (startE n ts) d <;> rfl
@[simp] theorem ev_retT (t : T) (e : En) : retM (.ret t, e) d = .ok t d := (rfl)
@[simp] theorem ev_retN (e : En) : retM (.nx, e) d = .ok .non d := (rfl)
@[simp] theorem ev_startE (n : Nat) (ts : List T) : startE n ts = ts.map Sl.val ++ List.replicate (n - ts.length) .no := (rfl)
@[simp] theorem ev_rep0 : List.replicate 0 Sl.no = [] := (rfl)
/-! values -/
@[simp] theorem ev_add (a b : Int) : addT (.int a) (.int b) = some (.int (a + b)) := (rfl)
@[simp] theorem ev_addS (a b : Str) : addT (.str a) (.str b) = capL (a.length + b.length) (.str (a ++ b)) := (rfl)
@[simp] theorem ev_addL (a b : List T) : addT (.lst a) (.lst b) = capL (a.length + b.length) (.lst (a ++ b)) := (rfl)
@[simp] theorem ev_addT (a b : List T) : addT (.tup a) (.tup b) = capL (a.length + b.length) (.tup (a ++ b)) := (rfl)
@[simp] theorem ev_sub (a b : Int) : subT (.int a) (.int b) = some (.int (a - b)) := (rfl)
@[simp] theorem ev_mul (a b : Int) : mulT (.int a) (.int b) = if smallI a || smallI b || wideI a b then some (.int (a * b)) else none := (rfl)
@[simp] theorem ev_fdiv (a b : Int) : fdivT (.int a) (.int b) = if 0 < b ∧ b < 1073741824 then some (.int (a / b)) else none := (rfl)
@[simp] theorem ev_mod (a b : Int) : modT (.int a) (.int b) = if 0 < b then some (.int (a % b)) else none := (rfl)
@[simp] theorem ev_pow (a b : Int) : powT (.int a) (.int b) = if 0 ≤ b ∧ b ≤ 1000000 ∧ a.natAbs < 2 ^ 64 then some (.int (a ^ b.toNat)) else none := (rfl)
@[simp] theorem ev_neg (a : Int) : negT (.int a) = some (.int (-a)) := (rfl)
@[simp] theorem ev_eqI (a b : Int) : eqT (.int a) (.int b) = some (.bl (decide (a = b))) := (rfl)
@[simp] theorem ev_neI (a b : Int) : neT (.int a) (.int b) = some (.bl (!decide (a = b))) := (rfl)
@[simp] theorem ev_eqS (a b : Str) : eqT (.str a) (.str b) = some (.bl (decide (a = b))) := (rfl)
@[simp] theorem ev_neS (a b : Str) : neT (.str a) (.str b) = some (.bl (!decide (a = b))) := (rfl)
@[simp] theorem ev_ltI (a b : Int) : ltT (.int a) (.int b) = some (.bl (decide (a < b))) := (rfl)
@[simp] theorem ev_leI (a b : Int) : leT (.int a) (.int b) = some (.bl (decide (a ≤ b))) := by rw [le_not]; rfl
@[simp] theorem ev_gtI (a b : Int) : gtT (.int a) (.int b) = some (.bl (decide (b < a))) := (rfl)
@[simp] theorem ev_geI (a b : Int) : geT (.int a) (.int b) = some (.bl (decide (b ≤ a))) := by rw [le_not]; rfl
@[simp] theorem ev_not (b : Bool) : notT (.bl b) = some (.bl (!b)) := (rfl)
@[simp] theorem ev_isN (a : T) : isNonT a .non = some (.bl a.isNon) := (rfl)
@[simp] theorem ev_notN (a : T) : notNonT a .non = some (.bl (!a.isNon)) := (rfl)
@[simp] theorem ev_ixL (l : List T) (i : Int) : ixT (.lst l) (.int i) = atI l i := (rfl)
@[simp] theorem ev_ixT (l : List T) (i : Int) : ixT (.tup l) (.int i) = atI l i := (rfl)
@[simp] theorem ev_lenL (l : List T) : lenT [.lst l] = some (.int l.length) := (rfl)
@[simp] theorem ev_lenT (l : List T) : lenT [.tup l] = some (.int l.length) := (rfl)
@[simp] theorem ev_lenS (z : Str) : lenT [.str z] = if z.length ≤ 16777216 then some (.int z.length) else none := (rfl)
@[simp] theorem ev_toInt (a : Int) : toIntT [.int a] = some (.int a) := (rfl)
@[simp] theorem ev_guI (a : Int) : guardT (.int a) = some (.int a) := (rfl)
@[simp] theorem ev_guS (a : Str) : guardT (.str a) = some (.str a) := (rfl)
@[simp] theorem ev_guB (a : Bool) : guardT (.bl a) = some (.bl a) := (rfl)
@[simp] theorem ev_itL (l : List T) : itemsT (.lst l) = some l := (rfl)
@[simp] theorem ev_itT (l : List T) : itemsT (.tup l) = some l := (rfl)
@[simp] theorem ev_itS (z : Str) : itemsT (.str z) = some (z.cps.toList.map fun c => .str ⟨#[c]⟩) := (rfl)
@[simp] theorem ev_rng1 (j : Int) : rng1 [.int j] = if -(2 ^ 62) ≤ j ∧ j < 2 ^ 62 then some (upI 0 j.toNat) else none := (rfl)
@[simp] theorem ev_rng2 (i j : Int) : rng2 [.int i, .int j] = if -(2 ^ 62) ≤ i ∧ i < 2 ^ 62 ∧ -(2 ^ 62) ≤ j ∧ j < 2 ^ 62 then some (upI i (j - i).toNat) else none := (rfl)
@[simp] theorem ev_enu2L (l : List T) (c : Int) : enu2 [.int c] [.lst l] = if -(2 ^ 63) ≤ c ∧ c < 2 ^ 63 then some (enumL c l) else none := (rfl)
@[simp] theorem ev_enu2T (l : List T) (c : Int) : enu2 [.int c] [.tup l] = if -(2 ^ 63) ≤ c ∧ c < 2 ^ 63 then some (enumL c l) else none := (rfl)
@[simp] theorem ev_enu1L (l : List T) : enu1 [.lst l] = some (enumL 0 l) := (rfl)
@[simp] theorem ev_enu1T (l : List T) : enu1 [.tup l] = some (enumL 0 l) := (rfl)
theorem ev_cap {n : Nat} {a : α} (h : n ≤ 16777216) : capL n a = some a := if_pos h
theorem small_of {i : Int} (h : -18446744073709551616 < i ∧ i < 18446744073709551616) : smallI i = true := decide_eq_true h
end
/-! ### loops -/
/-- a loop over a list, by a word about what was walked -/
theorem forL_inv {α : Type} (c : α → T) (xs : List α) {a : T → En → Option En} {g : En → MS} (I : List α → En → D → Prop) {en : En} {d : D} (h0 : I [] en d)
    (st : ∀ (pre : List α) (x : α) (post : List α) (en : En) (d : D), xs = pre ++ x :: post → I pre en d → ∃ en1, a (c x) en = some en1 ∧ ∃ en' d', g en1 d = .ok (.nx, en') d' ∧ I (pre ++ [x]) en' d') :
    ∃ en' d', forL a g (xs.map c) en d = .ok (.nx, en') d' ∧ I xs en' d' := by
  have : ∀ (post pre : List α) (en : En) (d : D), xs = pre ++ post → I pre en d → ∃ en' d', forL a g (post.map c) en d = .ok (.nx, en') d' ∧ I xs en' d' := by
    intro post
    induction post with
    | nil =>
      intro pre en d e h
      rw [List.append_nil] at e
      subst e
      exact ⟨en, d, rfl, h⟩
    | cons x post ih =>
      intro pre en d e h
      obtain ⟨en1, e1, en2, d2, e2, h2⟩ := st pre x post en d e h
      obtain ⟨en3, d3, e3, h3⟩ := ih (pre ++ [x]) en2 d2 (by rw [e, List.append_assoc]; rfl) h2
      refine ⟨en3, d3, ?_, h3⟩
      rw [List.map_cons]
      unfold forL
      simp only [e1, e2, e3, ev_bind, ev_opt, ev_ok]
  exact this xs [] en d rfl h0
/-- a comprehension over a list that neither draws nor raises -/
theorem lcL_map {α : Type} (c : α → T) {a : T → En → Option En} {fc : En → M Bool} {f : En → M T} {en : En} {d : D} (p : α → Bool) (q : α → T) : ∀ (xs : List α),
    (∀ x ∈ xs, ∃ en1, a (c x) en = some en1 ∧ fc en1 d = .ok (p x) d ∧ (p x = true → f en1 d = .ok (q x) d)) → lcL a fc f en (xs.map c) d = .ok ((xs.filter p).map q) d
  | [], _ => rfl
  | x :: xs, h => by
    obtain ⟨en1, e1, e2, e3⟩ := h x List.mem_cons_self
    have ih := lcL_map c p q xs fun y hy => h y (List.mem_cons_of_mem _ hy)
    rw [List.map_cons]
    unfold lcL
    simp only [e1, e2, ev_bind, ev_opt, ev_ok, ev_noX]
    cases hp : p x with
    | true => simp only [hp, e3 hp, ev_bind, ev_noX, ev_ok, ih, ev_pure, List.filter_cons, if_true, List.map_cons]
    | false => simp only [hp, ih, List.filter_cons, if_false, Bool.false_eq_true]
theorem upI_map (lo : Int) (n : Nat) : upI lo n = (List.range n).map fun (k : Nat) => T.int (lo + (k : Int)) := rfl
theorem pyL_ints : ∀ is : List Int, pyL (is.map T.int) = some (is.map PyData.int)
  | [] => rfl
  | i :: is => by
    rw [List.map_cons, List.map_cons]
    simp only [pyL, T.py, pyL_ints is]
@[simp] theorem ev_neNil (is : List Int) : neT (.lst (is.map T.int)) (.lst []) = some (.bl (!is.isEmpty)) := by
  unfold neT eqB
  simp only [T.py, pyL_ints, pyL, Option.map_some]
  have h1 : SeqAt.shaped (.list (is.map PyData.int)) = true := intsD_shaped is
  have h2 : SeqAt.shaped (.list []) = true := rfl
  have h3 := intsD_ne is
  unfold intsD at h3
  rw [h1, h2]
  simp only [Bool.and_true, if_true, Option.map_some, Option.some.injEq, T.bl.injEq]
  exact h3
@[simp] theorem ev_eqNil (is : List Int) : eqT (.lst (is.map T.int)) (.lst []) = some (.bl is.isEmpty) := by
  unfold eqT eqB
  simp only [T.py, pyL_ints, pyL, Option.map_some]
  have h1 : SeqAt.shaped (.list (is.map PyData.int)) = true := intsD_shaped is
  have h2 : SeqAt.shaped (.list []) = true := rfl
  have h3 := intsD_ne is
  unfold intsD at h3
  rw [h1, h2]
  simp only [Bool.and_true, if_true, Option.map_some, Option.some.injEq, T.bl.injEq]
  cases is <;> simp_all
theorem intsOf_map : ∀ is : List Int, intsOf (is.map T.int) = some is
  | [] => rfl
  | i :: is => by
    rw [List.map_cons]
    simp only [intsOf, intsOf_map is, Option.map_some]
@[simp] theorem ev_sum (is : List Int) : sumT [.lst (is.map T.int)] = some (.int is.sum) := by
  simp only [sumT, intsOf_map, Option.map_some]
theorem atI_nat' {α : Type} {l : List α} {n : Nat} {i : Int} {x : α} (hi : i = n) (h : l[n]? = some x) : atI l i = some x := by
  subst hi
  exact atI_nat h
/-! ### the deck -/
section
variable {en : En} {d : D} {f g : En → M T}
@[simp] theorem ev_DkSet : sDkSet g f en d = (f en d).bind fun t => (g en).bind fun o => setD o t en := (rfl)
@[simp] theorem ev_setD (i : Int) : setD .dck (.int i) en d = if 0 ≤ i then .ok (.nx, en) { d with laps := i.toNat } else .bad := (rfl)
@[simp] theorem ev_DkB : xDkB f en d = (f en d).bind (dckP fun d => .int d.blend) := (rfl)
@[simp] theorem ev_DkN : xDkN f en d = (f en d).bind (dckP fun d => .int d.laps) := (rfl)
@[simp] theorem ev_DkNe : xDkNe f en d = (f en d).bind (dckP fun d => .bl (!d.cells.isEmpty)) := (rfl)
@[simp] theorem ev_dckP (p : D → T) : dckP p .dck d = .ok (p d) d := (rfl)
@[simp] theorem ev_DkPop : xDkPop f en d = (f en d).bind popD := (rfl)
@[simp] theorem ev_popD : popD .dck d = (match d.cells[d.cells.length - 1]? with | some i => .ok (.int i) { d with cells := d.cells.dropLast } | none => .bad) := (rfl)
@[simp] theorem ev_DkApp : xDkApp f g en d = (f en d).bind fun o => match o with | .dck => (g en).bind appD | _ => .bad := (rfl)
@[simp] theorem ev_appD (i : Int) : appD (.int i) d = if d.cells.length < 16777216 then .ok .non { d with cells := d.cells ++ [i] } else .bad := (rfl)
end
theorem fn_ret {n : Nat} {g : En → MS} {ts : List T} {en en' : En} {d d' : D} {r : T} (e : g en d = .ok (.ret r, en') d') (h : startE n ts = en := by rfl) : fnM n g ts d = .ok r d' := by
  subst h
  rw [ev_fn, e]
  rfl
section
variable {α : Type} {a : α}
@[simp] theorem ev_cap0 : capL 0 a = some a := (rfl)
@[simp] theorem ev_cap1 : capL 1 a = some a := (rfl)
@[simp] theorem ev_cap2 : capL 2 a = some a := (rfl)
@[simp] theorem ev_cap3 : capL 3 a = some a := (rfl)
@[simp] theorem ev_cap4 : capL 4 a = some a := (rfl)
@[simp] theorem ev_cap5 : capL 5 a = some a := (rfl)
end
/-- range(n) -/
theorem rng1_nat {n : Nat} (h : n ≤ 1000000000) : rng1 [.int (n : Int)] = some ((List.range n).map fun (k : Nat) => T.int (k : Int)) := by
  rw [ev_rng1, if_pos (by omega), Int.toNat_natCast, upI_map]
  congr 1
  exact List.map_congr_left fun k _ => by rw [Int.zero_add]
/-- range(i, j) -/
theorem rng2_nat {i n : Nat} {j : Int} (hj : j = (i : Int) + (n : Int)) (h : i + n ≤ 1000000000) : rng2 [.int (i : Int), .int j] = some ((List.range n).map fun (k : Nat) => T.int ((i + k : Nat) : Int)) := by
  subst hj
  rw [ev_rng2, if_pos (by omega), show ((i : Int) + (n : Int) - (i : Int)).toNat = n by omega, upI_map]
  congr 1
end TL
/-! TLo: plain law: texts as lists of signs. -/
namespace TL
open PySem PySem.Spec PyProof.Rows L2
def strR (l : List Nat) : T := .str ⟨l.toArray⟩
theorem strR_len (l : List Nat) : (⟨l.toArray⟩ : Str).length = l.length := List.size_toArray
theorem str_app (a b : List Nat) : (⟨a.toArray⟩ ++ ⟨b.toArray⟩ : Str) = ⟨(a ++ b).toArray⟩ := by
  show (⟨a.toArray ++ b.toArray⟩ : Str) = _
  rw [List.append_toArray]
theorem ev_strAdd (a b : List Nat) : addT (strR a) (strR b) = capL (a.length + b.length) (strR (a ++ b)) := by
  unfold strR
  rw [ev_addS, strR_len, strR_len, str_app]
theorem ev_strItems (l : List Nat) : itemsT (strR l) = some (l.map fun c => strR [c]) := rfl
theorem str_inj {a b : List Nat} : ((⟨a.toArray⟩ : Str) = ⟨b.toArray⟩) ↔ a = b := by
  constructor
  · intro h
    have := congrArg (fun z : Str => z.cps.toList) h
    simpa using this
  · rintro rfl
    rfl
theorem ev_strEq (a b : List Nat) : eqT (strR a) (strR b) = some (.bl (decide (a = b))) := by
  unfold strR
  rw [ev_eqS]
  congr 2
  exact decide_eq_decide.mpr str_inj
theorem ev_strNe (a b : List Nat) : neT (strR a) (strR b) = some (.bl (!decide (a = b))) := by
  unfold strR
  rw [ev_neS]
  congr 3
  exact decide_eq_decide.mpr str_inj
theorem ev_strLen {l : List Nat} (h : l.length ≤ 16777216) : lenT [strR l] = some (.int l.length) := by
  unfold strR
  rw [ev_lenS, strR_len, if_pos h]
theorem ev_strFrom {l : List Nat} (k : Nat) (h : l.length ≤ 16777216) : slT (strR l) (some (k : Int)) none = some (strR (l.drop k)) := by
  unfold strR
  show (if (⟨l.toArray⟩ : Str).length ≤ 16777216 then _ else _) = _
  rw [strR_len, if_pos h]
  unfold cutS
  rw [strR_len, HT.sIx_none, HT.sIx_nat]
  congr 3
  rw [List.toList_toArray]
  by_cases hk : k ≤ l.length
  · rw [Nat.min_eq_left hk, List.take_of_length_le (by rw [List.length_drop]; exact Nat.le_refl _)]
  · rw [Nat.min_eq_right (by omega), List.drop_length, List.take_nil, List.drop_of_length_le (by omega)]
theorem ev_strTo {l : List Nat} (k : Nat) (h : l.length ≤ 16777216) : slT (strR l) none (some (k : Int)) = some (strR (l.take k)) := by
  unfold strR
  show (if (⟨l.toArray⟩ : Str).length ≤ 16777216 then _ else _) = _
  rw [strR_len, if_pos h]
  unfold cutS
  rw [strR_len, HT.sIx_none, HT.sIx_nat]
  congr 3
  rw [List.toList_toArray, List.drop_zero, Nat.sub_zero]
  by_cases hk : k ≤ l.length
  · rw [Nat.min_eq_left hk]
  · rw [Nat.min_eq_right (by omega), List.take_length, List.take_of_length_le (by omega)]
theorem ev_strIx {l : List Nat} {k : Nat} {c : Nat} (h : l.length ≤ 16777216) (e : l[k]? = some c) : ixT (strR l) (.int (k : Int)) = some (strR [c]) := by
  unfold strR
  show (if (⟨l.toArray⟩ : Str).length ≤ 16777216 then _ else _) = _
  rw [strR_len, if_pos h]
  show Option.map _ (atI l (k : Int)) = _
  rw [atI_nat e]
  rfl
end TL
/-! TLp: more lemmas on loops and lists. -/
namespace TL
open PySem PySem.Spec PyProof.Rows L2
theorem ev_While (n : Nat) (c : En → M Bool) (g : En → MS) (en : En) (d : D) : sWhile n c g en d = whileL c g n en d := rfl
/-- a comprehension that keeps all -/
theorem lcL_all {α : Type} (c : α → T) {a : T → En → Option En} {f : En → M T} {en : En} {d : D} (q : α → T) (xs : List α)
    (h : ∀ x ∈ xs, ∃ en1, a (c x) en = some en1 ∧ f en1 d = .ok (q x) d) : lcL a xYes f en (xs.map c) d = .ok (xs.map q) d := by
  rw [lcL_map c (fun _ => true) q xs fun x hx => by
    obtain ⟨en1, h1, h2⟩ := h x hx
    exact ⟨en1, h1, rfl, fun _ => h2⟩]
  rw [List.filter_eq_self.mpr fun _ _ => rfl]
@[simp] theorem ev_aTup (b : List T → En → Option En) (l : List T) (en : En) : aTup b (.tup l) en = b l en := (rfl)
@[simp] theorem ev_aCons (a : T → En → Option En) (b : List T → En → Option En) (t : T) (l : List T) (en : En) : aCons a b (t :: l) en = (a t en).bind (b l) := (rfl)
@[simp] theorem ev_aNil (en : En) : aNil [] en = some en := (rfl)
@[simp] theorem ev_aName (i : Nat) (t : T) (en : En) : aName i t en = some (setS en i (.val t)) := (rfl)
theorem ev_max2 (i j : Int) : maxT [.int i, .int j] = some (.int (if j > i then j else i)) := (rfl)
section
variable {α : Type} (x y z w : α) (l : List α)
theorem ev_at0 : atI (x :: l) 0 = some x := atI_nat' (n := 0) rfl rfl
theorem ev_at1 : atI (x :: y :: l) 1 = some y := atI_nat' (n := 1) rfl rfl
theorem ev_at2 : atI (x :: y :: z :: l) 2 = some z := atI_nat' (n := 2) rfl rfl
theorem ev_at3 : atI (x :: y :: z :: w :: l) 3 = some w := atI_nat' (n := 3) rfl rfl
end
end TL
/-! TLq: tame trees: their repr is told, equality of them is told. -/
namespace TL
open PySem PySem.Spec PyProof.Rows L2
mutual
/-- how much there is of it -/
def T.bk : T → Nat
  | .str x => x.length
  | .tup l => bkL l
  | .lst l => bkL l
  | _ => 0
def bkL : List T → Nat
  | [] => 0
  | t :: l => t.bk + 1 + bkL l
end
structure TmPy (d : PyData) (k b : Nat) : Prop where
  lay : d.canLay0 = true
  dep : d.depth ≤ k
  sh : d.showable = true
  lf : d.leavesShort 61 = true
  bu : d.bulk = b
theorem TmPy.shaped {d : PyData} {k b : Nat} (q : TmPy d k b) (hk : k ≤ 64) : SeqAt.shaped d = true := by
  unfold SeqAt.shaped
  rw [q.lay, Bool.true_and]
  exact decide_eq_true (Nat.le_trans q.dep hk)
end TL
/-! TLr: slices of lists and tuples by places. -/
namespace TL
open PySem PySem.Spec PyProof.Rows L2
theorem cutT_from (l : List T) (k : Nat) : cutT l (some (k : Int)) none = l.drop k := by
  unfold cutT
  rw [HT.sIx_none, HT.sIx_nat]
  by_cases hk : k ≤ l.length
  · rw [Nat.min_eq_left hk, List.take_of_length_le (by rw [List.length_drop]; exact Nat.le_refl _)]
  · rw [Nat.min_eq_right (by omega), List.drop_length, List.take_nil, List.drop_of_length_le (by omega)]
theorem cutT_to (l : List T) (k : Nat) : cutT l none (some (k : Int)) = l.take k := by
  unfold cutT
  rw [HT.sIx_none, HT.sIx_nat, List.drop_zero, Nat.sub_zero]
  by_cases hk : k ≤ l.length
  · rw [Nat.min_eq_left hk]
  · rw [Nat.min_eq_right (by omega), List.take_length, List.take_of_length_le (by omega)]
theorem slT_tup_to (l : List T) (k : Nat) : slT (.tup l) none (some (k : Int)) = some (.tup (l.take k)) := by
  show some (T.tup (cutT l none (some (k : Int)))) = _
  rw [cutT_to]
theorem slT_tup_from (l : List T) (k : Nat) : slT (.tup l) (some (k : Int)) none = some (.tup (l.drop k)) := by
  show some (T.tup (cutT l (some (k : Int)) none)) = _
  rw [cutT_from]
theorem slT_lst_to (l : List T) (k : Nat) : slT (.lst l) none (some (k : Int)) = some (.lst (l.take k)) := by
  show some (T.lst (cutT l none (some (k : Int)))) = _
  rw [cutT_to]
theorem slT_lst_from (l : List T) (k : Nat) : slT (.lst l) (some (k : Int)) none = some (.lst (l.drop k)) := by
  show some (T.lst (cutT l (some (k : Int)) none)) = _
  rw [cutT_from]
end TL
namespace TL
open PySem PySem.Spec PyProof.Rows L2
end TL
/-! TLs: comprehensions that draw. -/
namespace TL
open PySem PySem.Spec PyProof.Rows L2
/-- a comprehension whose element draws -/
theorem lcL_draw {α : Type} (c : α → T) {a : T → En → Option En} {f : En → M T} {en : En} (J : Nat → D → Prop) (Q : T → Prop) :
    ∀ (xs : List α) (i : Nat) (d : D), J i d → (∀ (x : α) (k : Nat) (d : D), x ∈ xs → k < i + xs.length → J k d → ∃ en1, a (c x) en = some en1 ∧ ∃ y d', f en1 d = .ok y d' ∧ Q y ∧ J (k + 1) d') →
    ∃ ys d', lcL a xYes f en (xs.map c) d = .ok ys d' ∧ ys.length = xs.length ∧ (∀ y ∈ ys, Q y) ∧ J (i + xs.length) d'
  | [], i, d, h, _ => ⟨[], d, rfl, rfl, fun _ h => (by cases h), h⟩
  | x :: xs, i, d, h, st => by
    obtain ⟨en1, e1, y, d1, e2, hq, hj⟩ := st x i d List.mem_cons_self (by rw [List.length_cons]; omega) h
    obtain ⟨ys, d2, e3, hl, hall, hj2⟩ := lcL_draw c J Q xs (i + 1) d1 hj fun x k d hx hk h => st x k d (List.mem_cons_of_mem _ hx) (by rw [List.length_cons]; omega) h
    refine ⟨y :: ys, d2, ?_, by rw [List.length_cons, List.length_cons, hl], fun z hz => ?_, ?_⟩
    · rw [List.map_cons]
      unfold lcL
      simp only [e1, e2, e3, ev_bind, ev_opt, ev_ok, ev_noX, ev_Yes, ev_pure]
    · rcases List.mem_cons.mp hz with rfl | hz
      · exact hq
      · exact hall z hz
    · rw [List.length_cons, show i + (xs.length + 1) = i + 1 + xs.length by omega]
      exact hj2
theorem ev_isiI (i : Int) : isiT "int" (.int i) = some (.bl true) := rfl
theorem ev_isiB (i : Int) : isiT "bool" (.int i) = some (.bl false) := rfl
theorem ev_isiT (l : List T) : isiT "tuple" (.tup l) = some (.bl true) := rfl
theorem ev_isiL (l : List T) : isiT "tuple" (.lst l) = some (.bl false) := rfl
theorem ev_isiS (x : Str) : isiT "str" (.str x) = some (.bl true) := rfl
theorem perm1 (a : T) : perm [0] [a] = [a] := rfl
theorem perm21 (a b : T) : perm [1, 0] [a, b] = [b, a] := rfl
theorem perm210 (a b c : T) : perm [2, 1, 0] [a, b, c] = [c, b, a] := rfl
end TL
namespace TL
open PySem PySem.Spec PyProof.Rows L2
theorem cutT_init (l : List T) : cutT l none (some (-1)) = l.dropLast := by
  unfold cutT
  rw [HT.sIx_none]
  have : HT.sIx l.length l.length (some (-1)) = l.length - 1 := by
    simp only [HT.sIx]
    rw [if_pos (by decide)]
    omega
  rw [this, List.drop_zero, Nat.sub_zero, List.dropLast_eq_take]
theorem slT_tup_init (l : List T) : slT (.tup l) none (some (-1)) = some (.tup l.dropLast) := by
  show some (T.tup (cutT l none (some (-1)))) = _
  rw [cutT_init]
theorem slT_lst_init (l : List T) : slT (.lst l) none (some (-1)) = some (.lst l.dropLast) := by
  show some (T.lst (cutT l none (some (-1)))) = _
  rw [cutT_init]
end TL
/-! TLt: dicts: own[k] = e, d.get(k, e), comprehensions over a dict's keys. -/
namespace TL
open PySem PySem.Spec PyProof.Rows L2
/-! ### the same but for locks -/
section
variable {W : Wd} {H H' : Hp} {F : Addr → Prop} {dk : Dk}
variable {G : Nat → Addr → Prop} {σ : L2.St} {en : En} {d : D}
theorem DkAt.upd {p : Addr} {o : HO} (D1 : DkAt W dk H d) (n1 : p ≠ dk.1) (n2 : p ≠ dk.2) : DkAt W dk (upd H p o) d :=
  ⟨D1.1, by rw [upd_ne n2.symm]; exact D1.2.1, by rw [upd_ne n1.symm]; exact D1.2.2⟩
end
/-! ### a comprehension over a dict's keys -/
def keyV : Key → T
  | .inl i => .int i
  | .inr x => .str x
/-- the keys of the dict in the i-th slot -/
def xKeys (i : Nat) : En → M (List T) := fun en => match getS en i with
  | .val (.dic l) => .pure (l.map fun kv => keyV kv.1)
  | _ => .bad
theorem Post.keys {W : Wd} {Ex : XK} {F : Addr → Prop} {dk : Dk} {H : Hp} {R : List T → D → Hp → Prop} {en : En} {d : D} {i : Nat} (h : Post W Ex F dk H R (xKeys i en d)) :
    ∃ l, getS en i = .val (.dic l) ∧ Post W Ex F dk H R (.ok (l.map fun kv => keyV kv.1) d) := by
  unfold xKeys at h
  cases e : getS en i with
  | no => rw [e] at h; exact h.elim
  | own o => rw [e] at h; exact h.elim
  | val t =>
    rw [e] at h
    cases t with
    | dic l => exact ⟨l, rfl, h⟩
    | _ => exact h.elim
section
variable {W : Wd} {Ex : XK} {X : Cx} {tg elt c : Expr} {ifs : List Expr} {scope : Scope} {own : List (Str × Nat)} {pos p0 : Pos} {a : T → En → Option En} {is : List Nat} {fc : En → M Bool} {f : En → M T}
theorem RepD.keys {H : Hp} {F : Addr → Prop} {dk : Dk} : ∀ {l : List (Key × T)} {xs : List (Key × V)}, RepD W H F dk l xs → xs.map (·.1) = l.map (·.1)
  | [], xs, h => by
    simp only [RepD] at h
    rw [h]
    rfl
  | (k, t) :: l, xs, h => by
    simp only [RepD] at h
    obtain ⟨x, r, rfl, _, h2⟩ := h
    rw [List.map_cons, List.map_cons, RepD.keys h2]
end
end TL
namespace TL
open PySem PySem.Spec PyProof.Rows L2
/-! ### own[k] = e -/
def putT (l : List (Key × T)) (k : Key) (t : T) : List (Key × T) :=
  if (l.any fun kv => decide (kv.1 = k)) = true then l.map (fun kv => if kv.1 = k then (kv.1, t) else kv) else l ++ [(k, t)]
section
variable {W : Wd} {H : Hp} {F : Addr → Prop} {dk : Dk}
theorem RepD.cons {k : Key} {t : T} {x : V} {l : List (Key × T)} {xs : List (Key × V)} (h : Rep W H F dk t x) (r : RepD W H F dk l xs) : RepD W H F dk ((k, t) :: l) ((k, x) :: xs) := by
  simp only [RepD]
  exact ⟨x, xs, rfl, h, r⟩
theorem RepD.snoc {k : Key} {t : T} {x : V} : ∀ {l : List (Key × T)} {xs : List (Key × V)}, RepD W H F dk l xs → Rep W H F dk t x → RepD W H F dk (l ++ [(k, t)]) (xs ++ [(k, x)])
  | [], xs, r, h => by
    simp only [RepD] at r
    subst r
    exact .cons h (by simp only [RepD])
  | (q, u) :: l, xs, r, h => by
    simp only [RepD] at r
    obtain ⟨y, s, rfl, h1, h2⟩ := r
    exact .cons h1 (RepD.snoc h2 h)
theorem RepD.repl {k : Key} {t : T} {x : V} : ∀ {l : List (Key × T)} {xs : List (Key × V)}, RepD W H F dk l xs → Rep W H F dk t x → RepD W H F dk (l.map fun kv => if kv.1 = k then (kv.1, t) else kv) (xs.map fun kv => if kv.1 = k then (kv.1, x) else kv)
  | [], xs, r, h => by
    simp only [RepD] at r
    subst r
    simp only [List.map_nil, RepD]
  | (q, u) :: l, xs, r, h => by
    simp only [RepD] at r
    obtain ⟨y, s, rfl, h1, h2⟩ := r
    rw [List.map_cons, List.map_cons]
    by_cases e : q = k
    · simp only [e, if_true]
      exact .cons h (RepD.repl h2 h)
    · simp only [e, if_false]
      exact .cons h1 (RepD.repl h2 h)
theorem RepD.put {k : Key} {t : T} {x : V} {l : List (Key × T)} {xs : List (Key × V)} (r : RepD W H F dk l xs) (h : Rep W H F dk t x) : RepD W H F dk (putT l k t) (putK xs k x) := by
  have e : (xs.any fun kv => decide (kv.1 = k)) = l.any fun kv => decide (kv.1 = k) := by
    have := congrArg (fun l => l.any fun q => decide (q = k)) r.keys
    simpa only [List.any_map, Function.comp_def] using this
  unfold putT putK
  rw [e]
  split
  · exact r.repl h
  · exact r.snoc h
end
def sPutD (i : Nat) (fb f : En → M T) : En → MS := fun en => withD en i fun l => (f en).bind fun t => (fb en).bind fun k => (M.opt (keyT k)).bind fun q => (M.opt (capL (l.length + 1) ())).bind fun _ => .pure (.nx, setS en i (.own (.dic (putT l q t))))
/-- a.get(b, c) -/
def dicT? : T → Option (List (Key × T))
  | .dic l => some l
  | _ => none
def xGet2 (fa fb fc : En → M T) : En → M T := fun en => (fa en).bind fun x => (M.opt (dicT? x)).bind fun l => (fb en).bind fun y => (fc en).bind fun z => .opt ((keyT y).map fun q => (lookK l q).getD z)
end TL
namespace TL
open PySem PySem.Spec PyProof.Rows L2
/-! ### own[e]: an item -/
def xOwnL (i : Nat) (fb : En → M T) : En → M T := fun en => match getS en i with
  | .own (.lst l) => (fb en).bind fun k => .opt ((intT1 k).bind (atI l))
  | _ => M.bad
def xOwnD (i : Nat) (fb : En → M T) : En → M T := fun en => match getS en i with
  | .own (.dic l) => (fb en).bind fun k => .opt ((keyT k).bind (lookK l))
  | _ => M.bad
section
variable {W : Wd} {Ex : XK} {X : Cx} {b : Expr} {fb : En → M T} {i : Nat} {x : Str} {pos p1 : Pos}
theorem te_ownL (i : Nat) (hb : PE X b (tE W Ex fb)) (hs : PlainIx b := by intro _ _; rfl) (hi : X.N[i]? = some x := by rfl) (hv : L2.Vis X.env.scope x := by first | exact Or.inl rfl | exact Or.inr (Or.inl rfl) | exact Or.inr (Or.inr rfl))
    (hd : (x == ("__debug__" : Str)) = false := by decide) (hcd : (x == ("__classdict__" : Str)) = false := by decide) : PE X (.Subscript (.Name x p1) b pos) (tE W Ex (xOwnL i fb)) :=
  (pe_ix ix_list (pv i hi hv hd hcd) hb hs).imp fun σ H Q ⟨dk, F, G, en, d, S, h⟩ => by
    unfold xOwnL at h
    cases e : getS en i with
    | no => rw [e] at h; exact h.elim
    | val t => rw [e] at h; exact h.elim
    | own o =>
      rw [e] at h
      cases o with
      | dix l => exact h.elim
      | dil l => exact h.elim
      | set l => exact h.elim
      | ins c fs => exact h.elim
      | dic l => exact h.elim
      | lst l =>
        obtain ⟨p, xs, h1, h2, h3, h4⟩ := ownL S e
        refine ⟨.ref p, h1, dk, F, G, en, d, S, (Post.bind h).mono fun k d1 H1 k1 D1 h5 y ry => ?_⟩
        obtain ⟨t, et, q⟩ := Post.opt_some h5
        obtain ⟨j, ej, et⟩ := Option.bind_eq_some_iff.mp et
        cases k <;> simp only [intT1, reduceCtorEq, Option.some.injEq] at ej
        subst ej
        simp only [Rep] at ry
        have h3' := k1 _ _ h3 (S.gd _ _ h2).1 (S.gd _ _ h2).2
        obtain ⟨v, hv1, rv⟩ := (S.keepL k1 h4).atI et
        exact ⟨p, xs, _, v, rfl, ry, .of h3', hv1, q H1 (.refl _ _) D1 _ rv⟩
end
end TL
namespace TL
open PySem PySem.Spec PyProof.Rows L2
section
variable {en : En} {d : TL.D} {f g h : En → M T} {i : Nat}
@[simp] theorem ev_OwnL : xOwnL i f en d = (match getS en i with | .own (.lst l) => (f en d).bind fun k => .opt ((intT1 k).bind (atI l)) | _ => .bad) := by
  unfold xOwnL
  cases getS en i with
  | no => rfl
  | val t => rfl
  | own o => cases o <;> rfl
@[simp] theorem ev_OwnD : xOwnD i f en d = (match getS en i with | .own (.dic l) => (f en d).bind fun k => .opt ((keyT k).bind (lookK l)) | _ => .bad) := by
  unfold xOwnD
  cases getS en i with
  | no => rfl
  | val t => rfl
  | own o => cases o <;> rfl
@[simp] theorem ev_Keys : xKeys i en d = (match getS en i with | .val (.dic l) => .ok (l.map fun kv => keyV kv.1) d | _ => .bad) := by
  unfold xKeys
  cases getS en i with
  | no => rfl
  | own o => rfl
  | val t => cases t <;> rfl
@[simp] theorem ev_withD (k : List (Key × T) → MS) : withD en i k d = (match getS en i with | .own (.dic l) => k l d | _ => .bad) := by
  unfold withD
  cases getS en i with
  | no => rfl
  | val t => rfl
  | own o => cases o <;> rfl
@[simp] theorem ev_PutD : sPutD i f g en d = withD en i (fun l => (g en).bind fun t => (f en).bind fun k => (M.opt (keyT k)).bind fun q => (M.opt (capL (l.length + 1) ())).bind fun _ => .pure (.nx, setS en i (.own (.dic (putT l q t))))) d := (rfl)
@[simp] theorem ev_Get2 : xGet2 f g h en d = (f en d).bind fun x => (M.opt (dicT? x)).bind fun l => (g en).bind fun y => (h en).bind fun z => .opt ((keyT y).map fun q => (lookK l q).getD z) := (rfl)
@[simp] theorem ev_dicT (l : List (Key × T)) : dicT? (.dic l) = some l := (rfl)
@[simp] theorem ev_keyI (n : Int) : keyT (.int n) = some (.inl n) := (rfl)
@[simp] theorem ev_keyS (x : Str) : keyT (.str x) = some (.inr x) := (rfl)
@[simp] theorem ev_int1 (n : Int) : intT1 (.int n) = some n := (rfl)
@[simp] theorem ev_ixDi (l : List (Key × T)) (n : Int) : ixT (.dic l) (.int n) = lookK l (.inl n) := (rfl)
@[simp] theorem ev_ixDs (l : List (Key × T)) (x : Str) : ixT (.dic l) (.str x) = lookK l (.inr x) := (rfl)
end
end TL
namespace TL
open PySem PySem.Spec PyProof.Rows L2
theorem dok_mono {j k : Nat} {d : TL.D} (h : Dok j d) (hk : j ≤ k) : Dok k d := ⟨Nat.le_trans h.1 hk, h.2⟩
/-- plain data that are told by a list of codes -/
theorem eqv_inj {α : Type} (f : α → PyData) [DecidableEq α] (hf : ∀ a b, PyData.eqv (f a) (f b) = decide (a = b)) : ∀ xs ys : List α, PyData.eqvAll (xs.map f) (ys.map f) = decide (xs = ys)
  | [], [] => by simp [PyData.eqvAll]
  | [], y :: ys => by simp [PyData.eqvAll]
  | x :: xs, [] => by simp [PyData.eqvAll]
  | x :: xs, y :: ys => by
    rw [List.map_cons, List.map_cons]
    simp only [PyData.eqvAll]
    rw [hf, eqv_inj f hf xs ys]
    by_cases h1 : x = y
    · by_cases h2 : xs = ys <;> simp [h1, h2]
    · simp [h1]
end TL
namespace TL
open PySem PySem.Spec PyProof.Rows L2
end TL
/-! TLu: the deck is a dict with three texts as keys. -/
namespace TL
open PySem PySem.Spec PyProof.Rows L2
/-- the deck's form: a dict with these keys, all unlike -/
structure DkIs (W : Wd) (k0 k1 k2 : Str) : Prop where
  dk : W.dk = dkD k0 k1 k2
  n01 : k0 ≠ k1
  n02 : k0 ≠ k2
  n12 : k1 ≠ k2
section
variable {W : Wd} {Ex : XK} {X : Cx} {o e : Expr} {f g : En → M T} {pos p1 p2 apos : Pos} {j : Nat} {k0 k1 k2 : Str}
theorem inr_ne {a b : Str} (h : a ≠ b) : (Sum.inr a : Key) ≠ Sum.inr b := fun e => h (Sum.inr.inj e)
theorem dkV0 (c : Addr) (d : TL.D) (h : k0 = k0) : valV [((Sum.inr k0 : Key), V.ref c), (Sum.inr k1, V.int d.blend), (Sum.inr k2, V.int d.laps)] (.inr k0) = some (.ref c) := by
  unfold valV
  rw [List.find?_cons, decide_eq_true rfl]
  rfl
theorem dkV1 (c : Addr) (d : TL.D) (h : k0 ≠ k1) : valV [((Sum.inr k0 : Key), V.ref c), (Sum.inr k1, V.int d.blend), (Sum.inr k2, V.int d.laps)] (.inr k1) = some (.int d.blend) := by
  unfold valV
  rw [List.find?_cons, decide_eq_false (inr_ne h), List.find?_cons, decide_eq_true rfl]
  rfl
theorem dkV2 (c : Addr) (d : TL.D) (h : k0 ≠ k2) (h2 : k1 ≠ k2) : valV [((Sum.inr k0 : Key), V.ref c), (Sum.inr k1, V.int d.blend), (Sum.inr k2, V.int d.laps)] (.inr k2) = some (.int d.laps) := by
  unfold valV
  rw [List.find?_cons, decide_eq_false (inr_ne h), List.find?_cons, decide_eq_false (inr_ne h2), List.find?_cons, decide_eq_true rfl]
  rfl
theorem dkAtD {dk : Dk} {H : Hp} {d : TL.D} (hW : DkIs W k0 k1 k2) (h : DkAt W dk H d) : H dk.1 = some (.dK [(.inr k0, .ref dk.2), (.inr k1, .int d.blend), (.inr k2, .int d.laps)]) := by rw [h.2.2, hW.dk]; rfl
theorem dkG0 {dk : Dk} {H : Hp} {d : TL.D} (hW : DkIs W k0 k1 k2) (h : DkAt W dk H d) : DGet H dk.1 (.str k0) (some (.ref dk.2)) := .inl ⟨_, .inr k0, .inl (dkAtD hW h), rfl, (dkV0 _ _ rfl).symm⟩
theorem dkG1 {dk : Dk} {H : Hp} {d : TL.D} (hW : DkIs W k0 k1 k2) (h : DkAt W dk H d) : DGet H dk.1 (.str k1) (some (.int d.blend)) := .inl ⟨_, .inr k1, .inl (dkAtD hW h), rfl, (dkV1 _ _ hW.n01).symm⟩
theorem dkG2 {dk : Dk} {H : Hp} {d : TL.D} (hW : DkIs W k0 k1 k2) (h : DkAt W dk H d) : DGet H dk.1 (.str k2) (some (.int d.laps)) := .inl ⟨_, .inr k2, .inl (dkAtD hW h), rfl, (dkV2 _ _ hW.n02 hW.n12).symm⟩
theorem te_dqB (hW : DkIs W k0 k1 k2) (hu : X.A.units + 100 < cLine) (ho : PE X o (tE W Ex f)) : PE X (.Subscript o (.Constant (.str k1) j p1) pos) (tE W Ex (xDkB f)) := (pe_dget (by omega) ho pe_str (fun _ _ => rfl)).imp fun σ H Q ⟨dk, F, G, en, d, S, h⟩ => by
  refine ⟨dk, F, G, en, d, S, (Post.bind h).mono fun t d1 H1 k1 D1 h1 v rv => ?_⟩
  cases t with
  | dck =>
    have rv := rv.atDk
    exact ⟨dk.1, .int d1.blend, rv, dkG1 hW D1, h1 H1 (.refl _ _) D1 _ rep_int⟩
  | _ => exact h1.elim
theorem te_dqN (hW : DkIs W k0 k1 k2) (hu : X.A.units + 100 < cLine) (ho : PE X o (tE W Ex f)) : PE X (.Subscript o (.Constant (.str k2) j p1) pos) (tE W Ex (xDkN f)) := (pe_dget (by omega) ho pe_str (fun _ _ => rfl)).imp fun σ H Q ⟨dk, F, G, en, d, S, h⟩ => by
  refine ⟨dk, F, G, en, d, S, (Post.bind h).mono fun t d1 H1 k1 D1 h1 v rv => ?_⟩
  cases t with
  | dck =>
    have rv := rv.atDk
    exact ⟨dk.1, .int d1.laps, rv, dkG2 hW D1, h1 H1 (.refl _ _) D1 _ rep_int⟩
  | _ => exact h1.elim
theorem tt_dqNe {p0 : Pos} (hW : DkIs W k0 k1 k2) (hu : X.A.units + 100 < cLine) (ho : PE X o (tE W Ex f)) : PT X (.Compare (.Subscript o (.Constant (.str k0) j p1) p0) [.NotEq] [.List [] p2] pos) (tT W Ex (xTest (xDkNe f))) :=
  (pt_cmpR (op_neD (by omega)) (pe_dget (by omega) ho pe_str (fun _ _ => rfl)) (pe_lst pa_nil) (nomark _)).imp fun σ H Q ⟨dk, F, G, en, d, S, h⟩ => by
  have h := Post.bind (m := xDkNe f en) h
  refine ⟨dk, F, G, en, d, S, (Post.bind h).mono fun t d1 H1 k1 D1 h1 v rv => ?_⟩
  cases t with
  | dck =>
    have rv := rv.atDk
    refine ⟨dk.1, .ref dk.2, rv, dkG0 hW D1, Nat.zero_le _, fun p hp => ?_⟩
    have sm : Same H1 (upd H1 p (.lst [])) := upd_same' hp
    refine ⟨.list (intsD d1.cells), .list [], .lst (.of (sm _ _ D1.2.1)) (intsD_dp _), .lst (.of upd_same) .nil, intsD_shaped _, rfl, _, rfl, ?_⟩
    rw [intsD_ne]
    exact h1 _ (.of sm) (D1.same sm) _ (.refl _ _) (D1.same sm)
  | _ => exact h1.elim
theorem te_dqPop {p0 : Pos} (hW : DkIs W k0 k1 k2) (hu : X.A.units + 100 < cLine) (ho : PE X o (tE W Ex f)) (hbase : attributeBase (.Subscript o (.Constant (.str k0) j p1) p0) "pop" X.env (eval (.Subscript o (.Constant (.str k0) j p1) p0) X.env) = eval (.Subscript o (.Constant (.str k0) j p1) p0) X.env := by rfl) (hline : (apos.endLine == pos.line) = true := by rfl) :
    PE X (.Call (.Attribute (.Subscript o (.Constant (.str k0) j p1) p0) "pop" apos) [] [] pos) (tE W Ex (xDkPop f)) :=
  (pe_bm0 PySem.F.plainAttrs_list PySem.F.slot_list_pop PySem.F.type_list_pop mt_pop (pe_dget (by omega) ho pe_str (fun _ _ => rfl)) hbase hline).imp fun σ H Q ⟨dk, F, G, en, d, S, h⟩ => by
  refine ⟨dk, F, G, en, d, S, (Post.bind h).mono fun t d1 H1 k1 D1 h1 v rv => ?_⟩
  cases t with
  | dck =>
    have rv := rv.atDk
    simp only [popD] at h1
    split at h1
    · rename_i i hi
      refine ⟨dk.1, .ref dk.2, rv, dkG0 hW D1, .inl ⟨rfl, _, .of D1.2.1⟩, dk.2, _, .int i, rfl, rfl, D1.2.1, by rw [List.length_map, List.getElem?_map, hi]; rfl, ?_⟩
      have := h1 (upd H1 dk.2 (.lst ((d1.cells.dropLast).map V.int))) Keep.upd2 (DkAt.cells (d' := { d1 with cells := d1.cells.dropLast }) D1 (by intro c; rw [hW.dk]; rfl)) _ rep_int
      rw [List.map_dropLast] at this
      exact this
    · exact h1.elim
  | _ => exact h1.elim
theorem te_dqApp {p0 : Pos} (hW : DkIs W k0 k1 k2) (hu : X.A.units + 100 < cLine) (ho : PE X o (tE W Ex f)) (he : PE X e (tE W Ex g)) (hbase : attributeBase (.Subscript o (.Constant (.str k0) j p1) p0) "append" X.env (eval (.Subscript o (.Constant (.str k0) j p1) p0) X.env) = eval (.Subscript o (.Constant (.str k0) j p1) p0) X.env := by rfl) (hline : (apos.endLine == pos.line) = true := by rfl) (hs : starEach [e] X.env = (false, eval e X.env) :: starEach [] X.env := by rfl) (hpl : (backTo pos (starEach [] X.env)).any (·.1) = false := by rfl) (hfew : ((((backTo pos (starEach [e] X.env)).all fun x => !x.fst) && (backToKw pos (keywordEach [] X.env)).all fun x => x.fst.isSome) && decide (([e].length + ([] : List Keyword).length + if ([] : List Keyword).isEmpty = true then 0 else 1) < 30)) = true := by rfl) :
    PE X (.Call (.Attribute (.Subscript o (.Constant (.str k0) j p1) p0) "append" apos) [e] [] pos) (tE W Ex (xDkApp f g)) :=
  (pe_bm PySem.F.plainAttrs_list PySem.F.slot_list_append PySem.F.type_list_append mt_append (pe_dget (by omega) ho pe_str (fun _ _ => rfl)) (ta_cons he ta_nil hs) hbase hfew hline hs hpl).imp fun σ H Q ⟨dk, F, G, en, d, S, h⟩ => by
  refine ⟨dk, F, G, en, d, S, (Post.bind h).mono fun t d1 H1 k1 D1 h1 v rv => ?_⟩
  have S1 := S.keep k1 D1
  cases t with
  | dck =>
    have rv := rv.atDk
    refine ⟨dk.1, .ref dk.2, rv, dkG0 hW D1, .inl ⟨rfl, _, .of D1.2.1⟩, dk, F, G, en, d1, S1, ?_⟩
    have h1 : Post W Ex F dk H1 (fun u d2 H2 => Post W Ex F dk H2 (fun t d' H' => ∀ v, Rep W H' F dk t v → Q v H') (appD u d2)) (g en d1) := Post.bind h1
    unfold xCons xNil
    cases hg : g en d1 with
    | bad =>
      rw [hg] at h1
      exact h1.elim
    | exc xx d2 =>
      rw [hg] at h1
      rw [M.bind_exc hg]
      exact h1
    | ok u d2 =>
      rw [hg] at h1
      rw [M.bind_ok hg]
      intro H2 k2 D2 xs rx
      have h2 := h1 H2 k2 D2
      obtain ⟨y, rfl, ry⟩ := RepL.one_inv rx
      cases u with
      | int i =>
        simp only [appD] at h2
        simp only [Rep] at ry
        subst ry
        split at h2
        · rename_i hz
          refine ⟨dk.2, _, .int i, rfl, rfl, D2.2.1, by rw [List.length_map, sizeLine_eq]; exact hz, ?_⟩
          have := h2 (upd H2 dk.2 (.lst ((d2.cells ++ [i]).map V.int))) Keep.upd2 (DkAt.cells (d' := { d2 with cells := d2.cells ++ [i] }) D2 (by intro c; rw [hW.dk]; rfl)) .non (by simp only [Rep])
          rw [List.map_append] at this
          exact this
        · exact h2.elim
      | _ => exact h2.elim
  | _ => exact h1.elim
/-- deck[k2] = e -/
theorem ts_dqSet {p0 : Pos} (hW : DkIs W k0 k1 k2) (hu : X.A.units + 100 < cLine) (ho : PE X o (tE W Ex g)) (he : PE X e (tE W Ex f)) (hs : swapsWith e (some (.Subscript o (.Constant (.str k2) j p1) p0)) pos.line X.env = pure false := by rfl) :
    PS X (.Assign [.Subscript o (.Constant (.str k2) j p1) p0] e pos) (tS W Ex (sDkSet g f)) :=
  (ps_dput (by omega) ho pe_str he hs).imp fun Dd σ H ⟨dk, F0, H0, cp, en, d, ⟨F, G, R⟩, p⟩ => R.use p fun t d1 v H1 k1' R1 rv q => R1.use q fun u d2 w H2 k2' R2 rw q2 => by
    cases u with
    | dck =>
      cases t with
      | int i =>
        simp only [setD] at q2
        split at q2
        · rename_i hi
          have rv := R1.s.keepR k2' rv
          simp only [Rep] at rv
          have rw := rw.atDk
          have D2 := R2.s.deck
          have hat := dkAtD hW D2
          refine ⟨dk.1, _, rw, .k (k := .inr k2) hat (by show 3 < sizeLine; decide), q2 _ _ ⟨F, G, R2.keep Keep.upd1 ⟨D2.1, by rw [upd_ne D2.1.symm]; exact D2.2.1, ?_⟩⟩⟩
          rw [upd_same, hW.dk, rv]
          have e : putK [((Sum.inr k0 : Key), V.ref dk.2), (Sum.inr k1, V.int d2.blend), (Sum.inr k2, V.int d2.laps)] (.inr k2) (.int i) = [((Sum.inr k0 : Key), V.ref dk.2), (Sum.inr k1, V.int d2.blend), (Sum.inr k2, V.int i)] := by
            have a1 : ((Sum.inr k0 : Key) = Sum.inr k2) ↔ False := ⟨fun z => hW.n02 (Sum.inr.inj z), False.elim⟩
            have a2 : ((Sum.inr k1 : Key) = Sum.inr k2) ↔ False := ⟨fun z => hW.n12 (Sum.inr.inj z), False.elim⟩
            unfold putK
            simp [a1, a2]
          rw [e]
          show some (HO.dK [(.inr k0, .ref dk.2), (.inr k1, .int d2.blend), (.inr k2, .int i)]) = some (.dK [(.inr k0, .ref dk.2), (.inr k1, .int d2.blend), (.inr k2, .int (i.toNat : Int))])
          rw [Int.toNat_of_nonneg hi]
        · exact q2.elim
      | _ => exact q2.elim
    | _ => cases t <;> exact q2.elim
end
theorem merge3 {k0 k1 k2 : Str} {a b c : V} (n01 : k0 ≠ k1) (n02 : k0 ≠ k2) (n12 : k1 ≠ k2) : mergeK [] [((Sum.inr k0 : Key), a), (Sum.inr k1, b), (Sum.inr k2, c)] = [((Sum.inr k0 : Key), a), (Sum.inr k1, b), (Sum.inr k2, c)] := by
  have a1 : ((Sum.inr k0 : Key) = Sum.inr k1) ↔ False := ⟨fun z => n01 (Sum.inr.inj z), False.elim⟩
  have a2 : ((Sum.inr k0 : Key) = Sum.inr k2) ↔ False := ⟨fun z => n02 (Sum.inr.inj z), False.elim⟩
  have a3 : ((Sum.inr k1 : Key) = Sum.inr k2) ↔ False := ⟨fun z => n12 (Sum.inr.inj z), False.elim⟩
  unfold mergeK
  simp [putK, a1, a2, a3]
theorem deck_take (ns : List Int) (n : Nat) : cutV (ns.map V.int) none (some (n : Int)) = (ns.take n).map V.int := by
  unfold cutV
  rw [List.length_map, HT.sIx_none, HT.sIx_nat, List.drop_zero, Nat.sub_zero, List.map_take]
  by_cases h : n ≤ ns.length
  · rw [Nat.min_eq_left h]
  · rw [Nat.min_eq_right (by omega), List.take_of_length_le (by rw [List.length_map]; exact Nat.le_refl _), List.take_of_length_le (by rw [List.length_map]; omega)]
end TL
/-! TLv: comprehensions with any number of clauses, to a list or to a dict: one clause over anything that is done with an item; what is done may be the next clause. -/
namespace TL
open PySem PySem.Spec PyProof.Rows L2
/-- a clause's turn; em: what is done with an item -/
def clTurn (tg : Expr) (ip : Pos) (ifs : List Expr) (em : Sem Fin → Sem Fin) (nx : Code) (it : Value) (env : Env) : Sem Fin := do
  standAt ip
  match ← pyNext it with
  | none => pure (.done .next)
  | some v =>
    letOwnedTupleGo tg it v; assign tg env v
    let mut good := true
    for c in ifs do
      if good then good ← isTrue c env (eval c env)
    if good then em (again nx) else again nx
/-- the next clause, as what is done with an item -/
def clNext (e : Expr) (k : Nat) (i1 : Expr) (acc : Value) (env : Env) (nx : Sem Fin) : Sem Fin := do
  let x ← eval i1 env
  standAt i1.pos
  let x ← foldedSetIterable i1 env x
  let _ ← runOwn (.compStart e k (← holding [x] (pyIter x)) acc env) env
  nx
/-- the node is no generator's: its turns are nobody's frame -/
structure Plain (e : Expr) : Prop where
  lp : ∀ k it acc env, (Code.compLoop e k it acc env).isFrame = false
  sp : ∀ k it acc env, (Code.compStart e k it acc env).isFrame = false
  qu : ∀ k it acc env, (Code.compLoop e k it acc env).quiet = true
  ul : ∀ (A : Around) k it acc env, A.under (Code.compLoop e k it acc env) = A
  us : ∀ (A : Around) k it acc env, A.under (Code.compStart e k it acc env) = A
abbrev TM := L2.St → Hp → (Hp → Prop) → Prop
/-- what is done with an item keeps all slots but ws -/
structure PM (X : Cx) (ws : List Nat) (em : Sem Fin → Sem Fin) (t : TM) : Prop where
  run : ∀ (pins : List (Addr × Obj)) (s : Shared) (σ : L2.St) (H : Hp) (N : Hp → Prop) (nx : Sem Fin) (Q : Fin → Shared → Prop) (E : Value → Shared → Prop), Inv X pins σ H s → t σ H N →
    (∀ s' σ' H', Inv X pins σ' H' s' → σ'.length = σ.length → (∀ (j : Nat) v, (wipe σ ws)[j]? = some (some v) → σ'[j]? = some (some v)) → N H' → wpAny (model X.prog X.w) X.A nx Q E s') → wpAny (model X.prog X.w) X.A (em nx) Q E s
theorem PM.imp {X : Cx} {ws : List Nat} {em : Sem Fin → Sem Fin} {t t' : TM} (h : PM X ws em t) (k : ∀ σ H N, t' σ H N → t σ H N) : PM X ws em t' := ⟨fun pins s σ H N nx Q E I q => h.run pins s σ H N nx Q E I (k σ H N q)⟩
/-- a clause's way: W by the turn and a measure -/
def Way (J : It) (g : TG) (tt : TT) (tm : TM) (vs : List Nat) (σ : L2.St) (Nd : Hp → Prop) (H0 : Hp) : Prop :=
  ∃ W : Nat → Nat → Hp → Prop, (∃ m, W 0 m H0) ∧ ∀ i m H, W i m H → (J.stop i H ∧ Nd H) ∨ (J.go i H ∧ ∃ Nx : Hp → Prop, (∀ H', Nx H' → ∃ m', m' < m ∧ W (i + 1) m' H') ∧
    ∀ x H', J.yld i H x H' → g x (wipe σ vs) H' fun σ2 H2 => wipe σ2 vs = wipe σ vs ∧ tt σ2 H2 fun b H3 => if b = true then tm σ2 H3 Nx else Nx H3)
def tClauseM (wi : TI) (g : TG) (tt : TT) (tm : TM) (vs : List Nat) : TM := fun σ H N => wi σ H fun J H1 => Way J g tt tm vs σ N H1
section
variable {Y : Cx} {e tg iter : Expr} {ifs : List Expr} {k : Nat} {acc : Value} {ip : Pos} {em : Sem Fin → Sem Fin} {R : Result → Shared → Prop} {g : TG} {tt : TT} {tm : TM} {vs ws : List Nat} {wi : TI}
theorem clLoop_run {J : It} {fp : List Addr} {it : Addr} {tn : Nat → Heap → Prop} {pins : List (Addr × Obj)} {s : Shared} {σ : L2.St} {H : Hp} {Nd : Hp → Prop}
    (hp : Plain e) (he : ∀ z, compTurn e k z acc Y.env = clTurn tg ip ifs em (.compLoop e k z acc Y.env) z Y.env) (hc : Y.calm = true) (T : Turn Y.prog Y.w Y.K tg J fp it tn)
    (hg : PG Y tg g) (ht : PTs Y ifs tt) (hm : PM Y ws em tm) (hw : ∀ i ∈ ws, i ∈ vs) (hxe : Y.xe = fun _ _ => False)
    (I : Inv Y pins (wipe σ vs) H s) (st : tn 0 s.heap) (hf : ∀ b ∈ fp, FpOk Y pins H b) (way : Way J g tt tm vs σ Nd H)
    (hR : ∀ s' H', Inv Y pins (wipe σ vs) H' s' → Nd H' → R (.ok .next) s') :
    codeAny (model Y.prog Y.w) Y.A (.compLoop e k (.ref it) acc Y.env) R s := by
  obtain ⟨W, ⟨m0, w0⟩, turn⟩ := way
  have still : ∀ {G : Hp}, (∀ b ∈ fp, G b = none) → ∀ b ∈ fp, FpOk Y pins G b := fun z b hb => ⟨z b hb, (hf b hb).2⟩
  refine codeAny_loop (hp.qu ..) (fun n s' => ∃ i G, Inv Y pins (wipe σ vs) G s' ∧ tn i s'.heap ∧ (∀ b ∈ fp, G b = none) ∧ W i n G) (fun n s1 hI => ?_) m0 ⟨0, H, I, st, fun b hb => (hf b hb).1, w0⟩
  obtain ⟨i, G1, I1, t1, f1, w1⟩ := hI
  rw [hp.ul]
  show wpAny _ Y.A (if (Code.compLoop e k (.ref it) acc Y.env).isFrame then (compTurn e k (.ref it) acc Y.env).onRaise (leaving Y.env) else (compTurn e k (.ref it) acc Y.env).onRaise (fun x => do noteFrame x Y.env; theTreesLotGoes x)) _ _ s1
  rw [if_neg (by rw [hp.lp]; decide)]
  refine wpAny_noted ?_
  rw [he]
  unfold clTurn
  refine wpAny_bind (wpAny_standAt (wpAny_bind ?_))
  rcases turn i n G1 w1 with ⟨stop, nd⟩ | ⟨go, Nx, hNx, step⟩
  · refine thnF (T.done Y rfl rfl rfl hc i pins s1 _ G1 (fun _ _ => False) I1 (still f1) t1 stop) fun r s2 ⟨hr, I2⟩ => ?_
    subst hr
    exact wpAny_pure (hR s2 G1 I2 nd)
  · refine thnF (T.item Y rfl rfl rfl hc i pins s1 _ G1 (fun _ _ => False) I1 (still f1) t1 go) fun r s2 ⟨u, hr, h2⟩ => ?_
    subst hr
    refine wpAny_bind (thnF h2 fun _ s3 ⟨x, G3, I3, r3, y3, t3, f3⟩ => ?_)
    have I3p := I3.pinned (still f3) (T.obj _ _ t3)
    have pgr := hg.run _ s3 _ G3 x u _ I3p r3 (step x G3 y3)
    rw [hxe] at pgr
    refine wpAny_bind (thnF pgr fun _ s4 ⟨σ4, G4, I4, w4, q4⟩ => ?_)
    have ptr := ht.run _ s4 σ4 G4 _ I4 q4
    rw [hxe] at ptr
    refine wpAny_bind (thnF ptr fun b s5 ⟨G5, I5, q5⟩ => ?_)
    -- the way back to the loop's head
    have back : ∀ {τ : L2.St} {s' : Shared} {G : Hp}, Inv Y (pins ++ pinsAt fp s3.heap) τ G s' → τ.length = σ4.length → (∀ (j : Nat) v, (wipe σ4 ws)[j]? = some (some v) → τ[j]? = some (some v)) → Nx G →
        ∃ m, m < n ∧ ∃ i G, Inv Y pins (wipe σ vs) G s' ∧ tn i s'.heap ∧ (∀ b ∈ fp, G b = none) ∧ W i m G := fun {τ s' G} Ib hl hk nx => by
      obtain ⟨m', lt, w'⟩ := hNx G nx
      have pinned : ∀ b ∈ fp, ∀ o, s3.heap.get? b = some o → s'.heap.get? b = some o ∧ G b = none := fun b hb o eo =>
        have z := Ib.pin (b, o) (List.mem_append_right _ (List.mem_append_right _ (mem_pinsAt hb eo)))
        ⟨z.1, z.2.1⟩
      refine ⟨m', lt, i + 1, G, (Ib.unpinned (pins := pins)).weak (by rw [hl, ← w4, wipe_length]) (fun j v ev => ?_), ?_, fun b hb => ?_, w'⟩
      · rw [← w4] at ev
        obtain ⟨e1, e2⟩ := wipe_some ev
        exact hk j v (by rw [wipe_out (fun z => e2 (hw j z))]; exact e1)
      · exact T.keep _ _ _ t3 fun b hb o eo => (pinned b hb o eo).1
      · obtain ⟨o, eo, _⟩ := T.obj _ _ t3 b hb
        exact (pinned b hb o eo).2
    cases b with
    | false =>
      simp only [Bool.false_eq_true, if_false] at q5 ⊢
      exact wpAny_pure ⟨rfl, back I5 rfl (fun j v ev => (wipe_some ev).1) q5⟩
    | true =>
      simp only [if_true] at q5 ⊢
      refine hm.run _ s5 σ4 G5 _ _ _ _ I5 q5 fun s6 τ G6 I6 l6 k6 n6 => ?_
      exact wpAny_pure ⟨rfl, back I6 l6 k6 n6⟩
theorem clStart_run {it : Value} {s : Shared} (hp : Plain e) (hcl : (clausesOf e)[k]? = some ⟨tg, iter, ifs, 0⟩)
    (h0 : codeAny (model Y.prog Y.w) Y.A (.compLoop e k it acc Y.env) R s)
    (h1 : wpAny (model Y.prog Y.w) Y.A (pyIter it) (fun z s' => codeAny (model Y.prog Y.w) Y.A (.compLoop e k z acc Y.env) R s') (notedBy (model Y.prog Y.w) Y.A Y.env fun x s' => R (.error x) s') s) :
    codeAny (model Y.prog Y.w) Y.A (.compStart e k it acc Y.env) R s := by
  refine codeAny_of_tree ?_
  rw [hp.us]
  show wpAny _ _ (if (Code.compStart e k it acc Y.env).isFrame then (compStart e k it acc Y.env).onRaise (leaving Y.env) else (compStart e k it acc Y.env).onRaise (fun x => do noteFrame x Y.env; standAt theWindowsPlace)) _ _ s
  rw [if_neg (by rw [hp.sp]; decide)]
  refine wpAny_notedAt ?_
  unfold compStart
  rw [hcl]
  show wpAny _ _ (ask >>= _) _ _ s
  refine wpAny_bind (wpAny_askSetting (wpAny_ite ?_))
  split
  · first
      | exact wpAny_pure ⟨hp.qu .., h0⟩
      | exact wpAny_bind (wpAny_pure (wpAny_pure ⟨hp.qu .., h0⟩))
  · refine wpAny_bind (wpAny_rule ?_)
    show wpAny _ _ (standAt iter.pos >>= _) _ _ s
    exact wpAny_bind (wpAny_standAt (wpAny_bind (wpAny_mono h1 (fun z s' h => wpAny_pure ⟨hp.qu .., h⟩) fun _ _ x => x)))
/-- the next clause -/
theorem pm_next (hp : Plain e) (hcl : (clausesOf e)[k]? = some ⟨tg, iter, ifs, 0⟩) (he : ∀ z, compTurn e k z acc Y.env = clTurn tg ip ifs em (.compLoop e k z acc Y.env) z Y.env) (hc : Y.calm = true) (hxe : Y.xe = fun _ _ => False)
    (hi : PI Y tg iter wi) (hg : PG Y tg g) (ht : PTs Y ifs tt) (hm : PM Y ws em tm) (hw : ∀ i ∈ ws, i ∈ vs) (hs : ∀ x, foldedSetIterable iter Y.env x = pure x) :
    PM Y vs (clNext e k iter acc Y.env) (tClauseM wi g tt tm vs) := by
  refine ⟨fun pins s σ H N nx Q E I h fin => ?_⟩
  unfold clNext
  have ir := hi.run pins s σ H _ I h
  rw [hxe] at ir
  refine wpAny_bind (thnF ir fun x s1 h1 => ?_)
  refine wpAny_bind (wpAny_standAt (wpAny_bind (wpAny_of_eq (hs x) (wpAny_bind (wpAny_holding (thnF h1 fun itv s2 h2 => ?_))))))
  obtain ⟨it, fp, tn, J, H2, rfl, I2, T, t2, f2, way⟩ := h2
  refine wpAny_bind (wpAny_runOwn ?_)
  rw [Around.mark_none]
  have lp : codeAny (model Y.prog Y.w) Y.A (.compLoop e k (.ref it) acc Y.env) (fun r s' => match r with
      | .ok _ => ∃ σ' H', Inv Y pins σ' H' s' ∧ σ'.length = σ.length ∧ (∀ (j : Nat) v, (wipe σ vs)[j]? = some (some v) → σ'[j]? = some (some v)) ∧ N H'
      | .error _ => False) s2 :=
    clLoop_run hp he hc T hg ht hm hw hxe (I2.weak (wipe_length _ _) fun j v ev => (wipe_some ev).1) t2 f2 way fun s' H' I' nd => ⟨_, H', I', wipe_length _ _, fun _ _ z => z, nd⟩
  refine codeAny_mono (clStart_run hp hcl lp (T.self Y.A 0 _ _ _ t2 lp)) fun r s' hr => ?_
  cases r with
  | ok f =>
    obtain ⟨σ', H', I', l', k', n'⟩ := hr
    exact fin s' σ' H' I' l' k' n'
  | error x => exact hr.elim
theorem pm_dict {kx vx : Expr} {tk tv : TE} {D : Addr} (h1 : PE Y kx tk) (h2 : PE Y vx tv) (hxe : Y.xe = fun _ _ => False) :
    PM Y [] (fun nx => (do
      let kv ← eval kx Y.env
      let vv ← holding [kv] (eval vx Y.env)
      match (.ref D : Value) with
      | .ref d => do
        standAt { kx.pos with endLine := vx.pos.endLine, endCol := vx.pos.endCol }
        holding [kv, vv] (dictSet d kv vv)
      | _ => unsupported "internal:dictcomp" : Sem Unit) >>= fun _ => nx) (fun σ H N => tk σ H fun y G => tv σ G fun z G2 => ∃ l q, y = kV q ∧ G2 D = some (.dK l) ∧ l.length < sizeLine ∧ N (upd G2 D (.dK (putK l q z)))) := by
  refine ⟨fun pins s σ H N nx Q E I q fin => ?_⟩
  have er := h1.run pins s σ H _ I q
  rw [hxe] at er
  refine wpAny_bind (wpAny_bind (thnF er fun v s1 ⟨y, G, I1, r1, q1⟩ => ?_))
  have vr := h2.run pins s1 σ G _ I1 q1
  rw [hxe] at vr
  refine wpAny_bind (wpAny_holding (thnF vr fun v2 s2 ⟨z, G2, I2, r2, l, qk, ey, hl, hz, n⟩ => ?_))
  subst ey
  exact wpAny_bind (wpAny_standAt (wpAny_holding (d_dictSet I2 hl hz r1 r2 fun s3 I3 => fin s3 σ _ I3 rfl (fun _ _ z => z) n)))
end
/-- a comprehension: o0 the new object as it begins -/
def tCompr (wi : TI) (g : TG) (tt : TT) (tm : Addr → TM) (o0 : Addr → HO) (vs : List Nat) : TE := fun σ H Q => wi σ H fun J H1 => ∀ D, H1 D = none → Way J g tt (tm D) vs σ (Q (.ref D)) (upd H1 D (o0 D))
/-- how the new object is laid -/
structure Lays (X : Cx) (mk : Sem Value) (ob : Obj) (o0 : Addr → HO) : Prop where
  does : ∀ {A : Around} {E : Value → Shared → Prop} {s : Shared} {Q : Value → Shared → Prop}, Q (.ref s.heap.objs.size) { s with heap := s.heap.push ob } → wpAny (model X.prog X.w) A mk Q E s
  inv : ∀ {pins : List (Addr × Obj)} {σ : L2.St} {H : Hp} {s : Shared}, Inv X pins σ H s → Inv X pins σ (upd H s.heap.objs.size (o0 s.heap.objs.size)) { s with heap := s.heap.push ob }
theorem lays_dict {X : Cx} : Lays X newDict { cls := .type "dict", data := .dict #[] } (fun _ => .dK []) where
  does := fun h => wpAny_newObj_type h
  inv := fun {pins σ H s} I => I.laid (t' := s.toks) (fun b o z => Heap.get?_push_of_some _ z) (Nat.le_refl _) (dk_empty s.heap I.big)
section
variable {X : Cx} {e tg iter : Expr} {ifs : List Expr} {rest : List Comprehension} {scope : Scope} {own : List (Str × Nat)} {ip : Pos} {g : TG} {tt : TT} {wi : TI} {ws : List Nat} {mk : Sem Value} {ob : Obj} {o0 : Addr → HO} {em : Addr → Env → Sem Fin → Sem Fin} {tm : Addr → TM}
theorem compr_core {pins : List (Addr × Obj)} {s : Shared} {σ : L2.St} {H : Hp} {Q : VK} {pos : Pos} {use : Option (Value → Sem Unit)} {Qf : Value → Shared → Prop}
    (hp : Plain e) (hcl : clausesOf e = ⟨tg, iter, ifs, 0⟩ :: rest) (he : ∀ D env z, compTurn e 0 z (.ref D) env = clTurn tg ip ifs (em D env) (.compLoop e 0 z (.ref D) env) z env) (lay : Lays X mk ob o0)
    (hc : X.calm = true) (hN : X.N.Nodup) (I : Inv X pins σ H s) (hi : PI X tg iter wi) (ok : BlkOk X.N X.env.scope scope own) (hw : ∀ i ∈ ws, i ∈ own.map (·.2))
    (hg : ∀ s H C cl fp, PG (X.blk s H scope (compEnvC scope cl C X.env) fp) tg g) (ht : ∀ s H C cl fp, PTs (X.blk s H scope (compEnvC scope cl C X.env) fp) ifs tt)
    (hm : ∀ s H C cl fp D, PM (X.blk s H scope (compEnvC scope cl C X.env) fp) ws (em D (compEnvC scope cl C X.env)) (tm D)) (hs : ∀ x, foldedSetIterable iter X.env x = pure x)
    (h : tCompr wi g tt tm o0 (own.map (·.2)) σ H Q)
    (hE : ∀ D C s' m H', Inv X pins σ H' s' → Q (.ref D) H' → s'.heap.Ns C m → FpOk X pins H' C → compPost (model X.prog X.w) X.A X.xe use Qf (.ref D) C (.ok .next) s') :
    wpAny (model X.prog X.w) X.A (comprehension e scope X.env pos mk false (eval iter X.env) use) Qf X.xe s := by
  refine wpAny_comprehension_free (use := use) hcl hs (closure_ok fun y hy ey => (ok.free y hy ey).elim (fun z => I.ok.has _ (.inl z)) (fun z => I.ok.has _ (.inr z))) ok.kind (fun y hy ey => by rw [ok.uniq y hy, ey])
    (thn (hi.run pins s σ H _ I h) fun x s1 h1 => thn h1 fun itv s2 h2 => ?_)
  obtain ⟨it, fp, tn, J, H2, rfl, I2, T, t2, f2, way⟩ := h2
  refine lay.does (newEnv_comp ?_)
  have I3 := lay.inv I2
  have way := way _ (I2.hok.fresh (Nat.le_refl _))
  have kept : ∀ b o, s2.heap.get? b = some o → (s2.heap.push ob).get? b = some o := fun b o z => Heap.get?_push_of_some _ z
  have small : ∀ b ∈ fp, b < s2.heap.objs.size := fun b hb => by
    obtain ⟨o, eo, _⟩ := T.obj _ _ t2 b hb
    exact Heap.lt_size eo
  generalize s2.heap.objs.size = D at *
  have t3 : tn 0 (s2.heap.push ob) := T.keep _ _ _ t2 fun b _ o z => kept b o z
  generalize hz3 : ({ s2 with heap := s2.heap.push ob } : Shared) = s3 at I3 ⊢
  have h3 : s3.heap = s2.heap.push ob := by rw [← hz3]
  have D3 : D < s3.heap.objs.size := by
    have := I3.hok D (o0 D) upd_same
    exact Nat.lt_of_not_le fun z => by
      have nn := I3.hok.fresh z
      rw [upd_same] at nn
      cases nn
  rw [← h3] at t3
  generalize hH3 : upd H2 D (o0 D) = H3 at I3 way
  have f3 : ∀ b ∈ fp, FpOk X pins H3 b ∧ b < s3.heap.objs.size := fun b hb => by
    have lt := small b hb
    refine ⟨⟨?_, (f2 b hb).2⟩, Nat.lt_trans lt D3⟩
    rw [← hH3, upd_ne (Nat.ne_of_lt lt)]
    exact (f2 b hb).1
  have I4 := block_start I3 ok hN f3
  show codeAny _ _ (.compStart e 0 (.ref it) (.ref D) (compEnvC scope (cellsFrom (s3.heap.objs.size + 1) scope.names (cloFrom X.env.cells scope.names [])) s3.heap.objs.size X.env)) (compPost (model X.prog X.w) X.A X.xe use Qf (.ref D) s3.heap.objs.size) { s3 with heap := pushCells (s3.heap.push { cls := .type "dict", data := .dict #[] }) scope.names }
  have pg := hg s3 H3 s3.heap.objs.size (cellsFrom (s3.heap.objs.size + 1) scope.names (cloFrom X.env.cells scope.names [])) fp
  have pt := ht s3 H3 s3.heap.objs.size (cellsFrom (s3.heap.objs.size + 1) scope.names (cloFrom X.env.cells scope.names [])) fp
  have pm := hm s3 H3 s3.heap.objs.size (cellsFrom (s3.heap.objs.size + 1) scope.names (cloFrom X.env.cells scope.names [])) fp D
  generalize hce : compEnvC scope (cellsFrom (s3.heap.objs.size + 1) scope.names (cloFrom X.env.cells scope.names [])) s3.heap.objs.size X.env = ce at I4 pg pt pm ⊢
  have hL : ce.locals = s3.heap.objs.size := by rw [← hce]; rfl
  have t4 : tn 0 (pushCells (s3.heap.push { cls := .type "dict", data := .dict #[] }) scope.names) := T.keep _ _ _ t3 fun b _ o z => pushCells_keeps _ _ _ _ (Heap.get?_push_of_some _ z)
  generalize hz4 : ({ s3 with heap := pushCells (s3.heap.push { cls := .type "dict", data := .dict #[] }) scope.names } : Shared) = s4 at I4 ⊢
  have t4 : tn 0 s4.heap := by rw [← hz4]; exact t4
  have lp : codeAny (model X.prog X.w) X.A (.compLoop e 0 (.ref it) (.ref D) ce) (compPost (model X.prog X.w) X.A X.xe use Qf (.ref D) s3.heap.objs.size) s4 := by
    refine clLoop_run (Y := X.blk s3 H3 scope ce fp) hp (he D ce) hc T pg pt pm hw rfl I4 t4 (fun b hb => ⟨(f3 b hb).1.1, (I4.ok.exf b hb).1, I4.ok.exfs b hb, .inl hb, fun x c z => (I4.ok.exf b hb).2 x c z, fun p hp => absurd (show p ∈ ([] : List (Addr × Obj)) ++ [] from hp) (by simp)⟩) way fun s5 H5 I5 nd => ?_
    have I6 : Inv X pins σ H5 s5 := I3.call' (ch := fp) I5.os I5.base I5.hok I5.bare fun b hb => ⟨(f3 b hb).1.2.2.2.1, (f3 b hb).1.2.1, (f3 b hb).1.2.2.2.2.1, (f3 b hb).1.2.2.2.2.2⟩
    have fr : H5 ce.locals = none := I5.free
    obtain ⟨m, ns, _⟩ := I5.loc
    have ns : s5.heap.Ns ce.locals m := ns
    rw [hL] at ns fr
    exact hE D s3.heap.objs.size s5 m H5 I6 nd ns (I3.fpOk (Nat.le_refl _) fr)
  exact clStart_run (Y := X.blk s3 H3 scope ce fp) hp (by rw [hcl]; rfl) lp (T.self X.A 0 _ _ _ t4 lp)
/-- as a value -/
theorem compr_pe {pos : Pos} (hp : Plain e) (hev : eval e X.env = comprehension e scope X.env pos mk false (eval iter X.env)) (hcl : clausesOf e = ⟨tg, iter, ifs, 0⟩ :: rest) (he : ∀ D env z, compTurn e 0 z (.ref D) env = clTurn tg ip ifs (em D env) (.compLoop e 0 z (.ref D) env) z env) (lay : Lays X mk ob o0)
    (hc : X.calm = true) (hN : X.N.Nodup) (hi : PI X tg iter wi) (ok : BlkOk X.N X.env.scope scope own) (hw : ∀ i ∈ ws, i ∈ own.map (·.2))
    (hg : ∀ s H C cl fp, PG (X.blk s H scope (compEnvC scope cl C X.env) fp) tg g) (ht : ∀ s H C cl fp, PTs (X.blk s H scope (compEnvC scope cl C X.env) fp) ifs tt)
    (hm : ∀ s H C cl fp D, PM (X.blk s H scope (compEnvC scope cl C X.env) fp) ws (em D (compEnvC scope cl C X.env)) (tm D)) (hs : ∀ x, foldedSetIterable iter X.env x = pure x) :
    PE X e (tCompr wi g tt tm o0 (own.map (·.2))) := by
  refine ⟨fun pins s σ H Q I h => ?_⟩
  rw [hev]
  refine compr_core hp hcl he lay hc hN I hi ok hw hg ht hm hs h fun D C s' m H' I' q ns f => ⟨m, ns, fun z sb => ?_⟩
  exact ⟨.ref D, H', I'.turned (t' := s'.toks) (fun b o _ eo => (sb.2 b (by assumption)).trans eo) f.1 f.2.1 f.2.2.2.1 f.2.2.2.2.1 f.2.2.2.2.2, rfl, q⟩
end
end TL
namespace TL
open PySem PySem.Spec PyProof.Rows L2
/-! ### by trees: what is done with an item turns an object of one's own -/
def tMO (W : Wd) (Dd : Addr) (f : En → O → M O) : TM := fun σ H N => ∃ dk F G en d o, SR W dk F G σ H en d ∧ F Dd ∧ (∀ i, ¬ G i Dd) ∧ Dd ≠ dk.1 ∧ Dd ≠ dk.2 ∧ OwnR W H F dk (fun b => b = Dd) o Dd ∧
  Post W E0 F dk (without H Dd) (fun o' _ H' => OwnR W H' F dk (fun b => b = Dd) o' Dd → N H') (f en o d)
def mPut (fk fv : En → M T) : En → O → M O := fun en o => match o with
  | .dic l => (fk en).bind fun y => (fv en).bind fun t => (M.opt (keyT y)).bind fun q => (M.opt (capL (l.length + 1) ())).bind fun _ => .pure (.dic (putT l q t))
  | _ => M.bad
def clL (a : T → En → Option En) (fc : En → M Bool) (fm : En → O → M O) (en : En) : List T → O → M O
  | [], o => .pure o
  | t :: l, o => match a t en with
    | none => M.bad
    | some en1 => (fc en1).bind fun b => match b with
      | true => (fm en1 o).bind fun o' => clL a fc fm en l o'
      | false => clL a fc fm en l o
/-- a clause -/
def clM (fi : En → M (List T)) (a : T → En → Option En) (vs : List Nat) (fc : En → M Bool) (fm : En → O → M O) : En → O → M O := fun en o => (fi en).bind fun l => (clL a fc fm (wipeE en vs) l o).noX
section
variable {W : Wd} {Ex : XK} {dk : Dk} {F : Addr → Prop} {G : Nat → Addr → Prop} {σ : L2.St} {H H' : Hp} {en : En} {d d' : TL.D} {p : Addr} {o : O}
theorem keep_wo : Keep dk (without H p) H := fun b o h _ _ => by
  unfold without at h
  split at h
  · cases h
  · exact h
theorem wo_some {b : Addr} {ho : HO} (n : b ≠ p) (h : H b = some ho) : without H p b = some ho := by
  unfold without
  rw [if_neg n]
  exact h
theorem OwnR.ex {B : Addr → Prop} (r : OwnR W H F dk B o p) : ∃ ho, H p = some ho := Option.ne_none_iff_exists'.mp r.there
theorem OwnR.on (S : SR W dk F G σ H en d) (k : Keep dk H H') (n1 : p ≠ dk.1) (n2 : p ≠ dk.2) (r : OwnR W H F dk (fun b => b = p) o p) : OwnR W H' F dk (fun b => b = p) o p :=
  OwnR.mono (fun a o nf e => ⟨k a o e (fun z => nf (z ▸ S.fd1)) fun z => nf (z ▸ S.fd2), nf⟩) (B := fun b => b = p) (B' := fun b => b = p) (fun a o (b : a = p) e => ⟨k a o e (fun z => n1 (b ▸ z)) (fun z => n2 (b ▸ z)), b⟩) rfl r
theorem SR.past (S : SR W dk F G σ H en d) (hF : F p) (hG : ∀ i, ¬ G i p) (n1 : p ≠ dk.1) (n2 : p ≠ dk.2) (k : Keep dk (without H p) H') (hd : DkAt W dk H' d') (hp : ∃ ho, H' p = some ho) : SR W dk F G σ H' en d' := by
  obtain ⟨h2, e2⟩ := hp
  cases e0 : H p with
  | none => exact absurd e0 (S.fh p hF)
  | some h0 =>
    have S2 : SR W dk F G σ (upd H' p h0) en d' := S.keep (fun b o e m1 m2 => by
      by_cases z : b = p
      · subst z
        rw [e0] at e
        cases e
        exact upd_same
      · rw [upd_ne z]
        exact k b o (wo_some z e) m1 m2) (hd.other n1 n2)
    have S3 := S2.mutH (ho := h2) hF hG n1 n2
    have eq : upd (upd H' p h0) p h2 = H' := by
      funext b
      by_cases z : b = p
      · subst z
        rw [upd_same, e2]
      · rw [upd_ne z, upd_ne z]
    rw [eq] at S3
    exact S3
end
section
variable {W : Wd} {Ex : XK} {Y : Cx} {e tg iter elt kx vx : Expr} {ifs : List Expr} {k : Nat} {acc : Value} {ip : Pos} {em : Sem Fin → Sem Fin} {vs ws is : List Nat} {fi : En → M (List T)} {a : T → En → Option En} {fc : En → M Bool} {fm : En → O → M O} {f fk fv : En → M T} {Dd : Addr}
theorem way_tm {J : It} {l : List T} {c : Hp × (Addr → Prop)} {dk : Dk} {F : Addr → Prop} {G : Nat → Addr → Prop} {σ : L2.St} {H : Hp} {en : En} {d : TL.D} {o : O} {Nd : Hp → Prop} (hs : ∀ j ∈ is, j ∈ vs) (S : SR W dk F G σ H en d) (hF : F Dd) (hG : ∀ i, ¬ G i Dd) (n1 : Dd ≠ dk.1) (n2 : Dd ≠ dk.2)
    (ow : OwnR W H F dk (fun b => b = Dd) o Dd) (hJ : ItOk W dk c J l) (hv : TL.Vis c F H) (P : Post W E0 F dk (without H Dd) (fun o' _ H' => OwnR W H' F dk (fun b => b = Dd) o' Dd → Nd H') (clL a fc fm (wipeE en vs) l o d)) :
    Way J (tG W is a) (tT W E0 fc) (tMO W Dd fm) vs σ Nd H := by
  refine ⟨fun i m K => m = l.length - i ∧ i ≤ l.length ∧ ∃ o d', Keep dk (without H Dd) K ∧ DkAt W dk K d' ∧ OwnR W K F dk (fun b => b = Dd) o Dd ∧ Post W E0 F dk (without H Dd) (fun o' _ H' => OwnR W H' F dk (fun b => b = Dd) o' Dd → Nd H') (clL a fc fm (wipeE en vs) (l.drop i) o d'),
    ⟨l.length, by simp, Nat.zero_le _, o, d, keep_wo, S.deck, ow, P⟩, ?_⟩
  rintro i m K ⟨rfl, hi, o, d', kK, dK, ow, P⟩
  have SK := S.past hF hG n1 n2 kK dK ow.ex
  have hvK : TL.Vis c F K := fun b ho e nf => by
    obtain ⟨e1, e2⟩ := hv b ho e nf
    exact ⟨kK b ho (wo_some (fun z => e2 (z ▸ hF)) e1) (fun z => e2 (z ▸ S.fd1)) (fun z => e2 (z ▸ S.fd2)), e2⟩
  by_cases hlt : i < l.length
  · refine .inr ⟨hJ.go i _ K hvK hlt, fun K2 => i + 1 ≤ l.length ∧ ∃ o d', Keep dk (without H Dd) K2 ∧ DkAt W dk K2 d' ∧ OwnR W K2 F dk (fun b => b = Dd) o Dd ∧ Post W E0 F dk (without H Dd) (fun o' _ H' => OwnR W H' F dk (fun b => b = Dd) o' Dd → Nd H') (clL a fc fm (wipeE en vs) (l.drop (i + 1)) o d'),
      fun K2 h => ⟨l.length - (i + 1), by omega, rfl, h⟩, fun x K2 y => ?_⟩
    obtain ⟨sm, t, et, rt⟩ := hJ.yld i _ K x K2 hvK SK.fh hlt y
    have S2 := (SK.keep (.of sm) (dK.same sm)).wipe vs
    have kK2 : Keep dk (without H Dd) K2 := kK.trans (.of sm)
    have hd : l.drop i = t :: l.drop (i + 1) := by
      rw [List.getElem?_eq_getElem hlt] at et
      rw [List.drop_eq_getElem_cons hlt, Option.some.inj et]
    rw [hd] at P
    unfold clL at P
    cases ea : a t (wipeE en vs) with
    | none => rw [ea] at P; exact P.elim
    | some en1 =>
      rw [ea] at P
      refine ⟨dk, _, G, wipeE en vs, d', t, en1, S2, rt, ea, fun σ3 S3 on => ⟨wipe_only on hs, ?_⟩⟩
      refine ⟨dk, _, G, en1, d', S3, (Post.later (Post.bind0 P) kK2).mono fun b d3 H3 k3 D3 P => ?_⟩
      have k13 := kK2.trans k3
      have ow3 : OwnR W H3 F dk (fun b => b = Dd) o Dd := OwnR.on S2 k3 n1 n2 (OwnR.on SK (.of sm) n1 n2 ow)
      cases b with
      | false => exact iteF ⟨hlt, o, d3, k13, D3, ow3, P⟩
      | true =>
        refine iteT ⟨dk, F, G, en1, d3, o, S3.keep k3 D3, hF, hG, n1, n2, ow3, ?_⟩
        have kw : Keep dk (without H Dd) (without H3 Dd) := fun b ho e m1 m2 => by
          by_cases z : b = Dd
          · subst z
            unfold without at e
            rw [if_pos rfl] at e
            cases e
          · exact wo_some z (k13 b ho e m1 m2)
        refine (Post.later (Post.bind0 P) kw).mono fun o' d4 H4 k4 D4 P ow4 => ⟨hlt, o', d4, kw.trans k4, D4, ow4, P⟩
  · have ei : i = l.length := by omega
    subst ei
    rw [List.drop_length] at P
    exact .inl ⟨hJ.stop _ K hvK, P K kK dK ow⟩
theorem post_any {α : Type} {m : M α} {dk : Dk} {F F' : Addr → Prop} {H H' : Hp} {R R' : α → TL.D → Hp → Prop} {d : TL.D} (h : Post W Ex F dk H R (m.noX d)) (k : ∀ a d1, (∀ K, Keep dk H K → DkAt W dk K d1 → R a d1 K) → ∀ K, Keep dk H' K → DkAt W dk K d1 → R' a d1 K) : Post W E0 F' dk H' R' (m d) := by
  unfold M.noX at h
  cases q : m d with
  | ok a d1 =>
    rw [q] at h
    exact k a d1 h
  | exc x d1 =>
    rw [q] at h
    exact h.elim
  | bad =>
    rw [q] at h
    exact h.elim
theorem Post.opt_bind {α β : Type} {m : Option α} {q : α → M β} {dk : Dk} {F : Addr → Prop} {H : Hp} {R : β → TL.D → Hp → Prop} {d : TL.D} (h : Post W Ex F dk H R (M.bind (M.opt m) q d)) : ∃ a, m = some a ∧ Post W Ex F dk H R (q a d) := by
  cases m with
  | none => exact h.elim
  | some a => exact ⟨a, rfl, h⟩
theorem pmt_dict (h1 : PE Y kx (tE W E0 fk)) (h2 : PE Y vx (tE W E0 fv)) (hxe : Y.xe = fun _ _ => False) : PM Y [] (fun nx => (do
      let kv ← eval kx Y.env
      let vv ← holding [kv] (eval vx Y.env)
      match (.ref Dd : Value) with
      | .ref d => do
        standAt { kx.pos with endLine := vx.pos.endLine, endCol := vx.pos.endCol }
        holding [kv, vv] (dictSet d kv vv)
      | _ => unsupported "internal:dictcomp" : Sem Unit) >>= fun _ => nx) (tMO W Dd (mPut fk fv)) :=
  (pm_dict h1 h2 hxe).imp fun σ H N ⟨dk, F, G, en, d, o, S, hF, hG, n1, n2, ow, P⟩ => by
    cases o with
    | dix l => exact P.elim
    | dil l => exact P.elim
    | set l => exact P.elim
    | ins c fs => exact P.elim
    | lst l => exact P.elim
    | dic l =>
      obtain ⟨xs, e, r⟩ := ow
      refine ⟨dk, F, G, en, d, S, (Post.later (Post.bind0 P) keep_wo).mono fun y d1 H1 k1 D1 P v rv => ?_⟩
      have S1 := S.keep k1 D1
      refine ⟨dk, F, G, en, d1, S1, (Post.later (Post.bind0 P) (keep_wo.trans k1)).mono fun t d2 H2 k2 D2 P w rw' => ?_⟩
      obtain ⟨q, hq, P⟩ := Post.opt_bind P
      obtain ⟨u, hz, fin⟩ := Post.opt_bind P
      have hl := (capL_some hz).1
      have ey := key_rep rv hq
      subst ey
      have k12 := k1.trans k2
      refine ⟨xs, q, rfl, k12 _ _ e n1 n2, by rw [r.length]; omega, fin _ (fun b ho eb m1 m2 => ?_) (D2.other n1 n2) ⟨_, upd_same, ?_⟩⟩
      · have nb : b ≠ Dd := fun z => by
          subst z
          unfold without at eb
          rw [if_pos rfl] at eb
          cases eb
        rw [upd_ne nb]
        exact k12 b ho (keep_wo b ho eb m1 m2) m1 m2
      · exact RepD.mono (fun b ho nf eb => ⟨by rw [upd_ne (fun z : b = Dd => nf (by rw [z]; exact hF))]; exact eb, nf⟩) _ _ ((S.keepD k12 r).put rw')
theorem pmt_next (hp : Plain e) (hcl : (clausesOf e)[k]? = some ⟨tg, iter, ifs, 0⟩) (he : ∀ z, compTurn e k z acc Y.env = clTurn tg ip ifs em (.compLoop e k z acc Y.env) z Y.env) (hc : Y.calm = true) (hxe : Y.xe = fun _ _ => False)
    (hi : PI Y tg iter (tI W E0 fi)) (hg : PG Y tg (tG W is a)) (ht : PTs Y ifs (tT W E0 fc)) (hm : PM Y ws em (tMO W Dd fm)) (his : ∀ j ∈ is, j ∈ vs) (hw : ∀ i ∈ ws, i ∈ vs) (hs : ∀ x, foldedSetIterable iter Y.env x = pure x) :
    PM Y vs (clNext e k iter acc Y.env) (tMO W Dd (clM fi a vs fc fm)) :=
  (pm_next hp hcl he hc hxe hi hg ht hm hw hs).imp fun σ H N ⟨dk, F, G, en, d, o, S, hF, hG, n1, n2, ow, P⟩ => by
    refine ⟨dk, F, G, en, d, S, (Post.later (Post.bind0 P) keep_wo).mono fun l d1 H1 k1 D1 P J hJ => ?_⟩
    refine way_tm his (S.keep k1 D1) hF hG n1 n2 (OwnR.on S k1 n1 n2 ow) hJ (.refl _ _) (post_any P fun o' d2 h K kk DK => h K (Keep.trans (fun b ho eb m1 m2 => ?_) kk) DK)
    have nb : b ≠ Dd := fun z => by
      subst z
      unfold without at eb
      rw [if_pos rfl] at eb
      cases eb
    exact wo_some nb (k1 b ho (keep_wo b ho eb m1 m2) m1 m2)
/-- the outermost clause -/
def ObR (W : Wd) (H : Hp) (F : Addr → Prop) (dk : Dk) (p : Addr) : O → HO → Prop
  | .lst l, ho => ∃ xs, ho = .lst xs ∧ RepL W H F dk l xs
  | .dic l, ho => ∃ xs, ho = .dK xs ∧ RepD W H F dk l xs
  | .dix l, ho => ∃ xs, (∃ r, ho = NS.DO W.P W.w p xs r) ∧ RepX W H F dk l xs
  | .set l, ho => ∃ xs, ho = NS.SO W.w p xs ∧ RepS W H F dk l xs
  | .dil l, ho => l = [] ∧ ∃ r, ho = NS.DO W.P W.w p [] r
  | .ins c fs, ho => ∃ C dx xs, W.ct c = some C ∧ ho = .ins C dx xs ∧ RepF W H F dk fs xs
theorem compr_of {o0 : O} {h0 : Addr → HO} (hs : ∀ j ∈ is, j ∈ vs) (h0r : ∀ H F dk D, ObR W H F dk D o0 (h0 D)) : ∀ σ H Q, (∃ dk F G en d, SR W dk F G σ H en d ∧ Post W Ex F dk H (fun o _ H' => ∀ p ho, ObR W H' F dk p o ho → H' p = none → Q (.ref p) (upd H' p ho)) (clM fi a vs fc fm en o0 d)) →
    tCompr (tI W Ex fi) (tG W is a) (tT W E0 fc) (fun D => tMO W D fm) h0 vs σ H Q := fun σ H Q ⟨dk, F, G, en, d, S, h⟩ => by
  refine ⟨dk, F, G, en, d, S, (Post.bind h).mono fun l d1 H1 k1 D1 P J hJ D hD => ?_⟩
  have S1 := S.keep k1 D1
  have n1 : D ≠ dk.1 := fun z => S1.fh _ (z ▸ S1.fd1) hD
  have n2 : D ≠ dk.2 := fun z => S1.fh _ (z ▸ S1.fd2) hD
  have nG : ∀ i, ¬ G i D := fun i z => S1.fh _ (S1.gf _ _ z) hD
  have ow : OwnR W (upd H1 D (h0 D)) (fun b => F b ∨ b = D) dk (fun b => b = D) o0 D := by
    have := h0r (upd H1 D (h0 D)) (fun b => F b ∨ b = D) dk D
    cases o0 with
    | lst l0 =>
      obtain ⟨xs, e, r⟩ := this
      exact ⟨xs, by rw [upd_same, e], r⟩
    | dic l0 =>
      obtain ⟨xs, e, r⟩ := this
      exact ⟨xs, by rw [upd_same, e], r⟩
    | dix l0 =>
      obtain ⟨xs, ⟨r0, e⟩, r⟩ := this
      exact ⟨xs, ⟨r0, by rw [upd_same, e]⟩, r⟩
    | set l0 =>
      obtain ⟨xs, e, r⟩ := this
      exact ⟨xs, by rw [upd_same, e], r⟩
    | dil l0 =>
      obtain ⟨rfl, r0, e⟩ := this
      exact ⟨[], ⟨r0, by rw [upd_same, e]⟩, List.nodup_nil, by simp only [RepQ]⟩
    | ins c fs =>
      obtain ⟨C, dx, xs, hc, e, r⟩ := this
      exact ⟨C, dx, xs, hc, by rw [upd_same, e], r⟩
  refine way_tm (F := fun b => F b ∨ b = D) hs (S1.hide hD) (.inr rfl) nG n1 n2 ow hJ (fun b ho e nf => ⟨upd_same' hD b ho e, fun z => z.elim nf (ne_of_none e hD)⟩) (post_any P fun o' d2 hP K kK DK ow' => ?_)
  have wk : ∀ {b ho}, K b = some ho → b ≠ D → without K D b = some ho := fun e n => wo_some n e
  obtain ⟨z1, z2, z3⟩ := DK
  have kH : Keep dk H1 (without K D) := fun b ho e m1 m2 => wk (kK b ho (wo_some (ne_of_none e hD) (upd_same' hD b ho e)) m1 m2) (ne_of_none e hD)
  have hK := hP (without K D) kH ⟨z1, wk z2 n2.symm, wk z3 n1.symm⟩ D
  have hN : without K D D = none := by unfold without; rw [if_pos rfl]
  have down : ∀ (b : Addr) (ho : HO), ¬ (F b ∨ b = D) → K b = some ho → without K D b = some ho ∧ ¬ F b := fun b ho nf eb => ⟨wk eb (fun z => nf (.inr z)), fun z => nf (.inl z)⟩
  cases o' with
  | lst l' =>
    obtain ⟨xs, e, r⟩ := ow'
    have := hK _ ⟨xs, rfl, RepL.mono down _ _ r⟩ hN
    rw [without_upd e] at this
    exact this
  | dic l' =>
    obtain ⟨xs, e, r⟩ := ow'
    have := hK _ ⟨xs, rfl, RepD.mono down _ _ r⟩ hN
    rw [without_upd e] at this
    exact this
  | dix l' =>
    obtain ⟨xs, ⟨r0, e⟩, r⟩ := ow'
    have := hK _ ⟨xs, ⟨r0, rfl⟩, RepX.mono down _ _ r⟩ hN
    rw [without_upd e] at this
    exact this
  | set l' =>
    obtain ⟨xs, e, r⟩ := ow'
    have := hK _ ⟨xs, rfl, RepS.mono down _ _ r⟩ hN
    rw [without_upd e] at this
    exact this
  | dil l' =>
    obtain ⟨xs, ⟨r0, e⟩, _, r⟩ := ow'
    cases l' with
    | cons kl l' =>
      obtain ⟨k1, l1⟩ := kl
      simp only [RepQ] at r
      obtain ⟨n, b, q, ys, s, rfl, h0, h1, h2, h3, _⟩ := r
      rw [h2, e] at h3
      cases h3
    | nil =>
      simp only [RepQ] at r
      subst r
      have := hK _ ⟨rfl, r0, rfl⟩ hN
      rw [without_upd e] at this
      exact this
  | ins c fs =>
    obtain ⟨C, dx, xs, hc, e, r⟩ := ow'
    have := hK _ ⟨C, dx, xs, hc, rfl, RepF.mono down _ _ r⟩ hN
    rw [without_upd e] at this
    exact this
/-- kept: a value -/
def valT : O → M T
  | .set _ => M.bad
  | o => .pure o.t
def xCl (o0 : O) (f : En → O → M O) : En → M T := fun en => (f en o0).bind valT
theorem compr_val {o0 : O} : ∀ σ H Q, tE W Ex (xCl o0 (clM fi a vs fc fm)) σ H Q → ∃ dk F G en d, SR W dk F G σ H en d ∧ Post W Ex F dk H (fun o _ H' => ∀ p ho, ObR W H' F dk p o ho → H' p = none → Q (.ref p) (upd H' p ho)) (clM fi a vs fc fm en o0 d) := fun σ H Q ⟨dk, F, G, en, d, S, h⟩ => by
  refine ⟨dk, F, G, en, d, S, (Post.bind h).mono fun o d1 H1 k1 D1 q p ho ob hp => ?_⟩
  have nF := (S.keep k1 D1).free hp
  cases o with
  | lst l =>
    obtain ⟨xs, rfl, r⟩ := ob
    refine q _ (.of (upd_same' hp)) (D1.same (upd_same' hp)) _ ?_
    exact rep_lst (fun p hp => (S.keep k1 D1).free hp) hp r
  | dic l =>
    obtain ⟨xs, rfl, r⟩ := ob
    refine q _ (.of (upd_same' hp)) (D1.same (upd_same' hp)) _ ?_
    simp only [O.t, Rep]
    exact ⟨p, xs, rfl, nF, .inl upd_same, RepD.mono (fun b ho nf e => ⟨upd_same' hp b ho e, nf⟩) _ _ r⟩
  | dix l =>
    obtain ⟨xs, ⟨r0, rfl⟩, r⟩ := ob
    refine q _ (.of (upd_same' hp)) (D1.same (upd_same' hp)) _ ?_
    simp only [O.t, Rep]
    exact ⟨p, xs, rfl, nF, ⟨r0, .inl upd_same⟩, RepX.mono (fun b ho nf e => ⟨upd_same' hp b ho e, nf⟩) _ _ r⟩
  | dil l =>
    obtain ⟨rfl, r0, rfl⟩ := ob
    refine q _ (.of (upd_same' hp)) (D1.same (upd_same' hp)) _ ?_
    simp only [O.t, Rep, List.map_nil]
    exact ⟨p, [], rfl, nF, ⟨r0, .inl upd_same⟩, by simp only [RepX]⟩
  | set l => exact q.elim
  | ins c fs =>
    obtain ⟨C, dx, xs, hc, rfl, r⟩ := ob
    refine q _ (.of (upd_same' hp)) (D1.same (upd_same' hp)) _ ?_
    simp only [O.t, Rep]
    exact ⟨p, C, dx, xs, rfl, nF, hc, upd_same, RepF.mono (fun b ho nf e => ⟨upd_same' hp b ho e, nf⟩) _ _ r⟩
/-- a dict, two clauses -/
theorem te_dc2 {X : Cx} {scope : Scope} {own : List (Str × Nat)} {pos : Pos} {tg1 iter1 : Expr} {ifs1 : List Expr} {fi1 : En → M (List T)} {a1 : T → En → Option En} {fc1 : En → M Bool} {is1 vs1 : List Nat} (hN : X.N.Nodup) (hi : PI X tg iter (tI W Ex fi)) (ok : BlkOk X.N X.env.scope scope own)
    (hg : ∀ s H C cl fp, PG (X.blk s H scope (compEnvC scope cl C X.env) fp) tg (tG W is a)) (ht : ∀ s H C cl fp, PTs (X.blk s H scope (compEnvC scope cl C X.env) fp) ifs (tT W E0 fc))
    (hi1 : ∀ s H C cl fp, PI (X.blk s H scope (compEnvC scope cl C X.env) fp) tg1 iter1 (tI W E0 fi1)) (hg1 : ∀ s H C cl fp, PG (X.blk s H scope (compEnvC scope cl C X.env) fp) tg1 (tG W is1 a1)) (ht1 : ∀ s H C cl fp, PTs (X.blk s H scope (compEnvC scope cl C X.env) fp) ifs1 (tT W E0 fc1))
    (hk : ∀ s H C cl fp, PE (X.blk s H scope (compEnvC scope cl C X.env) fp) kx (tE W E0 fk)) (hx : ∀ s H C cl fp, PE (X.blk s H scope (compEnvC scope cl C X.env) fp) vx (tE W E0 fv)) (his : ∀ j ∈ is, j ∈ own.map (·.2) := by decide) (his1 : ∀ j ∈ is1, j ∈ vs1 := by decide) (hvs : ∀ j ∈ vs1, j ∈ own.map (·.2) := by decide) (hc : X.calm = true := by rfl)
    (hs : ∀ x, foldedSetIterable iter X.env x = pure x := by intro _; rfl) (hs1 : ∀ env x, foldedSetIterable iter1 env x = pure x := by intro _ _; rfl) :
    PE X (.DictComp kx vx [⟨tg, iter, ifs, 0⟩, ⟨tg1, iter1, ifs1, 0⟩] scope pos) (tE W Ex (xCl (.dic []) (clM fi a (own.map (·.2)) fc (clM fi1 a1 vs1 fc1 (mPut fk fv))))) :=
  (compr_pe (ws := vs1) (em := fun D env => clNext (.DictComp kx vx [⟨tg, iter, ifs, 0⟩, ⟨tg1, iter1, ifs1, 0⟩] scope pos) 1 iter1 (.ref D) env) ⟨fun _ _ _ _ => rfl, fun _ _ _ _ => rfl, fun _ _ _ _ => rfl, fun _ _ _ _ _ => rfl, fun _ _ _ _ _ => rfl⟩ rfl rfl (fun _ _ _ => rfl) lays_dict hc hN hi ok hvs hg ht
    (fun s H C cl fp D => pmt_next (ws := []) ⟨fun _ _ _ _ => rfl, fun _ _ _ _ => rfl, fun _ _ _ _ => rfl, fun _ _ _ _ _ => rfl, fun _ _ _ _ _ => rfl⟩ rfl (fun _ => rfl) hc rfl (hi1 s H C cl fp) (hg1 s H C cl fp) (ht1 s H C cl fp) (pmt_dict (hk s H C cl fp) (hx s H C cl fp) rfl) his1 (by simp) (hs1 _)) hs).imp
    fun σ H Q h => compr_of (o0 := .dic []) his (fun _ _ _ _ => ⟨[], rfl, by simp only [RepD]⟩) σ H Q (compr_val σ H Q h)
end
end TL
/-! TLw: plain law: lists of texts, clauses that are walked, loops that ask all. -/
namespace TL
open PySem PySem.Spec PyProof.Rows L2
abbrev pyS (w : List Nat) : PyData := .str ⟨w.toArray⟩
theorem pyL_strs : ∀ ws : List (List Nat), pyL (ws.map strR) = some (ws.map pyS)
  | [] => rfl
  | w :: ws => by
    rw [List.map_cons, List.map_cons]
    unfold pyL
    rw [pyL_strs ws]
    rfl
/-- signs of plain text -/
def Wo (w : List Nat) : Prop := ∀ c ∈ w, c < 128
theorem Wo.ok {w : List Nat} (h : Wo w) : PyData.strOk ⟨w.toArray⟩ = true := by
  unfold PyData.strOk
  first
    | (rw [Array.all_eq_true_iff_forall_mem]; intro c hc; have := h c (by simpa using hc); simp; omega)
    | (simp only [List.all_toArray, List.all_eq_true, decide_eq_true_eq]; intro c hc; have := h c hc; omega)
    | (rw [List.all_eq_true]; intro c hc; have := h c (by simpa using hc); simp; omega)
theorem lay_strs : ∀ ws : List (List Nat), (∀ w ∈ ws, Wo w) → PyData.canLayAll0 (ws.map pyS) = true
  | [], _ => by simp only [List.map_nil, PyData.canLayAll0]
  | w :: ws, h => by
    rw [List.map_cons]
    simp only [PyData.canLayAll0, PyData.canLay0, lay_strs ws fun w hw => h w (List.mem_cons_of_mem _ hw), (h w List.mem_cons_self).ok, Bool.and_self]
theorem dep_strs : ∀ ws : List (List Nat), PyData.depthAll (ws.map pyS) ≤ 1
  | [] => by simp only [List.map_nil, PyData.depthAll]; omega
  | w :: ws => by
    have := dep_strs ws
    rw [List.map_cons]
    simp only [PyData.depthAll, PyData.depth]
    omega
theorem shaped_strs {ws : List (List Nat)} (h : ∀ w ∈ ws, Wo w) : SeqAt.shaped (.list (ws.map pyS)) = true := by
  have := dep_strs ws
  unfold SeqAt.shaped
  simp only [PyData.canLay0, PyData.depth, lay_strs ws h, Bool.true_and]
  exact decide_eq_true (by omega)
theorem eqv_strs (a b : List Nat) : PyData.eqv (pyS a) (pyS b) = decide (a = b) := by
  simp only [PyData.eqv]
  by_cases h : a = b
  · subst h
    simp
  · rw [decide_eq_false h]
    exact beq_false_of_ne fun z => h (str_inj.mp z)
theorem any_strs (x : List Nat) (ws : List (List Nat)) : ((ws.map pyS).any fun z => PyData.eqv z (pyS x)) = decide (x ∈ ws) := by
  rw [List.any_map]
  induction ws with
  | nil => rfl
  | cons w ws ih =>
    rw [List.any_cons, ih]
    show (PyData.eqv (pyS w) (pyS x) || _) = _
    rw [eqv_strs]
    by_cases h : x = w
    · subst h
      simp
    · have h' : ¬ w = x := fun z => h z.symm
      rw [decide_eq_false h', Bool.false_or]
      exact decide_eq_decide.mpr ⟨fun m => List.mem_cons_of_mem _ m, fun m => (List.mem_cons.mp m).resolve_left h⟩
theorem shaped_str {x : List Nat} (h : Wo x) : SeqAt.shaped (pyS x) = true := by
  unfold SeqAt.shaped
  simp only [PyData.canLay0, PyData.depth, h.ok, Bool.true_and]
  rfl
theorem inB_strs {x : List Nat} {ws : List (List Nat)} (hx : Wo x) (h : ∀ w ∈ ws, Wo w) : inB (strR x) (.lst (ws.map strR)) = some (decide (x ∈ ws)) := by
  show (match (strR x).py, pyL (ws.map strR) with
    | some d, some ds => if SeqAt.shaped d && SeqAt.shaped (.list ds) then some (ds.any fun z => PyData.eqv z d) else none
    | _, _ => none) = _
  rw [pyL_strs]
  show (if SeqAt.shaped (pyS x) && SeqAt.shaped (.list (ws.map pyS)) then some ((ws.map pyS).any fun z => PyData.eqv z (pyS x)) else none) = _
  rw [shaped_strs h, shaped_str hx, any_strs]
  rfl
theorem in_strs {x : List Nat} {ws : List (List Nat)} (hx : Wo x) (h : ∀ w ∈ ws, Wo w) : inT (strR x) (.lst (ws.map strR)) = some (.bl (decide (x ∈ ws))) := by
  unfold inT
  rw [inB_strs hx h]
  rfl
theorem notin_strs {x : List Nat} {ws : List (List Nat)} (hx : Wo x) (h : ∀ w ∈ ws, Wo w) : notInT (strR x) (.lst (ws.map strR)) = some (.bl (!decide (x ∈ ws))) := by
  unfold notInT
  rw [inB_strs hx h]
  rfl
theorem eqB_strs {a b : List (List Nat)} (ha : ∀ w ∈ a, Wo w) (hb : ∀ w ∈ b, Wo w) : eqB (.lst (a.map strR)) (.lst (b.map strR)) = some (decide (a = b)) := by
  show (match (T.lst (a.map strR)).py, (T.lst (b.map strR)).py with
    | some d, some e => if SeqAt.shaped d && SeqAt.shaped e then some (PyData.eqv d e) else none
    | _, _ => none) = _
  simp only [T.py, pyL_strs, Option.map_some, shaped_strs ha, shaped_strs hb, Bool.and_self, if_true, PyData.eqv]
  rw [eqv_inj pyS eqv_strs]
theorem ne_strs {a b : List (List Nat)} (ha : ∀ w ∈ a, Wo w) (hb : ∀ w ∈ b, Wo w) : neT (.lst (a.map strR)) (.lst (b.map strR)) = some (.bl (!decide (a = b))) := by
  unfold neT
  rw [eqB_strs ha hb]
  rfl
theorem ne_strs0 {a : List (List Nat)} (ha : ∀ w ∈ a, Wo w) : neT (.lst (a.map strR)) (.lst []) = some (.bl (!decide (a = []))) := ne_strs ha (b := []) (fun _ h => by cases h)
/-! ### dicts -/
theorem look_put (l : List (Key × T)) (k : Key) (t : T) (q : Key) : (lookK (putT l k t) q).isSome = (decide (q = k) || (lookK l q).isSome) := by
  have key : ∀ l : List (Key × T), (lookK l q).isSome = l.any fun kv => decide (kv.1 = q) := fun l => by
    unfold lookK
    rw [Option.isSome_map, List.isSome_find?]
  rw [key, key]
  unfold putT
  split
  · rename_i h
    rw [List.any_map]
    have e : ((fun kv : Key × T => decide (kv.1 = q)) ∘ fun kv : Key × T => if kv.1 = k then (kv.1, t) else kv) = fun kv => decide (kv.1 = q) := by
      funext kv
      show decide ((if kv.1 = k then (kv.1, t) else kv).1 = q) = _
      split <;> rfl
    rw [e]
    by_cases hq : q = k
    · subst hq
      rw [h, Bool.or_true]
    · rw [decide_eq_false hq, Bool.false_or]
  · rw [List.any_append, Bool.or_comm]
    congr 1
    rw [List.any_cons, List.any_nil, Bool.or_false]
    exact decide_eq_decide.mpr eq_comm
theorem put_length (l : List (Key × T)) (k : Key) (t : T) : (putT l k t).length ≤ l.length + 1 := by
  unfold putT
  split
  · rw [List.length_map]; omega
  · rw [List.length_append]; exact Nat.le_refl _
theorem in_dic (x : List Nat) (l : List (Key × T)) : inT (strR x) (.dic l) = some (.bl (lookK l (.inr ⟨x.toArray⟩)).isSome) := rfl
theorem inr_str {a b : List Nat} : ((Sum.inr (⟨a.toArray⟩ : Str) : Key) = Sum.inr ⟨b.toArray⟩) ↔ a = b :=
  ⟨fun h => str_inj.mp (Sum.inr.inj h), fun h => by rw [h]⟩
/-! ### clauses -/
/-- a clause without tests that draws nothing -/
theorem clL_run {α : Type} (c : α → T) {a : T → En → Option En} {fm : En → O → M O} {en : En} {d : TL.D} (I : List α → O → Prop) :
    ∀ (post pre : List α) (o : O), I pre o → (∀ (pr : List α) (x : α) (po : List α) (o : O), pre ++ post = pr ++ x :: po → I pr o → ∃ en1, a (c x) en = some en1 ∧ ∃ o', fm en1 o d = .ok o' d ∧ I (pr ++ [x]) o') →
    ∃ o', clL a xYes fm en (post.map c) o d = .ok o' d ∧ I (pre ++ post) o'
  | [], pre, o, h, _ => ⟨o, rfl, by rw [List.append_nil]; exact h⟩
  | x :: post, pre, o, h, st => by
    obtain ⟨en1, e1, o1, e2, h1⟩ := st pre x post o rfl h
    obtain ⟨o2, e3, h2⟩ := clL_run c I post (pre ++ [x]) o1 h1 fun pr y po o e hi => st pr y po o (by rw [← e]; simp) hi
    refine ⟨o2, ?_, by rw [List.append_cons]; exact h2⟩
    rw [List.map_cons]
    unfold clL
    simp only [e1, e2, e3, ev_bind, ev_opt, ev_ok, ev_noX, ev_Yes, ev_pure]
theorem clM_run {fi : En → M (List T)} {a : T → En → Option En} {vs : List Nat} {fc : En → M Bool} {fm : En → O → M O} {en : En} {o o' : O} {d : TL.D} {l : List T} (h1 : fi en d = .ok l d) (h2 : clL a fc fm (wipeE en vs) l o d = .ok o' d) : clM fi a vs fc fm en o d = .ok o' d := by
  unfold clM
  simp only [ev_bind, h1, ev_ok, ev_noX, h2]
theorem ev_Cl {o0 o : O} {f : En → O → M O} {en : En} {d d' : TL.D} (h : f en o0 d = .ok o d') (ns : ∀ l, o ≠ .set l := by intro _ z; cases z) : xCl o0 f en d = .ok o.t d' := by
  unfold xCl
  simp only [ev_bind, h, ev_ok]
  cases o with
  | set l => exact absurd rfl (ns l)
  | _ => rfl
/-! ### a loop that asks all -/
theorem forL_allB {α : Type} (c : α → T) {a : T → En → Option En} {g : En → MS} (P : α → Bool) (Fr : En → Prop) {d : TL.D} (r : T) :
    ∀ (xs : List α) (en : En), Fr en → (∀ x ∈ xs, ∀ en, Fr en → ∃ en1, a (c x) en = some en1 ∧ ∃ en', (P x = true ∧ g en1 d = .ok (.nx, en') d ∧ Fr en') ∨ (P x = false ∧ g en1 d = .ok (.ret r, en') d)) →
    ∃ en', (xs.all P = true ∧ forL a g (xs.map c) en d = .ok (.nx, en') d ∧ Fr en') ∨ (xs.all P = false ∧ forL a g (xs.map c) en d = .ok (.ret r, en') d)
  | [], en, h, _ => ⟨en, .inl ⟨rfl, rfl, h⟩⟩
  | x :: xs, en, h, st => by
    obtain ⟨en1, e1, en2, ⟨p, e2, h2⟩ | ⟨p, e2⟩⟩ := st x List.mem_cons_self en h
    · obtain ⟨en3, ⟨p3, e3, h3⟩ | ⟨p3, e3⟩⟩ := forL_allB c P Fr r xs en2 h2 fun y hy => st y (List.mem_cons_of_mem _ hy)
      · refine ⟨en3, .inl ⟨by rw [List.all_cons, p, p3]; rfl, ?_, h3⟩⟩
        rw [List.map_cons]
        unfold forL
        simp only [e1, ev_bind, ev_opt, e2, ev_ok]
        exact e3
      · refine ⟨en3, .inr ⟨by rw [List.all_cons, p, p3]; rfl, ?_⟩⟩
        rw [List.map_cons]
        unfold forL
        simp only [e1, ev_bind, ev_opt, e2, ev_ok]
        exact e3
    · refine ⟨en2, .inr ⟨by rw [List.all_cons, p]; rfl, ?_⟩⟩
      rw [List.map_cons]
      unfold forL
      simp only [e1, ev_bind, ev_opt, e2, ev_ok]
      rfl
theorem any_bools {α : Type} (f : α → Bool) : ∀ xs : List α, anyT [.lst (xs.map fun x => T.bl (f x))] = some (.bl (xs.any f)) := fun xs => by
  show (boolsOf (xs.map fun x => T.bl (f x))).map (fun ns => T.bl (ns.any id)) = _
  have : ∀ xs : List α, boolsOf (xs.map fun x => T.bl (f x)) = some (xs.map f) := by
    intro xs
    induction xs with
    | nil => rfl
    | cons x xs ih =>
      rw [List.map_cons]
      unfold boolsOf
      rw [ih]
      rfl
  rw [this, Option.map_some, List.any_map]
  rfl
theorem join_all : ∀ ws : List (List Nat), Txt.join (⟨#[]⟩ : Str) (ws.map fun w => (⟨w.toArray⟩ : Str)) = ⟨ws.flatten.toArray⟩ := fun ws => by
  rw [show Txt.join = Str.join from funext fun y => funext fun p => PySem.StrLaws.glued_eq_join y p]
  induction ws with
  | nil => rfl
  | cons w ws ih =>
    cases ws with
    | nil =>
      show (⟨w.toArray⟩ : Str) = _
      simp
    | cons v r =>
      show (⟨w.toArray⟩ : Str) ++ ⟨#[]⟩ ++ Str.join ⟨#[]⟩ ((v :: r).map fun w => (⟨w.toArray⟩ : Str)) = _
      rw [ih, List.flatten_cons (l := w), ← str_app]
      congr 1
@[simp] theorem ev_Join {f g : En → M T} {en : En} {d : TL.D} : xJoin f g en d = (f en d).bind fun x => (M.opt (strT? x)).bind fun s => (g en).bind fun y => .opt (joinT (.str s) y) := (rfl)
end TL
/-! TLw0: zip of two texts is made. -/
namespace TL
open PySem PySem.Spec PyProof.Rows L2
end TL
/-! TLx: zip of two texts, of two lists, of two tuples. -/
namespace TL
open PySem PySem.Spec PyProof.Rows L2
/-! ### by trees -/
def sgs (x : Str) : List T := x.cps.toList.map fun c => .str ⟨#[c]⟩
theorem sgs_len (x : Str) : (sgs x).length = x.cps.size := by
  unfold sgs
  rw [List.length_map, Array.length_toList]
end TL
/-! TLy: own.append(own2.pop(e)); constants of modules; list(text). -/
namespace TL
open PySem PySem.Spec PyProof.Rows L2
/-- a place, told by a number that is not below nought -/
def plIx (n : Nat) : T → Option Nat
  | .int i => if 0 ≤ i ∧ i < (n : Int) ∧ n ≤ 16777216 then some i.toNat else none
  | _ => none
def sAppPop (i j : Nat) (f : En → M T) : En → MS := fun en => withL en i fun l => withL en j fun m => (f en).bind fun t => (M.opt (plIx m.length t)).bind fun k => (M.opt m[k]?).bind fun v => (M.opt (capL (l.length + 1) ())).bind fun _ =>
  .pure (.nx, setS (setS en j (.own (.lst (m.eraseIdx k)))) i (.own (.lst (l ++ [v]))))
end TL
/-! TLy1: sorted of a list of plain data of one kind. -/
namespace TL
open PySem PySem.Spec PyProof.Rows L2
/-- sorted(xs): bs tells the items: each its value and its data -/
def rSortB (K : PySem.W.Frag) : List V → Hp → VK → Prop := fun vs H Q => ∃ (β : Type) (enc : β → PyData) (val : β → V) (bs : List β) (a : Addr), vs = [.ref a] ∧ SqL K H a (bs.map val) ∧ (∀ b ∈ bs, Dp K H (val b) (enc b)) ∧ PySem.W.AllAlike (bs.map enc) ∧ PySem.W.Sortable (bs.map enc) ∧
  (∀ b ∈ bs, (enc b).depth ≤ 64) ∧ bs.length ≤ sizeLine ∧ ∀ p, H p = none → Q (.ref p) (upd H p (.lst ((bs.mergeSort (PySem.W.dataLe false enc)).map val)))
theorem each_of {β : Type} {R : Value → β → Prop} {val : β → V} : ∀ {bs : List β} {us : List Value}, Vals (bs.map val) us → (∀ b ∈ bs, ∀ u, RelV (val b) u → R u b) → PySem.W.EachIs R us bs
  | [], _, r, _ => by
    cases r
    exact .nil
  | b :: bs, _, r, h => by
    rw [List.map_cons] at r
    cases r with
    | cons r1 r2 => exact .cons (h b List.mem_cons_self _ r1) (each_of r2 fun c hc => h c (List.mem_cons_of_mem _ hc))
theorem vals_of_each {β : Type} {val : β → V} : ∀ {us : List Value} {bs : List β}, PySem.W.EachIs (fun u b => RelV (val b) u) us bs → Vals (bs.map val) us
  | _, _, .nil => .nil
  | _, _, .cons h t => .cons h (vals_of_each t)
section
variable {X : Cx}
theorem cr_sortedB (hu : X.A.units + 100 < cLine) : CallR X (.builtin "sorted") (rSortB X.K) := by
  intro pins s σ H vs us Q I r h
  obtain ⟨β, enc, val, bs, a, rfl, hs, hd, hal, hk, hdep, hL, q⟩ := h
  obtain ⟨its, rv, hl, _⟩ := I.list hs
  rw [Vals.ref1 r]
  have e1 : PySem.W.EachIs (fun u b => RelV (val b) u) its bs := each_of rv fun b _ u h => h
  have e2 : PySem.W.EachIs (fun v b => ∃ as, Reads s.heap v (enc b) as) its bs := each_of rv fun b hb u h => Dp.reads I _ _ _ (hd b hb) h
  refine PySem.W.sorted_data hl.isList e1 e2 hal hk hL (fun b hb => by have := hdep b hb; omega) fun out ho er => ?_
  obtain ⟨ep, at1⟩ := PyProof.Rows.sortedAll_at s.heap its out.toArray
  have vo := vals_of_each er
  have hlen : ((bs.mergeSort (PySem.W.dataLe false enc)).map val).length ≤ sizeLine := by
    rw [List.length_map, List.length_mergeSort]
    exact hL
  exact ⟨.ref _, upd H (s.heap.objs.size + 1) (.lst ((bs.mergeSort (PySem.W.dataLe false enc)).map val)), I.laid (t' := s.toks) (fun _ _ => PyProof.Rows.sortedAll_old) (Nat.le_succ _) ⟨hlen, out, ep, vo, at1⟩, rfl, q _ (I.hok.fresh (Nat.le_succ _))⟩
end
/-! ### by trees -/
def pyD (t : T) : PyData := t.py.getD .none
def alikeC (ds : List PyData) : Bool := ds.all fun d => ds.all fun e => PySem.W.alike d e
def tupC : PyData → Bool
  | .tuple (_ :: _) => true
  | _ => false
def flatC : PyData → Bool
  | .none => false
  | .tuple _ => false
  | _ => true
def sortC (l : List T) : Bool := (l.all fun t => t.py.isSome && decide ((pyD t).depth ≤ 64)) && alikeC (l.map pyD) && ((l.map pyD).all tupC || (l.map pyD).all flatC) && decide (l.length ≤ 16777216)
def leD (a b : T) : Bool := PySem.W.dataLe false pyD a b
def sortedT : List T → Option (List T)
  | [.lst l] => if sortC l then some (l.mergeSort leD) else none
  | _ => none
section
variable {W : Wd} {Ex : XK} {X : Cx} {e : Expr} {es : List Expr} {fl : En → M (List T)} {pos p : Pos} {dk : Dk} {H : Hp} {F : Addr → Prop}
theorem RepL.zipped : ∀ {l : List T} {xs : List V}, RepL W H F dk l xs → (l.zip xs).map (·.1) = l ∧ (l.zip xs).map (·.2) = xs ∧ ∀ b ∈ l.zip xs, Rep W H F dk b.1 b.2
  | [], xs, r => by
    simp only [RepL] at r
    subst r
    exact ⟨rfl, rfl, fun _ h => (by cases h)⟩
  | t :: l, xs, r => by
    simp only [RepL] at r
    obtain ⟨x, r', rfl, h1, h2⟩ := r
    obtain ⟨q1, q2, q3⟩ := RepL.zipped h2
    refine ⟨by rw [List.zip_cons_cons, List.map_cons, q1], by rw [List.zip_cons_cons, List.map_cons, q2], fun b hb => ?_⟩
    rw [List.zip_cons_cons] at hb
    rcases List.mem_cons.mp hb with rfl | hb
    · exact h1
    · exact q3 b hb
theorem repL_pairs : ∀ {bs : List (T × V)}, (∀ b ∈ bs, Rep W H F dk b.1 b.2) → RepL W H F dk (bs.map (·.1)) (bs.map (·.2))
  | [], _ => .nil
  | b :: bs, h => .cons (h b List.mem_cons_self) (repL_pairs fun c hc => h c (List.mem_cons_of_mem _ hc))
theorem tn_sorted (hK : W.K = X.K) (hu : X.A.units + 100 < cLine) (hm : X.mg "sorted" = none) (ha : PA X (e :: es) (tA W Ex fl)) (hg : Gl X "sorted" := by rfl) (he : starEach (e :: es) X.env = (false, eval e X.env) :: starEach es X.env := by rfl) (hpl : (backTo pos (starEach es X.env)).any (·.1) = false := by rfl) :
    PE X (.Call (.Name "sorted" p) (e :: es) [] pos) (tN W Ex (xCallN sortedT fl)) := (pe_callB (cr_sortedB hu) hg hm PyProof.Rows.boot_sorted ha (he := he) (hpl := hpl)).imp fun σ H Q ⟨dk, F, G, en, d, S, h⟩ => by
  refine ⟨dk, F, G, en, d, S, (Post.bind h).mono fun l d1 H1 k1 D1 h1 xs rl => ?_⟩
  obtain ⟨z, ez, q⟩ := Post.opt_some h1
  unfold sortedT at ez
  split at ez
  · split at ez
    · rename_i l hc
      cases ez
      obtain ⟨x, rfl, rx⟩ := rl.one_inv
      simp only [Rep] at rx
      obtain ⟨a, ys, rfl, nf, ea, ra⟩ := rx
      obtain ⟨z1, z2, z3⟩ := RepL.zipped ra
      unfold sortC at hc
      simp only [Bool.and_eq_true, Bool.or_eq_true, List.all_eq_true, decide_eq_true_eq, alikeC] at hc
      obtain ⟨⟨⟨c1, c2⟩, c3⟩, c4⟩ := hc
      have mem : ∀ b ∈ l.zip ys, b.1 ∈ l := fun b hb => by rw [← z1]; exact List.mem_map_of_mem hb
      have em : (l.zip ys).map (fun b => pyD b.1) = l.map pyD := by
        conv => rhs; rw [← z1, List.map_map]
        rfl
      have srt : ((l.zip ys).mergeSort (PySem.W.dataLe false fun b : T × V => pyD b.1)).map (·.1) = l.mergeSort leD := by
        refine (List.map_mergeSort (r := PySem.W.dataLe false fun b : T × V => pyD b.1) (s := leD) (f := fun b : T × V => b.1) (fun a _ b _ => rfl)).trans ?_
        rw [z1]
      have lz : (l.zip ys).length = l.length := by rw [← List.length_map (f := (·.1)), z1]
      refine ⟨T × V, fun b => pyD b.1, fun b => b.2, l.zip ys, a, rfl, hK ▸ .of (by rw [z2]; exact ea), fun b hb => ?_, ?_, ?_, fun b hb => (c1 b.1 (mem b hb)).2, by rw [lz, sizeLine_eq]; exact c4, fun p hp => ?_⟩
      · have hs := (c1 b.1 (mem b hb)).1
        obtain ⟨dd, hdd⟩ := Option.isSome_iff_exists.mp hs
        have := (z3 b hb).dp hdd
        show Dp X.K H1 b.2 (b.1.py.getD .none)
        rw [hdd]
        exact hK ▸ this
      · rw [em]
        exact fun d hd d' hd' => c2 d hd d' hd'
      · rw [em]
        rcases c3 with c3 | c3
        · refine .inl fun d hd => ?_
          have := c3 d hd
          unfold tupC at this
          split at this
          · exact ⟨_, _, rfl⟩
          · cases this
        · refine .inr fun d hd => ?_
          have := c3 d hd
          unfold flatC at this
          split at this
          · cases this
          · cases this
          · rename_i n1 n2
            exact ⟨n1, n2⟩
      · have rr : RepL W H1 F dk (l.mergeSort leD) (((l.zip ys).mergeSort (PySem.W.dataLe false fun b : T × V => pyD b.1)).map (·.2)) := by
          rw [← srt]
          exact repL_pairs fun b hb => z3 b (List.mem_mergeSort.mp hb)
        exact q H1 (.refl _ _) D1 p _ rr (by rw [List.length_map, List.length_mergeSort, lz, sizeLine_eq]; exact c4) hp
    · cases ez
  · cases ez
end
end TL
/-! TLy2: e[::-1] of texts and lists; list(text). -/
namespace TL
open PySem PySem.Spec PyProof.Rows L2
end TL
/-! TLy3: list(text). -/
namespace TL
open PySem PySem.Spec PyProof.Rows L2
end TL
/-! TLy4: a, b = new list, new list. -/
namespace TL
open PySem PySem.Spec PyProof.Rows L2
def sPar2N (i j : Nat) (f g : En → M (List T)) : En → MS := fun en => (f en).bind fun l => (g en).bind fun m => .pure (.nx, setS (setS en i (.own (.lst l))) j (.own (.lst m)))
end TL
/-! TLy5: dicts as values: {}, {text: text}. -/
namespace TL
open PySem PySem.Spec PyProof.Rows L2
end TL
/-! TLy6: repr of a dict of scalars. -/
namespace TL
open PySem PySem.Spec PyProof.Rows L2
end TL
/-! TLz: instances: made, their attributes read; a statement that is never reached. -/
namespace TL
open PySem PySem.Spec PyProof.Rows L2
def sNever : En → MS := fun _ => M.bad
def putFT (f : Str) (t : T) : List (Str × T) → List (Str × T)
  | [] => [(f, t)]
  | (g, x) :: r => if g = f then (g, t) :: r else (g, x) :: putFT f t r
section
variable {W : Wd} {Ex : XK} {X : Cx} {st : Stmt} {e o c : Expr} {g : En → M T} {f cn : Str} {C : Addr} {pos p1 p2 p3 : Pos} {dk : Dk} {H : Hp} {F : Addr → Prop}
theorem ts_never : PS X st (tS W Ex sNever) := ps_never.imp fun D σ H ⟨dk, F0, H0, cp, en, d, R, p⟩ => p
theorem RepF.look : ∀ {l : List (Str × T)} {xs : List (Str × V)} {t : T}, RepF W H F dk l xs → l.lookup f = some t → ∃ v, xs.lookup f = some v ∧ Rep W H F dk t v
  | [], _, t, _, e => by cases e
  | (k, u) :: l, xs, t, h, e => by
    simp only [RepF] at h
    obtain ⟨x, r, rfl, h1, h2⟩ := h
    rw [List.lookup_cons] at e ⊢
    cases hb : (f == k) with
    | true =>
      rw [hb] at e
      cases e
      exact ⟨x, rfl, h1⟩
    | false =>
      rw [hb] at e
      exact RepF.look h2 e
theorem RepF.put {t : T} {v : V} (rv : Rep W H F dk t v) : ∀ {l : List (Str × T)} {xs : List (Str × V)}, RepF W H F dk l xs → RepF W H F dk (putFT f t l) (putF f v xs)
  | [], xs, h => by
    simp only [RepF] at h
    subst h
    simp only [putFT, putF, RepF]
    exact ⟨v, [], rfl, rv, rfl⟩
  | (k, u) :: l, xs, h => by
    simp only [RepF] at h
    obtain ⟨x, r, rfl, h1, h2⟩ := h
    unfold putFT putF
    split
    · simp only [RepF]
      exact ⟨v, r, rfl, rv, h2⟩
    · simp only [RepF]
      exact ⟨x, _, rfl, h1, RepF.put rv h2⟩
theorem RepF.length : ∀ {l : List (Str × T)} {xs : List (Str × V)}, RepF W H F dk l xs → xs.length = l.length
  | [], xs, h => by
    simp only [RepF] at h
    rw [h]
    rfl
  | (k, u) :: l, xs, h => by
    simp only [RepF] at h
    obtain ⟨x, r, rfl, _, h2⟩ := h
    rw [List.length_cons, List.length_cons, RepF.length h2]
end
/-! ### what __init__ does -/
abbrev MK := En → List (Str × T) → M (List (Str × T))
def kNil : MK := fun _ fs => .pure fs
def kSeq (g h : MK) : MK := fun en fs => (g en fs).bind (h en)
def kExpr (f : En → M T) : MK := fun en fs => (f en).bind fun _ => .pure fs
def kFld (n : Str) (f : En → M T) : MK := fun en fs => (f en).bind fun t => .opt (if fs.length < 999 then some (putFT n t fs) else none)
def kEnd (W : Wd) (dk : Dk) (F : Addr → Prop) (H0 : Hp) (C dx x : Addr) (σ : L2.St) (D : Ends) : Out (List (Str × T)) → Prop
  | .ok fs d => ∀ H' ys, Keep dk H0 H' → DkAt W dk H' d → H' x = some (.ins C dx ys) → RepF W H' (fun a => F a ∨ a = x) dk fs ys → D.nx σ H'
  | _ => False
section
variable {W : Wd} {X : Cx} {st : Stmt} {rest body : List Stmt} {e o c : Expr} {g h : MK} {f : En → M T} {fb : En → M Bool} {n cn x : Str} {C : Addr} {pos p1 p2 p3 : Pos}
/-- an expression within -/
theorem kEnd.use {dk : Dk} {F : Addr → Prop} {G : Nat → Addr → Prop} {σ : L2.St} {H0 H : Hp} {en : En} {d0 d : TL.D} {x C dx : Addr} {ys : List (Str × V)} {fs : List (Str × T)} {D : Ends} {α : Type} {m : M α} {k : α → M (List (Str × T))} {R : α → TL.D → Hp → Prop}
    (S : SR W dk F G σ H0 en d0) (h3 : H0 x = none) (hk : Keep dk H0 H) (h4 : H x = some (.ins C dx ys)) (h5 : RepF W H (fun a => F a ∨ a = x) dk fs ys) (q : kEnd W dk F H0 C dx x σ D (M.bind m k d))
    (go : ∀ a d1 H1, Keep dk H H1 → DkAt W dk H1 d1 → Keep dk H0 H1 → H1 x = some (.ins C dx ys) → RepF W H1 (fun a => F a ∨ a = x) dk fs ys → kEnd W dk F H0 C dx x σ D (k a d1) → R a d1 H1) : Post W E0 (fun a => F a ∨ a = x) dk H R (m d) := by
  have nx : x ≠ dk.1 ∧ x ≠ dk.2 := ⟨fun z => S.fh x (z ▸ S.fd1) h3, fun z => S.fh x (z ▸ S.fd2) h3⟩
  cases e : m d with
  | bad =>
    rw [M.bind_bad e] at q
    exact q.elim
  | exc y d1 =>
    rw [M.bind_exc e] at q
    exact q.elim
  | ok a d1 =>
    rw [M.bind_ok e] at q
    exact fun H1 k1 D1 => go a d1 H1 k1 D1 (hk.trans k1) (k1 _ _ h4 nx.1 nx.2) (RepF.mono (fun b o nf e => ⟨k1 b o e (fun z => nf (.inl (z ▸ S.fd1))) (fun z => nf (.inl (z ▸ S.fd2))), nf⟩) _ _ h5) q
end
end TL
/-! TLz1: instances made by a call of their class. -/
namespace TL
open PySem PySem.Spec PyProof.Rows L2
def spI (W : Wd) (n : Nat) (cn : Str) (Fm : List T → M T) : Sp := fun vs Hm Q E => ∃ (dk : Dk) (F : Addr → Prop) (ts : List T) (d : D) (H : Hp) (x dx C : Addr) (xs : List V), vs = .ref x :: xs ∧ vs.length = n ∧ W.ct cn = some C ∧ RepL W H F dk ts xs ∧ (∀ a, F a → H a ≠ none) ∧ F dk.1 ∧ F dk.2 ∧ DkAt W dk H d ∧
  H x = none ∧ H dx = none ∧ dx ≠ x ∧ Hm = upd (upd H dx (.own x)) x (.ins C dx []) ∧ Post W E F dk H (fun t d' H' => Rep W H' F dk t (.ref x) → Q .non H') (Fm ts d)
/-- the __init__ at f does what Fm says of the new instance -/
structure FnI (W : Wd) (P : Program) (w : World) (mg : Str → Option Value) (base : Heap) (CX : CXT) (k : Nat) (f : Addr) (fd : FuncData) (ps : List Str) (cn : Str) (Fm : List T → M T) : Prop where
  run : ∀ (A : Around) (outer : List Env) (s : Shared) (H : Hp) (args : Args) (us : List Value) (vs : List V) (Q : VK) (E : XK), A.guards = some [] → Room k A → Env0 P w W.K mg base A outer s H → BindsTo s fd args (ps.zip us) → Vals vs us →
    spI W ps.length cn Fm vs H Q E → codeAny (model P w) A (.call (.ref f) args) (CR CX outer P w H s Q E) s
section
variable {W : Wd} {P : Program} {w : World} {mg : Str → Option Value} {base : Heap}
theorem FnI.mono {CX : CXT} {j k : Nat} {f : Addr} {fd : FuncData} {ps : List Str} {cn : Str} {Fm : List T → M T} (h : FnI W P w mg base CX j f fd ps cn Fm) (hk : j ≤ k) : FnI W P w mg base CX k f fd ps cn Fm :=
  ⟨fun A outer s H args us vs Q E hg hr => h.run A outer s H args us vs Q E hg (hr.mono hk)⟩
end
end TL
/-! TLz2: sorted(set(xs)). -/
namespace TL
open PySem PySem.Spec PyProof.Rows L2
/-! ### plain lists -/
section
variable {α β : Type}
def put1G (key : α → NS.NK) (acc : List α) (p : α) : List α := if key p ∈ acc.map key then acc else acc ++ [p]
def firstsG (key : α → NS.NK) (l : List α) : List α := l.foldl (put1G key) []
/-- a strictly ascending list is what sorting any order of it gives -/
def strictG (le : α → α → Bool) : List α → Bool
  | [] => true
  | a :: r => le a a && (r.all fun b => le a b && !le b a) && strictG le r
end
end TL
/-! NSg: set(a list). -/
/-! TLz3: set(xs) and sorted(a set), by values; sorted(set(xs)) by trees. -/
namespace TL
open PySem PySem.Spec PyProof.Rows L2
end TL
/-! TLz4: sorted(set(xs)) by trees. -/
namespace TL
open PySem PySem.Spec PyProof.Rows L2
def keyD (t : T) : NS.NK := (nkT t).getD .none
def firstsT (l : List T) : List T := firstsG keyD l
def kindB (b : Bool) (t : T) : Bool := match nkT t with
  | some n => decide (n.depth ≤ 8) && (match t with
    | .tup _ => b
    | .int _ => !b
    | .str _ => !b
    | _ => false)
  | none => false
def setC (l : List T) : Bool := (l.all (kindB true) || l.all (kindB false)) && decide (l.length < 3900)
/-- what sorting a set with these items gives -/
def ordSet (l : List T) : Option (List T) := if setC l && sortC (firstsT l) && strictG leD ((firstsT l).mergeSort leD) then some ((firstsT l).mergeSort leD) else none
def sortedSetT : List T → Option (List T)
  | [.lst l] => ordSet l
  | _ => none
end TL
/-! NSj: dicts of nested keys: made, read, written. -/
namespace NS
open PySem PySem.Spec PyProof.Rows L2
def lookE (kvs : List Ent) (k : NK) : Option V := (kvs.find? fun e => decide (e.1 = k)).map (·.2.2)
def putE (kvs : List Ent) (k : NK) (b : Addr) (v : V) : List Ent := if (lookE kvs k).isSome then kvs.map (fun e => if e.1 = k then (e.1, e.2.1, v) else e) else kvs ++ [(k, b, v)]
end NS
/-! NSk: methods of tracked built-in objects: get, setdefault of dicts of nested keys. -/
/-! TLz5: dicts of nested keys by trees: d.get(k, z), own.setdefault(k, []).append(v). -/
namespace TL
open PySem PySem.Spec PyProof.Rows L2
/-- a tuple as a key -/
def keyN : T → Option NS.NK
  | .tup l => (nkT (.tup l)).bind fun n => if n.depth ≤ 8 then some n else none
  | _ => none
def lookX (l : List (T × T)) (n : NS.NK) : Option T := (l.find? fun kv => decide (nkT kv.1 = some n)).map (·.2)
def lookQ (l : List (T × List T)) (n : NS.NK) : Option (List T) := (l.find? fun kv => decide (nkT kv.1 = some n)).map (·.2)
def appQ (l : List (T × List T)) (n : NS.NK) (t : T) : List (T × List T) := l.map fun kv => if nkT kv.1 = some n then (kv.1, kv.2 ++ [t]) else kv
def setdQ (l : List (T × List T)) (k : T) (n : NS.NK) : List (T × List T) := if (lookQ l n).isSome then l else l ++ [(k, [])]
section
variable {W : Wd} {H H' : Hp} {F : Addr → Prop} {dk : Dk} {B : Addr → Prop} {n : NS.NK}
theorem RepX.look : ∀ {l : List (T × T)} {xs : List NS.Ent}, RepX W H F dk l xs → match lookX l n with
    | none => NS.lookE xs n = none
    | some t => ∃ v, NS.lookE xs n = some v ∧ Rep W H F dk t v
  | [], xs, h => by
    simp only [RepX] at h
    subst h
    exact rfl
  | (q, t) :: l, xs, h => by
    simp only [RepX] at h
    obtain ⟨m, b, x, r, rfl, h0, h1, h2, h3⟩ := h
    unfold lookX NS.lookE
    rw [List.find?_cons, List.find?_cons]
    by_cases e : m = n
    · subst e
      simp only [h0, decide_true, Option.map_some]
      exact ⟨x, rfl, h2⟩
    · have e2 : ¬ nkT q = some n := by rw [h0]; exact fun z => e (Option.some.inj z)
      simp only [e, e2, decide_false]
      exact RepX.look h3
theorem RepQ.look : ∀ {l : List (T × List T)} {xs : List NS.Ent}, RepQ W H F dk B l xs → match lookQ l n with
    | none => NS.lookE xs n = none
    | some m => ∃ q ys, NS.lookE xs n = some (.ref q) ∧ B q ∧ H q = some (.lst ys) ∧ RepL W H F dk m ys
  | [], xs, h => by
    simp only [RepQ] at h
    subst h
    exact rfl
  | (q, t) :: l, xs, h => by
    simp only [RepQ] at h
    obtain ⟨m, b, q', ys, r, rfl, h0, h1, h2, h3, h4, h5, h6⟩ := h
    unfold lookQ NS.lookE
    rw [List.find?_cons, List.find?_cons]
    by_cases e : m = n
    · subst e
      simp only [h0, decide_true, Option.map_some]
      exact ⟨q', ys, rfl, h2, h3, h4⟩
    · have e2 : ¬ nkT q = some n := by rw [h0]; exact fun z => e (Option.some.inj z)
      simp only [e, e2, decide_false]
      exact RepQ.look h6
theorem RepQ.len : ∀ {l : List (T × List T)} {xs : List NS.Ent}, RepQ W H F dk B l xs → xs.length = l.length
  | [], xs, h => by
    simp only [RepQ] at h
    subst h
    rfl
  | (q, t) :: l, xs, h => by
    simp only [RepQ] at h
    obtain ⟨m, b, q', ys, r, rfl, h0, h1, h2, h3, h4, h5, h6⟩ := h
    rw [List.length_cons, List.length_cons, RepQ.len h6]
/-- all lists of such a dict stand -/
theorem RepQ.there : ∀ {l : List (T × List T)} {xs : List NS.Ent}, RepQ W H F dk B l xs → ∀ e ∈ xs, ∃ q ys, e.2.2 = .ref q ∧ B q ∧ H q = some (.lst ys)
  | [], xs, h, e, he => by
    simp only [RepQ] at h
    subst h
    cases he
  | (q, t) :: l, xs, h, e, he => by
    simp only [RepQ] at h
    obtain ⟨m, b, q', ys, r, rfl, h0, h1, h2, h3, h4, h5, h6⟩ := h
    rcases List.mem_cons.mp he with rfl | he
    · exact ⟨q', ys, rfl, h2, h3⟩
    · exact RepQ.there h6 e he
theorem RepQ.snoc {k : T} {b p : Addr} (h0 : nkT k = some n) (h1 : Rep W H F dk k (.ref b)) (h2 : B p) (h3 : H p = some (.lst [])) : ∀ {l : List (T × List T)} {xs : List NS.Ent}, RepQ W H F dk B l xs → (∀ e ∈ xs, e.2.2 ≠ .ref p) → RepQ W H F dk B (l ++ [(k, [])]) (xs ++ [(n, b, .ref p)])
  | [], xs, h, _ => by
    simp only [RepQ] at h
    subst h
    simp only [List.nil_append, RepQ]
    exact ⟨n, b, p, [], [], rfl, h0, h1, h2, h3, .nil, (fun _ z => nomatch z), rfl⟩
  | (q, t) :: l, xs, h, hp => by
    simp only [RepQ] at h
    obtain ⟨m, b', q', ys, r, rfl, g0, g1, g2, g3, g4, g5, g6⟩ := h
    simp only [List.cons_append, RepQ]
    refine ⟨m, b', q', ys, _, rfl, g0, g1, g2, g3, g4, fun e he => ?_, RepQ.snoc h0 h1 h2 h3 g6 fun e he => hp e (List.mem_cons_of_mem _ he)⟩
    rcases List.mem_append.mp he with he | he
    · exact g5 e he
    · rw [List.mem_singleton.mp he]
      exact fun z => hp _ List.mem_cons_self z.symm
end
/-- d.get(k, z) -/
def dixT? : T → Option (List (T × T))
  | .dix l => some l
  | _ => none
def xGet2N (fa fb fc : En → M T) : En → M T := fun en => (fa en).bind fun x => (M.opt (dixT? x)).bind fun l => (fb en).bind fun y => (fc en).bind fun z => .opt ((keyN y).map fun n => (lookX l n).getD z)
/-! ### own.setdefault(k, []).append(v) -/
def withQ (en : En) (i : Nat) (k : List (T × List T) → MS) : MS := match getS en i with
  | .own (.dic []) => k []
  | .own (.dil l) => k l
  | _ => .bad
def sSetdApp (i : Nat) (fk fv : En → M T) : En → MS := fun en => withQ en i fun l => (fk en).bind fun k => (M.opt (keyN k)).bind fun n => (M.opt (capL (l.length + 1) ())).bind fun _ => (fv (setS en i (.own (.dil (setdQ l k n))))).bind fun t =>
  (M.opt (capL (((lookQ (setdQ l k n) n).getD []).length + 1) ())).bind fun _ => .pure (.nx, setS (setS en i (.own (.dil (setdQ l k n)))) i (.own (.dil (appQ (setdQ l k n) n t))))
end TL
/-! NSl: set(), s.add(x). -/
/-! TLz6: sets of one's own by trees: own = set(), own.add(e), sorted(own). -/
namespace TL
open PySem PySem.Spec PyProof.Rows L2
def withS (en : En) (i : Nat) (k : List T → MS) : MS := match getS en i with
  | .own (.set l) => k l
  | _ => .bad
/-- one more in the set -/
def addT' (l : List T) (t : T) : List T := put1G keyD l t
def sNewS (i : Nat) : En → MS := fun en => .pure (.nx, setS en i (.own (.set [])))
def alikeB (l : List T) (t : T) : Bool := (l.all (kindB true) && kindB true t) || (l.all (kindB false) && kindB false t)
def sAddS (i : Nat) (f : En → M T) : En → MS := fun en => withS en i fun l => (f en).bind fun t => (M.opt (if alikeB l t && decide (l.length < 3900) then some () else none)).bind fun _ => .pure (.nx, setS en i (.own (.set (addT' l t))))
section
variable {W : Wd} {Ex : XK} {dk : Dk} {F F0 : Addr → Prop} {G : Nat → Addr → Prop} {H H0 : Hp} {cp : Cps} {σ : L2.St} {en : En} {d : TL.D} {D : Ends} {i : Nat}
theorem RepS.len : ∀ {l : List T} {xs : List (NS.NK × V)}, RepS W H F dk l xs → xs.length = l.length
  | [], xs, h => by
    simp only [RepS] at h
    subst h
    rfl
  | t :: l, xs, h => by
    simp only [RepS] at h
    obtain ⟨n, x, r, rfl, _, _, h2⟩ := h
    rw [List.length_cons, List.length_cons, RepS.len h2]
theorem RepS.keys : ∀ {l : List T} {xs : List (NS.NK × V)}, RepS W H F dk l xs → xs.map (·.1) = l.map keyD
  | [], xs, h => by
    simp only [RepS] at h
    subst h
    rfl
  | t :: l, xs, h => by
    simp only [RepS] at h
    obtain ⟨n, x, r, rfl, h0, _, h2⟩ := h
    rw [List.map_cons, List.map_cons, RepS.keys h2]
    unfold keyD
    rw [h0]
    rfl
theorem RepS.repL : ∀ {l : List T} {xs : List (NS.NK × V)}, RepS W H F dk l xs → RepL W H F dk l (xs.map (·.2))
  | [], xs, h => by
    simp only [RepS] at h
    subst h
    exact .nil
  | t :: l, xs, h => by
    simp only [RepS] at h
    obtain ⟨n, x, r, rfl, _, h1, h2⟩ := h
    exact .cons h1 (RepS.repL h2)
theorem RepS.snoc {t : T} {n : NS.NK} {x : V} (h0 : nkT t = some n) (h1 : Rep W H F dk t x) : ∀ {l : List T} {xs : List (NS.NK × V)}, RepS W H F dk l xs → RepS W H F dk (l ++ [t]) (xs ++ [(n, x)])
  | [], xs, h => by
    simp only [RepS] at h
    subst h
    simp only [List.nil_append, RepS]
    exact ⟨n, x, [], rfl, h0, h1, rfl⟩
  | u :: l, xs, h => by
    simp only [RepS] at h
    obtain ⟨m, y, r, rfl, g0, g1, h2⟩ := h
    simp only [List.cons_append, RepS]
    exact ⟨m, y, _, rfl, g0, g1, RepS.snoc h0 h1 h2⟩
end
section
variable {W : Wd} {Ex : XK} {X : Cx} {e : Expr} {f : En → M T} {i : Nat} {x : Str} {pos p1 p2 cpos : Pos}
/-- sorted(own) -/
def xSortS (i : Nat) : En → M (List T) := fun en => match getS en i with
  | .own (.set l) => .opt (if decide ((l.map keyD).Nodup) then ordSet l else none)
  | _ => .bad
end
end TL
/-! TLz7: tuples in order: one < other, one <= other. -/
namespace TL
open PySem PySem.Spec PyProof.Rows L2
def lexG (r : T → T → Bool) (st : Bool) : List T → List T → Bool
  | [], [] => !st
  | [], _ :: _ => true
  | _ :: _, [] => false
  | a :: l, b :: m => if keyD a = keyD b then lexG r st l m else r a b
def ordT (st : Bool) : Nat → T → T → Bool
  | _, .int i, .int j => if st then decide (i < j) else decide (i ≤ j)
  | _, .str x, .str y => if st then decide (x.cps.toList < y.cps.toList) else !decide (y.cps.toList < x.cps.toList)
  | k + 1, .tup l, .tup m => lexG (ordT st k) st l m
  | _, _, _ => false
def keyOk (t : T) : Bool := match nkT t with
  | some n => decide (n.depth ≤ 8)
  | none => false
/-- alike, so that they have an order -/
def alkT : Nat → T → T → Bool
  | _, .int _, .int _ => true
  | _, .str _, .str _ => true
  | k + 1, .tup l, .tup m => (l.zip m).all fun p => keyOk p.1 && keyOk p.2 && alkT k p.1 p.2
  | _, _, _ => false
def ltU (a b : T) : Option T := match a, b with
  | .tup l, .tup m => if alkT 3 (.tup l) (.tup m) then some (.bl (ordT true 3 (.tup l) (.tup m))) else none
  | a, b => ltT a b
def leU (a b : T) : Option T := match a, b with
  | .tup l, .tup m => if alkT 3 (.tup l) (.tup m) then some (.bl (ordT false 3 (.tup l) (.tup m))) else none
  | a, b => leT a b
theorem lexAt_shift {e r : Nat → Bool} {z : Bool} : ∀ (k i : Nat), Ob.lexAt (fun j => e (j + 1)) (fun j => r (j + 1)) z i k = Ob.lexAt e r z (i + 1) k
  | 0, i => by rw [Ob.lexAt_zero, Ob.lexAt_zero]
  | k + 1, i => by rw [Ob.lexAt_succ, Ob.lexAt_succ, lexAt_shift k (i + 1)]
theorem lexAt_lexG {R : T → T → Bool} {st z : Bool} : ∀ (l m : List T), z = (if st then decide (l.length < m.length) else decide (l.length ≤ m.length)) →
    Ob.lexAt (fun j => decide (keyD (l.getD j .non) = keyD (m.getD j .non))) (fun j => R (l.getD j .non) (m.getD j .non)) z 0 (min l.length m.length) = lexG R st l m
  | [], [], h => by
    subst h
    cases st <;> rfl
  | [], _ :: _, h => by
    subst h
    cases st <;> simp [lexG, Ob.lexAt_zero]
  | _ :: _, [], h => by
    subst h
    cases st <;> simp [lexG, Ob.lexAt_zero]
  | a :: l, b :: m, h => by
    have hm : min (a :: l).length (b :: m).length = min l.length m.length + 1 := by simp only [List.length_cons]; omega
    rw [hm, Ob.lexAt_succ, ← lexAt_shift]
    simp only [List.getD_cons_zero, List.getD_cons_succ, lexG]
    rw [lexAt_lexG (st := st) l m (by
      subst h
      simp only [List.length_cons]
      cases st <;> simp)]
    by_cases e : keyD a = keyD b
    · simp [e]
    · simp [e]
theorem keyOk_some {t : T} (h : keyOk t = true) : ∃ n, nkT t = some n ∧ n.depth ≤ 8 := by
  unfold keyOk at h
  split at h
  · exact ⟨_, by assumption, of_decide_eq_true h⟩
  · cases h
section
variable {W : Wd} {X : Cx} {pins : List (Addr × Obj)} {σ : L2.St} {H : Hp} {s : Shared} {F : Addr → Prop} {dk : Dk}
theorem rep_isTuple {a : T} {l : List T} {v : V} {u : Value} (I : Inv X pins σ H s) (r : Rep W H F dk (.tup l) v) (ru : RelV v u) : ∃ p xs its, v = .ref p ∧ u = .ref p ∧ RepL W H F dk l xs ∧ Vals xs its.toList ∧ s.heap.IsTuple p its := by
  simp only [Rep] at r
  obtain ⟨p, xs, rfl, _, e, rl⟩ := r
  cases ru
  obtain ⟨_, its, rv, o, ho, hc, n, hd⟩ := I.hok _ _ e
  exact ⟨p, xs, its.toArray, rfl, rfl, rl, by simpa using rv, o, ho, hc, n, hd⟩
theorem rc_of (st : Bool) (I : Inv X pins σ H s) : ∀ (k : Nat) (A : Around) (a b : T) (x y : V) (u v : Value), alkT k a b = true → Rep W H F dk a x → Rep W H F dk b y → RelV x u → RelV y v → A.units + k + 20 < cLine → Ob.RcOp (if st = true then .Lt else .LtE) A s u v (ordT st k a b) := by
  have flat_i : ∀ (A : Around) (i j : Int) (x y : V) (u v : Value), Rep W H F dk (.int i) x → Rep W H F dk (.int j) y → RelV x u → RelV y v → Ob.RcOp (if st = true then .Lt else .LtE) A s u v (if st then decide (i < j) else decide (i ≤ j)) := fun A i j x y u v ra rb ru rv => by
    simp only [Rep] at ra rb
    subst ra rb
    obtain ⟨t1, rfl⟩ := ru
    obtain ⟨t2, rfl⟩ := rv
    cases st
    · exact Ob.RcOp.le_int _ _ _ _
    · exact Ob.RcOp.lt_int _ _ _ _
  have flat_s : ∀ (A : Around) (i j : Str) (x y : V) (u v : Value), Rep W H F dk (.str i) x → Rep W H F dk (.str j) y → RelV x u → RelV y v → Ob.RcOp (if st = true then .Lt else .LtE) A s u v (if st then decide (i.cps.toList < j.cps.toList) else !decide (j.cps.toList < i.cps.toList)) := fun A i j x y u v ra rb ru rv => by
    simp only [Rep] at ra rb
    subst ra rb
    obtain ⟨t1, rfl⟩ := ru
    obtain ⟨t2, rfl⟩ := rv
    cases st
    · exact fun prog w E Q h => PySem.P.le_str (E := E) h
    · exact fun prog w E Q h => PyProof.Rows.lt_str (E := E) h
  intro k
  induction k with
  | zero =>
    intro A a b x y u v al ra rb ru rv hu
    cases a <;> cases b <;> simp only [alkT, Bool.false_eq_true] at al
    · exact flat_i A _ _ x y u v ra rb ru rv
    · exact flat_s A _ _ x y u v ra rb ru rv
  | succ k ih =>
    intro A a b x y u v al ra rb ru rv hu
    cases a <;> cases b <;> simp only [alkT, Bool.false_eq_true] at al
    · exact flat_i A _ _ x y u v ra rb ru rv
    · exact flat_s A _ _ x y u v ra rb ru rv
    · rename_i l m
      obtain ⟨p, xs, its, rfl, rfl, rl, vl, h1⟩ := rep_isTuple (a := .non) I ra ru
      obtain ⟨q, ys, jts, rfl, rfl, rm, vm, h2⟩ := rep_isTuple (a := .non) I rb rv
      have sl : its.size = l.length := by rw [← Array.length_toList, ← vl.length, rl.length]
      have sm : jts.size = m.length := by rw [← Array.length_toList, ← vm.length, rm.length]
      have at_ : ∀ (j : Nat) (z1 : j < its.size) (z2 : j < jts.size), ∃ xv yv, Rep W H F dk (l.getD j .non) xv ∧ Rep W H F dk (m.getD j .non) yv ∧ RelV xv its[j] ∧ RelV yv jts[j] ∧ keyOk (l.getD j .non) = true ∧ keyOk (m.getD j .non) = true ∧ alkT k (l.getD j .non) (m.getD j .non) = true := fun j z1 z2 => by
        have w1 : j < l.length := by omega
        have w2 : j < m.length := by omega
        obtain ⟨xv, e1, r1⟩ := rl.get (List.getElem?_eq_getElem w1)
        obtain ⟨yv, e2, r2⟩ := rm.get (List.getElem?_eq_getElem w2)
        obtain ⟨u1, f1, g1⟩ := vl.get e1
        obtain ⟨u2, f2, g2⟩ := vm.get e2
        have d1 : l.getD j .non = l[j] := by rw [List.getD_eq_getElem?_getD, List.getElem?_eq_getElem w1]; rfl
        have d2 : m.getD j .non = m[j] := by rw [List.getD_eq_getElem?_getD, List.getElem?_eq_getElem w2]; rfl
        rw [d1, d2]
        have k1 : its[j] = u1 := by
          rw [Array.getElem?_toList, Array.getElem?_eq_getElem z1] at f1
          exact Option.some.inj f1
        have k2 : jts[j] = u2 := by
          rw [Array.getElem?_toList, Array.getElem?_eq_getElem z2] at f2
          exact Option.some.inj f2
        rw [k1, k2]
        have hz : (l[j], m[j]) ∈ l.zip m := by
          have : (l.zip m)[j]? = some (l[j], m[j]) := by
            rw [List.getElem?_zip_eq_some]
            exact ⟨List.getElem?_eq_getElem w1, List.getElem?_eq_getElem w2⟩
          exact List.mem_of_getElem? this
        have al2 := List.all_eq_true.mp al _ hz
        simp only [Bool.and_eq_true] at al2
        exact ⟨xv, yv, r1, r2, g1, g2, al2.1.1, al2.1.2, al2.2⟩
      have eqs : ∀ (j : Nat) (z1 : j < its.size) (z2 : j < jts.size), SeqAt.EqAt A.in1 s its[j] jts[j] (decide (keyD (l.getD j .non) = keyD (m.getD j .non))) := fun j z1 z2 => by
        obtain ⟨xv, yv, r1, r2, g1, g2, o1, o2, o3⟩ := at_ j z1 z2
        obtain ⟨n1, e1, d1⟩ := keyOk_some o1
        obtain ⟨n2, e2, d2⟩ := keyOk_some o2
        have : decide (keyD (l.getD j .non) = keyD (m.getD j .non)) = decide (n1 = n2) := by
          unfold keyD
          rw [e1, e2]
          rfl
        rw [this]
        exact fun prog w E Q h => NS.eq_key (by simp only [Around.in1_units]; omega) ((r1.nk e1).is I _ _ _ g1) ((r2.nk e2).is I _ _ _ g2) d1 h
      have rcs : ∀ (j : Nat) (z1 : j < its.size) (z2 : j < jts.size), Ob.RcOp (if st = true then .Lt else .LtE) A.in1 s its[j] jts[j] (ordT st k (l.getD j .non) (m.getD j .non)) := fun j z1 z2 => by
        obtain ⟨xv, yv, r1, r2, g1, g2, o1, o2, o3⟩ := at_ j z1 z2
        exact ih A.in1 _ _ _ _ _ _ o3 r1 r2 g1 g2 (by simp only [Around.in1_units]; omega)
      show Ob.RcOp _ A s _ _ (lexG (ordT st k) st l m)
      cases st with
      | true =>
        have := Ob.RcOp.tuples_lt (A := A) h1 h2 (by omega) eqs (r := fun j => ordT true k (l.getD j .non) (m.getD j .non)) fun j z1 z2 _ => rcs j z1 z2
        rw [sl, sm, lexAt_lexG (st := true) (z := decide (l.length < m.length)) l m (if_pos rfl).symm] at this
        exact this
      | false =>
        have := Ob.RcOp.tuples_le (A := A) h1 h2 (by omega) eqs (r := fun j => ordT false k (l.getD j .non) (m.getD j .non)) fun j z1 z2 _ => rcs j z1 z2
        rw [sl, sm, lexAt_lexG (st := false) (z := decide (l.length ≤ m.length)) l m (if_neg (fun z => nomatch z)).symm] at this
        exact this
/-- as a reading -/
def rTupO (st : Bool) : R2 := fun x y H Q => ∃ (W : Wd) (F : Addr → Prop) (dk : Dk) (a b : T), alkT 3 a b = true ∧ Rep W H F dk a x ∧ Rep W H F dk b y ∧ Q (.bl (ordT st 3 a b)) H
theorem op_tupO (st : Bool) (hu : X.A.units + 100 < cLine) : OpR X (compareOp (if st = true then .Lt else .LtE)) (rTupO st) := by
  intro pins s σ H x y u v Q I rx ry h
  obtain ⟨W, F, dk, a, b, al, ra, rb, q⟩ := h
  have := rc_of st I 3 X.A a b x y u v al ra rb rx ry (by omega)
  have e : compareOp (if st = true then .Lt else .LtE) u v = richCompare (if st = true then .Lt else .LtE) u v := by cases st <;> rfl
  rw [e]
  exact this _ _ _ _ ⟨.bl (ordT st 3 a b), H, I, rfl, q⟩
theorem agr_ltU {W : Wd} : Agr2 W (fun x y H Q => rOrd (fun i j => decide (i < j)) (fun i j => decide (i.cps.toList < j.cps.toList)) x y H Q ∨ rTupO true x y H Q) ltU := fun {dk F H x y a b t Q} hF ra rb e q => by
  by_cases h : ∃ l m, a = .tup l ∧ b = .tup m
  · obtain ⟨l, m, rfl, rfl⟩ := h
    simp only [ltU] at e
    split at e
    · cases e
      exact .inr ⟨W, F, dk, _, _, by assumption, ra, rb, q _ H (.refl _) (by simp only [Rep])⟩
    · cases e
  · have e2 : ltT a b = some t := by
      unfold ltU at e
      split at e
      · exact absurd ⟨_, _, rfl, rfl⟩ h
      · exact e
    exact .inl (agr_lt hF ra rb e2 q)
end
section
variable {W : Wd} {Ex : XK} {X : Cx} {a b : Expr} {f g : En → M T} {pos : Pos}
theorem tt_ltU (hu : X.A.units + 100 < cLine) (ha : PE X a (tE W Ex f)) (hb : PE X b (tE W Ex g)) : PT X (.Compare a [.Lt] [b] pos) (tT W Ex (xTest (xBin ltU f g))) := tt_cmp (op_ltA.or (op_tupO true hu)) agr_ltU ha hb (nomark _)
@[simp] theorem ev_ltUi (i j : Int) : ltU (.int i) (.int j) = some (.bl (decide (i < j))) := (rfl)
@[simp] theorem ev_ltUs (i j : Str) : ltU (.str i) (.str j) = some (.bl (decide (i.cps.toList < j.cps.toList))) := (rfl)
@[simp] theorem ev_leUi (i j : Int) : leU (.int i) (.int j) = leT (.int i) (.int j) := (rfl)
end
end TL
/-! TLz8: properties, classmethods, classes as values, try that runs through. -/
namespace TL
open PySem PySem.Spec PyProof.Rows L2
/-- e.f, a property of the class cn -/
def propT (cn : Str) (Fm : List T → M T) : T → M T
  | .ins c fs => if c = cn then Fm [.ins c fs] else .bad
  | _ => .bad
def xProp (cn : Str) (Fm : List T → M T) (f : En → M T) : En → M T := fun en => (f en).bind (propT cn Fm)
end TL
/-! NSm: first, *rest = a list. -/
/-! TLz9: str(i), int(text), f-strings, split, stars. -/
namespace TL
open PySem PySem.Spec PyProof.Rows L2
def splitT (x y : T) : Option (List T) := match x, y with
  | .str a, .str b => if !(b.length == 0) && decide (a.length + 2 ≤ 16777216) && decide ((Txt.split a b).length ≤ 16777216) then some ((Txt.split a b).map .str) else none
  | _, _ => none
def xSplit (f g : En → M T) : En → M (List T) := fun en => (f en).bind fun x => (M.opt (strT? x)).bind fun s => (g en).bind fun y => .opt (splitT (.str s) y)
def itsT : T → Option (List T)
  | .lst l => some l
  | .tup l => some l
  | _ => none
/-- *e, .. -/
def xStar (f : En → M T) (fl : En → M (List T)) : En → M (List T) := fun en => (f en).bind fun t => (M.opt (itsT t)).bind fun l => (fl en).bind fun m => .pure (l ++ m)
/-- x, *y = e -/
def sStar (i j : Nat) (f : En → M T) : En → MS := fun en => (f en).bind fun t => match t with
  | .lst (x :: xs) => .pure (.nx, setS (setS en i (.val x)) j (.val (.lst xs)))
  | _ => M.bad
section
variable {W : Wd} {Ex : XK} {X : Cx} {a b e : Expr} {es : List Expr} {f g : En → M T} {fl : En → M (List T)} {pos p p1 p2 p3 apos cpos : Pos} {i j k : Nat} {x y : Str}
def xJs : List (En → M T) → Str → En → M T
  | [], acc, _ => .pure (.str acc)
  | f :: fs, acc, en => (f en).bind fun t => (M.opt (strT? t)).bind fun y => if (acc ++ y).length ≤ 16777216 then xJs fs (acc ++ y) en else .bad
end
end TL
/-! NSn: t[::-1] of a tuple. -/
/-! TLza: tuples reversed, dict of pairs, x, own = e, a new list. -/
namespace TL
open PySem PySem.Spec PyProof.Rows L2
def mergeT (l : List (Key × T)) : List (Key × T) := l.foldl (fun acc kv => putT acc kv.1 kv.2) []
def sParVN (i j : Nat) (f : En → M T) (g : En → M (List T)) : En → MS := fun en => (f en).bind fun t => (g en).bind fun m => .pure (.nx, setS (setS en i (.val t)) j (.own (.lst m)))
end TL
/-! TLzb: data of one shape, told by codes: their order, sets of them sorted. Plain Lean. -/
namespace TL
open PySem PySem.Spec PyProof.Rows L2
structure Cd (α : Type) [DecidableEq α] where
  enc : α → T
  lt : α → α → Bool
  d : α → PyData
  n : α → NS.NK
  dep : Nat
  py : ∀ a, (enc a).py = some (d a)
  nk : ∀ a, nkT (enc a) = some (n a)
  inj : ∀ a b, n a = n b → a = b
  alike : ∀ a b, PySem.W.alike (d a) (d b) = true
  eqv : ∀ a b, PyData.eqv (d a) (d b) = decide (a = b)
  dl : ∀ a b, PySem.W.dataLt (d a) (d b) = lt a b
  tot : ∀ a b, lt a b = false → lt b a = false → a = b
  nd : ∀ a, (n a).depth ≤ dep
  dd : ∀ a, (d a).depth ≤ dep
  ord : ∀ k, dep ≤ k → ∀ a b, alkT k (enc a) (enc b) = true ∧ ordT true k (enc a) (enc b) = lt a b ∧ ordT false k (enc a) (enc b) = !lt b a
theorem ltS_tot {x y : Str} (h1 : decide (x.cps.toList < y.cps.toList) = false) (h2 : decide (y.cps.toList < x.cps.toList) = false) : x = y := by
  have h1 := of_decide_eq_false h1
  have h2 := of_decide_eq_false h2
  have : x.cps.toList = y.cps.toList := List.le_antisymm (List.not_lt.mp h2) (List.not_lt.mp h1)
  obtain ⟨a⟩ := x
  obtain ⟨b⟩ := y
  congr 1
  exact Array.toList_inj.mp this
def cdI : Cd Int where
  enc := .int
  lt a b := decide (a < b)
  d := .int
  n := .num
  dep := 0
  py _ := rfl
  nk _ := rfl
  inj a b h := by cases h; rfl
  alike a b := rfl
  eqv a b := rfl
  dl a b := PySem.W.dataLt_int a b
  tot a b h1 h2 := by have := of_decide_eq_false h1; have := of_decide_eq_false h2; omega
  nd a := Nat.le_refl _
  dd a := Nat.le_refl _
  ord k _ a b := by
    cases k <;> exact ⟨rfl, rfl, le_not a b⟩
def cdS : Cd Str where
  enc := .str
  lt a b := decide (a.cps.toList < b.cps.toList)
  d := .str
  n := .text
  dep := 0
  py _ := rfl
  nk _ := rfl
  inj a b h := by cases h; rfl
  alike a b := rfl
  eqv a b := rfl
  dl a b := PySem.W.dataLt_str a b
  tot a b h1 h2 := ltS_tot h1 h2
  nd a := Nat.le_refl _
  dd a := Nat.le_refl _
  ord k _ a b := by cases k <;> exact ⟨rfl, rfl, rfl⟩
/-- the items of a tuple -/
structure CdL (β : Type) [DecidableEq β] where
  encs : β → List T
  lt : β → β → Bool
  ds : β → List PyData
  ns : β → List NS.NK
  dep : Nat
  py : ∀ a, pyL (encs a) = some (ds a)
  nk : ∀ a, nkL (encs a) = some (ns a)
  inj : ∀ a b, ns a = ns b → a = b
  alike : ∀ a b, PySem.W.alikeAll (ds a) (ds b) = true
  eqv : ∀ a b, PyData.eqvAll (ds a) (ds b) = decide (a = b)
  dl : ∀ a b, PyProof.Rows.lexLt itemOrd (PySem.W.keyToksAll (ds a)) (PySem.W.keyToksAll (ds b)) = lt a b
  tot : ∀ a b, lt a b = false → lt b a = false → a = b
  nd : ∀ a, NestedKey.depthAll (ns a) ≤ dep
  dd : ∀ a, PyData.depthAll (ds a) ≤ dep
  ord : ∀ k, dep ≤ k → ∀ a b, ((encs a).zip (encs b)).all (fun p => keyOk p.1 && keyOk p.2 && alkT k p.1 p.2) = true ∧ lexG (ordT true k) true (encs a) (encs b) = lt a b ∧ lexG (ordT false k) false (encs a) (encs b) = !lt b a
def cdN : CdL Unit where
  encs _ := []
  lt _ _ := false
  ds _ := []
  ns _ := []
  dep := 0
  py _ := rfl
  nk _ := rfl
  inj _ _ _ := rfl
  alike _ _ := rfl
  eqv _ _ := rfl
  dl _ _ := by
    rw [PySem.W.keyToksAll.eq_1]
    exact (listOrd itemOrd).irrefl [Sum.inl 0]
  tot _ _ _ _ := rfl
  nd _ := Nat.zero_le _
  dd _ := Nat.zero_le _
  ord k _ a b := ⟨rfl, rfl, rfl⟩
theorem keyD_cd {α : Type} [DecidableEq α] (E : Cd α) (a : α) : keyD (E.enc a) = E.n a := by
  unfold keyD
  rw [E.nk]
  rfl
theorem keyD_eq {α : Type} [DecidableEq α] (E : Cd α) (a b : α) : keyD (E.enc a) = keyD (E.enc b) ↔ a = b := by
  rw [keyD_cd, keyD_cd]
  exact ⟨E.inj a b, fun h => by rw [h]⟩
theorem Cd.irr {α : Type} [DecidableEq α] (E : Cd α) (a : α) : E.lt a a = false := by
  rw [← E.dl]
  exact (listOrd itemOrd).irrefl _
def cdC {α β : Type} [DecidableEq α] [DecidableEq β] (E : Cd α) (F : CdL β) (h8 : E.dep ≤ 8) : CdL (α × β) where
  encs a := E.enc a.1 :: F.encs a.2
  lt a b := if a.1 = b.1 then F.lt a.2 b.2 else E.lt a.1 b.1
  ds a := E.d a.1 :: F.ds a.2
  ns a := E.n a.1 :: F.ns a.2
  dep := max E.dep F.dep
  py a := by
    simp only [pyL]
    rw [E.py, F.py]
  nk a := by
    simp only [nkL]
    rw [E.nk, F.nk]
  inj a b h := by
    have h1 := List.cons.inj h
    exact Prod.ext (E.inj _ _ h1.1) (F.inj _ _ h1.2)
  alike a b := by
    simp only [PySem.W.alikeAll]
    rw [E.alike, F.alike]
    rfl
  eqv a b := by
    simp only [PyData.eqvAll]
    rw [E.eqv, F.eqv]
    by_cases h1 : a.1 = b.1
    · by_cases h2 : a.2 = b.2
      · simp [h1, h2, Prod.ext_iff]
      · simp [h1, h2, Prod.ext_iff]
    · simp [h1, Prod.ext_iff]
  dl a b := by
    rw [PySem.W.dataLt_cons (E.alike _ _), E.eqv, F.dl, E.dl]
    simp only [decide_eq_true_eq]
  tot a b h1 h2 := by
    by_cases h : a.1 = b.1
    · rw [if_pos h] at h1
      rw [if_pos h.symm] at h2
      exact Prod.ext h (F.tot _ _ h1 h2)
    · rw [if_neg h] at h1
      rw [if_neg (fun z => h z.symm)] at h2
      exact absurd (E.tot _ _ h1 h2) h
  nd a := by
    simp only [NestedKey.depthAll]
    have := E.nd a.1
    have := F.nd a.2
    omega
  dd a := by
    simp only [PyData.depthAll]
    have := E.dd a.1
    have := F.dd a.2
    omega
  ord k hk a b := by
    obtain ⟨p1, p2, p3⟩ := E.ord k (by omega) a.1 b.1
    obtain ⟨q1, q2, q3⟩ := F.ord k (by omega) a.2 b.2
    have ko : ∀ x, keyOk (E.enc x) = true := fun x => by
      unfold keyOk
      rw [E.nk]
      have := E.nd x
      exact decide_eq_true (by omega)
    refine ⟨?_, ?_, ?_⟩
    · rw [List.zip_cons_cons, List.all_cons, q1, ko, ko, p1]
      rfl
    · simp only [lexG, keyD_eq, q2, p2]
    · simp only [lexG, keyD_eq, q3, p3]
      by_cases h : a.1 = b.1
      · rw [if_pos h, if_pos h.symm]
      · rw [if_neg h, if_neg (fun z => h z.symm)]
/-- a tuple -/
def cdT {β : Type} [DecidableEq β] (F : CdL β) : Cd β where
  enc a := .tup (F.encs a)
  lt := F.lt
  d a := .tuple (F.ds a)
  n a := .tup (F.ns a)
  dep := F.dep + 1
  py a := by
    simp only [T.py]
    rw [F.py]
    rfl
  nk a := by
    simp only [nkT]
    rw [F.nk]
    rfl
  inj a b h := F.inj a b (NestedKey.tup.inj h)
  alike a b := by
    simp only [PySem.W.alike]
    exact F.alike a b
  eqv a b := by
    simp only [PyData.eqv]
    exact F.eqv a b
  dl a b := by
    rw [PySem.W.dataLt_tuple]
    exact F.dl a b
  tot := F.tot
  nd a := by
    simp only [NestedKey.depth]
    have := F.nd a
    omega
  dd a := by
    simp only [PyData.depth]
    have := F.dd a
    omega
  ord k hk a b := by
    cases k with
    | zero => omega
    | succ k => exact F.ord k (by omega) a b
section
variable {α : Type} [DecidableEq α] (E : Cd α)
theorem pyD_cd (a : α) : pyD (E.enc a) = E.d a := by
  unfold pyD
  rw [E.py]
  rfl
theorem leD_cd (a b : α) : leD (E.enc a) (E.enc b) = !E.lt b a := by
  unfold leD
  rw [PySem.W.dataLe_eq]
  show (!PySem.W.dataLt (pyD (E.enc b)) (pyD (E.enc a))) = _
  rw [pyD_cd, pyD_cd, E.dl]
theorem Cd.trans {a b c : α} (h1 : E.lt a b = true) (h2 : E.lt b c = true) : E.lt a c = true := by
  rw [← E.dl] at h1 h2 ⊢
  exact (listOrd itemOrd).trans _ _ _ h1 h2
/-- what is wanted of the codes to sort a set of them -/
structure CdOk (kb : Bool) : Prop where
  kind : ∀ a, kindB kb (E.enc a) = true
  deep : E.dep ≤ 60
  top : (∀ a, tupC (E.d a) = true) ∨ ∀ a, flatC (E.d a) = true
theorem sortC_cd {kb : Bool} (ok : CdOk E kb) {l : List α} (few : l.length ≤ 16777216) : sortC (l.map E.enc) = true := by
  unfold sortC alikeC
  simp only [Bool.and_eq_true, Bool.or_eq_true, List.all_eq_true, decide_eq_true_eq, List.length_map]
  refine ⟨⟨⟨fun t ht => ?_, fun d hd e he => ?_⟩, ?_⟩, few⟩
  · obtain ⟨a, _, rfl⟩ := List.mem_map.mp ht
    rw [E.py, pyD_cd]
    have := E.dd a
    have := ok.deep
    exact ⟨rfl, by omega⟩
  · obtain ⟨t, ht, rfl⟩ := List.mem_map.mp hd
    obtain ⟨a, _, rfl⟩ := List.mem_map.mp ht
    obtain ⟨t', ht', rfl⟩ := List.mem_map.mp he
    obtain ⟨b, _, rfl⟩ := List.mem_map.mp ht'
    rw [pyD_cd, pyD_cd]
    exact E.alike a b
  · refine ok.top.imp (fun h d hd => ?_) fun h d hd => ?_
    · obtain ⟨t, ht, rfl⟩ := List.mem_map.mp hd
      obtain ⟨a, _, rfl⟩ := List.mem_map.mp ht
      rw [pyD_cd]
      exact h a
    · obtain ⟨t, ht, rfl⟩ := List.mem_map.mp hd
      obtain ⟨a, _, rfl⟩ := List.mem_map.mp ht
      rw [pyD_cd]
      exact h a
end
end TL
/-! TLzc: how the functions of TLz .. TLza run. Plain Lean. -/
namespace TL
open PySem PySem.Spec PyProof.Rows L2
section
variable {en : En} {d : TL.D} {i j : Nat} {f g h : En → M T} {fl : En → M (List T)}
@[simp] theorem ev_never : sNever en d = .bad := (rfl)
@[simp] theorem ev_NewS : sNewS i en d = .ok (.nx, setS en i (.own (.set []))) d := (rfl)
@[simp] theorem ev_withS (k : List T → MS) : withS en i k d = (match getS en i with | .own (.set l) => k l d | _ => .bad) := by
  unfold withS
  cases getS en i with
  | own o => cases o <;> rfl
  | _ => rfl
@[simp] theorem ev_AddS : sAddS i f en d = withS en i (fun l => (f en).bind fun t => (M.opt (if alikeB l t && decide (l.length < 3900) then some () else none)).bind fun _ => .pure (.nx, setS en i (.own (.set (addT' l t))))) d := (rfl)
@[simp] theorem ev_SortS : xSortS i en d = (match getS en i with | .own (.set l) => M.opt (if decide ((l.map keyD).Nodup) then ordSet l else none) d | _ => .bad) := by
  unfold xSortS
  cases getS en i with
  | own o => cases o <;> rfl
  | _ => rfl
@[simp] theorem ev_withQ (k : List (T × List T) → MS) : withQ en i k d = (match getS en i with | .own (.dic []) => k [] d | .own (.dil l) => k l d | _ => .bad) := by
  unfold withQ
  cases getS en i with
  | own o =>
    cases o with
    | dic l => cases l <;> rfl
    | _ => rfl
  | _ => rfl
@[simp] theorem ev_SetdApp : sSetdApp i f g en d = withQ en i (fun l => (f en).bind fun k => (M.opt (keyN k)).bind fun n => (M.opt (capL (l.length + 1) ())).bind fun _ => (g (setS en i (.own (.dil (setdQ l k n))))).bind fun t =>
  (M.opt (capL (((lookQ (setdQ l k n) n).getD []).length + 1) ())).bind fun _ => .pure (.nx, setS (setS en i (.own (.dil (setdQ l k n)))) i (.own (.dil (appQ (setdQ l k n) n t))))) d := (rfl)
@[simp] theorem ev_Get2N : xGet2N f g h en d = (f en d).bind fun x => (M.opt (dixT? x)).bind fun l => (g en).bind fun y => (h en).bind fun z => .opt ((keyN y).map fun n => (lookX l n).getD z) := (rfl)
@[simp] theorem ev_dixT (l : List (T × T)) : dixT? (.dix l) = some l := (rfl)
@[simp] theorem ev_ParVN : sParVN i j f fl en d = (f en d).bind fun t => (fl en).bind fun m => .pure (.nx, setS (setS en i (.val t)) j (.own (.lst m))) := (rfl)
@[simp] theorem ev_Split : xSplit f g en d = (f en d).bind fun x => (M.opt (strT? x)).bind fun s => (g en).bind fun y => .opt (splitT (.str s) y) := (rfl)
@[simp] theorem ev_xStar : xStar f fl en d = (f en d).bind fun t => (M.opt (itsT t)).bind fun l => (fl en).bind fun m => .pure (l ++ m) := (rfl)
@[simp] theorem ev_itsL (l : List T) : itsT (.lst l) = some l := (rfl)
@[simp] theorem ev_sStar : sStar i j f en d = (f en d).bind fun t => match t with
  | .lst (x :: xs) => .pure (.nx, setS (setS en i (.val x)) j (.val (.lst xs)))
  | _ => M.bad := (rfl)
@[simp] theorem ev_Js0 (acc : Str) : xJs [] acc en d = .ok (.str acc) d := (rfl)
@[simp] theorem ev_Js1 (fs : List (En → M T)) (acc : Str) : xJs (f :: fs) acc en d = (f en d).bind fun t => (M.opt (strT? t)).bind fun y => if (acc ++ y).length ≤ 16777216 then xJs fs (acc ++ y) en else .bad := (rfl)
@[simp] theorem ev_Prop (cn : Str) (Fm : List T → M T) : xProp cn Fm f en d = (f en d).bind (propT cn Fm) := (rfl)
@[simp] theorem ev_sortedSet (l : List T) : sortedSetT [.lst l] = ordSet l := (rfl)
@[simp] theorem ev_Otq (l : List (T × List T)) : (O.dil l).t = .dix (l.map fun kv => (kv.1, .lst kv.2)) := (rfl)
@[simp] theorem ev_kNil (fs : List (Str × T)) : kNil en fs d = .ok fs d := (rfl)
@[simp] theorem ev_kSeq (a b : MK) (fs : List (Str × T)) : kSeq a b en fs d = (a en fs d).bind (b en) := (rfl)
@[simp] theorem ev_kExpr (fs : List (Str × T)) : kExpr f en fs d = (f en d).bind fun _ => .pure fs := (rfl)
@[simp] theorem ev_kFld (n : Str) (fs : List (Str × T)) : kFld n f en fs d = (f en d).bind fun t => .opt (if fs.length < 999 then some (putFT n t fs) else none) := (rfl)
end
end TL
/-! NSo: dicts of nested keys: their keys walked; d[k]; d[k] = v. -/
/-! NSp: d[k], d[k] = v, d[k] op= v of dicts of nested keys; the same within a comprehension. -/
namespace TL
open PySem PySem.Spec PyProof.Rows L2
end TL
/-! TLzd: dicts of nested keys by trees: their keys walked, d[k], own[k] = e, own[k] -= e. -/
namespace TL
open PySem PySem.Spec PyProof.Rows L2
/-! ### keys walked -/
def itemsX : T → Option (List T)
  | .dix l => some (l.map (·.1))
  | t => itemsT t
def xItemsX (f : En → M T) : En → M (List T) := fun en => (f en).bind fun t => .opt (itemsX t)
section
variable {W : Wd} {H : Hp} {F : Addr → Prop} {dk : Dk} {n : NS.NK}
theorem RepX.at : ∀ {l : List (T × T)} {xs : List NS.Ent} (i : Nat) (e : NS.Ent), RepX W H F dk l xs → xs[i]? = some e → ∃ kv, l[i]? = some kv ∧ nkT kv.1 = some e.1 ∧ Rep W H F dk kv.1 (.ref e.2.1) ∧ Rep W H F dk kv.2 e.2.2
  | [], xs, i, e, h, he => by
    simp only [RepX] at h
    subst h
    simp at he
  | (q, t) :: l, xs, i, e, h, he => by
    simp only [RepX] at h
    obtain ⟨m, b, x, r, rfl, h0, h1, h2, h3⟩ := h
    cases i with
    | zero =>
      simp only [List.getElem?_cons_zero, Option.some.injEq] at he
      subst he
      exact ⟨(q, t), rfl, h0, h1, h2⟩
    | succ i =>
      rw [List.getElem?_cons_succ] at he ⊢
      exact RepX.at i e h3 he
theorem RepX.len : ∀ {l : List (T × T)} {xs : List NS.Ent}, RepX W H F dk l xs → xs.length = l.length
  | [], xs, h => by
    simp only [RepX] at h
    subst h
    rfl
  | (q, t) :: l, xs, h => by
    simp only [RepX] at h
    obtain ⟨m, b, x, r, rfl, h0, h1, h2, h3⟩ := h
    rw [List.length_cons, List.length_cons, RepX.len h3]
theorem RepX.snoc {k t : T} {b : Addr} {v : V} (h0 : nkT k = some n) (h1 : Rep W H F dk k (.ref b)) (h2 : Rep W H F dk t v) : ∀ {l : List (T × T)} {xs : List NS.Ent}, RepX W H F dk l xs → RepX W H F dk (l ++ [(k, t)]) (xs ++ [(n, b, v)])
  | [], xs, h => by
    simp only [RepX] at h
    subst h
    simp only [List.nil_append, RepX]
    exact ⟨n, b, v, [], rfl, h0, h1, h2, rfl⟩
  | (q, u) :: l, xs, h => by
    simp only [RepX] at h
    obtain ⟨m, b', x, r, rfl, g0, g1, g2, g3⟩ := h
    simp only [List.cons_append, RepX]
    exact ⟨m, b', x, _, rfl, g0, g1, g2, RepX.snoc h0 h1 h2 g3⟩
theorem RepX.repl {t : T} {v : V} (h2 : Rep W H F dk t v) : ∀ {l : List (T × T)} {xs : List NS.Ent}, RepX W H F dk l xs → RepX W H F dk (l.map fun kv => if nkT kv.1 = some n then (kv.1, t) else kv) (xs.map fun e => if e.1 = n then (e.1, e.2.1, v) else e)
  | [], xs, h => by
    simp only [RepX] at h
    subst h
    simp only [List.map_nil, RepX]
  | (q, u) :: l, xs, h => by
    simp only [RepX] at h
    obtain ⟨m, b', x, r, rfl, g0, g1, g2, g3⟩ := h
    rw [List.map_cons, List.map_cons]
    by_cases e : m = n
    · rw [e] at g0
      simp only [e, g0, if_true, RepX]
      exact ⟨n, b', v, _, rfl, rfl, g1, h2, RepX.repl h2 g3⟩
    · have e2 : ¬ nkT q = some n := by rw [g0]; exact fun z => e (Option.some.inj z)
      simp only [e, e2, if_false, RepX]
      exact ⟨m, b', x, _, rfl, g0, g1, g2, RepX.repl h2 g3⟩
end
def putX (l : List (T × T)) (k : T) (n : NS.NK) (t : T) : List (T × T) := if (lookX l n).isSome then l.map (fun kv => if nkT kv.1 = some n then (kv.1, t) else kv) else l ++ [(k, t)]
section
variable {W : Wd} {H : Hp} {F : Addr → Prop} {dk : Dk} {n : NS.NK}
theorem RepX.put {k t : T} {b : Addr} {v : V} {l : List (T × T)} {xs : List NS.Ent} (r : RepX W H F dk l xs) (h0 : nkT k = some n) (h1 : Rep W H F dk k (.ref b)) (h2 : Rep W H F dk t v) : RepX W H F dk (putX l k n t) (NS.putE xs n b v) := by
  have hl := r.look (n := n)
  unfold putX NS.putE
  cases q : lookX l n with
  | none =>
    rw [q] at hl
    rw [hl]
    exact r.snoc h0 h1 h2
  | some u =>
    rw [q] at hl
    obtain ⟨v', e, _⟩ := hl
    rw [e]
    exact r.repl h2
end
/-! ### own[k] = e -/
def withX (en : En) (i : Nat) (k : List (T × T) → MS) : MS := match getS en i with
  | .own (.dic []) => k []
  | .own (.dix l) => k l
  | _ => .bad
def sPutX (i : Nat) (fb f : En → M T) : En → MS := fun en => withX en i fun l => (f en).bind fun t => (fb en).bind fun k => (M.opt (keyN k)).bind fun n => (M.opt (capL (l.length + 1) ())).bind fun _ => .pure (.nx, setS en i (.own (.dix (putX l k n t))))
def sAugX (i : Nat) (fb f : En → M T) : En → MS := fun en => withX en i fun l => (fb en).bind fun k => (M.opt (keyN k)).bind fun n => (M.opt (lookX l n)).bind fun v => (f en).bind fun t => (M.opt (subT v t)).bind fun u => (M.opt (capL (l.length + 1) ())).bind fun _ => .pure (.nx, setS en i (.own (.dix (putX l k n u))))
end TL
/-! TLze: dict comprehensions with nested keys, as objects of one's own. -/
namespace TL
open PySem PySem.Spec PyProof.Rows L2
/-- x = a comprehension's object, one's own -/
def sNewCl (i : Nat) (o0 : O) (f : En → O → M O) : En → MS := fun en => (f en o0).bind fun o => .pure (.nx, setS en i (.own o))
end TL
/-! TLzf: dicts of own lists: {k: [] for ..}, own[k].append(e); name = own.pop(); max(.., default=e). -/
namespace TL
open PySem PySem.Spec PyProof.Rows L2
/-! ### own[k].append(e) -/
def sAppQ (i : Nat) (fk fv : En → M T) : En → MS := fun en => match getS en i with
  | .own (.dil l) => (fk en).bind fun k => (M.opt (keyN k)).bind fun n => (M.opt (lookQ l n)).bind fun m => (fv en).bind fun t => (M.opt (capL (m.length + 1) ())).bind fun _ => .pure (.nx, setS en i (.own (.dil (appQ l n t))))
  | _ => .bad
section
variable {W : Wd} {Ex : XK} {X : Cx} {e ke ve : Expr} {f fk fv : En → M T} {fl gl : En → M (List T)} {i j : Nat} {x y : Str} {pos p p0 p1 p2 p3 p4 c1 c2 cpos : Pos} {es : List Expr}
/-! ### name = own.pop() -/
/-! ### max(.., default=e) -/
def xCall2 (op : List T → List T → Option T) (f g : En → M (List T)) : En → M T := fun en => (f en).bind fun l => (g en).bind fun k => .opt (op l k)
end
end TL
/-! TLzg: name = {k: [] for k in e}: a dict of own lists. -/
namespace TL
open PySem PySem.Spec PyProof.Rows L2
def keysN : List T → Option (List NS.NK)
  | [] => some []
  | t :: l => match keyN t, keysN l with
    | some n, some ns => some (n :: ns)
    | _, _ => none
/-- i: the dict's slot, j: the target's -/
def sNewDil (i j : Nat) (f : En → M (List T)) : En → MS := fun en => (f en).bind fun l => (M.opt (keysN l)).bind fun ns => (M.opt (if ns.Nodup ∧ ns.length ≤ 16777216 ∧ j < en.length ∧ 0 < ns.length then some () else none)).bind fun _ => .pure (.nx, setS en i (.own (.dil (l.map fun k => (k, [])))))
mutual
/-- a key stands on tuples alone -/
theorem Rep.tups {W : Wd} {H H' : Hp} {F F' : Addr → Prop} {dk : Dk} (k : ∀ a xs, ¬ F a → H a = some (.tup xs) → H' a = some (.tup xs) ∧ ¬ F' a) : ∀ (t : T) (n : NS.NK) (v : V), nkT t = some n → Rep W H F dk t v → Rep W H' F' dk t v
  | .non, _, v, _, h => by simpa only [Rep] using h
  | .bl _, _, v, _, h => by simpa only [Rep] using h
  | .int _, _, v, _, h => by simpa only [Rep] using h
  | .str _, _, v, _, h => by simpa only [Rep] using h
  | .dck, _, v, e, h => by simp only [nkT] at e; cases e
  | .cls _, _, v, e, h => by simp only [nkT] at e; cases e
  | .lst _, _, v, e, h => by simp only [nkT] at e; cases e
  | .dic _, _, v, e, h => by simp only [nkT] at e; cases e
  | .dix _, _, v, e, h => by simp only [nkT] at e; cases e
  | .ins _ _, _, v, e, h => by simp only [nkT] at e; cases e
  | .tup l, _, v, e, h => by
    simp only [nkT, Option.map_eq_some_iff] at e
    obtain ⟨ns, e, _⟩ := e
    simp only [Rep] at h ⊢
    obtain ⟨a, xs, ev, nf, s, r⟩ := h
    exact ⟨a, xs, ev, (k _ _ nf s).2, (k _ _ nf s).1, RepL.tups k l ns xs e r⟩
theorem RepL.tups {W : Wd} {H H' : Hp} {F F' : Addr → Prop} {dk : Dk} (k : ∀ a xs, ¬ F a → H a = some (.tup xs) → H' a = some (.tup xs) ∧ ¬ F' a) : ∀ (l : List T) (ns : List NS.NK) (xs : List V), nkL l = some ns → RepL W H F dk l xs → RepL W H' F' dk l xs
  | [], _, xs, _, h => by simpa only [RepL] using h
  | t :: l, ns, xs, e, h => by
    simp only [nkL] at e
    split at e
    · rename_i n ms e1 e2
      simp only [RepL] at h ⊢
      obtain ⟨x, r, ev, h1, h2⟩ := h
      exact ⟨x, r, ev, Rep.tups k t n x e1 h1, RepL.tups k l ms r e2 h2⟩
    · cases e
end
end TL
/-! TLzi: o.m(), a method of a class. -/
namespace TL
open PySem PySem.Spec PyProof.Rows L2
/-- e.m(), a method of the class cn; no field has its name -/
def methT (cn m : Str) (Fm : List T → M T) : T → M T
  | .ins c fs => if c = cn ∧ fs.all (fun p => !decide (p.1 = m)) = true then Fm [.ins c fs] else .bad
  | _ => .bad
def xMeth (cn m : Str) (Fm : List T → M T) (f : En → M T) : En → M T := fun en => (f en).bind (methT cn m Fm)
@[simp] theorem ev_Meth (cn m : Str) (Fm : List T → M T) (f : En → M T) (en : En) (d : D) : xMeth cn m Fm f en d = (f en d).bind (methT cn m Fm) := (rfl)
end TL
/-! NSq: k in d, k not in d, of dicts of nested keys (or an empty dict). -/
/-! TLzj: k in d, k not in d, of dicts of nested keys. -/
namespace TL
open PySem PySem.Spec PyProof.Rows L2
def inX (neg : Bool) : T → T → Option T := fun k d => match d with
  | .dix l => (keyN k).map fun n => .bl (neg != (lookX l n).isSome)
  | .dic [] => (keyN k).map fun _ => .bl neg
  | _ => none
@[simp] theorem ev_inX (neg : Bool) (l : List (T × T)) (k : T) : inX neg k (.dix l) = (keyN k).map fun n => .bl (neg != (lookX l n).isSome) := rfl
@[simp] theorem ev_inX0 (neg : Bool) (k : T) : inX neg k (.dic []) = (keyN k).map fun _ => .bl neg := rfl
end TL
/-! TLzk: [.. for k, v in d.items() for .. in ..], d a dict in a slot. -/
namespace TL
open PySem PySem.Spec PyProof.Rows L2
/-- the pairs of the dict in the i-th slot -/
def xKV (i : Nat) : En → M (List T) := fun en => match getS en i with
  | .val (.dic l) => .pure (l.map fun kv => .tup [keyV kv.1, kv.2])
  | _ => .bad
theorem Post.kv {W : Wd} {Ex : XK} {F : Addr → Prop} {dk : Dk} {H : Hp} {R : List T → D → Hp → Prop} {en : En} {d : D} {i : Nat} (h : Post W Ex F dk H R (xKV i en d)) :
    ∃ l, getS en i = .val (.dic l) ∧ Post W Ex F dk H R (.ok (l.map fun kv => .tup [keyV kv.1, kv.2]) d) := by
  unfold xKV at h
  cases e : getS en i with
  | no => rw [e] at h; exact h.elim
  | own o => rw [e] at h; exact h.elim
  | val t =>
    rw [e] at h
    cases t with
    | dic l => exact ⟨l, rfl, h⟩
    | _ => exact h.elim
/-! ### the keys of a dict, in a further clause -/
theorem RepD.get {W : Wd} {H : Hp} {F : Addr → Prop} {dk : Dk} : ∀ {l : List (Key × T)} {xs : List (Key × V)} {i : Nat} {k : Key} {v : V}, RepD W H F dk l xs → xs[i]? = some (k, v) → ∃ t, l[i]? = some (k, t) ∧ Rep W H F dk t v
  | [], xs, i, k, v, h, e => by
    simp only [RepD] at h
    rw [h] at e
    cases e
  | (k, t) :: l, xs, i, k', v, h, e => by
    simp only [RepD] at h
    obtain ⟨x, r, rfl, h1, h2⟩ := h
    cases i with
    | zero =>
      cases e
      exact ⟨t, rfl, h1⟩
    | succ i =>
      have := RepD.get (l := l) (i := i) h2 (by simpa using e)
      simpa using this
@[simp] theorem ev_KV (i : Nat) (en : En) (d : D) : xKV i en d = (match getS en i with | .val (.dic l) => .ok (l.map fun kv => .tup [keyV kv.1, kv.2]) d | _ => .bad) := by
  unfold xKV
  cases getS en i with
  | val t => cases t <;> rfl
  | _ => rfl
end TL
/-! TLzl: own[k], own a dict of nested keys, the value of any sort. -/
namespace TL
open PySem PySem.Spec PyProof.Rows L2
def xOwnX (i : Nat) (fb : En → M T) : En → M T := fun en => match getS en i with
  | .own (.dix l) => (fb en).bind fun k => .opt ((keyN k).bind (lookX l))
  | _ => .bad
@[simp] theorem ev_OwnX (i : Nat) (f : En → M T) (en : En) (d : D) : xOwnX i f en d = (match getS en i with | .own (.dix l) => (f en d).bind fun k => .opt ((keyN k).bind (lookX l)) | _ => .bad) := by
  unfold xOwnX
  cases getS en i with
  | own o => cases o <;> rfl
  | _ => rfl
end TL
/-! TLzm: new objects of any sort; dict displays; x, y = new, e; xs.index(x); e in an instance. -/
namespace TL
open PySem PySem.Spec PyProof.Rows L2
def xLO (f : En → M (List T)) : En → M O := fun en => (f en).bind fun l => .pure (.lst l)
def xOT (f : En → M O) : En → M T := fun en => (f en).bind valT
/-! ### x = new; x, y = new, e -/
def sNewO (i : Nat) (f : En → M O) : En → MS := fun en => (f en).bind fun o => .pure (.nx, setS en i (.own o))
def sParOV (i j : Nat) (f : En → M O) (g : En → M T) : En → MS := fun en => (f en).bind fun o => (g en).bind fun t => .pure (.nx, setS (setS en i (.own o)) j (.val t))
/-! ### dict displays -/
def xPairs : List ((En → M T) × (En → M T)) → En → M (List (Key × T))
  | [], _ => .pure []
  | (k, v) :: r, en => (k en).bind fun a => (v en).bind fun b => (M.opt (keyT a)).bind fun q => (xPairs r en).bind fun l => .pure ((q, b) :: l)
def xDisp (ps : List ((En → M T) × (En → M T))) : En → M O := fun en => (xPairs ps en).bind fun l => .pure (.dic (mergeT l))
/-! ### xs.index(x) -/
def indexT (l : List T) (x : T) : Option T := match pyL l, x.py with
  | some ds, some d => if SeqAt.shaped (.list ds) && SeqAt.shaped d then (ds.findIdx? fun z => PyData.eqv z d).map fun j => .int (j : Nat) else none
  | _, _ => none
def xIndex (fa fb : En → M T) : En → M T := fun en => (fa en).bind fun t => (M.opt (itL t)).bind fun l => (fb en).bind fun u => .opt (indexT l u)
/-! ### e in o, o an instance with __contains__ -/
def inI (cn : Str) (Fm : List T → M T) (neg : Bool) (x y : T) : M T := match y with
  | .ins c fs => if c = cn then (Fm [.ins c fs, x]).bind fun r => match r with
    | .bl b => .pure (.bl (if neg = true then !b else b))
    | _ => .bad
    else .bad
  | _ => .bad
def xInI (cn : Str) (Fm : List T → M T) (neg : Bool) (f g : En → M T) : En → M T := fun en => (f en).bind fun x => (g en).bind fun y => inI cn Fm neg x y
/-! ### evaluation lemmas -/
@[simp] theorem ev_Index (fa fb : En → M T) (en : En) (d : D) : xIndex fa fb en d = (fa en d).bind fun t => (M.opt (itL t)).bind fun l => (fb en).bind fun u => .opt (indexT l u) := (rfl)
@[simp] theorem ev_InI (cn : Str) (Fm : List T → M T) (neg : Bool) (f g : En → M T) (en : En) (d : D) : xInI cn Fm neg f g en d = (f en d).bind fun x => (g en).bind fun y => inI cn Fm neg x y := (rfl)
@[simp] theorem ev_OT (f : En → M O) (en : En) (d : D) : xOT f en d = (f en d).bind valT := (rfl)
@[simp] theorem ev_LO (f : En → M (List T)) (en : En) (d : D) : xLO f en d = (f en d).bind fun l => .pure (.lst l) := (rfl)
@[simp] theorem ev_NewO (i : Nat) (f : En → M O) (en : En) (d : D) : sNewO i f en d = (f en d).bind fun o => .pure (.nx, setS en i (.own o)) := (rfl)
@[simp] theorem ev_ParOV (i j : Nat) (f : En → M O) (g : En → M T) (en : En) (d : D) : sParOV i j f g en d = (f en d).bind fun o => (g en).bind fun t => .pure (.nx, setS (setS en i (.own o)) j (.val t)) := (rfl)
@[simp] theorem ev_Disp (ps : List ((En → M T) × (En → M T))) (en : En) (d : D) : xDisp ps en d = (xPairs ps en d).bind fun l => .pure (.dic (mergeT l)) := (rfl)
@[simp] theorem ev_Pairs0 (en : En) (d : D) : xPairs [] en d = .ok [] d := (rfl)
@[simp] theorem ev_Pairs (k v : En → M T) (r : List ((En → M T) × (En → M T))) (en : En) (d : D) : xPairs ((k, v) :: r) en d = (k en d).bind fun a => (v en).bind fun b => (M.opt (keyT a)).bind fun q => (xPairs r en).bind fun l => .pure ((q, b) :: l) := (rfl)
end TL
/-! TLzn: set comprehensions: as objects of one's own; sorted({..}). -/
namespace TL
open PySem PySem.Spec PyProof.Rows L2
section
variable {W : Wd} {Ex : XK} {tg iter elt : Expr} {ifs : List Expr} {fi : En → M (List T)} {a : T → En → Option En} {fc : En → M Bool} {f : En → M T} {is : List Nat}
/-- sorted({e for ..}): what the set holds, sorted -/
def xSortCl (f : En → O → M O) : En → M (List T) := fun en => (f en (.set [])).bind fun o => match o with
  | .set l => .opt (if decide ((l.map keyD).Nodup) then ordSet l else none)
  | _ => .bad
end
@[simp] theorem ev_Par2N (i j : Nat) (f g : En → M (List T)) (en : En) (d : D) : sPar2N i j f g en d = (f en d).bind fun l => (g en).bind fun m => .pure (.nx, setS (setS en i (.own (.lst l))) j (.own (.lst m))) := (rfl)
@[simp] theorem ev_SortCl (f : En → O → M O) (en : En) (d : D) : xSortCl f en d = (f en (.set []) d).bind fun o => match o with
  | .set l => .opt (if decide ((l.map keyD).Nodup) then ordSet l else none)
  | _ => .bad := (rfl)
end TL
/-! TLzo: e is True, e is not True. -/
namespace TL
open PySem PySem.Spec PyProof.Rows L2
def isBT (a b : T) : Option T := match a, b with
  | .bl x, .bl y => some (.bl (decide (x = y)))
  | _, _ => none
def notBT (a b : T) : Option T := match a, b with
  | .bl x, .bl y => some (.bl (!decide (x = y)))
  | _, _ => none
@[simp] theorem ev_isB (x y : Bool) : isBT (.bl x) (.bl y) = some (.bl (decide (x = y))) := (rfl)
@[simp] theorem ev_notB (x y : Bool) : notBT (.bl x) (.bl y) = some (.bl (!decide (x = y))) := (rfl)
end TL
/-! TLzp: repr of a dict whose values are plain data without lists. -/
namespace TL
open PySem PySem.Spec PyProof.Rows L2
/-! evaluation -/
end TL
/-! TLzq: tuple(text). -/
namespace TL
open PySem PySem.Spec PyProof.Rows L2
end TL
/-! TLzr: tuple(range(n)). -/
namespace TL
open PySem PySem.Spec PyProof.Rows L2
end TL
/-! TLzs: o.m(a, ..), a method of a class with arguments. -/
namespace TL
open PySem PySem.Spec PyProof.Rows L2
def selfT (cn m : Str) : T → Option T
  | .ins c fs => if c = cn ∧ fs.all (fun p => !decide (p.1 = m)) = true then some (.ins c fs) else none
  | _ => none
def xMethA (cn m : Str) (Fm : List T → M T) (f : En → M T) (fl : En → M (List T)) : En → M T := fun en => (f en).bind fun t => (M.opt (selfT cn m t)).bind fun s => xFn (fun l => Fm (s :: l)) fl en
section
variable {W : Wd} {Ex : XK} {X : Cx} {CX : CXT} {k : Nat} {C g : Addr} {fd : FuncData} {ps : List Str} {Fm : List T → M T} {m cn : Str} {pos apos : Pos} {o e : Expr} {es : List Expr} {fe : En → M T} {fl : En → M (List T)}
@[simp] theorem ev_MethA (cn m : Str) (Fm : List T → M T) (f : En → M T) (fl : En → M (List T)) (en : En) (d : D) : xMethA cn m Fm f fl en d = (f en d).bind fun t => (M.opt (selfT cn m t)).bind fun s => xFn (fun l => Fm (s :: l)) fl en := (rfl)
end
end TL
/-! TLzt: o.m(k=a, ..), a method of a class, all arguments by name. -/
namespace TL
open PySem PySem.Spec PyProof.Rows L2
def permS (is : List Nat) : List T → List T
  | [] => []
  | s :: r => s :: perm is r
end TL
/-! TLzu: plain lemmas on texts, lists, sorted lists (gathered from the laws). -/
namespace TL
open PySem PySem.Spec PyProof.Rows L2
theorem ev_AppPop (i j : Nat) (f : En → M T) (en : En) (d : D) : sAppPop i j f en d = withL en i (fun l => withL en j fun m => (f en).bind fun t => (M.opt (plIx m.length t)).bind fun k => (M.opt m[k]?).bind fun v => (M.opt (capL (l.length + 1) ())).bind fun _ =>
  .pure (.nx, setS (setS en j (.own (.lst (m.eraseIdx k)))) i (.own (.lst (l ++ [v]))))) d := rfl
theorem ev_tupleL (l : List T) : tupleT [.lst l] = some (.tup l) := rfl
theorem permS0 (a b : T) : permS [0] [a, b] = [a, b] := rfl
theorem ev_cap6 {α : Type} (x : α) : capL 6 x = some x := rfl
theorem ev_cap7 {α : Type} (x : α) : capL 7 x = some x := rfl
theorem ev_cap8 {α : Type} (x : α) : capL 8 x = some x := rfl
theorem ev_cap9 {α : Type} (x : α) : capL 9 x = some x := rfl
theorem ev_cap10 {α : Type} (x : α) : capL 10 x = some x := rfl
theorem ev_cap11 {α : Type} (x : α) : capL 11 x = some x := rfl
theorem ev_cap12 {α : Type} (x : α) : capL 12 x = some x := rfl
theorem ev_cap13 {α : Type} (x : α) : capL 13 x = some x := rfl
theorem ev_cap14 {α : Type} (x : α) : capL 14 x = some x := rfl
theorem ev_cap15 {α : Type} (x : α) : capL 15 x = some x := rfl
theorem ev_cap16 {α : Type} (x : α) : capL 16 x = some x := rfl
theorem ev_cap17 {α : Type} (x : α) : capL 17 x = some x := rfl
theorem ev_cap18 {α : Type} (x : α) : capL 18 x = some x := rfl
theorem ev_cap19 {α : Type} (x : α) : capL 19 x = some x := rfl
theorem ev_cap20 {α : Type} (x : α) : capL 20 x = some x := rfl
theorem ev_cap21 {α : Type} (x : α) : capL 21 x = some x := rfl
theorem ev_cap22 {α : Type} (x : α) : capL 22 x = some x := rfl
theorem ev_cap23 {α : Type} (x : α) : capL 23 x = some x := rfl
theorem ev_cap24 {α : Type} (x : α) : capL 24 x = some x := rfl
end TL
/-! TLzv: e in o, o an instance, as a test. -/
namespace TL
open PySem PySem.Spec PyProof.Rows L2
end TL
/-! TLzw: errors of the program: classes two below Exception, whose __init__ says super().__init__('..') and stores its arguments. The heap. -/
namespace PySem
namespace ERX
open PySem.W PySem.Calls PyProof.Rows PySem.HandSPX
/-- the text of such an __init__ -/
def body (m : Str) (j : Nat) (p0 p1 p2 p3 p4 p5 : Pos) (fs : List (Str × Pos × Pos × Pos × Pos)) : List Stmt :=
  .Expr (.Call (.Attribute (.Call (.Name "super" p0) [] [] p1) "__init__" p2) [.Constant (.str m) j p3] [] p4) p5 :: fs.map fun f => .Assign [.Attribute (.Name "self" f.2.1) f.1 f.2.2.1] (.Name f.1 f.2.2.2.1) f.2.2.2.2
/-! ### self.f = v -/
/-! ### the fields stored -/
theorem lookup_cons (f y : Str) (v : Value) (l : List (Str × Value)) : ((f, v) :: l).lookup y = if y = f then some v else l.lookup y := by
  by_cases h : y = f
  · subst h
    simp [List.lookup]
  · have e : (y == f) = false := by simpa using h
    rw [if_neg h]
    simp [List.lookup, e]
/-! ### __init__ -/
/-! ### C(e, ..) -/
end ERX
end PySem
namespace TL
open PySem PySem.Spec PyProof.Rows L2
/-! ### the rule: an expression that makes an error -/
end TL
/-! TLzx: errors by trees: raise, defs that raise, try .. except C as e: name = .. -/
namespace TL
open PySem PySem.Spec PyProof.Rows L2
/-! ### raise C(e, ..) -/
def sRaise (cn : Str) (ns : List Str) (fl : En → M (List T)) : En → MS := fun en => (fl en).noX.bind fun l d => if l.length = ns.length then .exc ⟨cn, (ns.zip l).reverse⟩ d else .bad
/-- raise C() -/
def sRaise0 (cn : Str) : En → MS := fun _ d => .exc ⟨cn, []⟩ d
/-! ### defs that raise -/
/-! ### within a try: what is raised is wished for at the slots -/
def xNo {α : Type} (f : En → M α) : En → M α := fun en => (f en).noX
/-! statements within a try -/
end TL
/-! TLzy: try .. except C as e: name = an expression of e. -/
namespace TL
open PySem PySem.Spec PyProof.Rows L2
/-! ### expressions in the suite -/
theorem XRep.keep {W : Wd} {H H' : Hp} {F : Addr → Prop} {dk : Dk} {x : Xn} {c : Value} {od : Option Addr} (f1 : F dk.1) (f2 : F dk.2) (k : Keep dk H H') (r : XRep W H F dk x c od) : XRep W H' F dk x c od := by
  obtain ⟨C, h1, h2, h3⟩ := r
  refine ⟨C, h1, h2, ?_⟩
  cases od with
  | none => exact h3
  | some q =>
    obtain ⟨n, xs, e, r⟩ := h3
    have up : ∀ a o, ¬ F a → H a = some o → H' a = some o ∧ ¬ F a := fun a o nf e => ⟨k a o e (fun z => nf (z ▸ f1)) (fun z => nf (z ▸ f2)), nf⟩
    exact ⟨n, xs, (up q _ n e).1, RepF.mono up _ _ r⟩
/-! ### the statement -/
section
variable {W : Wd} {dk : Dk} {F F0 F1 : Addr → Prop} {G G1 : Nat → Addr → Prop} {σ σ1 : L2.St} {H H0 H1 : Hp} {en en1 : En} {d d1 : D} {cp : Cps}
theorem back (R : StR' W dk F0 H0 cp F G σ H en d) (R1 : StR' W dk F H ((H, F) :: cp) F1 G1 σ1 H1 en1 d1) : StR' W dk F0 H0 cp F1 G1 σ1 H1 en1 d1 where
  s := R1.s
  ff := fun a z => R1.ff a (R.ff a z)
  g0 := fun i a z => by
    have hn := R1.g0 i a z
    cases e : H0 a with
    | none => rfl
    | some o =>
      by_cases h1 : a = dk.1
      · exact absurd hn (by rw [h1]; exact R.s.fh _ R.s.fd1)
      by_cases h2 : a = dk.2
      · exact absurd hn (by rw [h2]; exact R.s.fh _ R.s.fd2)
      rw [R.kp a o e h1 h2] at hn
      cases hn
  kp := R.kp.trans R1.kp
  vs := fun c hc => R1.vs c (List.mem_cons_of_mem _ hc)
  fz := R.fz
end
theorem ev_Raise (cn : Str) (ns : List Str) (fl : En → M (List T)) (en : En) (d : D) : sRaise cn ns fl en d = ((fl en).noX.bind fun l d => if l.length = ns.length then .exc ⟨cn, (ns.zip l).reverse⟩ d else .bad) d := rfl
theorem ev_Raise0 (cn : Str) (en : En) (d : D) : sRaise0 cn en d = .exc ⟨cn, []⟩ d := rfl
theorem ev_No {α : Type} (f : En → M α) (en : En) (d : D) : xNo f en d = (f en).noX d := rfl
end TL
/-! TLzz: own lists that are sums of lists; raising defs called where nothing is raised; the classes of errors. -/
namespace TL
open PySem PySem.Spec PyProof.Rows L2
def addLT : T → T → Option (List T)
  | .lst l, .lst m => capL (l.length + m.length) (l ++ m)
  | _, _ => none
def xAddL (f g : En → M T) : En → M (List T) := fun en => (f en).bind fun x => (g en).bind fun y => .opt (addLT x y)
@[simp] theorem ev_AddL (f g : En → M T) (en : En) (d : D) : xAddL f g en d = (f en d).bind fun x d => ((g en d).bind fun y => M.opt (addLT x y)) := (rfl)
end TL
/-! TLzz1: tuples in order: one > other, one >= other. -/
namespace TL
open PySem PySem.Spec PyProof.Rows L2
def geU (a b : T) : Option T := match a, b with
  | .tup l, .tup m => if alkT 3 (.tup l) (.tup m) then some (.bl (ordT false 3 (.tup m) (.tup l))) else none
  | a, b => geT a b
section
variable {W : Wd} {X : Cx} {pins : List (Addr × Obj)} {σ : L2.St} {H : Hp} {s : Shared} {F : Addr → Prop} {dk : Dk}
theorem rc_of2 (st : Bool) (I : Inv X pins σ H s) : ∀ (k : Nat) (A : Around) (a b : T) (x y : V) (u v : Value), alkT k a b = true → Rep W H F dk a x → Rep W H F dk b y → RelV x u → RelV y v → A.units + k + 20 < cLine → Ob.RcOp (if st = true then .Gt else .GtE) A s u v (ordT st k b a) := by
  have flat_i : ∀ (A : Around) (i j : Int) (x y : V) (u v : Value), Rep W H F dk (.int i) x → Rep W H F dk (.int j) y → RelV x u → RelV y v → Ob.RcOp (if st = true then .Gt else .GtE) A s u v (if st then decide (j < i) else decide (j ≤ i)) := fun A i j x y u v ra rb ru rv => by
    simp only [Rep] at ra rb
    subst ra rb
    obtain ⟨t1, rfl⟩ := ru
    obtain ⟨t2, rfl⟩ := rv
    cases st
    · exact Ob.RcOp.ge_int _ _ _ _
    · exact Ob.RcOp.gt_int _ _ _ _
  have flat_s : ∀ (A : Around) (i j : Str) (x y : V) (u v : Value), Rep W H F dk (.str i) x → Rep W H F dk (.str j) y → RelV x u → RelV y v → Ob.RcOp (if st = true then .Gt else .GtE) A s u v (if st then decide (j.cps.toList < i.cps.toList) else !decide (i.cps.toList < j.cps.toList)) := fun A i j x y u v ra rb ru rv => by
    simp only [Rep] at ra rb
    subst ra rb
    obtain ⟨t1, rfl⟩ := ru
    obtain ⟨t2, rfl⟩ := rv
    cases st
    · exact fun prog w E Q h => PySem.P.ge_str (E := E) h
    · exact fun prog w E Q h => PySem.P.gt_str (E := E) h
  intro k
  induction k with
  | zero =>
    intro A a b x y u v al ra rb ru rv hu
    cases a <;> cases b <;> simp only [alkT, Bool.false_eq_true] at al
    · exact flat_i A _ _ x y u v ra rb ru rv
    · exact flat_s A _ _ x y u v ra rb ru rv
  | succ k ih =>
    intro A a b x y u v al ra rb ru rv hu
    cases a <;> cases b <;> simp only [alkT, Bool.false_eq_true] at al
    · exact flat_i A _ _ x y u v ra rb ru rv
    · exact flat_s A _ _ x y u v ra rb ru rv
    · rename_i l m
      obtain ⟨p, xs, its, rfl, rfl, rl, vl, h1⟩ := rep_isTuple (a := .non) I ra ru
      obtain ⟨q, ys, jts, rfl, rfl, rm, vm, h2⟩ := rep_isTuple (a := .non) I rb rv
      have sl : its.size = l.length := by rw [← Array.length_toList, ← vl.length, rl.length]
      have sm : jts.size = m.length := by rw [← Array.length_toList, ← vm.length, rm.length]
      have at_ : ∀ (j : Nat) (z1 : j < its.size) (z2 : j < jts.size), ∃ xv yv, Rep W H F dk (l.getD j .non) xv ∧ Rep W H F dk (m.getD j .non) yv ∧ RelV xv its[j] ∧ RelV yv jts[j] ∧ keyOk (l.getD j .non) = true ∧ keyOk (m.getD j .non) = true ∧ alkT k (l.getD j .non) (m.getD j .non) = true := fun j z1 z2 => by
        have w1 : j < l.length := by omega
        have w2 : j < m.length := by omega
        obtain ⟨xv, e1, r1⟩ := rl.get (List.getElem?_eq_getElem w1)
        obtain ⟨yv, e2, r2⟩ := rm.get (List.getElem?_eq_getElem w2)
        obtain ⟨u1, f1, g1⟩ := vl.get e1
        obtain ⟨u2, f2, g2⟩ := vm.get e2
        have d1 : l.getD j .non = l[j] := by rw [List.getD_eq_getElem?_getD, List.getElem?_eq_getElem w1]; rfl
        have d2 : m.getD j .non = m[j] := by rw [List.getD_eq_getElem?_getD, List.getElem?_eq_getElem w2]; rfl
        rw [d1, d2]
        have k1 : its[j] = u1 := by
          rw [Array.getElem?_toList, Array.getElem?_eq_getElem z1] at f1
          exact Option.some.inj f1
        have k2 : jts[j] = u2 := by
          rw [Array.getElem?_toList, Array.getElem?_eq_getElem z2] at f2
          exact Option.some.inj f2
        rw [k1, k2]
        have hz : (l[j], m[j]) ∈ l.zip m := by
          have : (l.zip m)[j]? = some (l[j], m[j]) := by
            rw [List.getElem?_zip_eq_some]
            exact ⟨List.getElem?_eq_getElem w1, List.getElem?_eq_getElem w2⟩
          exact List.mem_of_getElem? this
        have al2 := List.all_eq_true.mp al _ hz
        simp only [Bool.and_eq_true] at al2
        exact ⟨xv, yv, r1, r2, g1, g2, al2.1.1, al2.1.2, al2.2⟩
      have eqs : ∀ (j : Nat) (z1 : j < its.size) (z2 : j < jts.size), SeqAt.EqAt A.in1 s its[j] jts[j] (decide (keyD (m.getD j .non) = keyD (l.getD j .non))) := fun j z1 z2 => by
        obtain ⟨xv, yv, r1, r2, g1, g2, o1, o2, o3⟩ := at_ j z1 z2
        obtain ⟨n1, e1, d1⟩ := keyOk_some o1
        obtain ⟨n2, e2, d2⟩ := keyOk_some o2
        have : decide (keyD (m.getD j .non) = keyD (l.getD j .non)) = decide (n1 = n2) := by
          unfold keyD
          rw [e1, e2]
          exact decide_eq_decide.mpr eq_comm
        rw [this]
        exact fun prog w E Q h => NS.eq_key (by simp only [Around.in1_units]; omega) ((r1.nk e1).is I _ _ _ g1) ((r2.nk e2).is I _ _ _ g2) d1 h
      have rcs : ∀ (j : Nat) (z1 : j < its.size) (z2 : j < jts.size), Ob.RcOp (if st = true then .Gt else .GtE) A.in1 s its[j] jts[j] (ordT st k (m.getD j .non) (l.getD j .non)) := fun j z1 z2 => by
        obtain ⟨xv, yv, r1, r2, g1, g2, o1, o2, o3⟩ := at_ j z1 z2
        exact ih A.in1 _ _ _ _ _ _ o3 r1 r2 g1 g2 (by simp only [Around.in1_units]; omega)
      show Ob.RcOp _ A s _ _ (lexG (ordT st k) st m l)
      cases st with
      | true =>
        have := Ob.RcOp.tuples_gt (A := A) h1 h2 (by omega) eqs (r := fun j => ordT true k (m.getD j .non) (l.getD j .non)) fun j z1 z2 _ => rcs j z1 z2
        rw [sl, sm, Nat.min_comm, lexAt_lexG (st := true) (z := decide (l.length > m.length)) m l (if_pos rfl).symm] at this
        exact this
      | false =>
        have := Ob.RcOp.tuples_ge (A := A) h1 h2 (by omega) eqs (r := fun j => ordT false k (m.getD j .non) (l.getD j .non)) fun j z1 z2 _ => rcs j z1 z2
        rw [sl, sm, Nat.min_comm, lexAt_lexG (st := false) (z := decide (l.length ≥ m.length)) m l (if_neg (fun z => nomatch z)).symm] at this
        exact this
/-- as a reading -/
def rTupO2 (st : Bool) : R2 := fun x y H Q => ∃ (W : Wd) (F : Addr → Prop) (dk : Dk) (a b : T), alkT 3 a b = true ∧ Rep W H F dk a x ∧ Rep W H F dk b y ∧ Q (.bl (ordT st 3 b a)) H
theorem op_tupO2 (st : Bool) (hu : X.A.units + 100 < cLine) : OpR X (compareOp (if st = true then .Gt else .GtE)) (rTupO2 st) := by
  intro pins s σ H x y u v Q I rx ry h
  obtain ⟨W, F, dk, a, b, al, ra, rb, q⟩ := h
  have := rc_of2 st I 3 X.A a b x y u v al ra rb rx ry (by omega)
  have e : compareOp (if st = true then .Gt else .GtE) u v = richCompare (if st = true then .Gt else .GtE) u v := by cases st <;> rfl
  rw [e]
  exact this _ _ _ _ ⟨.bl (ordT st 3 b a), H, I, rfl, q⟩
theorem agr_geU {W : Wd} : Agr2 W (fun x y H Q => rOrd (fun i j => decide (j ≤ i)) (fun i j => !decide (i.cps.toList < j.cps.toList)) x y H Q ∨ rTupO2 false x y H Q) geU := fun {dk F H x y a b t Q} hF ra rb e q => by
  by_cases h : ∃ l m, a = .tup l ∧ b = .tup m
  · obtain ⟨l, m, rfl, rfl⟩ := h
    simp only [geU] at e
    split at e
    · cases e
      exact .inr ⟨W, F, dk, _, _, by assumption, ra, rb, q _ H (.refl _) (by simp only [Rep])⟩
    · cases e
  · have e2 : geT a b = some t := by
      unfold geU at e
      split at e
      · exact absurd ⟨_, _, rfl, rfl⟩ h
      · exact e
    exact .inl (agr_ge hF ra rb e2 q)
end
end TL
/-! TLzz2: == and in of plain trees (whole numbers, texts, tuples and lists of them; no bools): equal trees. -/
namespace TL
open PySem PySem.Spec PyProof.Rows L2
end TL
/-! TLzz3: sorted(text). -/
namespace TL
open PySem PySem.Spec PyProof.Rows L2
end TL
/-! TLzz4: a | b, two instances of one class with __or__. -/
namespace TL
open PySem PySem.Spec PyProof.Rows L2
def orI (cn : Str) (Fm : List T → M T) : T → T → M T
  | .ins c fs, .ins c' gs => if c = cn ∧ c' = cn then Fm [.ins c fs, .ins c' gs] else .bad
  | _, _ => .bad
def xOrI (cn : Str) (Fm : List T → M T) (f g : En → M T) : En → M T := fun en => (f en).bind fun x => (g en).bind fun y => orI cn Fm x y
theorem ev_OrI (cn : Str) (Fm : List T → M T) (f g : En → M T) (en : En) (d : D) : xOrI cn Fm f g en d = (f en d).bind fun x => (g en).bind fun y => orI cn Fm x y := (rfl)
end TL
/-! TLzz5: own = f(e, ..), the call's list of plain things being new: no object goes in, so none that was there comes out. -/
namespace TL
open PySem PySem.Spec PyProof.Rows L2
def plnT : T → Bool
  | .int _ => true
  | .str _ => true
  | .bl _ => true
  | .non => true
  | _ => false
end TL
/-! TLzz6: a, b = e, new list, where a or b is a cell: by way of a tuple. -/
namespace TL
open PySem PySem.Spec PyProof.Rows L2
end TL
/-! NSg: set(a tuple). -/
/-! TLzz7: sorted(set(a tuple)). -/
namespace TL
open PySem PySem.Spec PyProof.Rows L2
def sortedSetU : List T → Option (List T)
  | [.tup l] => ordSet l
  | _ => none
@[simp] theorem ev_sortedSetU (l : List T) : sortedSetU [.tup l] = ordSet l := (rfl)
end TL
/-! TLzz8: a def that changes an object of its caller's own: a dict or a list, lent for the call. -/
namespace TL
open PySem PySem.Spec PyProof.Rows L2
/-! ### statements of such a def: slot j holds the lent object, at p -/
def StP (W : Wd) (dk : Dk) (F0 : Addr → Prop) (H0 : Hp) (cp : Cps) (j : Nat) (p : Addr) (F : Addr → Prop) (G : Nat → Addr → Prop) (σ : L2.St) (H : Hp) (en : En) (d : D) : Prop := StR' W dk F0 H0 cp F G σ H en d ∧ σ[j]? = some (some (.ref p))
def PostP (W : Wd) (Ex : XK) (dk : Dk) (F0 : Addr → Prop) (H0 : Hp) (cp : Cps) (j : Nat) (p : Addr) (D : Ends) : Out (Fl × En) → Prop
  | .ok (.nx, en) d => ∀ F G σ H, StP W dk F0 H0 cp j p F G σ H en d → D.nx σ H
  | .ok (.brk, en) d => ∀ F G σ H, StP W dk F0 H0 cp j p F G σ H en d → D.bk σ H
  | .ok (.ct, en) d => ∀ F G σ H, StP W dk F0 H0 cp j p F G σ H en d → D.ct σ H
  | .ok (.ret t, en) d => ∀ v F G σ H, StP W dk F0 H0 cp j p F G σ H en d → Rep W H F dk t v → D.rt v H
  | .exc _ _ => False
  | .bad => False
section
variable {W : Wd} {Ex : XK} {dk : Dk} {F F' F0 : Addr → Prop} {G : Nat → Addr → Prop} {H H' H0 : Hp} {cp : Cps} {σ : L2.St} {en : En} {d d' : D} {j : Nat} {p : Addr}
theorem StP.use {f : En → M T} {k : T → MS} {D : Ends} {Q : VK} (R : StP W dk F0 H0 cp j p F G σ H en d) (q0 : PostP W Ex dk F0 H0 cp j p D (M.bind (f en) k d))
    (q : ∀ t d1 v H1, Keep dk H H1 → StP W dk F0 H0 cp j p F G σ H1 en d1 → Rep W H1 F dk t v → PostP W Ex dk F0 H0 cp j p D (k t d1) → Q v H1) : tE W Ex f σ H Q := by
  refine ⟨dk, F, G, en, d, R.1.s, ?_⟩
  unfold M.bind Out.bind at q0
  cases e : f en d with
  | ok t d1 =>
    rw [e] at q0
    exact fun H1 k1 D1 v rv => q t d1 v H1 k1 ⟨R.1.keep k1 D1, R.2⟩ rv q0
  | exc x d1 =>
    rw [e] at q0
    exact q0.elim
  | bad =>
    rw [e] at q0
    exact q0.elim
theorem StP.useT {f : En → M Bool} {k : Bool → MS} {D : Ends} {Q : Bool → Hp → Prop} (R : StP W dk F0 H0 cp j p F G σ H en d) (q0 : PostP W Ex dk F0 H0 cp j p D (M.bind (f en) k d))
    (q : ∀ t d1 H1, StP W dk F0 H0 cp j p F G σ H1 en d1 → PostP W Ex dk F0 H0 cp j p D (k t d1) → Q t H1) : tT W Ex f σ H Q := by
  refine ⟨dk, F, G, en, d, R.1.s, ?_⟩
  unfold M.bind Out.bind at q0
  cases e : f en d with
  | ok t d1 =>
    rw [e] at q0
    exact fun H1 k1 D1 => q t d1 H1 ⟨R.1.keep k1 D1, R.2⟩ q0
  | exc x d1 =>
    rw [e] at q0
    exact q0.elim
  | bad =>
    rw [e] at q0
    exact q0.elim
theorem StP.set {i : Nat} {t : T} {v : V} (R : StP W dk F0 H0 cp j p F G σ H en d) (n : i ≠ j) (r : Rep W H F dk t v) : StP W dk F0 H0 cp j p F G (σ.set i (some v)) H (setS en i (.val t)) d := ⟨R.1.setVal r, by rw [List.getElem?_set_ne n]; exact R.2⟩
theorem PostP.opt {α : Type} {o : Option α} {k : α → MS} {D : Ends} (h : PostP W Ex dk F0 H0 cp j p D (M.bind (M.opt o) k d)) : ∃ a, o = some a ∧ PostP W Ex dk F0 H0 cp j p D (k a d) := by
  cases o with
  | none => exact h.elim
  | some a => exact ⟨a, rfl, h⟩
end
/-! ### the promise -/
def KeepP (dk : Dk) (p : Addr) (H H' : Hp) : Prop := ∀ a o, H a = some o → a ≠ dk.1 → a ≠ dk.2 → a ≠ p → H' a = some o
def PostO (W : Wd) (F : Addr → Prop) (dk : Dk) (p : Addr) (H : Hp) (Q : VK) : Out (T × O) → Prop
  | .ok (t, o') d' => ∀ (H' : Hp) (B' : Addr → Prop), KeepP dk p H H' → DkAt W dk H' d' → B' p → (∀ a, B' a → a = p ∨ H a = none) → (∀ a, B' a → H' a ≠ none) → OwnR W H' (fun a => F a ∨ B' a) dk B' o' p → ∀ v, Rep W H' (fun a => F a ∨ B' a) dk t v → Q v H'
  | .exc _ _ => False
  | .bad => False
/-- all but the j-th -/
def RepLO (W : Wd) (H : Hp) (F : Addr → Prop) (dk : Dk) (j : Nat) (p : Addr) (l : List T) (xs : List V) : Prop := xs.length = l.length ∧ xs[j]? = some (.ref p) ∧ ∀ i t x, i ≠ j → l[i]? = some t → xs[i]? = some x → Rep W H F dk t x
def spO (W : Wd) (n j : Nat) (Fm : List T → O → M (T × O)) : Sp := fun vs H Q E => ∃ (dk : Dk) (F : Addr → Prop) (p : Addr) (ts : List T) (o : O) (d : D), vs.length = n ∧ RepLO W H F dk j p ts vs ∧ (∀ a, F a → H a ≠ none) ∧ F dk.1 ∧ F dk.2 ∧ F p ∧ p ≠ dk.1 ∧ p ≠ dk.2 ∧ DkAt W dk H d ∧
  OwnR W H F dk (fun a => a = p) o p ∧ PostO W F dk p H Q (Fm ts o d)
structure FnO (W : Wd) (P : Program) (w : World) (mg : Str → Option Value) (base : Heap) (CX : CXT) (k : Nat) (f : Addr) (fd : FuncData) (ps : List Str) (j : Nat) (Fm : List T → O → M (T × O)) : Prop where
  run : ∀ (A : Around) (outer : List Env) (s : Shared) (H : Hp) (args : Args) (us : List Value) (vs : List V) (Q : VK) (E : XK), A.guards = some [] → Room k A → Env0 P w W.K mg base A outer s H → BindsTo s fd args (ps.zip us) → Vals vs us →
    spO W ps.length j Fm vs H Q E → codeAny (model P w) A (.call (.ref f) args) (CR CX outer P w H s Q E) s
theorem FnO.mono {W : Wd} {P : Program} {w : World} {mg : Str → Option Value} {base : Heap} {CX : CXT} {i k : Nat} {f : Addr} {fd : FuncData} {ps : List Str} {j : Nat} {Fm : List T → O → M (T × O)} (h : FnO W P w mg base CX i f fd ps j Fm) (hk : i ≤ k) : FnO W P w mg base CX k f fd ps j Fm :=
  ⟨fun A outer s H args us vs Q E hg hr => h.run A outer s H args us vs Q E hg (hr.mono hk)⟩
end TL
/-! TLzz9: calls that lend an own object: f(a, own, b) as a statement (own changes), f(own, a) as a value (read alone, plain result). -/
namespace TL
open PySem PySem.Spec PyProof.Rows L2
def xHole (fl : En → M (List T)) : En → M (List T) := fun en => (fl en).bind fun l => .pure (.non :: l)
/-- f(.., own, ..): the object of slot i is the j-th argument -/
def sCallO (i : Nat) (Fm : List T → O → M (T × O)) (fl : En → M (List T)) : En → MS := fun en => match getS en i with
  | .own (.dic m) => (fl en).bind fun l => (M.noX (Fm l (.dic m))).bind fun r => .pure (.nx, setS en i (.own r.2))
  | .own (.lst m) => (fl en).bind fun l => (M.noX (Fm l (.lst m))).bind fun r => .pure (.nx, setS en i (.own r.2))
  | _ => .bad
/-! ### f(own, ..): read alone, the result plain -/
def plnR : T → Option T := fun t => if plnT t = true then some t else none
def xLend (i : Nat) (Fm : List T → M T) (fl : En → M (List T)) : En → M T := fun en => match getS en i with
  | .own (.dic m) => (fl en).bind fun l => (M.noX (Fm (.dic m :: l))).bind fun t => .opt (plnR t)
  | .own (.lst m) => (fl en).bind fun l => (M.noX (Fm (.lst m :: l))).bind fun t => .opt (plnR t)
  | _ => .bad
section
variable {en : En} {d : D} {i j : Nat}
@[simp] theorem ev_CallO (Fm : List T → O → M (T × O)) (fl : En → M (List T)) : sCallO i Fm fl en d = (match getS en i with
  | .own (.dic m) => (fl en d).bind fun l => (M.noX (Fm l (.dic m))).bind fun r => .pure (.nx, setS en i (.own r.2))
  | .own (.lst m) => (fl en d).bind fun l => (M.noX (Fm l (.lst m))).bind fun r => .pure (.nx, setS en i (.own r.2))
  | _ => .bad) := by
  unfold sCallO
  cases getS en i with
  | own o => cases o <;> rfl
  | _ => rfl
@[simp] theorem ev_Lend (Fm : List T → M T) (fl : En → M (List T)) : xLend i Fm fl en d = (match getS en i with
  | .own (.dic m) => (fl en d).bind fun l => (M.noX (Fm (.dic m :: l))).bind fun t => .opt (plnR t)
  | .own (.lst m) => (fl en d).bind fun l => (M.noX (Fm (.lst m :: l))).bind fun t => .opt (plnR t)
  | _ => .bad) := by
  unfold xLend
  cases getS en i with
  | own o => cases o <;> rfl
  | _ => rfl
@[simp] theorem ev_Hole (fl : En → M (List T)) : xHole fl en d = (fl en d).bind fun l => .pure (.non :: l) := (rfl)
end
end TL
/-! TLzza: list(range(..)); own, b, c = new list, e, e. -/
namespace TL
open PySem PySem.Spec PyProof.Rows L2
def rngLT : T → T → Option (List T)
  | .int a, .int b => if 0 ≤ a ∧ a ≤ 16777216 ∧ 0 ≤ b ∧ b ≤ 16777216 then some ((List.range (b - a).toNat).map fun k : Nat => T.int (a + (k : Int))) else none
  | _, _ => none
def xRngL (f g : En → M T) : En → M (List T) := fun en => (f en).bind fun x => (g en).bind fun y => .opt (rngLT x y)
def sParO3 (i j l : Nat) (f : En → M (List T)) (g h : En → M T) : En → MS := fun en => (f en).bind fun m => (g en).bind fun t => (h en).bind fun u => .pure (.nx, setS (setS (setS en i (.own (.lst m))) j (.val t)) l (.val u))
section
variable {en : En} {d : D} {i j l : Nat}
@[simp] theorem ev_RngL (f g : En → M T) : xRngL f g en d = (f en d).bind fun x => (g en).bind fun y => .opt (rngLT x y) := (rfl)
@[simp] theorem ev_ParO3 (f : En → M (List T)) (g h : En → M T) : sParO3 i j l f g h en d = (f en d).bind fun m => (g en).bind fun t => (h en).bind fun u => .pure (.nx, setS (setS (setS en i (.own (.lst m))) j (.val t)) l (.val u)) := (rfl)
end
end TL
/-! TLzzb: defs with keyword-only parameters (bools for defaults): f(e, .., k = v, ..). -/
namespace TL
open PySem PySem.Spec PyProof.Rows L2
/-- where an argument comes from: a place, a keyword, a default -/
inductive Sr where
  | p (i : Nat)
  | k (j : Nat)
  | b (b : Bool)
def arr {α : Type} (c : Bool → α) (l : List Sr) (us ws : List α) : List α := l.filterMap fun s => match s with
  | .p i => us[i]?
  | .k j => ws[j]?
  | .b b => some (c b)
def xFnN (l : List Sr) (Fm : List T → M T) (fl gl : En → M (List T)) : En → M T := fun en => (fl en).bind fun a => (gl en).bind fun b => Fm (arr T.bl l a b)
def xFnXN (l : List Sr) (Fm : List T → M T) (fl gl : En → M (List T)) : En → M T := fun en => (fl en).noX.bind fun a => (gl en).noX.bind fun b => Fm (arr T.bl l a b)
theorem ev_FnN (l : List Sr) (Fm : List T → M T) (fl gl : En → M (List T)) (en : En) (d : D) : xFnN l Fm fl gl en d = (fl en d).bind fun a => (gl en).bind fun b => Fm (arr T.bl l a b) := rfl
theorem ev_FnXN (l : List Sr) (Fm : List T → M T) (fl gl : En → M (List T)) (en : En) (d : D) : xFnXN l Fm fl gl en d = ((fl en).noX d).bind fun a => (gl en).noX.bind fun b => Fm (arr T.bl l a b) := rfl
end TL
/-! TLzzc: three targets, one of them a new list of one's own, some of them cells: by way of a tuple. -/
namespace TL
open PySem PySem.Spec PyProof.Rows L2
def sPar3O (i j l : Nat) (f g : En → M T) (h : En → M (List T)) : En → MS := fun en => (f en).bind fun t => (g en).bind fun u => (h en).bind fun m => .pure (.nx, setS (setS (setS en i (.val t)) j (.val u)) l (.own (.lst m)))
@[simp] theorem ev_Par3O {en : En} {d : D} {i j l : Nat} (f g : En → M T) (h : En → M (List T)) : sPar3O i j l f g h en d = (f en d).bind fun t => (g en).bind fun u => (h en).bind fun m => .pure (.nx, setS (setS (setS en i (.val t)) j (.val u)) l (.own (.lst m))) := (rfl)
end TL
/-! TLzzd: sorted(dict) of a dict with fewer than 64 keys, all numbers or all texts. -/
namespace TL
open PySem PySem.Spec PyProof.Rows L2
end TL
/-! TLzze: enumerate(text). -/
namespace TL
open PySem PySem.Spec PyProof.Rows L2
end TL
/-! TLzzf: try with several handlers, each `except C as e`. -/
namespace TL
open PySem PySem.Spec PyProof.Rows L2
abbrev Sui := Addr → Value → Option Addr → TS
/-- the handlers, one by one; all of them name the caught one alike -/
inductive AsOk (X : Cx) (n : Str) : List ExceptHandler → List (Value × Sui) → Prop
  | nil : AsOk X n [] []
  | cons {x : Str} {c : Value} {t : Sui} {b : Stmt} {su : List Stmt} {np hp : Pos} {hs : List ExceptHandler} {l : List (Value × Sui)} (hc : Names X x c)
      (h : ∀ (a : Addr) (oe : Obj) (cls : Value) (d : Option Addr) (pn : List (Addr × Obj)), L2N.Zn cls d oe → (∃ vs, oe.data = .fields vs) → PSs (X.suite a ((a, oe) :: pn)) (b :: su) (t a cls d)) (r : AsOk X n hs l) :
      AsOk X n (.ExceptHandler (some (.Name x np)) (some n) (b :: su) hp :: hs) ((c, t) :: l)
def wAsL (K : PySem.W.Frag) (i : Nat) (Wout : WX) (D : Ends) : List (Value × Sui) → WX
  | [] => Wout
  | (c, t) :: l => wAs K c i t (wAsL K i Wout D l) D
section
variable {X : Cx} {n : Str} {i : Nat} {body : List Stmt} {h0 : ExceptHandler} {hds : List ExceptHandler} {l : List (Value × Sui)} {pos : Pos} {tb : WX → TS} {Wout : WX}
/-- an exception that came back to the try: where it stands -/
structure Back (X : Cx) (pins : List (Addr × Obj)) (σ : L2.St) (H : Hp) (sI s : Shared) (B : Heap) (a : Addr) (cls : Value) (d : Option Addr) (h : Heap) : Prop where
  ok : X.Ok
  hs : X.stack = X.env :: X.outer
  hf : X.env.frame = some X.env.locals
  J : L2.Inv X pins σ H sI
  nb : ∀ b o, sI.heap.get? b = some o → b ∉ frs X.stack → B.get? b = some o
  up : sI.heap.UpToSlots h
  os : s.os = sI.os
  ag : AllBare s.gens
  na : H a = none
  fl : HandSPX.FlyingZ B (X.env :: X.outer) a (L2N.Zn cls d) h
section
variable {pins : List (Addr × Obj)} {σ : L2.St} {H : Hp} {sI s : Shared} {B : Heap} {a : Addr} {cls : Value} {d : Option Addr} {h : Heap}
/-- the caught object among the suite's own pins -/
theorem Back.suite (b : Back X pins σ H sI s B a cls d h) : ∃ oe vs, h.get? a = some oe ∧ L2N.Zn cls d oe ∧ oe.data = .fields vs ∧ L2.Inv (X.suite a ((a, oe) :: (X.pn ++ pins))) [] σ H { s with heap := h } := by
  have I : L2.Inv X pins σ H { s with heap := h } := b.J.landed b.nb b.fl.1 b.up b.os b.ag
  obtain ⟨oe, vs, e, z, dd⟩ := b.fl.there
  have out : a ∉ frs (X.env :: X.outer) := fun m => by
    obtain ⟨_, o, q, no⟩ := b.fl.2.2.1.mem m
    rw [e] at q
    cases q
    exact no _ dd
  refine ⟨oe, vs, e, z, dd, I.suite e dd b.na (fun q => out (List.mem_filterMap.mpr ⟨X.env, List.mem_cons_self, by rw [b.hf, q]⟩)) fun m => ?_⟩
  obtain ⟨f, hf, q⟩ := List.mem_filterMap.mp m
  exact out (List.mem_filterMap.mpr ⟨f, List.mem_cons_of_mem _ hf, q⟩)
theorem Back.again {h2 : Heap} (b : Back X pins σ H sI s B a cls d h) (up : h.UpToSlots h2) (fl : HandSPX.FlyingZ B (X.env :: X.outer) a (L2N.Zn cls d) h2) : Back X pins σ H sI s B a cls d h2 := ⟨b.ok, b.hs, b.hf, b.J, b.nb, b.up.trans up, b.os, b.ag, b.na, fl⟩
/-- no handler takes it -/
theorem Back.out (tk : L2N.Takes X Wout) {D : Ends} (b : Back X pins σ H sI s B a cls d h) (w : Wout cls d σ H) : wpAny (model X.prog X.w) X.A (handleBy (.ref a) X.env []) (SP X pins D) X.xe { s with heap := h } := by
  refine wpAny_handleBy_nil ?_
  obtain ⟨k1, k2, k3, oe, vs, T, oT, ts', he, hz, hd, h1, hr⟩ := id b.fl
  unfold PySem.passOn
  refine wpAny_bind (wpAny_field he hd h1 ?_)
  rw [if_neg (show ¬ ((Value.ref T == Value.none) = true) from by simp)]
  have fin : wpAny (model X.prog X.w) X.A (setFlight (.ref a) X.env.frame) (fun _ s4 => wpAny (model X.prog X.w) X.A (throw (.ref a) : Sem Flow) (SP X pins D) X.xe s4) X.xe { s with heap := h } := by
    rw [b.hf]
    refine HandSPX.setFlight_upZ b.fl fun h4 sky up4 => wpAny_throw (tk _ _ ?_)
    exact ⟨a, B, sI, pins, σ, H, cls, d, rfl, b.J, b.nb, b.up.trans up4, .inr (.inr (by rw [b.hs]; exact sky)), b.na, b.os, b.ag, w⟩
  first
    | exact wpAny_bind (wpAny_pure (wpAny_bind fin))
    | exact wpAny_bind fin
theorem Back.go (hN : X.N.Nodup) (hi : X.N[i]? = some n) (hln : X.env.kindOf n = some .local) (tk : L2N.Takes X Wout) {D : Ends} (b : Back X pins σ H sI s B a cls d h) :
    ∀ {hds : List ExceptHandler} {l : List (Value × Sui)}, AsOk X n hds l → wAsL X.K i Wout D l cls d σ H → wpAny (model X.prog X.w) X.A (handleBy (.ref a) X.env hds) (SP X pins D) X.xe { s with heap := h } := by
  intro hds l hk
  induction hk with
  | nil => exact fun w => b.out tk w
  | @cons x c t b0 su np hp rest l2 hc hsu r ih =>
    rintro ⟨bb, ex, yes, no⟩
    obtain ⟨oe, vs, e, z, dd, S⟩ := b.suite
    have L := PySem.W.exm_one (M := model X.prog X.w) S.kIn (fun A Q E s k q => wpAny_typeOf_ref (k _ _ e) (by rw [z.1]; exact q) : PySem.W.Looks (model X.prog X.w) h (typeOf (.ref a)) cls) ex
    have look : ∀ {Q : Value → Shared → Prop} {E : Value → Shared → Prop}, Q c { s with heap := h } → wpAny (model X.prog X.w) (X.A.mark (some (.ref a))) (eval (.Name x np) X.env) Q E { s with heap := h } := fun q => by
      obtain ⟨hg, hdb, hm | ⟨hm, hv, hn⟩⟩ := hc
      · exact ld_glob (X := X.suite a ((a, oe) :: (X.pn ++ pins))) S hg hm q hdb
      · exact ld_blt (X := X.suite a ((a, oe) :: (X.pn ++ pins))) S hg hm hv q hn hdb
    refine wpAny_handleBy_cons (codeAny_handlers_test (look (L.here ?_))) (fun q => by cases q)
    cases bb with
    | false => exact ih (no rfl)
    | true =>
      refine codeAny_handlers_suite_as (HandSPX.lands_againZ b.fl fun h4 fl4 up4 => ?_)
      obtain ⟨oe4, vs4, e4, z4, d4, S4⟩ := (b.again up4 fl4).suite
      refine store_ok (X := X.suite a ((a, oe4) :: (X.pn ++ pins))) (v := .ref a) S4 hN hi (.inl hln) rfl (fun s5 S5 => ?_) (.inr hln)
      refine wpAny_mono ((hsu a oe4 cls d (X.pn ++ pins) z4 ⟨_, d4⟩).run [] s5 _ H _ S5 (yes rfl a b.na)) (fun f s6 q => ?_) (fun _ _ z => z.elim)
      have gone : ∀ {σ6 : L2.St} {H6 : Hp} {Q : Shared → Prop}, L2.Inv (X.suite a ((a, oe4) :: (X.pn ++ pins))) [] σ6 H6 s6 → (∀ s7, L2.Inv X pins (σ6.set i none) H6 s7 → Q s7) → wpAny (model X.prog X.w) X.A (do bindName X.env n .none; unbindBehindTheSuite X.env n hp) (fun _ s7 => Q s7) X.xe s6 := fun I6 k => gone_ok (I6.unsuite b.ok) hN hi hln k
      cases f with
      | ret u =>
        obtain ⟨v, σ6, H6, I6, rv, q⟩ := q
        exact gone I6 fun s7 I7 => ⟨_, _, _, I7, rv, q⟩
      | next =>
        obtain ⟨σ6, H6, I6, q⟩ := q
        exact gone I6 fun s7 I7 => ⟨_, _, I7, q⟩
      | brk =>
        obtain ⟨σ6, H6, I6, q⟩ := q
        exact gone I6 fun s7 I7 => ⟨_, _, I7, q⟩
      | cont =>
        obtain ⟨σ6, H6, I6, q⟩ := q
        exact gone I6 fun s7 I7 => ⟨_, _, I7, q⟩
end
end
/-! ### by trees: two handlers -/
end TL
/-! GZa: a run that ends where sleeping generators cannot be woken, ends alike where they could be: they are not woken. -/
namespace GZ
open PySem
open Sem (wp)
/-- a sleeping generator that cannot be woken -/
def kz : Resume → Sem PySem.Fin := fun _ => .unsupported "asleep"
def zap : GenState → GenState
  | .suspended _ l c p fs cl => .suspended kz l c p fs cl
  | x => x
/-- what sleeps -/
def slp : GenState → Option GenState
  | .suspended k l c p fs cl => some (.suspended k l c p fs cl)
  | _ => none
def Clean : GenState → Prop
  | .suspended _ _ _ _ fs _ => splitAtGen fs = none
  | _ => True
def EClean : End → Prop
  | .susp _ _ _ _ _ _ fs => splitAtGen fs = none
  | _ => True
theorem zap_seen (x : GenState) : (zap x).seen = x.seen := by cases x <;> rfl
theorem zap_bare (x : GenState) : (zap x).bare = x.bare := by cases x <;> rfl
/-- T: what sleeps and is kept -/
structure Rel (T : Nat → Option GenState) (G G' : Array GenState) : Prop where
  size : G.size = G'.size
  sl : ∀ i x, T i = some x → slp x = some x ∧ G[i]? = some (zap x) ∧ G'[i]? = some x
  eq : ∀ i, T i = none → G[i]? = G'[i]?
  cl : ∀ i x, T i = none → G[i]? = some x → Clean x
theorem Rel.set {T : Nat → Option GenState} {G G' : Array GenState} (h : Rel T G G') {g : Nat} {x : GenState} (hg : T g = none) (hx : Clean x) : Rel T (G.setIfInBounds g x) (G'.setIfInBounds g x) where
  size := by rw [Array.size_setIfInBounds, Array.size_setIfInBounds, h.size]
  sl := fun i y hi => by
    have ne : g ≠ i := fun e => by rw [e, hi] at hg; cases hg
    rw [Array.getElem?_setIfInBounds, Array.getElem?_setIfInBounds, if_neg ne, if_neg ne]
    exact h.sl i y hi
  eq := fun i hi => by
    rw [Array.getElem?_setIfInBounds, Array.getElem?_setIfInBounds, h.size, h.eq i hi]
  cl := fun i y hi hy => by
    rw [Array.getElem?_setIfInBounds] at hy
    split at hy
    · split at hy
      · cases hy
        exact hx
      · cases hy
    · exact h.cl i y hi hy
theorem Rel.push {T : Nat → Option GenState} {G G' : Array GenState} (h : Rel T G G') {c : Code} : Rel T (G.push (.fresh c)) (G'.push (.fresh c)) where
  size := by rw [Array.size_push, Array.size_push, h.size]
  sl := fun i y hi => by
    obtain ⟨h1, h2, h3⟩ := h.sl i y hi
    refine ⟨h1, ?_, ?_⟩
    · rw [Array.getElem?_push, if_neg, h2]
      intro e
      rw [e, Array.getElem?_eq_none (Nat.le_refl _)] at h2
      cases h2
    · rw [Array.getElem?_push, if_neg, h3]
      intro e
      rw [e, Array.getElem?_eq_none (Nat.le_refl _)] at h3
      cases h3
  eq := fun i hi => by
    rw [Array.getElem?_push, Array.getElem?_push, h.size, h.eq i hi]
  cl := fun i y hi hy => by
    rw [Array.getElem?_push] at hy
    split at hy
    · cases hy
      trivial
    · exact h.cl i y hi hy
theorem Rel.of (G : Array GenState) : Rel (fun i => (G[i]?).bind slp) (G.map zap) G where
  size := Array.size_map
  sl := fun i x hi => by
    obtain ⟨y, hy, e⟩ := Option.bind_eq_some_iff.mp hi
    have : y = x := by cases y <;> simp [slp] at e <;> exact e
    subst this
    refine ⟨e, ?_, hy⟩
    rw [Array.getElem?_map, hy]
    rfl
  eq := fun i hi => by
    rw [Array.getElem?_map]
    cases e : G[i]? with
    | none => rfl
    | some y =>
      rw [e] at hi
      cases y <;> first | rfl | cases hi
  cl := fun i x hi hx => by
    rw [Array.getElem?_map] at hx
    cases e : G[i]? with
    | none => rw [e] at hx; cases hx
    | some y =>
      rw [e] at hi hx
      cases hx
      cases y <;> first | trivial | cases hi
theorem clean_end {e : End} (h : EClean e) {pre : List Frame} (hp : splitAtGen pre = none) : Clean e.genState := by
  cases e with
  | ret r => trivial
  | susp v g l k c p fs => exact h
theorem Rel.get {T : Nat → Option GenState} {G G' : Array GenState} (r : Rel T G G') {g : Nat} {x : GenState} (h : G[g]? = some x) : ∃ y, G'[g]? = some y ∧ x.seen = y.seen := by
  cases hT : T g with
  | none => exact ⟨x, by rw [← r.eq g hT]; exact h, rfl⟩
  | some y =>
    obtain ⟨_, h2, h3⟩ := r.sl g y hT
    rw [h] at h2
    cases h2
    exact ⟨y, h3, zap_seen y⟩
theorem Rel.free {T : Nat → Option GenState} {G G' : Array GenState} (r : Rel T G G') {g : Nat} {x : GenState} (h : G[g]? = some x) (hx : slp x = none) : T g = none ∧ G'[g]? = some x := by
  have hT : T g = none := by
    cases hT : T g with
    | none => rfl
    | some y =>
      obtain ⟨h1, h2, _⟩ := r.sl g y hT
      rw [h] at h2
      cases h2
      cases y <;> simp [slp] at h1
      cases hx
  exact ⟨hT, by rw [← r.eq g hT]; exact h⟩
theorem Rel.susp {T : Nat → Option GenState} {G G' : Array GenState} (r : Rel T G G') {g : Nat} {k l c p fs cl} (h : G[g]? = some (.suspended k l c p fs cl)) : k = kz ∨ (T g = none ∧ G'[g]? = some (.suspended k l c p fs cl) ∧ splitAtGen fs = none) := by
  cases hT : T g with
  | none => exact .inr ⟨rfl, by rw [← r.eq g hT]; exact h, r.cl g _ hT h⟩
  | some y =>
    obtain ⟨h1, h2, _⟩ := r.sl g y hT
    rw [h] at h2
    cases y <;> simp [slp] at h1
    cases h2
    exact .inl rfl
theorem split_cons {F : Frame} {fs : List Frame} (h : splitAtGen (F :: fs) = none) : splitAtGen fs = none := by
  cases F with
  | gen g k l c p => cases h
  | ret k hd g l c p kp =>
    have h : (splitAtGen fs).map _ = none := h
    cases e : splitAtGen fs with
    | none => rfl
    | some x => rw [e] at h; cases h
theorem split_app : ∀ {fs gs : List Frame}, splitAtGen fs = none → splitAtGen gs = none → splitAtGen (fs ++ gs) = none
  | [], gs, _, h => h
  | F :: fs, gs, h1, h2 => by
    have h3 := split_cons h1
    cases F with
    | gen g k l c p => cases h1
    | ret k hd g l c p kp =>
      show (splitAtGen (fs ++ gs)).map _ = none
      rw [split_app h3 h2]
      rfl
theorem no_run {M : Model} {Γ : Ctx} {p : Pos} {t : Sem PySem.Fin} {fs : List Frame} {s s' : Shared} {e : End} (h : Runs M Γ p t fs s e s') : ∀ what, t = .unsupported what → False := by
  induction h <;> intro what ht <;> first | cases ht | skip
  all_goals first
    | (rename_i ih _; exact ih _ rfl)
    | (rename_i ih; exact ih _ rfl)
variable {M : Model} {T : Nat → Option GenState}
/-- the runs of one side are runs of the other -/
theorem runs_frozen {Γ : Ctx} {p : Pos} {t : Sem PySem.Fin} {fs : List Frame} {s s' : Shared} {e : End} (h : Runs M Γ p t fs s e s') :
    splitAtGen fs = none → ∀ G, Rel T s.gens G → EClean e ∧ ∃ G', Runs M Γ p t fs { s with gens := G } e { s' with gens := G' } ∧ Rel T s'.gens G' := by
  induction h with
  | done => exact fun _ G r => ⟨trivial, G, .done, r⟩
  | raise => exact fun _ G r => ⟨trivial, G, .raise, r⟩
  | again hq _ ih => exact fun hs G r => by obtain ⟨c, G', x, r'⟩ := ih hs G r; exact ⟨c, G', .again hq x, r'⟩
  | rule _ ih => exact fun hs G r => by obtain ⟨c, G', x, r'⟩ := ih hs G r; exact ⟨c, G', .rule x, r'⟩
  | «at» _ ih => exact fun hs G r => by obtain ⟨c, G', x, r'⟩ := ih hs G r; exact ⟨c, G', .at x, r'⟩
  | load ho _ ih => exact fun hs G r => by obtain ⟨c, G', x, r'⟩ := ih hs G r; exact ⟨c, G', .load ho x, r'⟩
  | update ho _ ih => exact fun hs G r => by obtain ⟨c, G', x, r'⟩ := ih hs G r; exact ⟨c, G', .update ho x, r'⟩
  | loadIfAlive _ ih => exact fun hs G r => by obtain ⟨c, G', x, r'⟩ := ih hs G r; exact ⟨c, G', .loadIfAlive x, r'⟩
  | point _ ih => exact fun hs G r => by obtain ⟨c, G', x, r'⟩ := ih hs G r; exact ⟨c, G', .point x, r'⟩
  | alloc _ ih => exact fun hs G r => by obtain ⟨c, G', x, r'⟩ := ih hs G r; exact ⟨c, G', .alloc x, r'⟩
  | fresh _ ih => exact fun hs G r => by obtain ⟨c, G', x, r'⟩ := ih hs G r; exact ⟨c, G', .fresh x, r'⟩
  | ask _ ih => exact fun hs G r => by obtain ⟨c, G', x, r'⟩ := ih hs G r; exact ⟨c, G', .ask x, r'⟩
  | choose hn _ ih => exact fun hs G r => by obtain ⟨c, G', x, r'⟩ := ih hs G r; exact ⟨c, G', .choose hn x, r'⟩
  | os _ ih => exact fun hs G r => by obtain ⟨c, G', x, r'⟩ := ih hs G r; exact ⟨c, G', .os x, r'⟩
  | handled _ ih => exact fun hs G r => by obtain ⟨c, G', x, r'⟩ := ih hs G r; exact ⟨c, G', .handled x, r'⟩
  | genState hg _ ih =>
    intro hs G r
    obtain ⟨c, G', x, r'⟩ := ih hs G r
    obtain ⟨y, hy, e⟩ := r.get hg
    rw [e] at x
    exact ⟨c, G', .genState hy x, r'⟩
  | stack _ ih => exact fun hs G r => by obtain ⟨c, G', x, r'⟩ := ih hs G r; exact ⟨c, G', .stack x, r'⟩
  | thread _ ih => exact fun hs G r => by obtain ⟨c, G', x, r'⟩ := ih hs G r; exact ⟨c, G', .thread x, r'⟩
  | newGen _ ih =>
    intro hs G r
    obtain ⟨cl, G', x, r'⟩ := ih hs _ r.push
    refine ⟨cl, G', .newGen ?_, r'⟩
    rw [r.size] at x
    exact x
  | call _ _ ih1 ih2 =>
    intro hs G r
    obtain ⟨_, G1, x1, r1⟩ := ih1 rfl G r
    obtain ⟨c, G2, x2, r2⟩ := ih2 rfl G1 r1
    exact ⟨c, G2, .call x1 x2, r2⟩
  | callSusp _ ih =>
    intro hs G r
    obtain ⟨c, G1, x1, r1⟩ := ih rfl G r
    exact ⟨split_app c rfl, G1, .callSusp x1, r1⟩
  | yield => exact fun _ G r => ⟨rfl, G, .yield, r⟩
  | resumeFresh hg _ hq _ ih1 ih2 =>
    intro hs G r
    obtain ⟨hT, hg'⟩ := r.free hg rfl
    obtain ⟨c1, G1, x1, r1⟩ := ih1 rfl _ (r.set hT (x := .running) trivial)
    obtain ⟨c2, G2, x2, r2⟩ := ih2 rfl _ (r1.set hT (clean_end c1 (pre := []) rfl))
    exact ⟨c2, G2, .resumeFresh hg' x1 hq x2, r2⟩
  | resumeSuspended hg hrun hq _ ih1 ih2 =>
    intro hs G r
    rcases r.susp hg with rfl | ⟨hT, hg', hf⟩
    · exact (no_run hrun _ rfl).elim
    · obtain ⟨c1, G1, x1, r1⟩ := ih1 hf _ (r.set hT (x := .running) trivial)
      obtain ⟨c2, G2, x2, r2⟩ := ih2 rfl _ (r1.set hT (clean_end c1 (pre := []) rfl))
      exact ⟨c2, G2, .resumeSuspended hg' x1 hq x2, r2⟩
  | resumeJustStarted hg hv _ ih =>
    intro hs G r
    obtain ⟨c1, G1, x1, r1⟩ := ih rfl G r
    exact ⟨c1, G1, .resumeJustStarted (r.free hg rfl).2 hv x1, r1⟩
  | resumeThrowFresh hg _ ih =>
    intro hs G r
    obtain ⟨hT, hg'⟩ := r.free hg rfl
    obtain ⟨c1, G1, x1, r1⟩ := ih rfl _ (r.set hT (x := .finished) trivial)
    exact ⟨c1, G1, .resumeThrowFresh hg' x1, r1⟩
  | resumeRunning hg _ ih =>
    intro hs G r
    obtain ⟨c1, G1, x1, r1⟩ := ih rfl G r
    exact ⟨c1, G1, .resumeRunning (r.free hg rfl).2 x1, r1⟩
  | resumeFinished hg _ ih =>
    intro hs G r
    obtain ⟨c1, G1, x1, r1⟩ := ih rfl G r
    exact ⟨c1, G1, .resumeFinished (r.free hg rfl).2 x1, r1⟩
  | segRet _ _ ih1 ih2 =>
    intro hs G r
    obtain ⟨_, G1, x1, r1⟩ := ih1 rfl G r
    obtain ⟨c, G2, x2, r2⟩ := ih2 (split_cons hs) G1 r1
    exact ⟨c, G2, .segRet x1 x2, r2⟩
  | segGen _ _ ih1 ih2 => exact fun hs => by cases hs
  | segSuspOut hn _ ih =>
    intro hs G r
    obtain ⟨c, G1, x1, r1⟩ := ih rfl G r
    exact ⟨split_app c hn, G1, .segSuspOut hn x1, r1⟩
  | segSuspGen hn _ _ _ ih1 ih2 => exact fun hs => by rw [hn] at hs; cases hs
theorem returns_frozen {Γ : Ctx} {p : Pos} {s s' : Shared} {r : Result} (h : Returns M Γ p s r s') {G : Array GenState} (hr : Rel T s.gens G) : ∃ G', Returns M Γ p { s with gens := G } r { s' with gens := G' } ∧ Rel T s'.gens G' :=
  (runs_frozen h rfl G hr).2
theorem wakes_frozen {Γ : Ctx} {p : Pos} {g : Nat} {r : Resume} {s s' : Shared} {res : GenResult} (h : Wakes M Γ p g r s res s') {G : Array GenState} (hr : Rel T s.gens G) : ∃ G', Wakes M Γ p g r { s with gens := G } res { s' with gens := G' } ∧ Rel T s'.gens G' := by
  unfold Wakes at h
  split at h
  · exact h.elim
  · rename_i c hg
    obtain ⟨hT, hg'⟩ := hr.free hg rfl
    split at h
    · obtain ⟨e₁, s₁, hrun, hq, rfl, rfl⟩ := h
      obtain ⟨c1, G1, x1, r1⟩ := runs_frozen hrun rfl _ (hr.set hT (x := .running) trivial)
      refine ⟨G1.setIfInBounds g e₁.genState, ?_, r1.set hT (clean_end c1 (pre := []) rfl)⟩
      unfold Wakes
      rw [show ({ s with gens := G } : Shared).gens[g]? = _ from hg']
      exact ⟨e₁, _, x1, hq, rfl, rfl⟩
    · refine ⟨G, ?_, by rw [h.2]; exact hr⟩
      unfold Wakes
      rw [show ({ s with gens := G } : Shared).gens[g]? = _ from hg']
      rename_i v hv
      cases v with
      | none => exact (hv rfl).elim
      | _ => exact ⟨h.1, by rw [h.2]⟩
    · obtain ⟨h1, rfl⟩ := h
      refine ⟨G.setIfInBounds g .finished, ?_, hr.set hT trivial⟩
      unfold Wakes
      rw [show ({ s with gens := G } : Shared).gens[g]? = _ from hg']
      exact ⟨h1, rfl⟩
  · rename_i hg
    obtain ⟨e₁, s₁, hrun, hq, rfl, rfl⟩ := h
    rcases hr.susp hg with rfl | ⟨hT, hg', hf⟩
    · exact (no_run hrun _ rfl).elim
    · obtain ⟨c1, G1, x1, r1⟩ := runs_frozen hrun hf _ (hr.set hT (x := .running) trivial)
      refine ⟨G1.setIfInBounds g e₁.genState, ?_, r1.set hT (clean_end c1 (pre := []) rfl)⟩
      unfold Wakes
      rw [show ({ s with gens := G } : Shared).gens[g]? = _ from hg']
      exact ⟨e₁, _, x1, hq, rfl, rfl⟩
  · rename_i hg
    refine ⟨G, ?_, by rw [h.2]; exact hr⟩
    unfold Wakes
    rw [show ({ s with gens := G } : Shared).gens[g]? = _ from (hr.free hg rfl).2]
    exact ⟨h.1, by rw [h.2]⟩
  · rename_i hg
    refine ⟨G, ?_, by rw [h.2]; exact hr⟩
    unfold Wakes
    rw [show ({ s with gens := G } : Shared).gens[g]? = _ from (hr.free hg rfl).2]
    exact ⟨h.1, by rw [h.2]⟩
theorem wp_frozen {α : Type} {Γ : Ctx} (t : Sem α) : ∀ {Q : α → Pos → Shared → Prop} {E : Value → Pos → Shared → Prop} {p : Pos} {s : Shared} {G : Array GenState}, Rel T s.gens G → wp M Γ t Q E p s →
    wp M Γ t (fun a p' s' => ∃ z, Q a p' z ∧ Rel T z.gens s'.gens ∧ s' = { z with gens := s'.gens }) (fun e p' s' => ∃ z, E e p' z ∧ Rel T z.gens s'.gens ∧ s' = { z with gens := s'.gens }) p { s with gens := G } := by
  induction t with
  | pure a => intro Q E p s G r h; exact ⟨s, h, r, rfl⟩
  | raise e => intro Q E p s G r h; exact ⟨s, h, r, rfl⟩
  | unsupported _ => intro Q E p s G r h; exact h
  | finish _ => intro Q E p s G r h; exact h
  | rule _ k ih => intro Q E p s G r h; exact ih () r h
  | «at» p' k ih => intro Q E p s G r h; exact ih () r h
  | load a _ k ih => intro Q E p s G r h; obtain ⟨o, ho, h⟩ := h; exact ⟨o, ho, ih o r h⟩
  | update a _ f k ih => intro Q E p s G r h; exact ⟨h.1, ih () (s := { s with heap := s.heap.update a f }) r h.2⟩
  | loadIfAlive a k ih => intro Q E p s G r h; exact ih _ r h
  | point _ k ih => intro Q E p s G r h; exact ih () r h
  | register _ _ => intro Q E p s G r h; exact h
  | alloc o k ih => intro Q E p s G r h; exact ih _ (s := { s with heap := s.heap.push o }) r h
  | fresh k ih => intro Q E p s G r h; exact ih _ (s := { s with toks := s.toks + 1 }) r h
  | ask k ih => intro Q E p s G r h; exact ih _ r h
  | choose src m k ih => intro Q E p s G r h; exact ⟨h.1, ih _ (s := { s with drawn := s.drawn.bump src }) r h.2⟩
  | os q _ k ih => intro Q E p s G r h; exact ih _ (s := { s with os := (Os.step s.os q).1 }) r h
  | call c hd _ _ k ih =>
    intro Q E p s G r h
    obtain ⟨x, s', hr, h⟩ := h
    obtain ⟨G', hr', r'⟩ := returns_frozen hr r
    exact ⟨x, _, hr', ih x r' h⟩
  | handled own k ih => intro Q E p s G r h; exact ih _ r h
  | genState g k ih =>
    intro Q E p s G r h
    obtain ⟨st, hs, h⟩ := h
    obtain ⟨y, hy, e⟩ := r.get hs
    rw [e] at h
    exact ⟨y, hy, ih _ r h⟩
  | newGen c k ih =>
    intro Q E p s G r h
    have := ih _ (s := { s with gens := s.gens.push (.fresh c) }) (r.push (c := c)) h
    show wp M Γ (k G.size) _ _ p { s with gens := G.push (.fresh c) }
    rw [r.size] at this
    exact this
  | resume g rr _ k ih =>
    intro Q E p s G r h
    obtain ⟨res, s', hw, h⟩ := h
    obtain ⟨G', hw', r'⟩ := wakes_frozen hw r
    exact ⟨res, _, hw', ih res r' h⟩
  | yield _ _ _ _ => intro Q E p s G r h; exact h
  | stack k ih => intro Q E p s G r h; exact ih _ r h
  | fork _ _ => intro Q E p s G r h; exact h
  | thread k ih => intro Q E p s G r h; exact ih _ r h
  | await _ _ _ _ _ => intro Q E p s G r h; exact h
/-- s but that nothing sleeping can be woken -/
def asleep (s : Shared) : Shared := { s with gens := s.gens.map zap }
/-- what is kept of the sleeping ones -/
def Kept (s s' : Shared) : Prop := ∀ (i : Nat) (k : Resume → Sem PySem.Fin) (l : List Value) (c : Code) (p : Pos) (fs : List Frame) (cl : Bool), s.gens[i]? = some (GenState.suspended k l c p fs cl) → s'.gens[i]? = some (GenState.suspended k l c p fs cl)
theorem wpAny_frozen {α : Type} {A : Around} {t : Sem α} {Q : α → Shared → Prop} {E : Value → Shared → Prop} {s : Shared} (h : wpAny M A t Q E (asleep s)) :
    wpAny M A t (fun a s' => ∃ z, Q a z ∧ (PyProof.Rows.AllBare z.gens → PyProof.Rows.AllBare s'.gens) ∧ Kept s s' ∧ s' = { z with gens := s'.gens }) (fun a s' => ∃ z, E a z ∧ (PyProof.Rows.AllBare z.gens → PyProof.Rows.AllBare s'.gens) ∧ Kept s s' ∧ s' = { z with gens := s'.gens }) s := by
  have cv : ∀ z s' : Shared, Rel (fun i => (s.gens[i]?).bind slp) z.gens s'.gens → (PyProof.Rows.AllBare z.gens → PyProof.Rows.AllBare s'.gens) ∧ Kept s s' := fun z s' r => by
    constructor
    · intro hb y hy
      obtain ⟨i, hi, rfl⟩ := Array.mem_iff_getElem.mp hy
      have e := Array.getElem?_eq_getElem hi
      cases hT : (s.gens[i]?).bind slp with
      | none =>
        have := r.eq i hT
        rw [e] at this
        exact hb _ (Array.mem_of_getElem? this)
      | some x =>
        obtain ⟨_, h2, h3⟩ := r.sl i x hT
        rw [e] at h3
        cases h3
        rw [← zap_bare]
        exact hb _ (Array.mem_of_getElem? h2)
    · intro i k l c p fs cl hs
      exact (r.sl i _ (by rw [hs]; rfl)).2.2
  intro Γ p hΓ
  have := wp_frozen t (Rel.of s.gens) (s := asleep s) (h Γ p hΓ)
  exact Sem.wp_mono M Γ t (fun a _ s' ⟨z, q, r, e⟩ => ⟨z, q, (cv z s' r).1, (cv z s' r).2, e⟩) (fun a _ s' ⟨z, q, r, e⟩ => ⟨z, q, (cv z s' r).1, (cv z s' r).2, e⟩) p _ this
end GZ
/-! GZb: a generator's run to its next stop; Phi: what is wanted there. -/
namespace GZ
open PySem PySem.Spec PyProof.Rows L2
def Sg (M : Model) (A : Around) (Phi : End → Shared → Prop) (c : Code) (t : Sem PySem.Fin) (fs : List Frame) (s : Shared) : Prop :=
  ∀ Γ p, Γ.code = c → Γ.Woken A → ∃ e s', Runs M Γ p t fs s e s' ∧ Phi e s'
section
variable {M : Model} {A : Around} {Phi : End → Shared → Prop} {c : Code} {fs : List Frame} {s : Shared}
theorem sg_wrap {α : Type} {m : Sem α} {K : α → Sem PySem.Fin} {H : Value → Sem PySem.Fin} {gd lv}
    (h : wpAny M (A.over c fs) m (fun a s' => Sg M A Phi c (K a) fs s') (fun x s' => Sg M A Phi c (H x) fs s') s) : Sg M A Phi c (m.wrap K H gd lv) fs s := by
  rintro Γ p rfl hΓ
  exact runs_wrap_of_wp K H gd lv m (h (Γ.over fs) p (hΓ.over fs)) (fun a p' s' h' => h' Γ p' rfl hΓ) (fun x p' s' h' => h' Γ p' rfl hΓ)
theorem sg_at {p' : Pos} {k : Unit → Sem PySem.Fin} (h : Sg M A Phi c (k ()) fs s) : Sg M A Phi c (.at p' k) fs s :=
  sg_wrap (m := standAt p') (K := k) (H := .raise) (gd := id) (lv := id) (wpAny_standAt h)
theorem sg_point {l : List Value} {k : Unit → Sem PySem.Fin} (h : Sg M A Phi c (k ()) fs s) : Sg M A Phi c (.point l k) fs s :=
  sg_wrap (m := point) (K := k) (H := .raise) (gd := id) (lv := fun _ => l) (wpAny_point h)
theorem sg_call {c' : Code} {h g l} {k : Result → Sem PySem.Fin} (hc : ∀ p, Sg M A Phi c' (M.den c') (.ret k h g l c p [] :: fs) s) : Sg M A Phi c (.call c' h g l k) fs s := by
  rintro Γ p rfl hΓ
  obtain ⟨e, s', hr, he⟩ := hc p (Γ.goto c') p rfl (hΓ.goto c')
  exact ⟨e, s', runs_call_seg hr, he⟩
theorem sg_leaf {k h g l c₁ p₁ kp} (r : Result) (hk : Sg M A Phi c₁ (k r) fs s) : Sg M A Phi c (leafOf r) (.ret k h g l c₁ p₁ kp :: fs) s := by
  rintro Γ p rfl hΓ
  obtain ⟨e, s', hr, he⟩ := hk (Γ.goto c₁) p₁ rfl (hΓ.goto c₁)
  exact ⟨e, s', Runs.pop r hr, he⟩
theorem sg_again {c' : Code} (hq : c'.quiet = true) (hc : Sg M A Phi c' (M.den c') fs s) : Sg M A Phi c (.pure (.again c')) fs s := by
  rintro Γ p rfl hΓ
  obtain ⟨e, s', hr, he⟩ := hc (Γ.goto c') p rfl (hΓ.goto c')
  exact ⟨e, s', Runs.head (c₁ := c') (fun _ _ x => .again hq x) hr, he⟩
theorem sg_end (r : Result) (h : Phi (.ret r) s) : Sg M A Phi c (leafOf r) [] s := by
  rintro Γ p rfl _
  exact ⟨.ret r, s, Runs.leaf r, h⟩
theorem sg_yield {v g l} {k : Resume → Sem PySem.Fin} (hfs : splitAtGen fs = none) (h : ∀ p, Phi (.susp v g l k c p fs) s) : Sg M A Phi c (.yield v g l k) fs s := by
  rintro Γ p rfl _
  exact ⟨_, s, Runs.yield' fs hfs, h p⟩
variable {env : Env} {K : Flow → Sem PySem.Fin} {H : Value → Sem PySem.Fin} {gd : Bool → Bool} {lv : List Value → List Value}
theorem sg_execs_nil (h : Sg M A Phi c (K .next) fs s) : Sg M A Phi c ((execs [] env).wrap K H gd lv) fs s := h
theorem sg_execs_cons {st : Stmt} {rest : List Stmt} (h : Sg M A Phi c ((exec st env).wrap (fun f => match f with | .next => (execs rest env).wrap K H gd lv | f => K f) H gd lv) fs s) :
    Sg M A Phi c ((execs (st :: rest) env).wrap K H gd lv) fs s := by
  rw [execs_cons_wrap]
  exact h
theorem sg_Yield {e : Expr} {ypos pos : Pos} (hfs : splitAtGen fs = none) (hgd : gd false = false)
    (h : wpAny M (A.over c fs) (eval e env) (fun v s' => ∀ (l : List Value) (k : Resume → Sem PySem.Fin) (p : Pos), (∀ Phi' s'', Sg M A Phi' c (K .next) fs s'' → Sg M A Phi' c (k (.send .none)) fs s'') → Phi (.susp v false l k c p fs) s')
      (fun x s' => Sg M A Phi c (H x) fs s') s) (hco : env.scope.isCoroutine = false := by rfl) (hi : interactive env = false := by rfl) :
    Sg M A Phi c ((exec (.Expr (.Yield (some e) ypos) pos) env).wrap K H gd lv) fs s := by
  rw [exec_Expr env _ pos hi rfl]
  show Sg M A Phi c (.at pos fun _ => ((eval e env >>= fun v => (standAt ypos >>= fun _ => yieldOut env v)) >>= fun x => dropValue (.Yield (some e) ypos) pos x).wrap K H gd lv) fs s
  have hy : ∀ v, yieldOut env v = yieldValue v := fun v => by simp only [yieldOut, hco, Bool.false_eq_true, if_false]
  simp only [hy]
  refine sg_at ?_
  rw [Sem.bind_eq_wrap', Sem.bind_eq_wrap', Sem.wrap_wrap, Sem.wrap_wrap]
  refine sg_wrap (wpAny_mono h (fun v s' h' => ?_) fun _ _ x => x)
  refine sg_at (sg_yield hfs fun p => ?_)
  have hg0 : ((fun g => gd (id g)) false) = false := hgd
  show Phi (.susp v (gd (id false)) _ _ c p fs) s'
  rw [show gd (id false) = false from hgd]
  exact h' _ _ p fun Phi' s'' q => q
theorem sg_While {test : Expr} {body orelse : List Stmt} {pos : Pos}
    (h : ∀ p, Sg M A Phi (.whileLoop test body orelse env) (M.den (.whileLoop test body orelse env))
      (.ret (fun r => ((match r with | .ok f => (.pure f : Sem Flow) | .error e => .raise e).onRaise (cameBack env)).wrap K H gd lv) none (gd false) (lv []) c p [] :: fs) s) :
    Sg M A Phi c ((exec (.While test body orelse pos) env).wrap K H gd lv) fs s := sg_at (sg_call h)
end
section
variable {prog : Program} {w : World} {A : Around} {Phi : End → Shared → Prop} {fs : List Frame} {s : Shared} {env : Env}
theorem sg_whileLoop {test : Expr} {body orelse : List Stmt}
    (h : ∀ J : Value → Sem PySem.Fin, wpAny (model prog w) (A.over (.whileLoop test body orelse env) fs) (isTrue test env (eval test env)) (fun b s' =>
        if b = true then
          Sg (model prog w) A Phi (.whileLoop test body orelse env) ((execs body env).wrap (fun f => match f with
            | .next | .cont => .pure (.again (.whileLoop test body orelse env))
            | .brk => .pure (.done .next)
            | .ret v => .pure (.done (.ret v))) J id id) fs s'
        else Sg (model prog w) A Phi (.whileLoop test body orelse env) ((execs orelse env).wrap (fun f => .pure (.done f)) J id id) fs s')
      (fun _ _ => False) s) :
    Sg (model prog w) A Phi (.whileLoop test body orelse env) ((model prog w).den (.whileLoop test body orelse env)) fs s := by
  show Sg _ A Phi _ ((whileTurn test body orelse env).onRaise (fun x => do noteFrame x env; theTreesLotGoes x)) fs s
  unfold whileTurn
  rw [Sem.onRaise_eq_wrap, Sem.bind_eq_wrap', Sem.wrap_wrap]
  refine sg_wrap (wpAny_mono (h (fun e => (do noteFrame e env; theTreesLotGoes e : Sem Unit).wrap (fun _ => .raise e) .raise id id)) (fun b s' hb => ?_) fun x s' hx => hx.elim)
  cases b with
  | true =>
    rw [if_pos rfl] at hb
    show Sg _ A Phi _ (Sem.wrap _ _ _ _ (if true = true then _ else _)) fs s'
    rw [if_pos rfl, Sem.bind_eq_wrap', Sem.wrap_wrap]
    rw [Sem.wrap_congr (execs body env) _ _ (K' := fun f => match f with
          | .next | .cont => .pure (.again (.whileLoop test body orelse env))
          | .brk => .pure (.done .next)
          | .ret v => .pure (.done (.ret v))) (H' := (fun e => (do noteFrame e env; theTreesLotGoes e : Sem Unit).wrap (fun _ => .raise e) .raise id id))
      (fun f => by cases f <;> rfl)
      (fun e => by first | exact Sem.bind_eq_wrap _ _ | (show (do noteFrame e env; theTreesLotGoes e : Sem Unit).bind (fun _ => .raise e) = _; rw [Sem.bind_eq_wrap]))]
    exact hb
  | false =>
    rw [if_neg Bool.false_ne_true] at hb
    show Sg _ A Phi _ (Sem.wrap _ _ _ _ (if false = true then _ else _)) fs s'
    rw [if_neg Bool.false_ne_true, Sem.bind_eq_wrap', Sem.wrap_wrap]
    rw [Sem.wrap_congr (execs orelse env) _ _ (K' := fun f => (.pure (.done f) : Sem PySem.Fin)) (H' := (fun e => (do noteFrame e env; theTreesLotGoes e : Sem Unit).wrap (fun _ => .raise e) .raise id id))
      (fun f => by rfl)
      (fun e => by first | exact Sem.bind_eq_wrap _ _ | (show (do noteFrame e env; theTreesLotGoes e : Sem Unit).bind (fun _ => .raise e) = _; rw [Sem.bind_eq_wrap]))]
    exact hb
theorem sg_func {body : List Stmt} (h : ∀ J : Value → Sem PySem.Fin, Sg (model prog w) A Phi (.func body env) ((execs body env).wrap (fun f => .pure (.done (.ret (match f with | .ret v => v | _ => .none)))) J id id) fs s) :
    Sg (model prog w) A Phi (.func body env) ((model prog w).den (.func body env)) fs s := by
  show Sg _ A Phi _ (.point [] fun _ => ((execs body env).onRaise (leaving env)) >>= _) fs s
  refine sg_point ?_
  rw [Sem.onRaise_eq_wrap, Sem.bind_eq_wrap', Sem.wrap_wrap]
  rw [Sem.wrap_congr (execs body env) _ _ (K' := fun f => .pure (.done (.ret (match f with | .ret v => v | _ => .none))))
    (H' := fun e => (leaving env e).wrap (fun _ => .raise e) .raise id id) (fun f => by cases f <;> rfl)
    (fun e => by rw [Sem.bind_eq_wrap, Sem.wrap_wrap]; rfl)]
  exact h _
end
end GZ
/-! GZc: a generator's statements: what is handed out, by a function on trees. -/
namespace TL
open PySem PySem.Spec PyProof.Rows L2 GZ GenW
/-- the context, from another waking; nothing is raised -/
@[reducible] def _root_.L2.Cx.at (X : Cx) (s0 : Shared) (H0 : Hp) : Cx := { X with s_0 := s0, H_0 := H0, xe := fun _ _ => False }
/-- what is otherwise at each waking: the state and the heap there, what may not be looked at, what stood, the deck -/
structure Gh where
  s0 : Shared
  Hb : Hp
  F0 : Addr → Prop
  H0 : Hp
  d : D
/-- the generator runs -/
def GSt (W : Wd) (X : Cx) (dk : Dk) (g : Gh) (en : En) (σ : L2.St) (H : Hp) (s : Shared) : Prop := Inv (X.at g.s0 g.Hb) [] σ H s ∧ StR W dk g.F0 g.H0 [] σ H en g.d
/-- what is so at the next stop: l is handed out, then it ends (fin), or nothing more is known -/
def GP (W : Wd) (X : Cx) (dk : Dk) (A : Around) (fin : Bool) : List T → Gh → End → Shared → Prop
  | [], g, e, s => fin = true ∧ e = .ret (.ok (.ret .none)) ∧ ∃ en σ H, GSt W X dk g en σ H s
  | t :: rest, g, e, s => ∃ v l k c p fs, e = .susp v false l k c p fs ∧ splitAtGen fs = none ∧ fs.any Frame.guarded = false ∧
      ∃ en σ H x F G, Inv (X.at g.s0 g.Hb) [] σ H s ∧ StR' W dk g.F0 g.H0 [] F G σ H en g.d ∧ RelV x v ∧ Rep W H F dk t x ∧
        ((rest = [] ∧ fin = false) ∨ ∀ g' H' s', GSt W X dk g' en σ H' s' → Sg (model X.prog X.w) A (GP W X dk A fin rest g') c (k (.send .none)) fs s')
/-- a statement of a generator: the flow, the frame, what it hands out -/
abbrev GM := En → Option (Fl × En × List T)
def flw : Fl → Flow
  | .nx => .next
  | .brk => .brk
  | .ct => .cont
  | .ret _ => .next
/-- where the generator's code stands -/
structure GCx (X : Cx) (A : Around) (c : Code) (fs : List Frame) (gd : Bool → Bool) : Prop where
  over : A.over c fs = X.A
  split : splitAtGen fs = none
  guard : fs.any Frame.guarded = false
  gd : gd false = false
structure GX (W : Wd) (X : Cx) (st : Stmt) (f : GM) : Prop where
  run : ∀ (dk : Dk) (A : Around) (fin : Bool) (rest : List T) (c : Code) (fs : List Frame) (K : Flow → Sem PySem.Fin) (J : Value → Sem PySem.Fin) (gd : Bool → Bool) (lv : List Value → List Value) (en : En) (fl : Fl) (en' : En) (l : List T) (g : Gh) (σ : L2.St) (H : Hp) (s : Shared),
    GCx X A c fs gd → f en = some (fl, en', l) → GSt W X dk g en σ H s →
    (∀ g' σ' H' s', GSt W X dk g' en' σ' H' s' → Sg (model X.prog X.w) A (GP W X dk A fin rest g') c (K (flw fl)) fs s') →
    Sg (model X.prog X.w) A (GP W X dk A fin (l ++ rest) g) c ((exec st X.env).wrap K J gd lv) fs s
/-! ### functions -/
def noRet : Fl → Bool
  | .ret _ => false
  | _ => true
open Classical in
/-- a statement that hands out nothing: the deck stays as it is -/
noncomputable def gPl (f : En → MS) : GM := fun en => if h : ∃ r : Fl × En, noRet r.1 = true ∧ ∀ d, f en d = .ok r d then some (h.choose.1, h.choose.2, []) else none
open Classical in
noncomputable def gTs (c : En → M Bool) : En → Option Bool := fun en => if h : ∃ b : Bool, ∀ d, c en d = .ok b d then some h.choose else none
open Classical in
noncomputable def gEx (f : En → M T) : En → Option T := fun en => if h : ∃ t : T, ∀ d, f en d = .ok t d then some h.choose else none
theorem gPl_eq {f : En → MS} {en : En} {fl : Fl} {en' : En} (hr : noRet fl = true) (h : ∀ d, f en d = .ok (fl, en') d) : gPl f en = some (fl, en', []) := by
  have e : ∃ r : Fl × En, noRet r.1 = true ∧ ∀ d, f en d = .ok r d := ⟨(fl, en'), hr, h⟩
  unfold gPl
  rw [dif_pos e]
  have q := e.choose_spec.2 ⟨[], 0, 0⟩
  rw [h] at q
  have q : (fl, en') = e.choose := by injection q
  rw [← q]
theorem gPl_some {f : En → MS} {en : En} {r : Fl × En × List T} (h : gPl f en = some r) : r.2.2 = [] ∧ noRet r.1 = true ∧ ∀ d, f en d = .ok (r.1, r.2.1) d := by
  unfold gPl at h
  split at h
  · rename_i e
    cases h
    exact ⟨rfl, e.choose_spec.1, e.choose_spec.2⟩
  · cases h
theorem gTs_eq {c : En → M Bool} {en : En} {b : Bool} (h : ∀ d, c en d = .ok b d) : gTs c en = some b := by
  have e : ∃ b : Bool, ∀ d, c en d = .ok b d := ⟨b, h⟩
  unfold gTs
  rw [dif_pos e]
  have q := e.choose_spec ⟨[], 0, 0⟩
  rw [h] at q
  have q : b = e.choose := by injection q
  rw [← q]
theorem gTs_some {c : En → M Bool} {en : En} {b : Bool} (h : gTs c en = some b) : ∀ d, c en d = .ok b d := by
  unfold gTs at h
  split at h
  · rename_i e
    cases h
    exact e.choose_spec
  · cases h
theorem gEx_eq {f : En → M T} {en : En} {b : T} (h : ∀ d, f en d = .ok b d) : gEx f en = some b := by
  have e : ∃ b : T, ∀ d, f en d = .ok b d := ⟨b, h⟩
  unfold gEx
  rw [dif_pos e]
  have q := e.choose_spec ⟨[], 0, 0⟩
  rw [h] at q
  have q : b = e.choose := by injection q
  rw [← q]
theorem gEx_some {f : En → M T} {en : En} {b : T} (h : gEx f en = some b) : ∀ d, f en d = .ok b d := by
  unfold gEx at h
  split at h
  · rename_i e
    cases h
    exact e.choose_spec
  · cases h
def gNil : GM := fun en => some (.nx, en, [])
/-! ### rules -/
section
variable {W : Wd} {X : Cx} {st : Stmt} {rest : List Stmt} {f g : GM}
theorem gx_plain {m : En → MS} (h : ∀ s0 H0, PS (X.at s0 H0) st (tS W E0 m)) : GX W X st (gPl m) := by
  refine ⟨fun dk A fin rest c fs K J gd lv en fl en' l g σ H s gc hf hs hk => ?_⟩
  obtain ⟨hl, hr, hd⟩ := gPl_some hf
  obtain rfl : l = [] := hl
  have hd : ∀ d, m en d = .ok (fl, en') d := hd
  obtain ⟨I, R⟩ := hs
  refine sg_wrap ?_
  rw [gc.over]
  let D : Ends := { nx := fun σ' H' => StR W dk g.F0 g.H0 [] σ' H' en' g.d ∧ fl = .nx, rt := fun _ _ => False, bk := fun σ' H' => StR W dk g.F0 g.H0 [] σ' H' en' g.d ∧ fl = .brk, ct := fun σ' H' => StR W dk g.F0 g.H0 [] σ' H' en' g.d ∧ fl = .ct }
  have run := (h g.s0 g.Hb).run [] s σ H D I ⟨dk, g.F0, g.H0, [], en, g.d, R, by
    rw [hd]
    cases fl with
    | nx => exact fun σ' H' R' => ⟨R', rfl⟩
    | brk => exact fun σ' H' R' => ⟨R', rfl⟩
    | ct => exact fun σ' H' R' => ⟨R', rfl⟩
    | ret t => cases hr⟩
  refine wpAny_mono run (fun fw s' hs' => ?_) fun x s' hx => hx.elim
  cases fw with
  | next =>
    obtain ⟨σ', H', I', R', rfl⟩ := hs'
    exact hk g σ' H' s' ⟨I', R'⟩
  | brk =>
    obtain ⟨σ', H', I', R', rfl⟩ := hs'
    exact hk g σ' H' s' ⟨I', R'⟩
  | cont =>
    obtain ⟨σ', H', I', R', rfl⟩ := hs'
    exact hk g σ' H' s' ⟨I', R'⟩
  | ret u =>
    obtain ⟨v, σ', H', I', r, q⟩ := hs'
    exact q.elim
theorem StR.useG {Ex : XK} {dk : Dk} {g : Gh} {en : En} {σ : L2.St} {H : Hp} {c : En → M Bool} {b : Bool} {Q : Bool → Hp → Prop} (R : StR W dk g.F0 g.H0 [] σ H en g.d) (hc : ∀ d, c en d = .ok b d) (q : ∀ H1, StR W dk g.F0 g.H0 [] σ H1 en g.d → Q b H1) : tT W Ex c σ H Q := by
  obtain ⟨F, G, R⟩ := R
  refine ⟨dk, F, G, en, g.d, R.s, ?_⟩
  rw [hc]
  exact fun H1 k1 D1 => q H1 ⟨F, G, R.keep k1 D1⟩
theorem gcx_loop {A : Around} {c c' : Code} {fs : List Frame} {gd : Bool → Bool} {k : Result → Sem PySem.Fin} {l kp : List Value} {p : Pos} (g : GCx X A c fs gd) (hw : c'.weight = 0) (hu : c'.cUnits = 0) :
    GCx X A c' (.ret k none (gd false) l c p kp :: fs) id where
  over := (over_loop hw hu).trans g.over
  split := by
    show (splitAtGen fs).map _ = none
    rw [g.split]; rfl
  guard := by
    show (gd false || fs.any Frame.guarded) = false
    rw [g.gd, g.guard]; rfl
  gd := rfl
end
end TL
/-! GZd: a generator sleeps while its caller runs, and wakes. -/
namespace TL
open PySem PySem.Spec PyProof.Rows L2 GZ GenW
theorem _root_.L2.Inv.gens {X : Cx} {pins : List (Addr × Obj)} {σ : L2.St} {H : Hp} {s : Shared} {G : Array GenState} (I : L2.Inv X pins σ H s) (hG : AllBare G) : L2.Inv X pins σ H { s with gens := G } :=
  ⟨I.ok, I.os, hG, I.base, I.loc, I.cell, I.free, I.freeC, I.pin, I.hok, I.len⟩
/-- the heap below L -/
def trunc (L : Addr) (h : Heap) : Heap := { h with objs := h.objs.extract 0 L }
theorem trunc_objs {L b : Nat} {h : Heap} (hb : b < L) : (h.objs.extract 0 L)[b]? = h.objs[b]? := by
  rw [Array.getElem?_extract]
  by_cases hs : b < h.objs.size
  · rw [if_pos (by omega), Nat.zero_add]
  · rw [if_neg (by omega), Array.getElem?_eq_none (by omega)]
theorem trunc_get {L b : Addr} {h : Heap} (hb : b < L) : (trunc L h).get? b = h.get? b := by
  unfold trunc Heap.get?
  have := trunc_objs (h := h) hb
  simp only [this]
theorem trunc_objsz {L : Nat} {h : Heap} : (h.objs.extract 0 L).size = min L h.objs.size := by simp [Array.size_extract]
theorem trunc_size {L : Addr} {h : Heap} (hl : L ≤ h.objs.size) : (trunc L h).objs.size = L := trunc_objsz.trans (Nat.min_eq_left hl)
theorem trunc_some {L b : Addr} {h : Heap} {o : Obj} (e : (trunc L h).get? b = some o) : b < L ∧ h.get? b = some o := by
  have h1 : b < L := by
    have q := Heap.lt_size e
    rw [show (trunc L h).objs.size = _ from trunc_objsz] at q
    exact Nat.lt_of_lt_of_le q (Nat.min_le_left _ _)
  exact ⟨h1, by rw [← trunc_get h1]; exact e⟩
theorem trunc_all {h : Heap} : trunc h.objs.size h = h := by
  unfold trunc
  simp
/-- the caller and the generator -/
structure GRel (Xc X : Cx) (pins : List (Addr × Obj)) : Prop where
  prog : X.prog = Xc.prog
  w : X.w = Xc.w
  base : X.base = Xc.base
  outer : X.outer = Xc.stack
  ex : X.ex = []
  pn : X.pn = []
  cl : ∀ x c, X.env.cells.lookup x = some c → X.env.locals < c
  b0 : Xc.s_0.heap.objs.size ≤ X.env.locals
  b1 : Xc.env.locals < X.env.locals
  b2 : ∀ x c, Xc.env.cells.lookup x = some c → c < X.env.locals
  b3 : ∀ p ∈ Xc.pn ++ pins, p.1 < X.env.locals
/-- the frame, the cells -/
def fcs (X : Cx) (b : Addr) : Prop := b = X.env.locals ∨ ∃ x, X.env.cells.lookup x = some b
open Classical in
noncomputable def hid (X : Cx) (H : Hp) : Hp := fun b => if fcs X b then none else H b
theorem hid_no {X : Cx} {H : Hp} {b : Addr} (h : fcs X b) : hid X H b = none := if_pos h
theorem hid_yes {X : Cx} {H : Hp} {b : Addr} (h : ¬ fcs X b) : hid X H b = H b := if_neg h
theorem hid_some {X : Cx} {H : Hp} {b : Addr} {o : HO} (e : hid X H b = some o) : ¬ fcs X b ∧ H b = some o := by
  unfold hid at e
  split at e
  · cases e
  · exact ⟨by assumption, e⟩
open Classical in
/-- a waking -/
noncomputable def wg (X : Cx) (a : Addr) (own : Addr → Prop) (Gy : Nat → Addr → Prop) (H : Hp) (F : Addr → Prop) (d : D) (s : Shared) : Gh :=
  ⟨{ s with heap := trunc X.env.locals s.heap }, hid X H, fun b => (F b ∧ ¬ own b) ∨ b = a, fun b => if ∃ i, Gy i b then none else hid X H b, d⟩
/-- it sleeps: how it stood at its last stop; what is its own; the caller's heap has that still -/
structure SlpD (W : Wd) (X : Cx) (dk : Dk) (en : En) (σ : L2.St) (a : Addr) (own : Addr → Prop) (H : Hp) (F : Addr → Prop) (gy : Gh) (Hy : Hp) (Fy : Addr → Prop) (Gy : Nat → Addr → Prop) (sy : Shared) : Prop where
  I : L2.Inv (X.at gy.s0 gy.Hb) [] σ Hy sy
  R : StR' W dk gy.F0 gy.H0 [] Fy Gy σ Hy en gy.d
  vis : ∀ b o, ¬ Fy b → Hy b = some o → H b = some o ∧ ¬ (F b ∧ ¬ own b)
  obj : ∀ i b o, Gy i b → Hy b = some o → H b = some o
  own : ∀ b, own b ↔ (∃ i, Gy i b) ∨ fcs X b ∨ b = a
  raw : ∀ b, (fcs X b ∨ b = a) → ∃ o, sy.heap.get? b = some o ∧ H b = some (.ext fun h => h.get? b = some o)
  ng : ∀ i, ¬ Gy i a
  na : ¬ fcs X a
  fa : Fy a
/-- what is the generator's own, seen from its caller -/
structure OwC (dk : Dk) (own F : Addr → Prop) (G : Nat → Addr → Prop) (H0 : Hp) : Prop where
  c1 : ∀ b, own b → F b
  c2 : ∀ i b, own b → ¬ G i b
  c3 : ∀ b, own b → H0 b = none
  c4 : ∀ b, own b → b ≠ dk.1 ∧ b ≠ dk.2
section
variable {W : Wd} {Xc X : Cx} {pins : List (Addr × Obj)} {σc σ : L2.St} {H H0 Hy : Hp} {F F0 Fy own : Addr → Prop} {G Gy : Nat → Addr → Prop} {cp : Cps} {enc en : En} {d : D} {dk : Dk} {a : Addr} {gy : Gh} {s sy : Shared}
/-- it wakes -/
theorem slp_wake (rel : GRel Xc X pins) (I : L2.Inv Xc pins σc H s) (R : StR' W dk F0 H0 cp F G σc H enc d) (c4 : ∀ b, own b → b ≠ dk.1 ∧ b ≠ dk.2) (S : SlpD W X dk en σ a own H F gy Hy Fy Gy sy) :
    GSt W X dk (wg X a own Gy H F d s) en σ (hid X H) s := by
  have rawS : ∀ b, (fcs X b ∨ b = a) → ∃ o, sy.heap.get? b = some o ∧ s.heap.get? b = some o := fun b hb => by
    obtain ⟨o, e1, e2⟩ := S.raw b hb
    exact ⟨o, e1, (I.hok b _ e2).1⟩
  have hL : X.env.locals < s.heap.objs.size := by
    obtain ⟨o, _, e⟩ := rawS X.env.locals (.inl (.inl rfl))
    exact Heap.lt_size e
  have tr : ∀ b o, fcs X b → sy.heap.get? b = some o → s.heap.get? b = some o := fun b o hb e => by
    obtain ⟨o', e1, e2⟩ := rawS b (.inl hb)
    rw [e] at e1
    cases e1
    exact e2
  have lt : ∀ b, fcs X b → X.env.locals ≤ b := fun b hb => by
    rcases hb with rfl | ⟨x, hx⟩
    · exact Nat.le_refl _
    · exact Nat.le_of_lt (rel.cl x b hx)
  have hidK : ∀ c o, H c = some o → (∀ φ, o ≠ .ext φ) → hid X H c = some o := fun c o e ne => by
    rw [hid_yes]
    · exact e
    · intro hc
      obtain ⟨o', _, e2⟩ := S.raw c (.inl hc)
      rw [e] at e2
      cases e2
      exact ne _ rfl
  have ok := S.I.ok
  have okb : X.base.objs.size ≤ X.env.locals := Nat.le_trans ok.bsz ok.above
  have fsx : ∀ b ∈ frs X.outer, b < X.env.locals := fun b hb => by
    obtain ⟨_, o, e, _⟩ := ok.funs.mem hb
    exact Nat.lt_of_lt_of_le (Heap.lt_size e) ok.above
  have funs : (trunc X.env.locals s.heap).FunFrames X.base X.outer := by
    have q : s.heap.FunFrames X.base X.outer := by rw [rel.base, rel.outer]; exact I.stack
    have all : ∀ (l : List Env), (∀ b ∈ frs l, b < X.env.locals) → s.heap.FunFrames X.base l → (trunc X.env.locals s.heap).FunFrames X.base l := by
      intro l
      induction l with
      | nil => intro _ _; trivial
      | cons env r ih =>
        intro hs hl
        obtain ⟨hk, ⟨L, o, hf, hn, ho, hd⟩, hr⟩ := hl
        have hLm : L < X.env.locals := hs L (by unfold frs; rw [List.filterMap_cons, hf]; exact List.mem_cons_self)
        exact ⟨hk, ⟨L, o, hf, hn, by rw [trunc_get hLm]; exact ho, hd⟩, ih (fun b hb => hs b (by unfold frs; rw [List.filterMap_cons, hf]; exact List.mem_cons_of_mem _ hb)) hr⟩
    exact all X.outer fsx q
  refine ⟨⟨⟨ok.mod, ok.kind, ok.glob, ok.blt, ?_, ok.inj, ok.has, ?_, ok.hd, ok.frames, ok.stk, ok.exf, ?_, ?_, ok.noex, ok.exfs, funs, ?_⟩, rfl, I.bare, ?_, ?_, ?_, ?_, ?_, ?_, ?_, S.I.len⟩, ?_⟩
  · show (trunc X.env.locals s.heap).objs.size ≤ X.env.locals
    rw [trunc_size (Nat.le_of_lt hL)]
    exact Nat.le_refl _
  · intro x c _ hc
    show (trunc X.env.locals s.heap).objs.size ≤ c
    rw [trunc_size (Nat.le_of_lt hL)]
    exact Nat.le_of_lt (rel.cl x c hc)
  · intro b o e
    have e' : Xc.base.get? b = some o := by rw [← rel.base]; exact e
    obtain ⟨q1, q2⟩ := I.bs b o e'
    have hb : b < X.env.locals := Nat.lt_of_lt_of_le (Heap.lt_size e) okb
    refine ⟨by show (trunc X.env.locals s.heap).get? b = some o; rw [trunc_get hb]; exact q1, ?_⟩
    show hid X H b = none
    rw [hid_yes (fun z => absurd (lt b z) (Nat.not_le_of_lt hb))]
    exact q2
  · show X.base.objs.size ≤ (trunc X.env.locals s.heap).objs.size
    rw [trunc_size (Nat.le_of_lt hL)]
    exact okb
  · intro b hb
    show hid X H b = none
    have q := I.stkFree b (by rw [← rel.outer]; exact hb)
    rw [hid_yes (fun z => absurd (lt b z) (Nat.not_le_of_lt (fsx b hb)))]
    exact q
  · refine ⟨fun b o e _ _ _ => (trunc_some e).2, fun b o e _ _ _ => ⟨o.slots, (trunc_some e).2⟩, fun b o e n _ => n, fun b o e _ => ⟨o, (trunc_some e).2⟩, fun _ _ q => q, fun _ _ _ q => q, fun b ps q => ⟨#[], by show hid X H b = _; rw [show hid X H b = _ from q]; simp⟩⟩
  · obtain ⟨m, hn, hl⟩ := S.I.loc
    refine ⟨m, hn.at' fun o e => tr _ o (.inl rfl) e, fun i x v e1 e2 e3 => ?_⟩
    obtain ⟨u, r, q⟩ := hl i x v e1 e2 e3
    refine ⟨u, r, ?_⟩
    rcases q with q | ⟨k, c, e, o, z1, z2⟩
    · exact .inl q
    · exact .inr ⟨k, c, e, o, tr c o (.inr ⟨x, e⟩) z1, z2⟩
  · intro x c e
    obtain ⟨v, o, z1, z2⟩ := S.I.cell x c e
    exact ⟨v, o, tr c o (.inr ⟨x, e⟩) z1, z2⟩
  · exact hid_no (.inl rfl)
  · exact fun x c e => hid_no (.inr ⟨x, e⟩)
  · intro p hp
    rw [show (X.at _ _).pn = X.pn from rfl, rel.pn] at hp
    cases hp
  · intro b o e
    obtain ⟨h1, h2⟩ := hid_some (show hid X H b = some o from e)
    have q := I.hok b o h2
    rw [← rel.prog, ← rel.w] at q
    exact q.stay (fun _ _ _ z => z) (fun c z => hidK c _ z fun _ z => nomatch z) fun c xs z => hidK c _ z fun _ z => nomatch z
  · have gown : ∀ i b, Gy i b → own b := fun i b z => (S.own b).mpr (.inl ⟨i, z⟩)
    have fown : ∀ b, fcs X b → own b := fun b z => (S.own b).mpr (.inr (.inl z))
    have nf : ∀ b o, Hy b = some o → ¬ fcs X b := fun b o e z => by
      rcases z with rfl | ⟨x, hx⟩
      · have := S.I.free
        rw [show Hy X.env.locals = none from this] at e
        cases e
      · rw [S.I.freeC x b hx] at e
        cases e
    have up : ∀ b o, ¬ Fy b → Hy b = some o → hid X H b = some o ∧ ¬ (((F b ∧ ¬ own b) ∨ b = a) ∨ ∃ i, Gy i b) := fun b o n e => by
      obtain ⟨h1, h2⟩ := S.vis b o n e
      exact ⟨by rw [hid_yes (nf b o e)]; exact h1, fun z => z.elim (fun y => y.elim h2 fun y => n (y ▸ S.fa)) fun ⟨i, g⟩ => n (S.R.s.gf i b g)⟩
    have aH : hid X H a ≠ none := by
      obtain ⟨o, _, q⟩ := S.raw a (.inr rfl)
      rw [hid_yes S.na, q]
      exact fun z => nomatch z
    refine ⟨fun b => ((F b ∧ ¬ own b) ∨ b = a) ∨ ∃ i, Gy i b, Gy, ⟨S.R.s.len, fun i t e => ?_, fun i o e => ?_, S.R.s.sep, fun i b z => .inr ⟨i, z⟩, S.R.s.gd, fun b z => ?_, .inl (.inl ⟨R.s.fd1, fun z => (c4 _ z).1 rfl⟩), .inl (.inl ⟨R.s.fd2, fun z => (c4 _ z).2 rfl⟩), ?_⟩, fun b z => .inl z, fun i b z => ?_, fun b o e _ _ => ?_, (fun c hc => nomatch hc), fun b z => ?_⟩
    · obtain ⟨v, h1, h2⟩ := S.R.s.val i t e
      exact ⟨v, h1, Rep.mono up t v h2⟩
    · obtain ⟨p, h1, h2, h3⟩ := S.R.s.own i o e
      exact ⟨p, h1, h2, OwnR.mono up (fun b o' g e' => ⟨by rw [hid_yes (nf b o' e')]; exact S.obj i b o' g e', g⟩) h2 h3⟩
    · rcases z with (⟨z1, z2⟩ | rfl) | ⟨i, g⟩
      · rw [hid_yes (fun y => z2 (fown b y))]
        exact R.s.fh b z1
      · exact aH
      · cases e : Hy b with
        | none => exact absurd e (S.R.s.fh b (S.R.s.gf i b g))
        | some o =>
          rw [hid_yes (nf b o e), S.obj i b o g e]
          exact fun z => nomatch z
    · obtain ⟨q1, q2, q3⟩ := R.s.deck
      exact ⟨q1, by rw [hid_yes (fun y => (c4 _ (fown _ y)).2 rfl)]; exact q2, by rw [hid_yes (fun y => (c4 _ (fown _ y)).1 rfl)]; exact q3⟩
    · exact if_pos ⟨i, z⟩
    · unfold wg at e
      dsimp only at e
      split at e
      · cases e
      · exact e
    · unfold wg
      dsimp only
      rcases z with z | rfl
      · rw [if_neg (fun ⟨i, g⟩ => z.2 (gown i b g)), hid_yes (fun y => z.2 (fown b y))]
        exact R.s.fh b z.1
      · rw [if_neg (fun ⟨i, g⟩ => S.ng i g)]
        exact aH
open Classical in
/-- the caller's heap at a stop -/
noncomputable def shw (X : Cx) (s : Shared) (Hy : Hp) : Hp := fun b => if fcs X b then (s.heap.get? b).map fun o => HO.ext fun h => h.get? b = some o else Hy b
theorem shw_no {X : Cx} {s : Shared} {H : Hp} {b : Addr} (h : ¬ fcs X b) : shw X s H b = H b := if_neg h
theorem shw_yes {X : Cx} {s : Shared} {H : Hp} {b : Addr} {o : Obj} (h : fcs X b) (e : s.heap.get? b = some o) : shw X s H b = some (.ext fun h => h.get? b = some o) := by
  unfold shw
  rw [if_pos h, e]
  rfl
/-- it stops: what its caller has then -/
theorem slp_back {en2 : En} {σ2 : L2.St} {Hy2 : Hp} {F2 : Addr → Prop} {G2 : Nat → Addr → Prop} {s2 : Shared} {oa : Obj} (rel : GRel Xc X pins) (I : L2.Inv Xc pins σc H s) (R : StR' W dk F0 H0 cp F G σc H enc d) (C : OwC dk own F G H0)
    (hx : ∀ b, fcs X b → (own b ∧ ∃ φ, H b = some (.ext φ)) ∨ H b = none) (hA : own a ∨ H a = none) (na : ¬ fcs X a) (hHa : ∀ i, ¬ G2 i a)
    {g : Gh} (e1 : g.s0 = { s with heap := trunc X.env.locals s.heap }) (e2 : g.Hb = hid X H) (e3 : ∀ b, F b → ¬ own b → g.F0 b) (gf : ∀ b, ¬ own b → ∀ o, H b = some o → g.H0 b = some o) (e5 : g.d = d) (e6 : g.F0 a)
    (I2 : L2.Inv (X.at g.s0 g.Hb) [] σ2 Hy2 s2) (R2 : StR' W dk g.F0 g.H0 [] F2 G2 σ2 Hy2 en2 g.d) (ha : Hy2 a = some (.ext fun h => h.get? a = some oa)) :
    ∃ own2, L2.Inv Xc pins σc (shw X s2 Hy2) s2 ∧ StR' W dk F0 H0 cp (fun b => (F b ∧ ¬ own b) ∨ own2 b) G σc (shw X s2 Hy2) enc d ∧ OwC dk own2 (fun b => (F b ∧ ¬ own b) ∨ own2 b) G H0 ∧
      SlpD W X dk en2 σ2 a own2 (shw X s2 Hy2) (fun b => (F b ∧ ¬ own b) ∨ own2 b) g Hy2 F2 G2 s2 ∧ (∀ t x, Rep W Hy2 F2 dk t x → Rep W (shw X s2 Hy2) (fun b => (F b ∧ ¬ own b) ∨ own2 b) dk t x) ∧
      ∀ b o, H b = some o → ¬ own b → b ≠ dk.1 → b ≠ dk.2 → shw X s2 Hy2 b = some o ∧ ¬ own2 b ∧ (F b ↔ (F b ∧ ¬ own b) ∨ own2 b) := by
  obtain ⟨gs0, gHb, gF0, gH0, gd⟩ := g
  dsimp only at e1 e2 e3 gf e5 e6 I2 R2 ⊢
  subst e1 e2 e5
  have lt : ∀ b, fcs X b → X.env.locals ≤ b := fun b hb => by
    rcases hb with rfl | ⟨x, hx⟩
    · exact Nat.le_refl _
    · exact Nat.le_of_lt (rel.cl x b hx)
  have there : ∀ b, fcs X b → ∃ o, s2.heap.get? b = some o := fun b hb => by
    rcases hb with hb | ⟨x, hx⟩
    · subst hb
      obtain ⟨m, ⟨o, _, _, e, _⟩, _⟩ := I2.loc
      exact ⟨o, e⟩
    · obtain ⟨v, o, e, _⟩ := I2.cell x b hx
      exact ⟨o, e⟩
  have nf : ∀ b o, Hy2 b = some o → ¬ fcs X b := fun b o e z => by
    rcases z with rfl | ⟨x, hx⟩
    · have := I2.free
      rw [show Hy2 X.env.locals = none from this] at e
      cases e
    · rw [I2.freeC x b hx] at e
      cases e
  have hidK : ∀ c o, H c = some o → (∀ φ, o ≠ .ext φ) → hid X H c = some o := fun c o e ne => by
    rw [hid_yes]
    · exact e
    · intro hc
      rcases hx c hc with ⟨_, φ, q⟩ | q
      · rw [e] at q
        cases q
        exact ne φ rfl
      · rw [e] at q
        cases q
  have shK : ∀ c o, Hy2 c = some o → shw X s2 Hy2 c = some o := fun c o e => by rw [shw_no (nf c o e)]; exact e
  have fown : ∀ b o, fcs X b → H b = some o → own b := fun b o hb e => by
    rcases hx b hb with q | q
    · exact q.1
    · rw [e] at q
      cases q
  have dkF : ∀ b, ¬ F b → b ≠ dk.1 ∧ b ≠ dk.2 := fun b n => ⟨fun z => n (z ▸ R.s.fd1), fun z => n (z ▸ R.s.fd2)⟩
  -- what is not the generator's own stays
  have st : ∀ b o, ¬ own b → H b = some o → b ≠ dk.1 → b ≠ dk.2 → Hy2 b = some o := fun b o n e n1 n2 => R2.kp b o (gf b n o e) n1 n2
  have g2n : ∀ i b, G2 i b → own b ∨ H b = none := fun i b g => by
    rcases Classical.em (own b) with z | z
    · exact .inl z
    · refine .inr ?_
      cases e : H b with
      | none => rfl
      | some o =>
        have := R2.g0 i b g
        rw [gf b z o e] at this
        cases this
  have unF : ∀ b, H b = none → b ≠ dk.1 ∧ b ≠ dk.2 := fun b e => by
    obtain ⟨_, q2, q3⟩ := R.s.deck
    exact ⟨fun z => (by rw [z, q3] at e; cases e), fun z => (by rw [z, q2] at e; cases e)⟩
  have own2n : ∀ b, ((∃ i, G2 i b) ∨ fcs X b ∨ b = a) → own b ∨ H b = none := fun b z => by
    rcases z with ⟨i, g⟩ | z | rfl
    · exact g2n i b g
    · rcases hx b z with q | q
      · exact .inl q.1
      · exact .inr q
    · exact hA
  refine ⟨fun b => (∃ i, G2 i b) ∨ fcs X b ∨ b = a, ?_, ?_, ?_, ?_, ?_, fun b o e n n1 n2 => ⟨shK b o (st b o n e n1 n2), fun z => (own2n b z).elim n fun y => (by rw [e] at y; cases y), fun z => .inl ⟨z, n⟩, fun z => z.elim (fun y => y.1) fun y => (own2n b y).elim (fun q => absurd q n) fun q => (by rw [e] at q; cases q)⟩⟩
  · refine I.call' (ch := (List.range s.heap.objs.size).filter fun b => decide (X.env.locals ≤ b)) I2.os ?_ ?_ I2.bare ?_
    · have low : ∀ b o, s.heap.get? b = some o → b ∉ (List.range s.heap.objs.size).filter (fun b => decide (X.env.locals ≤ b)) → b < X.env.locals := fun b o e n => by
        have q : b < s.heap.objs.size := Heap.lt_size e
        refine Nat.lt_of_not_le fun z => n ?_
        exact List.mem_filter.mpr ⟨List.mem_range.mpr q, by simpa using z⟩
      have hb0 : ∀ b, b < X.env.locals → H b = none → hid X H b = none := fun b hb e => by
        rw [hid_yes (fun z => absurd (lt b z) (Nat.not_le_of_lt hb))]
        exact e
      have g0 : ∀ b o, b < X.env.locals → s.heap.get? b = some o → (trunc X.env.locals s.heap).get? b = some o := fun b o hb e => by rw [trunc_get hb]; exact e
      have nex : ∀ b, b ∉ X.ex := fun b z => by
        rw [rel.ex] at z
        cases z
      have B : Un (frs X.outer) X.ex (hid X H) Hy2 (trunc X.env.locals s.heap) s2.heap := I2.base
      rw [rel.outer] at B
      refine ⟨fun b o e n hf hc => ?_, fun b o e n hf hc => ?_, fun b o e n hc => ?_, fun b o e hc => ?_, fun b xs e => ?_, fun b o u e => ?_, fun b ps e => ?_⟩
      · have hb := low b o e hc
        exact B.keep b o (g0 b o hb e) (hb0 b hb n) hf (nex b)
      · have hb := low b o e hc
        exact B.slot b o (g0 b o hb e) (hb0 b hb n) hf (nex b)
      · have hb := low b o e hc
        rw [shw_no (fun z => absurd (lt b z) (Nat.not_le_of_lt hb))]
        exact B.free b o (g0 b o hb e) (hb0 b hb n) (nex b)
      · have hb := low b o e hc
        exact B.there b o (g0 b o hb e) (nex b)
      · exact shK b _ (B.tups b xs (hidK b _ e fun _ z => nomatch z))
      · exact shK b _ (B.frzs b o u (hidK b _ e fun _ z => nomatch z))
      · obtain ⟨more, q⟩ := B.tbls b ps (hidK b _ e fun _ z => nomatch z)
        exact ⟨more, shK b _ q⟩
    · intro b o e
      rcases Classical.em (fcs X b) with hb | hb
      · obtain ⟨ob, q⟩ := there b hb
        rw [shw_yes hb q] at e
        cases e
        exact ⟨q, ⟨ob, q⟩, fun h1 h2 e1 k => k ob e1⟩
      · rw [shw_no hb] at e
        have q := I2.hok b o e
        rw [show (X.at _ _).prog = Xc.prog from rel.prog, show (X.at _ _).w = Xc.w from rel.w] at q
        exact q.stay (fun _ _ _ z => z) (fun c z => shK c _ z) fun c xs z => shK c _ z
    · intro b hb
      have hb : X.env.locals ≤ b := by simpa using (List.mem_filter.mp hb).2
      exact ⟨.inr (Nat.le_trans rel.b0 hb), Nat.ne_of_gt (Nat.lt_of_lt_of_le rel.b1 hb), fun x c e => Nat.ne_of_lt (Nat.lt_of_lt_of_le (rel.b2 x c e) hb), fun p hp => Nat.ne_of_lt (Nat.lt_of_lt_of_le (rel.b3 p hp) hb)⟩
  · have up : ∀ b o, ¬ F b → H b = some o → shw X s2 Hy2 b = some o ∧ ¬ ((F b ∧ ¬ own b) ∨ ((∃ i, G2 i b) ∨ fcs X b ∨ b = a)) := fun b o n e => by
      have no : ¬ own b := fun z => n (C.c1 b z)
      refine ⟨shK b o (st b o no e (dkF b n).1 (dkF b n).2), fun z => z.elim (fun y => n y.1) fun y => (own2n b y).elim no fun y => by rw [e] at y; cases y⟩
    have upG : ∀ i b o, G i b → H b = some o → shw X s2 Hy2 b = some o := fun i b o g e => shK b o (st b o (fun z => C.c2 i b z g) e (R.s.gd i b g).1 (R.s.gd i b g).2)
    refine ⟨⟨R.s.len, fun i t e => ?_, fun i o e => ?_, R.s.sep, fun i b z => .inl ⟨R.s.gf i b z, fun y => C.c2 i b y z⟩, R.s.gd, fun b z => ?_, .inl ⟨R.s.fd1, fun z => (C.c4 _ z).1 rfl⟩, .inl ⟨R.s.fd2, fun z => (C.c4 _ z).2 rfl⟩, ?_⟩, fun b z => ?_, R.g0, fun b o e n1 n2 => ?_, fun c hc b o h n => ?_, R.fz⟩
    · obtain ⟨v, h1, h2⟩ := R.s.val i t e
      exact ⟨v, h1, Rep.mono up t v h2⟩
    · obtain ⟨p, h1, h2, h3⟩ := R.s.own i o e
      exact ⟨p, h1, h2, OwnR.mono up (fun b o' g e' => ⟨upG i b o' g e', g⟩) h2 h3⟩
    · have fromHy : ∀ b, Hy2 b ≠ none → shw X s2 Hy2 b ≠ none := fun b q => by
        cases e : Hy2 b with
        | none => exact absurd e q
        | some o => rw [shK b o e]; exact fun z => nomatch z
      rcases z with z | ⟨i, g⟩ | z | z
      · exact fromHy b (R2.s.fh b (R2.ff b (e3 b z.1 z.2)))
      · exact fromHy b (R2.s.fh b (R2.s.gf i b g))
      · obtain ⟨o, q⟩ := there b z
        rw [shw_yes z q]
        exact fun z => nomatch z
      · rw [z, shK a _ ha]
        exact fun z => nomatch z
    · obtain ⟨q1, q2, q3⟩ := R2.s.deck
      exact ⟨q1, shK _ _ q2, shK _ _ q3⟩
    · exact .inl ⟨R.ff b z, fun y => R.fz b z (C.c3 b y)⟩
    · have hH := R.kp b o e n1 n2
      exact shK b o (st b o (fun z => by rw [C.c3 b z] at e; cases e) hH n1 n2)
    · obtain ⟨h1, h2⟩ := R.vs c hc b o h n
      exact up b o h2 h1
  · refine ⟨fun b z => .inr z, fun i b z g => ?_, fun b z => ?_, fun b z => ?_⟩
    · rcases own2n b z with q | q
      · exact C.c2 i b q g
      · exact R.s.fh b (R.s.gf i b g) q
    · rcases own2n b z with q | q
      · exact C.c3 b q
      · cases e : H0 b with
        | none => rfl
        | some o =>
          rw [R.kp b o e (unF b q).1 (unF b q).2] at q
          cases q
    · rcases own2n b z with q | q
      · exact C.c4 b q
      · exact unF b q
  · refine ⟨I2, R2, fun b o n e => ⟨shK b o e, fun z => ?_⟩, fun i b o g e => shK b o e, fun b => Iff.rfl, fun b hb => ?_, hHa, na, R2.ff a e6⟩
    · rcases z with ⟨z | z, z2⟩
      · exact n (R2.ff b (e3 b z.1 z.2))
      · exact z2 z
    · rcases hb with hb | rfl
      · obtain ⟨o, q⟩ := there b hb
        exact ⟨o, q, shw_yes hb q⟩
      · exact ⟨oa, (I2.hok b _ ha).1, shK b _ ha⟩
  · intro t x r
    refine Rep.mono (fun b o n e => ⟨shK b o e, fun z => ?_⟩) t x r
    rcases z with z | ⟨i, g⟩ | z | z
    · exact n (R2.ff b (e3 b z.1 z.2))
    · exact n (R2.s.gf i b g)
    · exact nf b o e z
    · exact n (z ▸ R2.ff a e6)
end
end TL
/-! GZe: next; a loop over a generator. -/
namespace TL
open PySem PySem.Spec PyProof.Rows L2 GZ GenW
def GoS (M : Model) (A : Around) (Phi : End → Shared → Prop) (gs : GenState) (s : Shared) : Prop := match gs with
  | .fresh c => Sg M A Phi c (M.den c) [] s
  | .suspended k _ c _ fs _ => Sg M A Phi c (k (.send .none)) fs s
  | _ => False
theorem wpAny_resumeS {M : Model} {A : Around} {Phi : End → Shared → Prop} {E : Value → Shared → Prop} {s : Shared} {g : Nat} {gs : GenState} {l : List Value} {α : Type} {k : GenResult → Sem α} {Q : α → Shared → Prop} (hg : s.gens[g]? = some gs)
    (hgo : GoS M A Phi gs (s.setGen g .running)) (hq : ∀ e s₁, Phi e s₁ → e.quiet = true) (h : ∀ e s₁, Phi e s₁ → wpAny M A (k e.result) Q E (s₁.setGen g e.genState)) : wpAny M A (.resume g (.send .none) l k) Q E s := by
  intro Γ p hΓ
  rw [Sem.wp_resume]
  cases gs with
  | fresh c =>
    obtain ⟨e₁, s₁, hr, he⟩ := hgo (Γ.wake c p) p rfl (hΓ.wake c p)
    exact ⟨_, _, by unfold Wakes; rw [hg]; exact ⟨e₁, s₁, hr, hq e₁ s₁ he, rfl, rfl⟩, h e₁ s₁ he Γ p hΓ⟩
  | suspended k₀ l₀ c₀ p₀ fs₀ cl =>
    obtain ⟨e₁, s₁, hr, he⟩ := hgo (Γ.wake c₀ p) p₀ rfl (hΓ.wake c₀ p)
    exact ⟨_, _, by unfold Wakes; rw [hg]; exact ⟨e₁, s₁, hr, hq e₁ s₁ he, rfl, rfl⟩, h e₁ s₁ he Γ p hΓ⟩
  | running => exact hgo.elim
  | finished => exact hgo.elim
theorem next_genS {P : Program} {w : World} {A : Around} {E : Value → Shared → Prop} {s : Shared} {a : Addr} {g : Nat} {gs : GenState} {Phi : End → Shared → Prop} {Q : Option Value → Shared → Prop} (hh : A.handled = none)
    (hl : s.heap.NoLimit) (hroom : A.depth < recursionLimit) (hg : s.heap.IsGen a g) (hgs : s.gens[g]? = some gs) (hgo : GoS (model P w) A.in1 Phi gs (s.setGen g .running))
    (hC : ∀ e s₁, Phi e s₁ → e = .ret (.ok (.ret .none)) ∨ ∃ v l k c p fs, e = .susp v false l k c p fs ∧ fs.any Frame.guarded = false)
    (hY : ∀ v l k c p fs s₁, Phi (.susp v false l k c p fs) s₁ → Q (some v) (s₁.setGen g (.suspended k l c p fs false)))
    (hP : ∀ s₁, Phi (.ret (.ok (.ret .none))) s₁ → ∀ h', (∀ b o, s₁.heap.get? b = some o → h'.get? b = some o) → Q none { s₁.setGen g .finished with heap := h' }) :
    wpAny (model P w) A (pyNext (.ref a)) Q E s := by
  unfold pyNext
  refine wpAny_bind (wpAny_attempt (wpAny_callSpecial?_slot (name := Str.ofString "__next__") hg.typeIs slot_gen_next
    (wpAny_call_entry slot_gen_next hg.typeIs entry_gen_next ?_ (args_gen_next _))))
  show wpAny _ A.in1 (Builtin.Generator.genWake (.ref a) (.send .none)) _ _ s
  unfold Builtin.Generator.genWake
  refine wpAny_bind (wpAny_holding (wpAny_genNumber hg (wpAny_bind (wpAny_genState hgs ?_))))
  cases gs with
  | running => exact hgo.elim
  | finished => exact hgo.elim
  | _ =>
    refine wpAny_bind (wpAny_roomToWake hl hroom ?_)
    show wpAny _ A.in1 (.resume g (.send .none) [] _) _ _ s
    refine wpAny_resumeS hgs hgo (fun e s₁ he => ?_) (fun e s₁ he => ?_)
    · rcases hC e s₁ he with rfl | ⟨v, l, k, c, p, fs, rfl, hq⟩
      · rfl
      · show (!(false || fs.any Frame.guarded)) = true
        rw [hq]
        rfl
    · rcases hC e s₁ he with rfl | ⟨v, l, k, c, p, fs, rfl, hq⟩
      · show wpAny _ A.in1 (newExc (.type "StopIteration") [] >>= _) _ _ _
        refine wpAny_bind ?_
        simp only [newExc, newTuple]
        refine wpAny_bind (wpAny_newObj_type ?_ (by size_fits))
        refine wpAny_bind (m := firstArgMember _ _) (wpAny_of_eq (a := Value.none) (by first | rfl | (simp only [firstArgMember]; rfl)) ?_)
        refine wpAny_newObj_type ?_ (by size_fits)
        simp only [raiseNew]
        refine wpAny_bind (wpAny_bind (wpAny_handled ?_))
        first | rw [show A.in1.handled = none from hh] | rw [hh]
        refine wpAny_throw ?_
        refine wpAny_bind (wpAny_isInstance (T := "StopIteration") (b := true) ⟨_, Heap.get?_push_size _ rfl, rfl⟩ isSubtype_stop ?_)
        exact wpAny_pure (hP s₁ he _ fun b o hb => Heap.get?_push_of_some _ (Heap.get?_push_of_some _ hb))
      · have q := hY v l k c p fs s₁ he
        have e : (End.susp v false l k c p fs).genState = .suspended k l c p fs false := by
          show GenState.suspended k l c p fs (false || fs.any Frame.guarded) = _
          rw [hq]
          rfl
        rw [e]
        exact wpAny_pure ⟨v, rfl, wpAny_pure q⟩
/-- woken, it hands out l and ends -/
def Awk (W : Wd) (X : Cx) (dk : Dk) (A : Around) (fin : Bool) (l : List T) (en : En) (σ : L2.St) (gs : GenState) : Prop := ∀ g H s, GSt W X dk g en σ H s → GoS (model X.prog X.w) A (GP W X dk A fin l g) gs s
/-- the caller, the generator asleep: l is still to come -/
def LpG (W : Wd) (Xc : Cx) (B : Around) (pins : List (Addr × Obj)) (dk : Dk) (F0 : Addr → Prop) (H0 : Hp) (cp : Cps) (a : Addr) (gn : Nat) (fin : Bool) (l : List T) (F : Addr → Prop) (G : Nat → Addr → Prop) (own : Addr → Prop) (σ : L2.St) (H : Hp) (en : En) (d : D) (s : Shared) : Prop :=
  ∃ X eng σg gy Hy Fy Gy sy gs, GRel Xc X pins ∧ L2.Inv Xc pins σ H s ∧ StR' W dk F0 H0 cp F G σ H en d ∧ OwC dk own F G H0 ∧ SlpD W X dk eng σg a own H F gy Hy Fy Gy sy ∧ sy.heap.IsGen a gn ∧ s.gens[gn]? = some gs ∧
    ((l = [] → fin = true) → Awk W X dk B fin l eng σg gs)
section
variable {W : Wd} {Xc : Cx} {A : Around} {pins : List (Addr × Obj)} {dk : Dk} {F0 F own : Addr → Prop} {G : Nat → Addr → Prop} {B : Around} {H0 : Hp} {cp : Cps} {a : Addr} {gn : Nat} {fin : Bool} {l : List T} {σ : L2.St} {H : Hp} {en : En} {d : D} {s : Shared}
theorem LpG.inv (L : LpG W Xc B pins dk F0 H0 cp a gn fin l F G own σ H en d s) : L2.Inv Xc pins σ H s ∧ StR W dk F0 H0 cp σ H en d := by
  obtain ⟨X, eng, σg, gy, Hy, Fy, Gy, sy, gs, rel, I, R, C, S, hg, hgs, hw⟩ := L
  exact ⟨I, F, G, R⟩
theorem LpG.gen (L : LpG W Xc B pins dk F0 H0 cp a gn fin l F G own σ H en d s) : s.heap.IsGen a gn := by
  obtain ⟨X, eng, σg, gy, Hy, Fy, Gy, sy, gs, rel, I, R, C, S, hg, hgs, hw⟩ := L
  obtain ⟨o, nm, qn, ho, r⟩ := hg
  obtain ⟨o', e1, e2⟩ := S.raw a (.inr rfl)
  rw [ho] at e1
  cases e1
  exact ⟨o, nm, qn, (I.hok a _ e2).1, r⟩
/-- one turn -/
theorem LpG.next {E : Value → Shared → Prop} {Q : Option Value → Shared → Prop} (hB : A.in1 = B) (hh : A.handled = none) (hroom : A.depth < recursionLimit) (hfin : l = [] → fin = true) (L : LpG W Xc B pins dk F0 H0 cp a gn fin l F G own σ H en d s)
    (hN : ∀ t rest v x F' own' H' s', l = t :: rest → LpG W Xc B pins dk F0 H0 cp a gn fin rest F' G own' σ H' en d s' → RelV x v → Rep W H' F' dk t x → (∃ gs, s'.gens[gn]? = some gs ∧ slp gs = some gs) →
      (∀ b o, H b = some o → ¬ own b → b ≠ dk.1 → b ≠ dk.2 → H' b = some o ∧ ¬ own' b ∧ (F b ↔ F' b)) → Q (some v) s')
    (hZ : ∀ F' H' s', l = [] → L2.Inv Xc pins σ H' s' → StR' W dk F0 H0 cp F' G σ H' en d → (∀ b o, H b = some o → ¬ own b → b ≠ dk.1 → b ≠ dk.2 → H' b = some o ∧ (F b ↔ F' b)) → Q none s') : wpAny (model Xc.prog Xc.w) A (pyNext (.ref a)) Q E s := by
  subst hB
  have hgen := L.gen
  obtain ⟨X, eng, σg, gy, Hy, Fy, Gy, sy, gs, rel, I, R, C, S, hg, hgs, hw⟩ := L
  have Ir : L2.Inv Xc pins σ H (s.setGen gn .running) := I.gens (allBare_setGen I.bare rfl)
  have wake := slp_wake rel Ir R C.c4 S
  have go := hw hfin _ _ _ wake
  rw [rel.prog, rel.w] at go
  obtain ⟨oa, hoa, hHa⟩ := S.raw a (.inr rfl)
  have back : ∀ {en2 : En} {σ2 : L2.St} {Hy2 : Hp} {F2 : Addr → Prop} {G2 : Nat → Addr → Prop} {s2 : Shared}, L2.Inv (X.at (wg X a own Gy H F d (s.setGen gn .running)).s0 (wg X a own Gy H F d (s.setGen gn .running)).Hb) [] σ2 Hy2 s2 →
      StR' W dk (wg X a own Gy H F d (s.setGen gn .running)).F0 (wg X a own Gy H F d (s.setGen gn .running)).H0 [] F2 G2 σ2 Hy2 en2 (wg X a own Gy H F d (s.setGen gn .running)).d →
      ∃ own2, L2.Inv Xc pins σ (shw X s2 Hy2) s2 ∧ StR' W dk F0 H0 cp (fun b => (F b ∧ ¬ own b) ∨ own2 b) G σ (shw X s2 Hy2) en d ∧ OwC dk own2 (fun b => (F b ∧ ¬ own b) ∨ own2 b) G H0 ∧
      SlpD W X dk en2 σ2 a own2 (shw X s2 Hy2) (fun b => (F b ∧ ¬ own b) ∨ own2 b) (wg X a own Gy H F d (s.setGen gn .running)) Hy2 F2 G2 s2 ∧ (∀ t x, Rep W Hy2 F2 dk t x → Rep W (shw X s2 Hy2) (fun b => (F b ∧ ¬ own b) ∨ own2 b) dk t x) ∧ s2.heap.IsGen a gn ∧ ∀ b o, H b = some o → ¬ own b → b ≠ dk.1 → b ≠ dk.2 → shw X s2 Hy2 b = some o ∧ ¬ own2 b ∧ (F b ↔ (F b ∧ ¬ own b) ∨ own2 b) := fun {en2 σ2 Hy2 F2 G2 s2} I2 R2 => by
    have hW0 : (wg X a own Gy H F d (s.setGen gn .running)).H0 a = some (.ext fun h => h.get? a = some oa) := by
      unfold wg
      dsimp only
      rw [if_neg (fun ⟨i, g⟩ => S.ng i g), hid_yes S.na]
      exact hHa
    have na1 : a ≠ dk.1 ∧ a ≠ dk.2 := C.c4 a ((S.own a).mpr (.inr (.inr rfl)))
    have ha2 : Hy2 a = some (.ext fun h => h.get? a = some oa) := R2.kp a _ hW0 na1.1 na1.2
    obtain ⟨own2, q1, q2, q3, q4, q5, q7⟩ := slp_back (oa := oa) rel Ir R C (fun b hb => by
      obtain ⟨o, _, e⟩ := S.raw b (.inl hb)
      exact .inl ⟨(S.own b).mpr (.inr (.inl hb)), _, e⟩) (.inl ((S.own a).mpr (.inr (.inr rfl)))) S.na (fun i g => by
        have := R2.g0 i a g
        rw [hW0] at this
        cases this) (g := wg X a own Gy H F d (s.setGen gn .running)) rfl rfl (fun b z n => Or.inl ⟨z, n⟩) (fun b n o e => by
        unfold wg
        dsimp only
        rw [if_neg (fun ⟨i, g⟩ => n ((S.own b).mpr (.inl ⟨i, g⟩))), hid_yes (fun y => n ((S.own b).mpr (.inr (.inl y))))]
        exact e) rfl (Or.inr rfl) I2 R2 ha2
    refine ⟨own2, q1, q2, q3, q4, q5, ?_, q7⟩
    obtain ⟨o, nm, qn, ho, r⟩ := hg
    rw [ho] at hoa
    cases hoa
    exact ⟨oa, nm, qn, (I2.hok a _ ha2).1, r⟩
  have hgl : gn < s.gens.size := (Array.getElem?_eq_some_iff.mp hgs).1
  refine wpAny_gsz (n := gn + 1) hgl ?_
  refine next_genS (P := Xc.prog) (w := Xc.w) hh I.nolimit hroom hgen hgs go (fun e s₁ he => ?_) (fun v ll k c p fs s₁ he => ?_) (fun s₁ he h' hk => ?_)
  · cases l with
    | nil => exact .inl he.2.1
    | cons t rest =>
      obtain ⟨v, ll, k, c, p, fs, h1, h2, h3, _⟩ := he
      exact .inr ⟨v, ll, k, c, p, fs, h1, h3⟩
  · cases l with
    | nil => exact absurd he.2.1 (fun z => nomatch z)
    | cons t rest =>
      obtain ⟨v', ll', k', c', p', fs', h1, h2, h3, en2, σ2, Hy2, x, F2, G2, I2, R2, rv, rt, hk⟩ := he
      cases h1
      obtain ⟨own2, q1, q2, q3, q4, q5, q6, q7⟩ := back I2 R2
      intro hsz
      have hsz : gn < s₁.gens.size := by
        have q : (s₁.setGen gn (.suspended k ll c p fs false)).gens.size = s₁.gens.size := setGen_size _ _ _
        omega
      refine hN t rest v x _ own2 (shw X s₁ Hy2) _ rfl ⟨X, en2, σ2, _, Hy2, F2, G2, s₁, .suspended k ll c p fs false, rel, q1.gens (allBare_setGen q1.bare rfl), q2, q3, q4, q6, setGen_at hsz, fun hf g H s hs => ?_⟩ rv (q5 t x rt) ⟨_, setGen_at hsz, rfl⟩ q7
      rcases hk with ⟨z1, z2⟩ | hk
      · rw [hf z1] at z2
        cases z2
      · exact hk g H s hs
  · cases l with
    | cons t rest =>
      obtain ⟨v', ll', k', c', p', fs', h1, _⟩ := he
      cases h1
    | nil =>
      obtain ⟨_, _, en2, σ2, Hy2, I2, F2, G2, R2⟩ := he
      obtain ⟨own2, q1, q2, q3, q4, q5, q6, q7⟩ := back I2 R2
      have J : L2.Inv Xc pins σ (shw X s₁ Hy2) { s₁.setGen gn .finished with heap := h' } := (q1.gens (allBare_setGen q1.bare rfl)).kept (t' := s₁.toks) hk
      exact fun _ => hZ _ _ _ rfl J q2 fun b o e n n1 n2 => ⟨(q7 b o e n n1 n2).1, (q7 b o e n n1 n2).2.2⟩
end
def sForG (f : En → M (List T)) (a : T → En → Option En) (g : En → MS) : En → MS := fun en => (f en).noX.bind fun l => forL a g l en
/-- what is wanted of an exception does not look at the generators -/
def XGens (X : Cx) : Prop := ∀ (e : Value) (z : Shared) (G : Array GenState), X.xe e z → (AllBare z.gens → AllBare G) → X.xe e { z with gens := G }
theorem XGens.never {X : Cx} (h : X.xe = fun _ _ => False) : XGens X := fun e z G hz _ => by rw [h] at hz; exact hz.elim
theorem allBare_zap {G : Array GenState} (h : AllBare G) : AllBare (G.map zap) := fun y hy => by
  obtain ⟨x, hx, rfl⟩ := Array.mem_map.mp hy
  rw [zap_bare]
  exact h x hx
section
variable {W : Wd} {Ex : XK} {X : Cx} {tg it : Expr} {body : List Stmt} {pos : Pos} {a : T → En → Option En} {f : En → M (List T)} {g : En → MS} {is : List Nat}
theorem kept_get {s s' : Shared} (k : Kept s s') {i : Nat} {gs : GenState} (h : s.gens[i]? = some gs) (hs : slp gs = some gs) : s'.gens[i]? = some gs := by
  cases gs with
  | suspended kk l c p fs cl => exact k i kk l c p fs cl h
  | _ => cases hs
end
end TL
/-! GZf: generator defs, their calls. -/
namespace TL
open PySem PySem.Spec PyProof.Rows L2 GZ GenW
/-- a generator was made -/
def Born (W : Wd) (P : Program) (w : World) (base : Heap) (B : Around) (outer : List Env) (H : Hp) (s : Shared) (dk : Dk) (F : Addr → Prop) (d : D) (fin : Bool) (l : List T) (u : Value) (s' : Shared) : Prop :=
  ∃ (a : Addr) (gn : Nat) (X : Cx) (c : Code) (σg : L2.St) (eng : En) (oa : Obj), u = .ref a ∧ X.prog = P ∧ X.w = w ∧ X.base = base ∧ X.outer = outer ∧ X.ex = [] ∧ X.pn = [] ∧ (∀ x c, X.env.cells.lookup x = some c → X.env.locals < c) ∧ X.env.locals = s.heap.objs.size ∧
    H a = none ∧ ¬ fcs X a ∧ L2.Inv (X.at s H) [] σg (upd H a (.ext fun h => h.get? a = some oa)) s' ∧ SR W dk F (fun _ _ => False) σg H eng d ∧ s'.heap.get? a = some oa ∧ s'.heap.IsGen a gn ∧ s'.gens[gn]? = some (.fresh c) ∧ ((l = [] → fin = true) → Awk W X dk B fin l eng σg (.fresh c))
/-- a generator def, by what it hands out -/
structure GnT (W : Wd) (P : Program) (w : World) (mg : Str → Option Value) (base : Heap) (k : Nat) (f : Addr) (fd : FuncData) (ps : List Str) (Gm : List T → Option (List T)) : Prop where
  run : ∀ (A : Around) (outer : List Env) (s : Shared) (H : Hp) (args : Args) (us : List Value) (vs : List V) (dk : Dk) (F : Addr → Prop) (ts : List T) (d : D) (l : List T), A.guards = some [] → Room k A → Env0 P w W.K mg base A outer s H → BindsTo s fd args (ps.zip us) → Vals vs us →
    vs.length = ps.length → RepL W H F dk ts vs → (∀ a, F a → H a ≠ none) → F dk.1 → F dk.2 → DkAt W dk H d → Gm ts = some l →
    codeAny (model P w) A (.call (.ref f) args) (fun r s' => match r with | .ok (.ret u) => ∀ B : Around, B.guards = some [] → Room k B → B.frames = some outer → Born W P w base B outer H s dk F d true l u s' | _ => False) s
theorem GnT.mono {W : Wd} {P : Program} {w : World} {mg : Str → Option Value} {base : Heap} {j k : Nat} {f : Addr} {fd : FuncData} {ps : List Str} {Gm : List T → Option (List T)} (h : GnT W P w mg base j f fd ps Gm) (hk : j ≤ k) : GnT W P w mg base k f fd ps Gm :=
  ⟨fun A outer s H args us vs dk F ts d l hg hr e0 hb rv hl rl h1 h2 h3 h4 h5 => codeAny_mono (h.run A outer s H args us vs dk F ts d l hg (hr.mono hk) e0 hb rv hl rl h1 h2 h3 h4 h5) fun r s' hq => by
    cases r with
    | error e => exact hq
    | ok fl =>
      cases fl with
      | ret u => exact fun B b1 b2 b3 => hq B b1 (b2.mono hk) b3
      | _ => exact hq⟩
/-! ### calls -/
def xGn (Gm : List T → Option (List T)) (fl : En → M (List T)) : En → M (List T) := fun en => (fl en).bind fun ts => .opt (Gm ts)
section
variable {W : Wd} {X : Cx} {k : Nat} {f : Addr} {fd : FuncData} {ps : List Str} {Gm : List T → Option (List T)} {x : Str} {p pos : Pos} {e : Expr} {es : List Expr} {fl : En → M (List T)}
theorem born_lp {pins : List (Addr × Obj)} {σ : L2.St} {H H0 : Hp} {s s' : Shared} {dk : Dk} {F F0 : Addr → Prop} {G : Nat → Addr → Prop} {cp : Cps} {en : En} {d : D} {fin : Bool} {l : List T} {u : Value} {Bw : Around} (I : L2.Inv X pins σ H s) (R : StR' W dk F0 H0 cp F G σ H en d)
    (B : Born W X.prog X.w X.base Bw X.stack H s dk F d fin l u s') : ∃ a gn F1 own H1, u = .ref a ∧ LpG W X Bw pins dk F0 H0 cp a gn fin l F1 G own σ H1 en d s' := by
  obtain ⟨a, gn, Xg, c, σg, eng, oa, eu, x1, x2, x3, x4, x5, x6, x7, x8, ha, na, J, S, hga, hgen, hgs, aw⟩ := B
  have low : ∀ {b : Addr} {o : Obj}, s.heap.get? b = some o → b < Xg.env.locals := fun {b o} e => by rw [x8]; exact Heap.lt_size e
  have rel : GRel X Xg pins := ⟨x1, x2, x3, x4, x5, x6, x7, by rw [x8]; exact I.sz, by rw [x8]; exact I.lt, fun y c e => by
    obtain ⟨v, o, ho, _⟩ := I.cell y c e
    exact low ho, fun p hp => low (I.pin p hp).1⟩
  have fx : ∀ b, fcs Xg b → H b = none := fun b hb => I.hok.fresh (by
    rw [← x8]
    rcases hb with rfl | ⟨y, e⟩
    · exact Nat.le_refl _
    · exact Nat.le_of_lt (x7 y b e))
  have hh : H = hid Xg H := by
    funext b
    rcases Classical.em (fcs Xg b) with z | z
    · rw [hid_no z, fx b z]
    · rw [hid_yes z]
  have up : ∀ b o, H b = some o → upd H a (.ext fun h => h.get? a = some oa) b = some o := fun b o e => by
    rw [upd_ne (ne_of_none e ha)]
    exact e
  have dn : ∀ b, b ≠ a → upd H a (.ext fun h => h.get? a = some oa) b = H b := fun b n => upd_ne n
  have nd : a ≠ dk.1 ∧ a ≠ dk.2 := by
    obtain ⟨_, q2, q3⟩ := R.s.deck
    exact ⟨fun z => (by rw [← z, ha] at q3; cases q3), fun z => (by rw [← z, ha] at q2; cases q2)⟩
  have R2 : StR' W dk (fun b => F b ∨ b = a) (upd H a (.ext fun h => h.get? a = some oa)) [] (fun b => F b ∨ b = a) (fun _ _ => False) σg (upd H a (.ext fun h => h.get? a = some oa)) eng d := by
    refine ⟨⟨S.len, fun i t q => ?_, fun i o q => ?_, fun _ _ _ z => z.elim, fun _ _ z => z.elim, fun _ _ z => z.elim, fun b z => ?_, .inl S.fd1, .inl S.fd2, ?_⟩, fun _ z => z, fun _ _ z => z.elim, .refl _ _, (fun c hc => nomatch hc), fun b z => ?_⟩
    · obtain ⟨v, h1, h2⟩ := S.val i t q
      exact ⟨v, h1, Rep.mono (fun b o n q => ⟨up b o q, fun z => z.elim n fun z => by rw [z, ha] at q; cases q⟩) t v h2⟩
    · obtain ⟨_, _, g, _⟩ := S.own i o q
      exact g.elim
    · rcases z with z | rfl
      · cases q : H b with
        | none => exact absurd q (S.fh b z)
        | some o => rw [up b o q]; exact fun z => nomatch z
      · rw [upd_same]
        exact fun z => nomatch z
    · obtain ⟨q1, q2, q3⟩ := S.deck
      exact ⟨q1, up _ _ q2, up _ _ q3⟩
    · rcases z with z | rfl
      · cases q : H b with
        | none => exact absurd q (S.fh b z)
        | some o => rw [up b o q]; exact fun z => nomatch z
      · rw [upd_same]
        exact fun z => nomatch z
  obtain ⟨own2, q1, q2, q3, q4, q5, _⟩ := slp_back (own := fun _ => False) (a := a) (oa := oa) (g := ⟨s, H, fun b => F b ∨ b = a, upd H a (.ext fun h => h.get? a = some oa), d⟩) rel I R ⟨fun _ z => z.elim, fun _ _ z => z.elim, fun _ z => z.elim, fun _ z => z.elim⟩ (fun b z => .inr (fx b z)) (.inr ha) na (fun _ z => z)
    (by rw [x8, trunc_all]) hh (fun b z _ => Or.inl z) (fun b _ o q => up b o q) rfl (Or.inr rfl) J R2 upd_same
  exact ⟨a, gn, _, own2, _, eu, Xg, eng, σg, _, _, _, _, s', .fresh c, rel, q1, q2, q3, q4, hgen, hgs, aw⟩
end
end TL
/-! GZg: list(g). -/
namespace TL
open PySem PySem.Spec PyProof.Rows L2 GZ GenW
section
variable {W : Wd} {Ex : XK} {X : Cx} {k : Nat} {e : Expr} {f : En → M (List T)} {p pos : Pos}
def xListG (f : En → M (List T)) : En → M (List T) := fun en => (f en).noX.bind fun l => (M.opt (capL l.length ())).bind fun _ => .pure l
end
end TL
/-! GZh: the first k things that a generator hands out; a loop that leaves it before. -/
namespace TL
open PySem PySem.Spec PyProof.Rows L2 GZ GenW
/-- at most k things are asked for: the flow and the frame, or none: cut behind the last one -/
abbrev GC := Nat → En → Option (Option (Fl × En) × List T)
structure GXC (W : Wd) (X : Cx) (st : Stmt) (f : GC) : Prop where
  run : ∀ (dk : Dk) (A : Around) (fin : Bool) (rest : List T) (c : Code) (fs : List Frame) (K : Flow → Sem PySem.Fin) (J : Value → Sem PySem.Fin) (gd : Bool → Bool) (lv : List Value → List Value) (k : Nat) (en : En) (o : Option (Fl × En)) (l : List T) (g : Gh) (σ : L2.St) (H : Hp) (s : Shared),
    GCx X A c fs gd → f k en = some (o, l) → GSt W X dk g en σ H s → (o = none → rest = [] ∧ fin = false) →
    (∀ fl en', o = some (fl, en') → ∀ g' σ' H' s', GSt W X dk g' en' σ' H' s' → Sg (model X.prog X.w) A (GP W X dk A fin rest g') c (K (flw fl)) fs s') →
    Sg (model X.prog X.w) A (GP W X dk A fin (l ++ rest) g) c ((exec st X.env).wrap K J gd lv) fs s
structure GXCs (W : Wd) (X : Cx) (sts : List Stmt) (f : GC) : Prop where
  run : ∀ (dk : Dk) (A : Around) (fin : Bool) (rest : List T) (c : Code) (fs : List Frame) (K : Flow → Sem PySem.Fin) (J : Value → Sem PySem.Fin) (gd : Bool → Bool) (lv : List Value → List Value) (k : Nat) (en : En) (o : Option (Fl × En)) (l : List T) (g : Gh) (σ : L2.St) (H : Hp) (s : Shared),
    GCx X A c fs gd → f k en = some (o, l) → GSt W X dk g en σ H s → (o = none → rest = [] ∧ fin = false) →
    (∀ fl en', o = some (fl, en') → ∀ g' σ' H' s', GSt W X dk g' en' σ' H' s' → Sg (model X.prog X.w) A (GP W X dk A fin rest g') c (K (flw fl)) fs s') →
    Sg (model X.prog X.w) A (GP W X dk A fin (l ++ rest) g) c ((execs sts X.env).wrap K J gd lv) fs s
def cOf (f : GM) : GC := fun _ en => match f en with
  | some (fl, en', l) => some (some (fl, en'), l)
  | none => none
def cSeq (f g : GC) : GC := fun k en => match f k en with
  | some (some (.nx, en1), l1) => match g (k - l1.length) en1 with
    | some (o, l2) => some (o, l1 ++ l2)
    | none => none
  | some (some (.ret _, _), _) => none
  | some (some (fl, en1), l1) => some (some (fl, en1), l1)
  | some (none, l1) => some (none, l1)
  | none => none
noncomputable def cYd (f : En → M T) : GC := fun k en => match gEx f en with
  | some t => some (if k ≤ 1 then none else some (.nx, en), [t])
  | none => none
noncomputable def cWhileL (c : En → M Bool) (f : GC) : Nat → GC
  | 0, _, _ => none
  | n + 1, k, en => match gTs c en with
    | some true => match f k en with
      | some (none, l1) => some (none, l1)
      | some (some (.brk, en1), l1) => some (some (.nx, en1), l1)
      | some (some (.ret _, _), _) => none
      | some (some (_, en1), l1) => match cWhileL c f n (k - l1.length) en1 with
        | some (o, l2) => some (o, l1 ++ l2)
        | none => none
      | none => none
    | some false => some (some (.nx, en), [])
    | none => none
noncomputable def cWhile (n : Nat) (c : En → M Bool) (f : GC) : GC := cWhileL c f n
section
variable {W : Wd} {X : Cx} {st : Stmt} {rest : List Stmt} {f g : GC}
theorem gc_of {m : GM} (h : GX W X st m) : GXC W X st (cOf m) := by
  refine ⟨fun dk A fin rs c fs K J gd lv k en o l gh σ H s gc hf hs hn hk => ?_⟩
  unfold cOf at hf
  cases e : m en with
  | none => rw [e] at hf; cases hf
  | some r =>
    obtain ⟨fl, en', l'⟩ := r
    rw [e] at hf
    cases hf
    exact h.run dk A fin rs c fs K J gd lv en fl en' l gh σ H s gc e hs (hk fl en' rfl)
theorem gcs_nil : GXCs W X [] (cOf gNil) := by
  refine ⟨fun dk A fin rs c fs K J gd lv k en o l gh σ H s gc hf hs hn hk => ?_⟩
  cases hf
  exact sg_execs_nil (hk .nx en rfl gh σ H s hs)
theorem gcs_cons (h1 : GXC W X st f) (h2 : GXCs W X rest g) : GXCs W X (st :: rest) (cSeq f g) := by
  refine ⟨fun dk A fin rs c fs K J gd lv k en o l gh σ H s gc hf hs hn hk => ?_⟩
  refine sg_execs_cons ?_
  unfold cSeq at hf
  cases e1 : f k en with
  | none => rw [e1] at hf; cases hf
  | some r =>
    obtain ⟨o1, l1⟩ := r
    cases o1 with
    | none =>
      rw [e1] at hf
      cases hf
      exact h1.run dk A fin rs c fs _ J gd lv k en none l gh σ H s gc e1 hs hn fun _ _ z => nomatch z
    | some p =>
      obtain ⟨fl1, en1⟩ := p
      have stop : ∀ (hne : flw fl1 ≠ .next), o = some (fl1, en1) → l = l1 → Sg (model X.prog X.w) A (GP W X dk A fin (l ++ rs) gh) c ((exec st X.env).wrap (fun f => match f with | .next => (execs rest X.env).wrap K J gd lv | f => K f) J gd lv) fs s := fun hne a b => by
        subst a b
        refine h1.run dk A fin rs c fs _ J gd lv k en _ l gh σ H s gc e1 hs (fun z => nomatch z) fun fl en' z g' σ' H' s' hs' => ?_
        cases z
        have := hk fl1 en1 rfl g' σ' H' s' hs'
        cases fl1 with
        | nx => exact absurd rfl hne
        | brk => exact this
        | ct => exact this
        | ret t => exact absurd rfl hne
      cases fl1 with
      | nx =>
        rw [e1] at hf
        cases e2 : g (k - l1.length) en1 with
        | none => simp only [e2] at hf; cases hf
        | some r2 =>
          obtain ⟨o2, l2⟩ := r2
          simp only [e2] at hf
          cases hf
          rw [List.append_assoc]
          refine h1.run dk A fin (l2 ++ rs) c fs _ J gd lv k en _ l1 gh σ H s gc e1 hs (fun z => nomatch z) fun fl en' z g' σ' H' s' hs' => ?_
          cases z
          exact h2.run dk A fin rs c fs K J gd lv _ en1 o l2 g' σ' H' s' gc e2 hs' hn hk
      | brk =>
        rw [e1] at hf
        simp only [Option.some.injEq, Prod.mk.injEq] at hf
        exact stop (fun z => nomatch z) hf.1.symm hf.2.symm
      | ct =>
        rw [e1] at hf
        simp only [Option.some.injEq, Prod.mk.injEq] at hf
        exact stop (fun z => nomatch z) hf.1.symm hf.2.symm
      | ret t => rw [e1] at hf; cases hf
theorem gc_yield {e : Expr} {fe : En → M T} {ypos pos : Pos} (he : ∀ s0 H0, PE (X.at s0 H0) e (tE W E0 fe)) (hco : X.env.scope.isCoroutine = false := by rfl) (hi : interactive X.env = false := by rfl) : GXC W X (.Expr (.Yield (some e) ypos) pos) (cYd fe) := by
  refine ⟨fun dk A fin rs cd fs K J gd lv k en o l gh σ H s gc hf hs hn hk => ?_⟩
  unfold cYd at hf
  cases e1 : gEx fe en with
  | none => rw [e1] at hf; cases hf
  | some t =>
    rw [e1] at hf
    cases hf
    obtain ⟨I, F, G, R⟩ := hs
    refine sg_Yield gc.split gc.gd ?_ hco hi
    rw [gc.over]
    refine wpAny_mono ((he gh.s0 gh.Hb).run [] s σ H (fun x H1 => StR' W dk gh.F0 gh.H0 [] F G σ H1 en gh.d ∧ Rep W H1 F dk t x) I ⟨dk, F, G, en, gh.d, R.s, by
      rw [gEx_some e1]
      exact fun H1 k1 D1 v rv => ⟨R.keep k1 D1, rv⟩⟩) (fun v s1 h1 => ?_) fun x s' hx => hx.elim
    obtain ⟨x, H1, I1, rv, R1, rt⟩ := h1
    intro ll kk p hkk
    refine ⟨v, ll, kk, cd, p, fs, rfl, gc.split, gc.guard, en, σ, H1, x, F, G, I1, R1, rv, rt, ?_⟩
    by_cases hle : k ≤ 1
    · exact .inl (hn (by rw [if_pos hle]))
    · exact .inr fun g' H' s' hs' => hkk _ _ (hk .nx en (by rw [if_neg hle]) g' σ H' s' hs')
theorem gc_while {n : Nat} {c : Expr} {fc : En → M Bool} {body : List Stmt} {pos : Pos} (hc : ∀ s0 H0, PT (X.at s0 H0) c (tT W E0 fc)) (hb : GXCs W X body f) : GXC W X (.While c body [] pos) (cWhile n fc f) := by
  refine ⟨fun dk A fin rs cd fs K J gd lv k en o l gh σ H s gc hf hs hn hk => ?_⟩
  refine sg_While fun p => ?_
  have gl := fun (kk : Result → Sem PySem.Fin) => gcx_loop (k := kk) (c' := .whileLoop c body [] X.env) (l := lv []) (kp := []) (p := p) gc rfl rfl
  unfold cWhile at hf
  induction n generalizing k en l gh σ H s with
  | zero => cases hf
  | succ n ih =>
    unfold cWhileL at hf
    cases e : gTs fc en with
    | none => simp only [e] at hf; cases hf
    | some b =>
      simp only [e] at hf
      obtain ⟨I, R⟩ := hs
      refine sg_whileLoop fun J' => ?_
      rw [(gl _).over]
      refine wpAny_mono ((hc gh.s0 gh.Hb).run [] s σ H (fun b' H1 => b' = b ∧ StR W dk gh.F0 gh.H0 [] σ H1 en gh.d) I (R.useG (gTs_some e) fun H1 R1 => ⟨rfl, R1⟩)) (fun b' s1 h1 => ?_) fun x s' hx => hx.elim
      obtain ⟨H1, I1, rfl, R1⟩ := h1
      cases b' with
      | false =>
        cases hf
        rw [if_neg Bool.false_ne_true]
        refine sg_execs_nil ?_
        exact sg_leaf (.ok .next) (hk .nx en rfl gh σ H1 s1 ⟨I1, R1⟩)
      | true =>
        rw [if_pos rfl]
        cases e1 : f k en with
        | none => simp only [e1] at hf; cases hf
        | some r =>
          obtain ⟨o1, l1⟩ := r
          cases o1 with
          | none =>
            simp only [e1] at hf
            cases hf
            exact hb.run dk A fin rs _ _ _ J' id id k en none l gh σ H1 s1 (gl _) e1 ⟨I1, R1⟩ hn fun _ _ z => nomatch z
          | some pr =>
            obtain ⟨fl1, en1⟩ := pr
            have turn : (fl1 = .nx ∨ fl1 = .ct) → (match cWhileL fc f n (k - l1.length) en1 with | some (o, l2) => some (o, l1 ++ l2) | none => none) = some (o, l) →
                ∀ K' : Flow → Sem PySem.Fin, (∀ z, (z = .next ∨ z = .cont) → K' z = .pure (.again (.whileLoop c body [] X.env))) →
                Sg (model X.prog X.w) A (GP W X dk A fin (l ++ rs) gh) (.whileLoop c body [] X.env) ((execs body X.env).wrap K' J' id id) (.ret (fun r => ((match r with | .ok f => (.pure f : Sem Flow) | .error e => .raise e).onRaise (cameBack X.env)).wrap K J gd lv) none (gd false) (lv []) cd p [] :: fs) s1 := fun hfl hf K' hK => by
              cases e2 : cWhileL fc f n (k - l1.length) en1 with
              | none => simp only [e2] at hf; cases hf
              | some r2 =>
                obtain ⟨o2, l2⟩ := r2
                simp only [e2] at hf
                cases hf
                rw [List.append_assoc]
                refine hb.run dk A fin (l2 ++ rs) _ _ K' J' id id k en _ l1 gh σ H1 s1 (gl _) e1 ⟨I1, R1⟩ (fun z => nomatch z) fun fl en' z g' σ' H' s' hs' => ?_
                cases z
                rw [hK _ (by rcases hfl with z | z <;> rw [z] <;> simp [flw])]
                exact sg_again rfl (ih (k - l1.length) en1 l2 g' σ' H' s' e2 hs')
            cases fl1 with
            | nx => simp only [e1] at hf; exact turn (.inl rfl) hf _ (by rintro z (rfl | rfl) <;> rfl)
            | ct => simp only [e1] at hf; exact turn (.inr rfl) hf _ (by rintro z (rfl | rfl) <;> rfl)
            | brk =>
              simp only [e1] at hf
              cases hf
              refine hb.run dk A fin rs _ _ _ J' id id k en _ l gh σ H1 s1 (gl _) e1 ⟨I1, R1⟩ (fun z => nomatch z) fun fl en' z g' σ' H' s' hs' => ?_
              cases z
              exact sg_leaf (.ok .next) (hk .nx en1 rfl g' σ' H' s' hs')
            | ret t => simp only [e1] at hf; cases hf
theorem gc_body {body : List Stmt} {dk : Dk} {A : Around} {k : Nat} {en : En} {o : Option (Fl × En)} {l : List T} {g : Gh} {σ : L2.St} {H : Hp} {s : Shared} (h : GXCs W X body f) (ho : A.deeper X.env = X.A) (hf : f k en = some (o, l)) (hnx : ∀ fl en', o = some (fl, en') → fl = .nx) (hs : GSt W X dk g en σ H s) :
    Sg (model X.prog X.w) A (GP W X dk A o.isSome l g) (.func body X.env) ((model X.prog X.w).den (.func body X.env)) [] s := by
  refine sg_func fun J => ?_
  have q := h.run dk A o.isSome [] (.func body X.env) [] (fun f => .pure (.done (.ret (match f with | .ret v => v | _ => .none)))) J id id k en o l g σ H s ⟨over_func.trans ho, rfl, rfl, rfl⟩ hf hs (fun z => ⟨rfl, by rw [z]; rfl⟩) fun fl en' z g' σ' H' s' hs' => by
    obtain rfl := hnx fl en' z
    exact sg_end (.ok (.ret .none)) ⟨by rw [z]; rfl, rfl, en', σ', H', hs'⟩
  rwa [List.append_nil] at q
end
end TL
/-! GZi: generator defs by their first k things; a loop that leaves one before its end. -/
namespace TL
open PySem PySem.Spec PyProof.Rows L2 GZ GenW
/-- a generator def, by what it hands out -/
structure GnC (W : Wd) (P : Program) (w : World) (mg : Str → Option Value) (base : Heap) (k : Nat) (f : Addr) (fd : FuncData) (ps : List Str) (Gc : Nat → List T → Option (List T × Bool)) : Prop where
  run : ∀ (A : Around) (outer : List Env) (s : Shared) (H : Hp) (args : Args) (us : List Value) (vs : List V) (dk : Dk) (F : Addr → Prop) (ts : List T) (d : D) (l : List T) (kk : Nat) (fin : Bool), A.guards = some [] → Room k A → Env0 P w W.K mg base A outer s H → BindsTo s fd args (ps.zip us) → Vals vs us →
    vs.length = ps.length → RepL W H F dk ts vs → (∀ a, F a → H a ≠ none) → F dk.1 → F dk.2 → DkAt W dk H d → Gc kk ts = some (l, fin) →
    codeAny (model P w) A (.call (.ref f) args) (fun r s' => match r with | .ok (.ret u) => ∀ B : Around, B.guards = some [] → Room k B → B.frames = some outer → Born W P w base B outer H s dk F d fin l u s' | _ => False) s
theorem GnC.mono {W : Wd} {P : Program} {w : World} {mg : Str → Option Value} {base : Heap} {j k : Nat} {f : Addr} {fd : FuncData} {ps : List Str} {Gc : Nat → List T → Option (List T × Bool)} (h : GnC W P w mg base j f fd ps Gc) (hk : j ≤ k) : GnC W P w mg base k f fd ps Gc :=
  ⟨fun A outer s H args us vs dk F ts d l kk fin hg hr e0 hb rv hl rl h1 h2 h3 h4 h5 => codeAny_mono (h.run A outer s H args us vs dk F ts d l kk fin hg (hr.mono hk) e0 hb rv hl rl h1 h2 h3 h4 h5) fun r s' hq => by
    cases r with
    | error e => exact hq
    | ok fl =>
      cases fl with
      | ret u => exact fun B b1 b2 b3 => hq B b1 (b2.mono hk) b3
      | _ => exact hq⟩
def gcM (n : Nat) (g : GC) : Nat → List T → Option (List T × Bool) := fun kk ts => match g kk (startE n ts) with
  | some (some (.nx, _), l) => some (l, true)
  | some (none, l) => some (l, false)
  | _ => none
/-- all that it hands out, where that is no more than kk things -/
def fullM (kk : Nat) (Gc : Nat → List T → Option (List T × Bool)) : List T → Option (List T) := fun ts => match Gc kk ts with
  | some (l, true) => some l
  | _ => none
theorem GnC.full {W : Wd} {P : Program} {w : World} {mg : Str → Option Value} {base : Heap} {k : Nat} {f : Addr} {fd : FuncData} {ps : List Str} {Gc : Nat → List T → Option (List T × Bool)} (h : GnC W P w mg base k f fd ps Gc) (kk : Nat) : GnT W P w mg base k f fd ps (fullM kk Gc) :=
  ⟨fun A outer s H args us vs dk F ts d l hg hr e0 hb rv hl rl h1 h2 h3 h4 hgm => h.run A outer s H args us vs dk F ts d l kk true hg hr e0 hb rv hl rl h1 h2 h3 h4 (by
    unfold fullM at hgm
    split at hgm
    · rename_i l' e
      cases hgm
      exact e
    · cases hgm)⟩
section
variable {W : Wd} {P : Program} {w : World} {mg : Str → Option Value} {base : Heap}
theorem gnc_of {x qual : Str} {st : Stmt} {f : Addr} {fd : FuncData} {N ps : List Str} {k n : Nat} {g : GC} {CX : CXT} (Fd : Fun W.K x qual st f fd) (S : GScope N ps (defScope st)) (hn : N.length = n)
    (hbody : ∀ (cdv : Value) (A : Around) (outer : List Env) (s : Shared) (H : Hp) (E : XK), A.guards = some [] → Room k (A.deeper (envOfC qual (defScope st) s.heap.objs.size f cdv)) →
      GXCs W (cxOf CX P w W.K mg base N qual (defScope st) f cdv A outer s H E).nox (defBody st) g) : GnC W P w mg base (k + 1) f fd ps (gcM n g) := by
  refine ⟨fun A outer s H args us vs dk F ts d l kk fin hg hr env hb rv hlen rl fh f1 f2 hd hgm => ?_⟩
  obtain ⟨oc, od, kV, doc, pm, an, cdv, ct, osl, rfl, look, hcode⟩ := Fd.ex
  have kin : W.K.In s.heap := env.mod.kin.keeps fun b o e => (env.bs b o e).1
  have noLim : s.heap.NoLimit := env.mod.nolimit.keeps fun b o e => (env.bs b o e).1
  have hgm' : ∃ o, g kk (startE n ts) = some (o, l) ∧ o.isSome = fin ∧ ∀ fl en', o = some (fl, en') → fl = .nx := by
    unfold gcM at hgm
    split at hgm
    · rename_i en' l' e
      cases hgm
      exact ⟨_, e, rfl, fun fl en' z => by cases z; rfl⟩
    · rename_i l' e
      cases hgm
      exact ⟨_, e, rfl, fun fl en' z => nomatch z⟩
    · cases hgm
  obtain ⟨o, hgm', hfin, hnx⟩ := hgm'
  refine codeAny_call_generator hr.depth (kin _ _ look) rfl S.co S.gen rfl (PySem.W.codeRec_of kin hcode) (hb _ _ _ _ ?_)
  refine wpAny_newFunctionEnv_cells S.kind (fun y hy => ?_) fun fe he s1 ic => ?_
  · obtain ⟨nm, v⟩ := y
    rcases S.par nm (List.of_mem_zip hy).1 with z | z
    · exact .inl z
    · exact .inr ⟨z, PySem.W.cellsFrom_some _ _ _ (.inl z)⟩
  subst he
  refine ⟨noLim.keeps ic.toInCall.keep, ?_⟩
  suffices main : ∀ B : Around, B.guards = some [] → Room (k + 1) B → B.frames = some outer → ∀ (go : Obj) (nm qn : Value) (tk2 : Nat), go.cls = .type "generator" → go.data = .fields #[.int s1.gens.size 0, nm, qn] → go.slots = #[] → (∀ h : Heap, (h.push go).get? h.objs.size = some go) →
      Born W P w base B outer H s dk F d fin l (.ref s1.heap.objs.size) { s1 with gens := s1.gens.push (.fresh (.func (defBody st) (envOfC qual (defScope st) s.heap.objs.size f cdv))), toks := tk2, heap := s1.heap.push go } from
    fun B b1 b2 b3 => main B b1 b2 b3 _ _ _ _ rfl rfl rfl fun h => Heap.get?_push_size _ rfl
  intro B hgB hrB hfB
  have env1 : Env0 P w W.K mg base B outer s H := ⟨hfB, env.mod, env.bs, env.bsz, env.funs, env.frf, env.hok, env.bare⟩
  have I1 := inv_startG (E := fun _ _ _ => False) S (A := B) hrB.hd env1 (by rw [hlen]) rv ic
  obtain ⟨h1, tk, es1, hk1⟩ := ic.done
  have lt1 : s.heap.objs.size < s1.heap.objs.size := ic.toInCall.ns.lt
  have body := hbody cdv B outer s H (fun _ _ _ => False) hgB (Room.deeper hrB _)
  let X : Cx := (cxOf CX P w W.K mg base N qual (defScope st) f cdv B outer s H (fun _ _ _ => False)).nox
  have J1 : L2.Inv (X.at s H) [] (start N vs) H s1 := ⟨⟨I1.ok.mod, I1.ok.kind, I1.ok.glob, I1.ok.blt, I1.ok.above, I1.ok.inj, I1.ok.has, I1.ok.cab, I1.ok.hd, I1.ok.frames, I1.ok.stk, I1.ok.exf, I1.ok.bs, I1.ok.bsz, I1.ok.noex, I1.ok.exfs, I1.ok.funs, I1.ok.frf⟩, I1.os, I1.bare, I1.base, I1.loc, I1.cell, I1.free, I1.freeC, I1.pin, I1.hok, I1.len⟩
  intro go nm qn tk2 hgc hgd0 hgs hgp
  have fr : H s1.heap.objs.size = none := J1.hok.fresh (Nat.le_refl _)
  refine ⟨s1.heap.objs.size, s1.gens.size, X, .func (defBody st) X.env, start N vs, startE n ts, go, rfl, rfl, rfl, rfl, rfl, rfl, rfl, fun y c e => ic.above y c (PySem.mem_of_lookup e), rfl, fr, fun z => ?_, ?_, SR.start hn rl fh f1 f2 hd, hgp _, ⟨go, nm, qn, hgp _, hgc, hgd0, hgs⟩, Array.getElem?_push_size .., fun _ gh H' s' hs => ?_⟩
  · rcases z with z | ⟨y, e⟩
    · exact absurd z (Nat.ne_of_gt lt1)
    · obtain ⟨v, o, ho, _⟩ := J1.cell y _ e
      exact absurd (Heap.lt_size ho) (Nat.lt_irrefl _)
  · have K := J1.laid (a := s1.heap.objs.size) (o := .ext fun h => h.get? s1.heap.objs.size = some go) (h' := s1.heap.push go) (t' := tk2) (fun b u e => Heap.get?_push_of_some _ e) (Nat.le_refl _)
      ⟨hgp _, ⟨go, hgp _⟩, fun h1 h2 e k => k go e⟩
    exact K.gens (AllBare.push K.bare rfl)
  · show Sg (model P w) B (GP W X dk B fin l gh) (.func (defBody st) X.env) ((model P w).den (.func (defBody st) X.env)) [] s'
    rw [← hfin]
    exact gc_body (X := X) body rfl hgm' hnx hs
end
/-- an expression that gives a generator, asleep -/
structure PGnC (W : Wd) (X : Cx) (k : Nat) (e : Expr) (f : En → M (List T × Bool)) : Prop where
  run : ∀ (B : Around) (pins : List (Addr × Obj)) (s : Shared) (σ : L2.St) (H : Hp) (dk : Dk) (F0 : Addr → Prop) (H0 : Hp) (cp : Cps) (F : Addr → Prop) (G G' : Nat → Addr → Prop) (en en' : En) (d : D) (l : List T) (fin : Bool) (d1 : D), B.guards = some [] → Room k B → B.frames = some X.stack →
    L2.Inv X pins σ H s → SR W dk F G σ H en d → StR' W dk F0 H0 cp F G' σ H en' d → f en d = .ok (l, fin) d1 →
    wpAny (model X.prog X.w) X.A (eval e X.env) (fun u s' => ∃ a gn F1 own H1, u = .ref a ∧ LpG W X B pins dk F0 H0 cp a gn fin l F1 G' own σ H1 en' d1 s') X.xe s
def xGnC (kk : Nat) (Gc : Nat → List T → Option (List T × Bool)) (fl : En → M (List T)) : En → M (List T × Bool) := fun en => (fl en).bind fun ts => .opt (Gc kk ts)
section
variable {W : Wd} {X : Cx} {k : Nat} {f : Addr} {fd : FuncData} {ps : List Str} {Gc : Nat → List T → Option (List T × Bool)} {x : Str} {p pos : Pos} {e : Expr} {es : List Expr} {fl : En → M (List T)}
/-- f(e, ..), f a generator def -/
theorem pgnc_call (kk : Nat) (hF : GnC W X.prog X.w X.mg X.base k f fd ps Gc) (hK : W.K = X.K) (hgd : X.A.guards = some []) (hr : Room k X.A) (hg : Gl X x) (hm : X.mg x = some (.ref f)) (hk : PySem.W.keepIn X.K (.ref f) = true) (hb : Binds X.K fd ps [])
    {Ex : XK} (ha : PA X (e :: es) (tA W Ex fl)) (hlen : (e :: es).length = ps.length := by rfl) (hfl : ∀ en d l d', fl en d = .ok l d' → l.length = ps.length) (hdb : (x == ("__debug__" : Str)) = false := by decide) (he : starEach (e :: es) X.env = (false, eval e X.env) :: starEach es X.env := by rfl) (hpl : (backTo pos (starEach es X.env)).any (·.1) = false := by rfl) :
    PGnC W X k (.Call (.Name x p) (e :: es) [] pos) (xGnC kk Gc fl) := by
  refine ⟨fun B pins s σ H dk F0 H0 cp F G G' en en' d l fin d1 hgB hrB hfB I S R hl => ?_⟩
  unfold xGnC at hl
  cases q : fl en d with
  | bad => rw [M.bind_bad q] at hl; cases hl
  | exc xx d2 => rw [M.bind_exc q] at hl; cases hl
  | ok ts d2 =>
    rw [M.bind_ok q] at hl
    unfold M.opt at hl
    cases q2 : Gc kk ts with
    | none => simp only [q2] at hl; cases hl
    | some l2 =>
      simp only [q2] at hl
      cases hl
      refine wpAny_Call_Name_kw (ld_glob I hg hm ?_ hdb)
      refine PySem.W.callWith_K (h₀ := X.base) I.ok.mod.kin hk (thn (ha.run pos pins s σ H (fun vs H1 => Keep dk H H1 ∧ DkAt W dk H1 d1 ∧ RepL W H1 F dk ts vs) I ⟨dk, F, G, en, d, S, ?_⟩) fun us s1 ⟨vs, H1, I1, r, k1, D1, rl⟩ => ⟨I1.kIn, ?_⟩) he hpl
      · rw [q]
        exact fun H1 k1 D1 xs rl => ⟨k1, D1, rl⟩
      · have R1 := R.keep k1 D1
        have hl : vs.length = ps.length := by rw [rl.length]; exact hfl _ _ _ _ q
        have b := hb s1 us I1.kIn (by rw [List.append_nil, ← r.length]; exact hl)
        rw [List.append_nil] at b
        have e0 : Env0 X.prog X.w W.K X.mg X.base X.A X.stack s1 H1 := by
          rw [hK]
          exact I1.env0
        refine wpAny_call (codeAny_mono (hF.run X.A X.stack s1 H1 ⟨us, []⟩ us vs dk F ts d1 l kk fin hgd hr e0 b r hl rl R1.s.fh R1.s.fd1 R1.s.fd2 R1.s.deck q2) fun o s' hq => ?_)
        cases o with
        | error er => exact hq.elim
        | ok fl =>
          cases fl with
          | ret u => exact born_lp I1 R1 (hq B hgB hrB hfB)
          | next => exact hq.elim
          | brk => exact hq.elim
          | cont => exact hq.elim
end
/-- a loop over what a generator hands out; where the end is not known, the loop is left before -/
def forLC (a : T → En → Option En) (g : En → MS) (fin : Bool) : List T → En → MS
  | [], en => if fin = true then .pure (.nx, en) else .bad
  | t :: l, en => (M.opt (a t en)).bind fun en1 => (g en1).bind fun r => match r.1 with
    | .nx => forLC a g fin l r.2
    | .ct => forLC a g fin l r.2
    | .brk => .pure (.nx, r.2)
    | .ret _ => .pure r
def sForC (f : En → M (List T × Bool)) (a : T → En → Option En) (g : En → MS) : En → MS := fun en => (f en).noX.bind fun r => forLC a g r.2 r.1 en
section
variable {W : Wd} {Ex : XK} {X : Cx} {tg it : Expr} {body : List Stmt} {pos : Pos} {a : T → En → Option En} {f : En → M (List T × Bool)} {g : En → MS} {is : List Nat}
open Classical in
theorem ts_forC {k : Nat} (hp : PassesOwn (model X.prog X.w) X.A X.env X.xe) (hxe : XGens X) (hgd : X.A.guards = some []) (hr : Room (k + 1) X.A) (hi : PGnC W X k it f) (hg : PG X tg (tG W is a)) (hb : PSs X body (tS W Ex g)) (hs : ∀ x, foldedSetIterable it X.env x = pure x := by intro _; rfl) :
    PS X (.For tg it body [] pos) (tS W Ex (sForC f a g)) := by
  refine ⟨fun pins s σ H D I h => ?_⟩
  obtain ⟨dk, F0, H0, cp, en, d, ⟨F, G, R⟩, p⟩ := h
  unfold sForC at p
  have p : PostS W Ex dk F0 H0 cp D (M.bind (f en).noX (fun r => forLC a g r.2 r.1 en) d) := p
  unfold M.noX at p
  cases e : f en d with
  | bad => unfold M.bind Out.bind at p; simp only [e] at p; exact p.elim
  | exc x d1 => unfold M.bind Out.bind at p; simp only [e] at p; exact p.elim
  | ok lf d1 =>
    obtain ⟨l, fin⟩ := lf
    unfold M.bind Out.bind at p
    simp only [e] at p
    refine wpAny_For (thn (hi.run X.A.in1 pins s σ H dk F0 H0 cp F G G en en d l fin d1 hgd (Room.in1 hr) I.ok.frames I R.s R e) fun u s1 ⟨ga, gn, F1, own1, H1, eu, L⟩ => ?_) hs
    subst eu
    refine wpAny_pyIter_gen L.gen ?_
    refine codeAny_forLoop_any (fun n s' => ∃ l' F' G' own' σ' H' en' d', n = l'.length ∧ LpG W X X.A.in1 pins dk F0 H0 cp ga gn fin l' F' G' own' σ' H' en' d' s' ∧ PostS W Ex dk F0 H0 cp D (forLC a g fin l' en' d')) ?_ l.length ⟨l, F1, G, own1, σ, H1, en, d1, rfl, L, p⟩
    rintro n s3 ⟨l', F3, G4, own3, σ3, H3, en3, d3, rfl, L3, p3⟩
    have hfn : l' = [] → fin = true := fun z => by
      subst z
      unfold forLC at p3
      by_cases hf : fin = true
      · exact hf
      · rw [if_neg hf] at p3
        exact p3.elim
    refine L3.next rfl hr.hd hr.depth hfn (fun t rest v x F4 own H4 s4 el L4 rv rt hsl _ => ?_) (fun F4 H4 s4 el I4 R4 _ => ?_)
    · subst el
      unfold forLC M.bind Out.bind M.opt at p3
      cases ea : a t en3 with
      | none =>
        simp only [ea] at p3
        exact p3.elim
      | some en5 =>
        simp only [ea] at p3
        have gen4 := L4.gen
        obtain ⟨Xg, eng, σg, gy, Hy, Fy, Gy, sy, gs, rel, I4, R4, C4, S4, hgy, hgs, hw⟩ := L4
        have hslp : slp gs = some gs := by
          obtain ⟨gs', e1, e2⟩ := hsl
          rw [hgs] at e1
          cases e1
          exact e2
        obtain ⟨oa, nm, qn, hoa, hoc, hod, _⟩ := id gen4
        refine go_of (n := "generator") hoa hoc hod (by decide) ?_
        refine wpAny_passesOwn hp ?_
        have as4 := I4.gens (allBare_zap I4.bare)
        have asg := hg.run pins (asleep s4) σ3 H4 x v (fun σ' H' => H' = H4 ∧ SR W dk F4 G4 σ' H4 en5 d3) as4 rv ⟨dk, F4, G4, en3, d3, t, en5, R4.s, rt, ea, fun σ' S' _ => ⟨rfl, S'⟩⟩
        refine wpAny_mono (wpAny_frozen asg) (fun _ s5 h5 => ?_) fun ex s' ⟨z, hz, hb, hk, ez⟩ => by
          rw [ez]
          exact hxe ex z s'.gens hz hb
        obtain ⟨z, ⟨σ5, H5, I5, eH, S5⟩, hb5, hk5, ez⟩ := h5
        subst eH
        have I5' : L2.Inv X pins σ5 H5 s5 := by
          rw [ez]
          exact I5.gens (hb5 I5.bare)
        refine wpAny_passesOwn hp ?_
        have as5 := I5'.gens (allBare_zap I5'.bare)
        -- the body's run, with the generator's own out of reach
        let F0b : Addr → Prop := fun b => F0 b ∨ own b
        let H0b : Hp := fun b => if own b then H5 b else H0 b
        have hb_own : ∀ b, own b → H0b b = H5 b := fun b z => if_pos z
        have hb_no : ∀ b, ¬ own b → H0b b = H0 b := fun b z => if_neg z
        have own_there : ∀ b, own b → H5 b ≠ none := fun b z => R4.s.fh b (C4.c1 b z)
        have Rb : StR W dk F0b H0b ((H5, F4) :: cp) σ5 H5 en5 d3 := ⟨F4, G4, S5, fun b z => z.elim (R4.ff b) (C4.c1 b), fun i b z => by
            rw [hb_no b fun y => C4.c2 i b y z]
            exact R4.g0 i b z, fun b o e n1 n2 => by
            rcases Classical.em (own b) with z | z
            · rw [hb_own b z] at e
              exact e
            · rw [hb_no b z] at e
              exact R4.kp b o e n1 n2, fun c hc => by
            rcases List.mem_cons.mp hc with rfl | hc
            · exact .refl _ _
            · exact R4.vs c hc, fun b z => by
            rcases Classical.em (own b) with y | y
            · rw [hb_own b y]
              exact own_there b y
            · rw [hb_no b y]
              exact z.elim (R4.fz b) fun q => absurd q y⟩
        have keepb : ∀ {H' : Hp}, Keep dk H0b H' → Keep dk H0 H' := fun {H'} k b o e n1 n2 => k b o (by
          rw [hb_no b fun z => by rw [C4.c3 b z] at e; cases e]
          exact e) n1 n2
        have unb : ∀ {F' : Addr → Prop} {G' : Nat → Addr → Prop} {σ' : L2.St} {H' : Hp} {en' : En} {d' : TL.D}, StR' W dk F0b H0b ((H5, F4) :: cp) F' G' σ' H' en' d' → StR' W dk F0 H0 cp F' G' σ' H' en' d' ∧ OwC dk own F' G' H0 := fun {F' G' σ' H' en' d'} R' => by
          have dis : ∀ i b, own b → ¬ G' i b := fun i b z g => by
            have := R'.g0 i b g
            rw [hb_own b z] at this
            exact own_there b z this
          refine ⟨⟨R'.s, fun b z => R'.ff b (.inl z), fun i b z => ?_, keepb R'.kp, fun c hc => R'.vs c (List.mem_cons_of_mem _ hc), R4.fz⟩, fun b z => R'.ff b (.inr z), dis, C4.c3, C4.c4⟩
          have := R'.g0 i b z
          rw [hb_no b fun y => dis i b y z] at this
          exact this
        let N : L2.St → Hp → Prop := fun σ' H' => ∃ F' G' en' d', StR' W dk F0b H0b ((H5, F4) :: cp) F' G' σ' H' en' d' ∧ PostS W Ex dk F0 H0 cp D (forLC a g fin rest en' d')
        have run := hb.run pins (asleep s5) σ5 H5 { D with nx := N, ct := N, bk := D.nx } as5 ⟨dk, F0b, H0b, (H5, F4) :: cp, en5, d3, Rb, by
          cases eg : g en5 d3 with
          | bad =>
            simp only [eg] at p3
            exact p3.elim
          | exc xx d4 =>
            simp only [eg] at p3
            exact fun c od H' k D' xr => p3 c od H' (keepb k) D' (xr.weak fun b z => .inl z)
          | ok r d4 =>
            obtain ⟨fl, en6⟩ := r
            simp only [eg] at p3
            cases fl with
            | nx => exact fun σ' H' ⟨F', G', R'⟩ => ⟨F', G', en6, d4, R', p3⟩
            | ct => exact fun σ' H' ⟨F', G', R'⟩ => ⟨F', G', en6, d4, R', p3⟩
            | brk => exact fun σ' H' ⟨F', G', R'⟩ => p3 σ' H' ⟨F', G', (unb R').1⟩
            | ret tt => exact fun vv H' k D' rr => p3 vv H' (keepb k) D' (rr.weak fun b z => .inl z)⟩
        refine wpAny_mono (wpAny_frozen run) (fun fw s6 h6 => ?_) fun ex s' ⟨z, hz, hb, hk, ez⟩ => by
          rw [ez]
          exact hxe ex z s'.gens hz hb
        obtain ⟨z6, q6, hb6, hk6, ez6⟩ := h6
        have re : ∀ {σ' : L2.St} {H' : Hp}, L2.Inv X pins σ' H' z6 → L2.Inv X pins σ' H' s6 := fun {σ' H'} J => by
          rw [ez6]
          exact J.gens (hb6 J.bare)
        have again : ∀ {σ' : L2.St} {H' : Hp}, L2.Inv X pins σ' H' s6 → N σ' H' → ∃ m, m < (t :: rest).length ∧ ∃ l' F' G' own' σ' H' en' d', m = l'.length ∧ LpG W X X.A.in1 pins dk F0 H0 cp ga gn fin l' F' G' own' σ' H' en' d' s6 ∧ PostS W Ex dk F0 H0 cp D (forLC a g fin l' en' d') := fun {σ' H'} J n => by
          obtain ⟨F', G', en', d', R', p'⟩ := n
          obtain ⟨R1, C1⟩ := unb R'
          have hO : ∀ b, own b → H' b = H5 b := fun b z => by
            cases e : H5 b with
            | none => exact absurd e (own_there b z)
            | some o => exact R'.kp b o (by rw [hb_own b z]; exact e) (C4.c4 b z).1 (C4.c4 b z).2
          refine ⟨rest.length, Nat.lt_succ_self _, rest, F', G', own, σ', H', en', d', rfl, ⟨Xg, eng, σg, gy, Hy, Fy, Gy, sy, gs, rel, J, R1, C1, ⟨S4.I, S4.R, fun b o n e => ?_, fun i b o g e => ?_, S4.own, fun b hb => ?_, S4.ng, S4.na, S4.fa⟩, hgy, kept_get hk6 (kept_get hk5 hgs hslp) hslp, hw⟩, p'⟩
          · obtain ⟨h1, h2⟩ := S4.vis b o n e
            rcases Classical.em (own b) with z | z
            · exact ⟨by rw [hO b z]; exact h1, fun y => y.2 z⟩
            · obtain ⟨q1, q2⟩ := R'.vs _ List.mem_cons_self b o h1 (fun y => h2 ⟨y, z⟩)
              exact ⟨q1, fun y => q2 y.1⟩
          · rw [hO b ((S4.own b).mpr (.inl ⟨i, g⟩))]
            exact S4.obj i b o g e
          · obtain ⟨o, e1, e2⟩ := S4.raw b hb
            exact ⟨o, e1, by rw [hO b ((S4.own b).mpr (.inr hb))]; exact e2⟩
        cases fw with
        | next => obtain ⟨σ7, H7, I7, n7⟩ := q6; exact again (re I7) n7
        | cont => obtain ⟨σ7, H7, I7, n7⟩ := q6; exact again (re I7) n7
        | brk => obtain ⟨σ7, H7, I7, q7⟩ := q6; exact ⟨σ7, H7, re I7, q7⟩
        | ret v => obtain ⟨x7, σ7, H7, I7, r7, q7⟩ := q6; exact ⟨x7, σ7, H7, re I7, r7, q7⟩
    · subst el
      unfold forLC at p3
      rw [if_pos (hfn rfl)] at p3
      exact wpAny_execs_nil ⟨σ3, H4, I4, p3 σ3 H4 ⟨F4, G4, R4⟩⟩
end
end TL
/-! TLzzg: a, b = new list, e, where a or b is a cell: by way of a tuple. -/
namespace TL
open PySem PySem.Spec PyProof.Rows L2
def sParNV (i j : Nat) (f : En → M (List T)) (g : En → M T) : En → MS := fun en => (f en).bind fun m => (g en).bind fun t => .pure (.nx, setS (setS en i (.own (.lst m))) j (.val t))
section
variable {W : Wd} {Ex : XK} {X : Cx} {a b : Expr} {f : En → M (List T)} {g : En → M T} {i j : Nat} {x y : Str} {pos px py pt pt2 : Pos} {kt k2 : Nat}
@[simp] theorem ev_ParNV (en : En) (d : TL.D) : sParNV i j f g en d = (f en d).bind fun m => (g en).bind fun t => .pure (.nx, setS (setS en i (.own (.lst m))) j (.val t)) := (rfl)
end
end TL
/-! TLzzh: own.extend(e), e a tuple. -/
namespace TL
open PySem PySem.Spec PyProof.Rows L2
def tupT? : T → Option (List T)
  | .tup l => some l
  | _ => none
def sExtU (i : Nat) (f : En → M T) : En → MS := fun en => withL en i fun l => (f en).bind fun t => (M.opt (tupT? t)).bind fun m => (M.opt (capL (l.length + m.length) ())).bind fun _ => .pure (.nx, setS en i (.own (.lst (l ++ m))))
section
variable {W : Wd} {Ex : XK} {X : Cx} {e : Expr} {f : En → M T} {i : Nat} {x : Str} {pos p1 p2 cpos : Pos}
@[simp] theorem ev_ExtU (en : En) (d : D) : sExtU i f en d = withL en i (fun l => (f en).bind fun t => (M.opt (tupT? t)).bind fun m => (M.opt (capL (l.length + m.length) ())).bind fun _ => .pure (.nx, setS en i (.own (.lst (l ++ m))))) d := (rfl)
@[simp] theorem ev_tupT (l : List T) : tupT? (.tup l) = some l := (rfl)
end
end TL
/-! TLzzi: compares in a handler's expression; text.index(text). -/
namespace TL
open PySem PySem.Spec PyProof.Rows L2
/-- s.index(y) of texts -/
def sindexT (x y : T) : Option T := match x, y with
  | .str a, .str b => match Builtin.Str.occurrences a b 0 a.length 1 with
    | i :: _ => some (.int (i : Nat))
    | [] => none
  | _, _ => none
def xSIx (f g : En → M T) : En → M T := fun en => (f en).bind fun x => (M.opt (strT? x)).bind fun s => (g en).bind fun y => .opt (sindexT (.str s) y)
theorem ev_SIx (f g : En → M T) (en : En) (d : D) : xSIx f g en d = (f en d).bind fun x => (M.opt (strT? x)).bind fun s => (g en).bind fun y => .opt (sindexT (.str s) y) := rfl
section
variable {W : Wd} {Ex : XK} {X : Cx} {a b e : Expr} {es : List Expr} {f g : En → M T} {fl : En → M (List T)} {pos p p1 p2 p3 apos cpos : Pos}
theorem te_sindex (ha : PE X a (tE W Ex f)) (hb : PE X b (tE W Ex g)) (hbase : attributeBase a "index" X.env (eval a X.env) = eval a X.env := by rfl)
    (hfew : ((backTo cpos (starEach [b] X.env)).all (fun x => !x.1) && (backToKw cpos (keywordEach [] X.env)).all (fun x => x.1.isSome) && decide ([b].length + ([] : List Keyword).length + (if ([] : List Keyword).isEmpty then 0 else 1) < 30)) = true := by rfl)
    (hline : (apos.endLine == cpos.line) = true := by rfl) (hs : starEach [b] X.env = (false, eval b X.env) :: starEach [] X.env := by rfl) (hplain : (backTo cpos (starEach [] X.env)).any (·.1) = false := by rfl) :
    PE X (.Call (.Attribute a "index" apos) [b] [] cpos) (tE W Ex (xSIx f g)) :=
  (pe_bm PySem.F.plainAttrs_str PySem.F.slot_str_index PySem.F.type_str_index mt_sindex ha (pa_cons hb pa_nil hs) hbase hfew hline hs hplain).imp fun σ H Q ⟨dk, F, G, en, d, S, h⟩ => by
    refine ⟨dk, F, G, en, d, S, (Post.bind h).mono fun t d1 H1 k1 D1 h1 v rv => ?_⟩
    have S1 := S.keep k1 D1
    obtain ⟨z, ez, _⟩ : ∃ z, strT? t = some z ∧ True := by
      cases q : strT? t with
      | none =>
        have h1 := Post.bind h1
        rw [q] at h1
        exact h1.elim
      | some z => exact ⟨z, rfl, trivial⟩
    cases t <;> simp only [strT?, reduceCtorEq, Option.some.injEq] at ez
    subst ez
    simp only [Rep] at rv
    subst rv
    have h1 : Post W Ex F dk H1 _ (M.bind (g en) (fun y => .opt (sindexT (.str _) y)) d1) := h1
    refine ⟨rfl, dk, F, G, en, d1, S1, (Post.bind h1).mono fun u d2 H2 k2 D2 h2 w rw' => ?_⟩
    obtain ⟨l, el, q⟩ := Post.opt_some h2
    cases u <;> simp only [sindexT, reduceCtorEq] at el
    split at el
    · rename_i i rest c
      cases el
      simp only [Rep] at rw'
      exact ⟨_, _, i, rest, rfl, by rw [rw'], c, q H2 (.refl _ _) D2 _ (by simp only [Rep])⟩
    · cases el
end
end TL
/-! TLzzj: == and != of two instances of one class with __eq__ (and no __ne__). -/
namespace TL
open PySem PySem.Spec PyProof.Rows L2
def notO : T → M T
  | .bl b => .pure (.bl (!b))
  | _ => .bad
/-- a != b -/
def xNeI (cn : Str) (Fm : List T → M T) (f g : En → M T) : En → M T := xOrI cn (fun l => (Fm l).bind notO) f g
theorem ev_NeI (cn : Str) (Fm : List T → M T) (f g : En → M T) (en : En) (d : D) : xNeI cn Fm f g en d = (f en d).bind fun x => (g en).bind fun y => orI cn (fun l => (Fm l).bind notO) x y := (rfl)
end TL
/-! TLzzk: more statements of a def that changes a lent object: two targets, for, for over the lent list, append; calls of such a def in a test, and returned. -/
namespace TL
open PySem PySem.Spec PyProof.Rows L2
section
variable {W : Wd} {Ex : XK} {dk : Dk} {F F0 : Addr → Prop} {G : Nat → Addr → Prop} {H H0 : Hp} {cp : Cps} {σ : L2.St} {en : En} {d : D} {j : Nat} {p : Addr}
theorem StP.useA {fl : En → M (List T)} {k : List T → MS} {D : Ends} {Q : List V → Hp → Prop} (R : StP W dk F0 H0 cp j p F G σ H en d) (q0 : PostP W Ex dk F0 H0 cp j p D (M.bind (fl en) k d))
    (q : ∀ t d1 v H1, StP W dk F0 H0 cp j p F G σ H1 en d1 → RepL W H1 F dk t v → PostP W Ex dk F0 H0 cp j p D (k t d1) → Q v H1) : tA W Ex fl σ H Q := by
  refine ⟨dk, F, G, en, d, R.1.s, ?_⟩
  unfold M.bind Out.bind at q0
  cases e : fl en d with
  | ok t d1 =>
    rw [e] at q0
    exact fun H1 k1 D1 v rv => q t d1 v H1 ⟨R.1.keep k1 D1, R.2⟩ rv q0
  | exc x d1 =>
    rw [e] at q0
    exact q0.elim
  | bad =>
    rw [e] at q0
    exact q0.elim
end
section
variable {W : Wd} {Ex : XK} {X : Cx} {tg it : Expr} {body : List Stmt} {g h : En → MS} {f : En → M T} {fi : En → M (List T)} {fl : En → M (List T)} {is : List Nat} {a0 : T → En → Option En} {e a b : Expr} {pos p1 p2 px py pt pt2 cpos : Pos} {kt k2 i j l0 : Nat} {x y : Str}
/-- for .. in own, the lent list: it stays as it is -/
noncomputable def forO (j : Nat) (l : List T) (a : T → En → Option En) (g : En → MS) : List T → En → MS
  | [], en => open Classical in if getS en j = .own (.lst l) then .pure (.nx, en) else .bad
  | t :: r, en => open Classical in if getS en j = .own (.lst l) then (M.opt (a t en)).bind fun en1 => (g en1).bind fun x => (match x.1 with
    | .nx => forO j l a g r x.2
    | .ct => forO j l a g r x.2
    | .brk => .pure (.nx, x.2)
    | .ret _ => .pure x) else .bad
end
/-! ### the caller: a test that changes objects of its own -/
def PostTO (W : Wd) (Ex : XK) (dk : Dk) (F0 : Addr → Prop) (H0 : Hp) (cp : Cps) (σ : L2.St) (Q : Bool → Hp → Prop) : Out (Bool × En) → Prop
  | .ok (b, en) d => ∀ H, StR W dk F0 H0 cp σ H en d → Q b H
  | .exc x d => ∀ c od H, Keep dk H0 H → DkAt W dk H d → XRep W H F0 dk x c od → Ex c od H
  | .bad => False
theorem PostTO.bind {W : Wd} {Ex : XK} {dk : Dk} {F0 : Addr → Prop} {H0 : Hp} {cp : Cps} {σ : L2.St} {Q : Bool → Hp → Prop} {m : M (Bool × En)} {k : Bool × En → M (Bool × En)} {d : D} (h : PostTO W Ex dk F0 H0 cp σ Q (M.bind m k d)) :
    (∃ r d1, m d = .ok r d1 ∧ PostTO W Ex dk F0 H0 cp σ Q (k r d1)) ∨ ∃ x d1, m d = .exc x d1 ∧ ∀ c od H, Keep dk H0 H → DkAt W dk H d1 → XRep W H F0 dk x c od → Ex c od H := by
  unfold M.bind Out.bind at h
  cases e : m d with
  | bad => rw [e] at h; exact h.elim
  | exc x d1 => rw [e] at h; exact .inr ⟨x, d1, rfl, h⟩
  | ok r d1 => rw [e] at h; exact .inl ⟨r, d1, rfl, h⟩
@[simp] theorem ev_forO0 (j : Nat) (l : List T) (a : T → En → Option En) (g : En → MS) (en : En) (h : getS en j = .own (.lst l)) : forO j l a g [] en = .pure (.nx, en) := by
  unfold forO
  rw [if_pos h]
end TL
/-! TLzzl: a law that begins with its deck and a list of its own: deck, own = f(script), []. -/
namespace TL
open PySem PySem.Spec PyProof.Rows L2
end TL
/-! TLzzm: isinstance(e, C), e an instance of the own class C. -/
namespace TL
open PySem PySem.Spec PyProof.Rows L2
end TL
/-! TLzzn: an instance called: o(e, ..), o(k=e, ..), o a local name, __call__ a def of its class. -/
namespace TL
open PySem PySem.Spec PyProof.Rows L2
open PySem.Calls
def insT (cn : Str) : T → Option T
  | .ins c fs => if c = cn then some (.ins c fs) else none
  | _ => none
def xCallV (cn : Str) (Fm : List T → M T) (f : En → M T) (fl : En → M (List T)) : En → M T := fun en => (f en).bind fun t => (M.opt (insT cn t)).bind fun s => xFn (fun l => Fm (s :: l)) fl en
@[simp] theorem ev_CallV (cn : Str) (Fm : List T → M T) (f : En → M T) (fl : En → M (List T)) (en : En) (d : D) : xCallV cn Fm f fl en d = (f en d).bind fun t => (M.opt (insT cn t)).bind fun s => xFn (fun l => Fm (s :: l)) fl en := (rfl)
end TL
/-! TLzzo: an __init__ that may raise; its class called within a try, by place or by name. -/
namespace TL
open PySem PySem.Spec PyProof.Rows L2
/-! ### the def -/
/-! ### the class called -/
end TL
/-! TLzzp: tuple(range(e)). -/
namespace TL
open PySem PySem.Spec PyProof.Rows L2
def xTupRg (f : En → M T) : En → M T := fun en => (f en).bind fun y => .opt ((rngLT (.int 0) y).map T.tup)
@[simp] theorem ev_TupRg (f : En → M T) (en : En) (d : D) : xTupRg f en d = (f en d).bind fun y => .opt ((rngLT (.int 0) y).map T.tup) := (rfl)
end TL
/-! TLzzr: own, b = {}, e with cells. -/
namespace TL
open PySem PySem.Spec PyProof.Rows L2
end TL
/-! NSs: dicts of nested keys: their items walked; d.get(k, z) where d may be empty. -/
/-! TLzzs: own.get(k, z) of a dict of nested keys (it may be empty); for k, v in e.items(). -/
namespace TL
open PySem PySem.Spec PyProof.Rows L2
def getX (l : List (T × T)) (n : NS.NK) (z : T) : T := (lookX l n).getD z
def xOwnGet2 (i : Nat) (fb fc : En → M T) : En → M T := fun en => match getS en i with
  | .own (.dic []) => (fb en).bind fun y => (fc en).bind fun z => .opt ((keyN y).map fun _ => z)
  | .own (.dix l) => (fb en).bind fun y => (fc en).bind fun z => .opt ((keyN y).map fun n => getX l n z)
  | _ => .bad
@[simp] theorem ev_OwnGet2 (i : Nat) (f g : En → M T) (en : En) (d : D) : xOwnGet2 i f g en d = (match getS en i with
  | .own (.dic []) => (f en d).bind fun y => (g en).bind fun z => .opt ((keyN y).map fun _ => z)
  | .own (.dix l) => (f en d).bind fun y => (g en).bind fun z => .opt ((keyN y).map fun n => getX l n z)
  | _ => .bad) := by
  unfold xOwnGet2
  cases getS en i with
  | own o =>
    cases o with
    | dic l => cases l <;> rfl
    | _ => rfl
  | _ => rfl
section
variable {W : Wd} {Ex : XK} {X : Cx} {b c : Expr} {fb fc : En → M T} {x : Str} {pos p1 ap cp : Pos}
/-- for k, v in e.items() -/
def xItemsN (f : En → M T) : En → M (List T) := fun en => (f en).bind fun t => .opt ((dixT? t).map fun l => l.map fun kv => .tup [kv.1, kv.2])
end
@[simp] theorem ev_ItemsN (f : En → M T) (en : En) (d : D) : xItemsN f en d = ((f en).bind fun t => .opt ((dixT? t).map fun l => l.map fun kv => .tup [kv.1, kv.2])) d := rfl
end TL
/-! TLzzt: name += e, of whole numbers and texts. -/
namespace TL
open PySem PySem.Spec PyProof.Rows L2
def augT : T → T → Option T
  | .int i, .int j => some (.int (i + j))
  | .str x, .str y => capL (x.length + y.length) (.str (x ++ y))
  | _, _ => none
@[simp] theorem ev_augI (i j : Int) : augT (.int i) (.int j) = some (.int (i + j)) := rfl
theorem ev_augR (a b : List Nat) : augT (strR a) (strR b) = capL (a.length + b.length) (strR (a ++ b)) := by
  have := ev_strAdd a b
  exact this
def sAug (i : Nat) (f : En → M T) : En → MS := sAsg i (xBin augT (xVar i) f)
@[simp] theorem ev_Aug (i : Nat) (f : En → M T) (en : En) (d : D) : sAug i f en d = sAsg i (xBin augT (xVar i) f) en d := rfl
def rAug : V → V → Hp → VK → Prop := fun x y H Q => rAdd x y H Q ∨ rAddS x y H Q
section
variable {W : Wd} {Ex : XK} {X : Cx} {e : Expr} {f : En → M T} {i : Nat} {x : Str} {pos pos' : Pos}
theorem in_aug : InOp X .Add rAug := fun pins s σ H x y u v Q I rx ry h => h.elim (in_add pins s σ H x y u v Q I rx ry) (in_addS pins s σ H x y u v Q I rx ry)
theorem ts_aug (i : Nat) (hN : X.N.Nodup) (he : PE X e (tE W Ex f)) (hi : X.N[i]? = some x := by rfl) (hx : Loc X.env.scope x := by first | exact Or.inl rfl | exact Or.inr rfl)
    (hf : X.fn x = true ∨ X.env.scope.names.lookup x = some .local := by first | exact .inl rfl | exact .inr rfl | assumption) : PS X (.AugAssign (.Name x pos') .Add e pos) (tS W Ex (sAug i f)) :=
  (ps_aug hN hi hx he in_aug hf).imp fun D σ H ⟨dk, F0, H0, cp, en, d, ⟨F, G, R⟩, p⟩ => by
    unfold sAug sAsg xBin xVar at p
    cases eg : getS en i with
    | no => rw [eg] at p; exact p.elim
    | own o => rw [eg] at p; exact p.elim
    | val t =>
      rw [eg] at p
      obtain ⟨v, hv, r⟩ := R.s.val i t (getS_val eg)
      have p : PostS W Ex dk F0 H0 cp D (M.bind (f en) (fun y => M.bind (M.opt (augT t y)) fun z => .pure (.nx, setS en i (.val z))) d) := by
        refine cast (congrArg (PostS W Ex dk F0 H0 cp D) ?_) p
        unfold M.bind M.pure Out.bind
        dsimp only
        cases f en d <;> rfl
      refine ⟨v, hv, R.use p fun y d1 w H1 k1 R1 rw' q => ?_⟩
      obtain ⟨z, ez, q⟩ := PostS.opt q
      have r1 := R.s.keepR k1 r
      unfold augT at ez
      split at ez
      · cases ez
        simp only [Rep] at r1 rw'
        subst r1 rw'
        exact .inl ⟨_, _, rfl, rfl, q _ _ ⟨F, G, R1.setVal (by simp only [Rep])⟩⟩
      · obtain ⟨hl, rfl⟩ := capL_some ez
        simp only [Rep] at r1 rw'
        subst r1 rw'
        exact .inr ⟨_, _, rfl, rfl, by omega, q _ _ ⟨F, G, R1.setVal (by simp only [Rep])⟩⟩
      · cases ez
end
end TL
/-! TLzzu: what generators' bodies want: a, b = own.pop(); what is kept; cls.m(..). -/
namespace TL
open PySem PySem.Spec PyProof.Rows L2 GZ
def sPopG (i : Nat) (a : T → En → Option En) : En → MS := fun en => withL en i fun l => (M.opt (l[l.length - 1]?)).bind fun t => (M.opt (a t (setS en i (.own (.lst l.dropLast))))).bind fun en' => .pure (.nx, en')
section
variable {W : Wd} {Ex : XK} {X : Cx} {tg : Expr} {x : Str} {p1 p2 cpos pos : Pos} {i : Nat} {a : T → En → Option En} {is : List Nat}
def clsIs (cn : Str) : T → Option Unit
  | .cls c => if c = cn then some () else none
  | _ => none
def xCmV (cn : Str) (fo : En → M T) (Fm : List T → M T) (fl : En → M (List T)) : En → M T := fun en => (fo en).bind fun t => (M.opt (clsIs cn t)).bind fun _ => xFn (fun l => Fm (.cls cn :: l)) fl en
end
end TL
/-! TLzh: how the functions of TLzd .. TLzg run; dicts whose keys are told by codes. Plain Lean. -/
namespace TL
open PySem PySem.Spec PyProof.Rows L2
section
variable {en : En} {d : TL.D} {i j : Nat} {f g h : En → M T} {fl gl : En → M (List T)}
@[simp] theorem ev_ItemsX : xItemsX f en d = (f en d).bind fun t => .opt (itemsX t) := (rfl)
@[simp] theorem ev_Otx (l : List (T × T)) : (O.dix l).t = .dix l := (rfl)
@[simp] theorem ev_itemsXd (l : List (T × T)) : itemsX (.dix l) = some (l.map (·.1)) := (rfl)
@[simp] theorem ev_withX (k : List (T × T) → MS) : withX en i k d = (match getS en i with | .own (.dic []) => k [] d | .own (.dix l) => k l d | _ => .bad) := by
  unfold withX
  cases getS en i with
  | own o =>
    cases o with
    | dic l => cases l <;> rfl
    | _ => rfl
  | _ => rfl
@[simp] theorem ev_PutX : sPutX i f g en d = withX en i (fun l => (g en).bind fun t => (f en).bind fun k => (M.opt (keyN k)).bind fun n => (M.opt (capL (l.length + 1) ())).bind fun _ => .pure (.nx, setS en i (.own (.dix (putX l k n t))))) d := (rfl)
@[simp] theorem ev_AugX : sAugX i f g en d = withX en i (fun l => (f en).bind fun k => (M.opt (keyN k)).bind fun n => (M.opt (lookX l n)).bind fun v => (g en).bind fun t => (M.opt (subT v t)).bind fun u => (M.opt (capL (l.length + 1) ())).bind fun _ => .pure (.nx, setS en i (.own (.dix (putX l k n u))))) d := (rfl)
@[simp] theorem ev_NewCl (o0 : O) (fm : En → O → M O) : sNewCl i o0 fm en d = (fm en o0 d).bind fun o => .pure (.nx, setS en i (.own o)) := (rfl)
@[simp] theorem ev_NewDil : sNewDil i j fl en d = (fl en d).bind fun l => (M.opt (keysN l)).bind fun ns => (M.opt (if ns.Nodup ∧ ns.length ≤ 16777216 ∧ j < en.length ∧ 0 < ns.length then some () else none)).bind fun _ => .pure (.nx, setS en i (.own (.dil (l.map fun k => (k, []))))) := (rfl)
@[simp] theorem ev_AppQ : sAppQ i f g en d = (match getS en i with | .own (.dil l) => (f en d).bind (fun k => (M.opt (keyN k)).bind fun n => (M.opt (lookQ l n)).bind fun m => (g en).bind fun t => (M.opt (capL (m.length + 1) ())).bind fun _ => .pure (.nx, setS en i (.own (.dil (appQ l n t))))) | _ => .bad) := by
  unfold sAppQ
  cases getS en i with
  | own o => cases o <;> rfl
  | _ => rfl
@[simp] theorem ev_Pop : sPop i j en d = withL en i (fun l => (M.opt (l[l.length - 1]?)).bind fun t => .pure (.nx, setS (setS en i (.own (.lst l.dropLast))) j (.val t))) d := (rfl)
@[simp] theorem ev_Call2 (op : List T → List T → Option T) : xCall2 op fl gl en d = (fl en d).bind fun l => (gl en).bind fun k => .opt (op l k) := (rfl)
end
/-! ### dicts with keys by codes -/
end TL
/-! NSt: set(a list), by how many unlike items there are. -/
/-! TLzzw: sorted(set(xs)), by how many unlike items there are. -/
namespace TL
open PySem PySem.Spec PyProof.Rows L2
/-- sorted(set(l)), where there are fewer than 3900 unlike items -/
def setCD (l : List T) : Bool := (l.all (kindB true) || l.all (kindB false)) && decide ((firstsT l).length < 3900)
def ordSetD (l : List T) : Option (List T) := if setCD l && sortC (firstsT l) && strictG leD ((firstsT l).mergeSort leD) then some ((firstsT l).mergeSort leD) else none
def sortedSetD : List T → Option (List T)
  | [.lst l] => ordSetD l
  | _ => none
@[simp] theorem ev_sortedSetD (l : List T) : sortedSetD [.lst l] = ordSetD l := (rfl)
end TL
/-! TLzzv: what generators' functions compute. -/
namespace TL
open PySem PySem.Spec PyProof.Rows L2
section
variable {i : Nat} {a : T → En → Option En} {en : En} {d : D} {f : En → M (List T)} {fl : En → M (List T)} {g : En → MS} {Gm : List T → Option (List T)} {cn : Str} {fo : En → M T} {Fm : List T → M T}
@[simp] theorem ev_PopG : sPopG i a en d = withL en i (fun l => (M.opt (l[l.length - 1]?)).bind fun t => (M.opt (a t (setS en i (.own (.lst l.dropLast))))).bind fun en' => .pure (.nx, en')) d := (rfl)
@[simp] theorem ev_ListG : xListG f en d = ((f en).noX.bind fun l => (M.opt (capL l.length ())).bind fun _ => .pure l) d := (rfl)
@[simp] theorem ev_ForG : sForG f a g en d = ((f en).noX.bind fun l => forL a g l en) d := (rfl)
@[simp] theorem ev_Gn : xGn Gm fl en d = ((fl en).bind fun ts => .opt (Gm ts)) d := (rfl)
@[simp] theorem ev_CmV : xCmV cn fo Fm fl en d = ((fo en).bind fun t => (M.opt (clsIs cn t)).bind fun _ => xFn (fun l => Fm (.cls cn :: l)) fl en) d := (rfl)
@[simp] theorem ev_clsIs : clsIs cn (.cls cn) = some () := by simp [clsIs]
end
end TL
/-! TLzzx: range(a, b, -1). -/
namespace TL
open PySem PySem.Spec PyProof.Rows L2
end TL
/-! TLzzy: what generators cut behind their first things compute. -/
namespace TL
open PySem PySem.Spec PyProof.Rows L2
section
variable {a : T → En → Option En} {en : En} {d : D} {f : En → M (List T × Bool)} {fl : En → M (List T)} {g : En → MS} {Gc : Nat → List T → Option (List T × Bool)} {kk : Nat}
@[simp] theorem ev_ForC : sForC f a g en d = ((f en).noX.bind fun r => forLC a g r.2 r.1 en) d := (rfl)
@[simp] theorem ev_GnC : xGnC kk Gc fl en d = ((fl en).bind fun ts => .opt (Gc kk ts)) d := (rfl)
theorem cSeq_pl {m : En → MS} {g : GC} {k : Nat} {en en1 : En} (h : ∀ d, m en d = .ok (.nx, en1) d) : cSeq (cOf (gPl m)) g k en = g k en1 := by
  unfold cSeq cOf
  rw [gPl_eq (fl := .nx) rfl h]
  simp only [List.length_nil, Nat.sub_zero]
  cases e : g k en1 with
  | none => rfl
  | some r => obtain ⟨o, l2⟩ := r; simp only [List.nil_append]
theorem cSeq_nx {f g : GC} {k : Nat} {en en1 : En} {l1 : List T} (h : f k en = some (some (.nx, en1), l1)) {o : Option (Fl × En)} {l2 : List T} (h2 : g (k - l1.length) en1 = some (o, l2)) : cSeq f g k en = some (o, l1 ++ l2) := by
  unfold cSeq
  simp only [h, h2]
theorem cYd_eq {f : En → M T} {k : Nat} {en : En} {t : T} (h : ∀ d, f en d = .ok t d) : cYd f k en = some (if k ≤ 1 then none else some (.nx, en), [t]) := by
  unfold cYd
  rw [gEx_eq h]
theorem cNil_eq {k : Nat} {en : En} : cOf gNil k en = some (some (.nx, en), []) := rfl
theorem cWhileL_done {c : En → M Bool} {f : GC} {n k : Nat} {en : En} (h : ∀ d, c en d = .ok false d) : cWhileL c f (n + 1) k en = some (some (.nx, en), []) := by
  unfold cWhileL
  rw [gTs_eq h]
theorem cWhileL_turn {c : En → M Bool} {f : GC} {n k : Nat} {en en1 : En} {l1 : List T} (h : ∀ d, c en d = .ok true d) (hf : f k en = some (some (.nx, en1), l1)) {o : Option (Fl × En)} {l2 : List T} (h2 : cWhileL c f n (k - l1.length) en1 = some (o, l2)) : cWhileL c f (n + 1) k en = some (o, l1 ++ l2) := by
  unfold cWhileL
  rw [gTs_eq h]
  simp only [hf, h2]
theorem gcM_full {n kk : Nat} {g : GC} {ts : List T} {en : En} {l : List T} (h : g kk (startE n ts) = some (some (.nx, en), l)) : gcM n g kk ts = some (l, true) := by
  unfold gcM
  rw [h]
end
end TL
/-! GZj: try with two handlers that name the caught one and further ones that are never asked; a raise within a loop over a generator. -/
namespace TL
open PySem PySem.Spec PyProof.Rows L2 GZ GenW
end TL
/-! GZk: [..] * n as a new list; a new list by a test; name -= e; own[k] += e of whole numbers. -/
namespace TL
open PySem PySem.Spec PyProof.Rows L2
def mulLT : T → T → Option (List T)
  | .lst l, .int k => if 0 ≤ k ∧ k < 2 ^ 63 then capL (l.length * k.toNat) (List.replicate k.toNat l).flatten else none
  | _, _ => none
def xMulL (f g : En → M T) : En → M (List T) := fun en => (f en).bind fun x => (g en).bind fun y => .opt (mulLT x y)
@[simp] theorem ev_MulL (f g : En → M T) (en : En) (d : D) : xMulL f g en d = ((f en).bind fun x => (g en).bind fun y => .opt (mulLT x y)) d := (rfl)
def xIfN (c : En → M Bool) (f g : En → M (List T)) : En → M (List T) := fun en => (c en).bind fun b => if b = true then f en else g en
@[simp] theorem ev_IfN (c : En → M Bool) (f g : En → M (List T)) (en : En) (d : D) : xIfN c f g en d = ((c en).bind fun b => if b = true then f en else g en) d := (rfl)
def minusT : T → T → Option T
  | .int i, .int j => some (.int (i - j))
  | _, _ => none
@[simp] theorem ev_minusI (i j : Int) : minusT (.int i) (.int j) = some (.int (i - j)) := rfl
def sAugM (i : Nat) (f : En → M T) : En → MS := sAsg i (xBin minusT (xVar i) f)
@[simp] theorem ev_AugM (i : Nat) (f : En → M T) (en : En) (d : D) : sAugM i f en d = sAsg i (xBin minusT (xVar i) f) en d := rfl
def plusT : T → T → Option T
  | .int i, .int j => some (.int (i + j))
  | _, _ => none
@[simp] theorem ev_plusI (i j : Int) : plusT (.int i) (.int j) = some (.int (i + j)) := rfl
def atN (l : List T) : T → Option T
  | .int z => if 0 ≤ z then atI l z else none
  | _ => none
def sAugL (i : Nat) (fb f : En → M T) : En → MS := fun en => withL en i fun l => (fb en).bind fun k => (M.opt (atN l k)).bind fun t0 => (f en).bind fun t => (M.opt (plusT t0 t)).bind fun t1 => (M.opt ((intT1 k).bind (ixN l.length))).bind fun j => .pure (.nx, setS en i (.own (.lst (l.set j t1))))
@[simp] theorem ev_AugL (i : Nat) (fb f : En → M T) (en : En) (d : D) : sAugL i fb f en d = withL en i (fun l => (fb en).bind fun k => (M.opt (atN l k)).bind fun t0 => (f en).bind fun t => (M.opt (plusT t0 t)).bind fun t1 => (M.opt ((intT1 k).bind (ixN l.length))).bind fun j => .pure (.nx, setS en i (.own (.lst (l.set j t1))))) d := (rfl)
def rGetL (K : PySem.W.Frag) : V → V → Hp → VK → Prop := fun x y H Q => ∃ p xs i v, x = .ref p ∧ y = .int i ∧ SqL K H p xs ∧ 0 ≤ i ∧ atI xs i = some v ∧ Q v H
section
variable {W : Wd} {Ex : XK} {X : Cx} {a b c e : Expr} {f g fb : En → M T} {fl gl : En → M (List T)} {fc : En → M Bool} {i : Nat} {x : Str} {pos pos' p1 p2 : Pos}
theorem get_list : PGet X (rGetL X.K) := by
  intro pins s σ H x y v u Q I rx ry h
  obtain ⟨p, xs, i, z, rfl, rfl, hq, h0, he, q⟩ := h
  cases rx
  obtain ⟨t, rfl⟩ := ry
  obtain ⟨its, r, pl, hz⟩ := I.list hq
  obtain ⟨j, h1, h2, h3, h4, h5⟩ := atI_get he
  obtain ⟨w, ew, rw'⟩ := r.get h2
  have hl := r.length
  have hn := line63
  have fin : EP X pins σ Q w s := ⟨z, H, I, rw', q⟩
  have hj : i.toNat = j := by
    rw [seqIndex_of h0 h5] at h1
    exact Option.some.inj h1
  exact wpAny_getItem_list pl.isList h0 (by omega) (x := w) (by rw [hj]; simpa using ew) fin
theorem tn_mulL (hK : W.K = X.K) (ha : PE X a (tE W Ex f)) (hb : PE X b (tE W Ex g)) : PE X (.BinOp a .Mult b pos) (tN W Ex (xMulL f g)) := (pe_op op_rep ha hb).imp fun σ H Q ⟨dk, F, G, en, d, S, h⟩ => by
  refine ⟨dk, F, G, en, d, S, (Post.bind h).mono fun x d1 H1 k1 D1 h1 v rv => ?_⟩
  have S1 := S.keep k1 D1
  refine ⟨dk, F, G, en, d1, S1, (Post.bind h1).mono fun y d2 H2 k2 D2 h2 w rw' => ?_⟩
  obtain ⟨z, e, q⟩ := Post.opt_some h2
  have S2 := S1.keep k2 D2
  have ra := S1.keepR k2 rv
  unfold mulLT at e
  split at e
  · split at e
    · rename_i l kk h
      obtain ⟨hz, rfl⟩ := capL_some e
      simp only [Rep] at ra rw'
      obtain ⟨p, xs, rfl, n1, h1, r1⟩ := ra
      have rr := rep_repeat r1 kk.toNat
      exact ⟨p, _, xs, rfl, rw', h1, by omega, h.2, by rw [r1.length]; exact hz, fun p hp => q H2 (.refl _ _) D2 p _ rr (by rw [← r1.length] at hz; simpa [List.length_flatten, List.sum_replicate_nat, Nat.mul_comm] using hz) hp⟩
    · cases e
  · cases e
theorem ts_augM (i : Nat) (hN : X.N.Nodup) (he : PE X e (tE W Ex f)) (hi : X.N[i]? = some x := by rfl) (hx : Loc X.env.scope x := by first | exact Or.inl rfl | exact Or.inr rfl)
    (hf : X.fn x = true ∨ X.env.scope.names.lookup x = some .local := by first | exact .inl rfl | exact .inr rfl | assumption) : PS X (.AugAssign (.Name x pos') .Sub e pos) (tS W Ex (sAugM i f)) :=
  (ps_aug hN hi hx he in_sub hf).imp fun D σ H ⟨dk, F0, H0, cp, en, d, ⟨F, G, R⟩, p⟩ => by
    unfold sAugM sAsg xBin xVar at p
    cases eg : getS en i with
    | no => rw [eg] at p; exact p.elim
    | own o => rw [eg] at p; exact p.elim
    | val t =>
      rw [eg] at p
      obtain ⟨v, hv, r⟩ := R.s.val i t (getS_val eg)
      have p : PostS W Ex dk F0 H0 cp D (M.bind (f en) (fun y => M.bind (M.opt (minusT t y)) fun z => .pure (.nx, setS en i (.val z))) d) := by
        refine cast (congrArg (PostS W Ex dk F0 H0 cp D) ?_) p
        unfold M.bind M.pure Out.bind
        dsimp only
        cases f en d <;> rfl
      refine ⟨v, hv, R.use p fun y d1 w H1 k1 R1 rw' q => ?_⟩
      obtain ⟨z, ez, q⟩ := PostS.opt q
      have r1 := R.s.keepR k1 r
      unfold minusT at ez
      split at ez
      · cases ez
        simp only [Rep] at r1 rw'
        subst r1 rw'
        exact ⟨_, _, rfl, rfl, q _ _ ⟨F, G, R1.setVal (by simp only [Rep])⟩⟩
      · cases ez
theorem ts_augL (hK : W.K = X.K) (he : PE X e (tE W Ex f)) (hb : PE X b (tE W Ex fb)) (hi : X.N[i]? = some x := by rfl) (hv : L2.Vis X.env.scope x := by first | exact Or.inl rfl | exact Or.inr (Or.inl rfl) | exact Or.inr (Or.inr rfl))
    (hd : (x == ("__debug__" : Str)) = false := by decide) (hcd : (x == ("__classdict__" : Str)) = false := by decide)
    (ha : ∀ ov iv new, augStore b ov iv new = (do holding [new, ov, iv] (setItem ov iv new); release [new, ov, iv] []; pure .next) := by intro _ _ _; rfl) : PS X (.AugAssign (.Subscript (.Name x p1) b p2) .Add e pos) (tS W Ex (sAugL i fb f)) :=
  (ps_augS (pv i hi hv hd hcd) hb get_list he ip_add set_list ha).imp fun D σ H ⟨dk, F0, H0, cp, en, d, ⟨F, G, R⟩, p⟩ => by
    obtain ⟨l, hs, p⟩ := PostS.withL p
    obtain ⟨ad, xs, h1, h2, h3, h4⟩ := ownL R.s hs
    refine ⟨.ref ad, h1, R.use p fun k d1 y H1 k1 R1 ry q => ?_⟩
    obtain ⟨t0, e0, q⟩ := PostS.opt q
    unfold atN at e0
    split at e0
    · split at e0
      · rename_i z qq hz
        obtain ⟨ad1, xs1, h1a, h2a, h3a, h4a⟩ := ownL R1.s hs
        rw [h1] at h1a
        cases h1a
        simp only [Rep] at ry
        subst ry
        obtain ⟨v0, ev0, rv0⟩ := h4a.atI e0
        refine ⟨ad, xs1, z, v0, rfl, rfl, SqL.of h3a, hz, ev0, R1.use q fun t d2 v2 H2 k2 R2 rv2 q2 => ?_⟩
        obtain ⟨t1, e1, q3⟩ := PostS.opt q2
        obtain ⟨j, hj, q4⟩ := PostS.opt q3
        have rv1 := R1.s.keepR k2 rv0
        unfold plusT at e1
        split at e1
        · cases e1
          simp only [Rep] at rv1 rv2
          subst rv1 rv2
          obtain ⟨ad2, xs2, h1b, h2b, h3b, h4b⟩ := ownL R2.s hs
          rw [h1] at h1b
          cases h1b
          simp only [intT1, Option.bind_some] at hj
          refine ⟨_, _, rfl, rfl, ad, xs2, z, j, rfl, rfl, h3b, by rw [h4b.length]; exact hj, q4 _ _ ⟨_, _, R2.mut hs h1 h2b ⟨xs2.set j _, upd_same, R2.s.repL_mut h2b (h4b.set j (by simp only [Rep]))⟩⟩⟩
        · cases e1
      · cases e0
    · cases e0
end
end TL
/-! GZl: len(set(xs)). -/
namespace TL
open PySem PySem.Spec PyProof.Rows L2
/-- as many things as the frame says -/
def xGnCv (kf : En → Nat) (Gc : Nat → List T → Option (List T × Bool)) (fl : En → M (List T)) : En → M (List T × Bool) := fun en => (fl en).bind fun ts => .opt (Gc (kf en) ts)
@[simp] theorem ev_GnCv (kf : En → Nat) (Gc : Nat → List T → Option (List T × Bool)) (fl : En → M (List T)) (en : En) (d : D) : xGnCv kf Gc fl en d = ((fl en).bind fun ts => .opt (Gc (kf en) ts)) d := (rfl)
end TL
/-! GZm: {k: v} with one nested key, a new dict of one's own. -/
namespace TL
open PySem PySem.Spec PyProof.Rows L2
def xDispX (fk fv : En → M T) : En → M O := fun en => (fk en).bind fun y => (fv en).bind fun t => (M.opt (keyN y)).bind fun n => .pure (.dix (putX [] y n t))
@[simp] theorem ev_DispX (fk fv : En → M T) (en : En) (d : TL.D) : xDispX fk fv en d = ((fk en).bind fun y => (fv en).bind fun t => (M.opt (keyN y)).bind fun n => .pure (O.dix (putX [] y n t))) d := (rfl)
end TL
/-! GZn: codes without an order of tuples (bools too); made by tools/mk_ce.py from TLzb, TLzzw -/
namespace TLE
open PySem PySem.Spec PyProof.Rows L2 TL
structure Cd (α : Type) [DecidableEq α] where
  enc : α → T
  lt : α → α → Bool
  d : α → PyData
  n : α → NS.NK
  dep : Nat
  py : ∀ a, (enc a).py = some (d a)
  nk : ∀ a, nkT (enc a) = some (n a)
  inj : ∀ a b, n a = n b → a = b
  alike : ∀ a b, PySem.W.alike (d a) (d b) = true
  eqv : ∀ a b, PyData.eqv (d a) (d b) = decide (a = b)
  dl : ∀ a b, PySem.W.dataLt (d a) (d b) = lt a b
  tot : ∀ a b, lt a b = false → lt b a = false → a = b
  nd : ∀ a, (n a).depth ≤ dep
  dd : ∀ a, (d a).depth ≤ dep
theorem Cd.irr {α : Type} [DecidableEq α] (E : Cd α) (a : α) : E.lt a a = false := by
  rw [← E.dl]
  exact (listOrd itemOrd).irrefl _
section
variable {α : Type} [DecidableEq α] (E : Cd α)
theorem Cd.trans {a b c : α} (h1 : E.lt a b = true) (h2 : E.lt b c = true) : E.lt a c = true := by
  rw [← E.dl] at h1 h2 ⊢
  exact (listOrd itemOrd).trans _ _ _ h1 h2
end
end TLE
/-! GZo: xs.count(x) of a list of plain data -/
namespace TL
open PySem PySem.Spec PyProof.Rows L2
section
variable {X : Cx}
def rCountD (K : PySem.W.Frag) : V → List V → Hp → VK → Prop := fun x xs H Q => ∃ (a : Addr) (y : V) (d : PyData) (ds : List PyData), x = V.ref a ∧ xs = [y] ∧ Dp K H (V.ref a) (.list ds) ∧ Dp K H y d ∧
  SeqAt.shaped (.list ds) = true ∧ SeqAt.shaped d = true ∧ Q (.int ((ds.countP fun z => PyData.eqv z d : Nat) : Int)) H
theorem mt_countD (hu : X.A.units + 65 < cLine) : MtR X "list.count" (rCountD X.K) := by
  intro pins s σ H x xs v us Q I rx rxs h
  obtain ⟨a, y, d, ds, rfl, rfl, hl, hy, sl, sd, q⟩ := h
  cases rx
  cases rxs with
  | cons ry rt =>
    rename_i uy ut
    cases rt
    obtain ⟨bs, r1⟩ := Dp.reads I d y uy hy ry
    have hxs : PyData.canLayAll0 ds = true := SeqAt.canLay_of_shaped sl
    have hroom : X.A.units + 1 + min (PyData.depthAll ds) d.depth < cLine := room_in_shaped sd hu
    cases hl with
    | lst hs ha =>
      obtain ⟨its, rv, ⟨⟨cls, dd, data, sls⟩, n, ho, hc, hdn, hdt⟩, hlen⟩ := I.list hs
      simp only at hc hdt
      subst hc hdt
      obtain ⟨as, h4⟩ := Dp.readsAll I ds _ its ha rv
      have hmap : its.map (SeqAt.readOf s.heap) = ds := SeqAt.readsAll_map ds its as hxs h4
      have hcount : its.toArray.toList.countP (fun u => PyData.eqv (SeqAt.readOf s.heap u) d) = ds.countP fun z => PyData.eqv z d := by
        rw [← hmap, List.countP_map]
        rfl
      refine call_meets PySem.F.slot_list_count ⟨_, ho, rfl⟩ PySem.F.entry_list_count (PySem.F.args_list_count_2 _ _)
        (SeqAt.list_countAt a its.toArray n dd sls uy (fun u => PyData.eqv (SeqAt.readOf s.heap u) d)) ⟨ho, SeqAt.items_eqAt (vs := its.toArray) (show ReadsAll s.heap its.toArray.toList ds as from h4) r1 hxs (SeqAt.canLay_of_shaped sd) hroom, ?_⟩
      rw [hcount]
      exact ⟨.int _, H, I.tok _, ⟨_, rfl⟩, q⟩
end
def countT (l : List T) (x : T) : Option T := match pyL l, x.py with
  | some ds, some d => if SeqAt.shaped (.list ds) && SeqAt.shaped d then some (.int ((ds.countP fun z => PyData.eqv z d : Nat) : Int)) else none
  | _, _ => none
def xCount (fa fb : En → M T) : En → M T := fun en => (fa en).bind fun t => (M.opt (itL t)).bind fun l => (fb en).bind fun u => .opt (countT l u)
section
variable {W : Wd} {Ex : XK} {X : Cx} {o e : Expr} {f g : En → M T} {apos cpos : Pos}
theorem te_count (hK : W.K = X.K) (hu : X.A.units + 100 < cLine) (ho : PE X o (tE W Ex f)) (he : PE X e (tE W Ex g))
    (hbase : attributeBase o "count" X.env (eval o X.env) = eval o X.env := by rfl)
    (hfew : ((backTo cpos (starEach [e] X.env)).all (fun x => !x.1) && (backToKw cpos (keywordEach [] X.env)).all (fun x => x.1.isSome) && decide ([e].length + ([] : List Keyword).length + (if ([] : List Keyword).isEmpty then 0 else 1) < 30)) = true := by rfl)
    (hline : (apos.endLine == cpos.line) = true := by rfl) (hs : starEach [e] X.env = (false, eval e X.env) :: starEach [] X.env := by rfl) (hplain : (backTo cpos (starEach [] X.env)).any (·.1) = false := by rfl) :
    PE X (.Call (.Attribute o "count" apos) [e] [] cpos) (tE W Ex (xCount f g)) :=
  (pe_bm PySem.F.plainAttrs_list PySem.F.slot_list_count PySem.F.type_list_count (mt_countD (by omega)) ho (pa_cons he pa_nil hs) hbase hfew hline hs hplain).imp fun σ H Q ⟨dk, F, G, en, d, S, h⟩ => by
    refine ⟨dk, F, G, en, d, S, (Post.bind h).mono fun t d1 H1 k1 D1 h1 v rv => ?_⟩
    have S1 := S.keep k1 D1
    obtain ⟨l, el, h9⟩ := Post.opt_bind h1
    cases t with
    | lst l' =>
      cases el
      have rv0 := rv
      simp only [Rep] at rv
      obtain ⟨a, xs, rfl, nf, ha, rl⟩ := rv
      refine ⟨?_, dk, F, G, en, d1, S1, (Post.bind h9).mono fun u d2 H2 k2 D2 h2 w rw' => ?_⟩
      · exact .inl ⟨rfl, xs, .inl (.of ha)⟩
      · obtain ⟨z, ez, q⟩ := Post.opt_some h2
        unfold countT at ez
        split at ez
        · rename_i ds dd e1 e2
          split at ez
          · rename_i hsh
            simp only [Bool.and_eq_true] at hsh
            cases ez
            have rl2 := S1.keepR k2 rv0
            refine ⟨a, w, dd, ds, rfl, rfl, ?_, ?_, hsh.1, hsh.2, q H2 (.refl _ _) D2 _ (by simp only [Rep])⟩
            · rw [← hK]
              exact rl2.dp (by simp only [T.py, e1, Option.map_some])
            · rw [← hK]
              exact rw'.dp e2
          · cases ez
        · cases ez
    | _ => cases el
end
@[simp] theorem ev_Count (fa fb : En → M T) (en : En) (d : D) : xCount fa fb en d = (fa en d).bind fun t => (M.opt (itL t)).bind fun l => (fb en).bind fun u => .opt (countT l u) := (rfl)
end TL
open PySem PySem.Spec PyProof.Rows L2 TL
namespace K_k50
noncomputable section
def topS (i : Nat) : Stmt := PySem.Challenge.pw_amidread_k50_the_turn_of_a_ring.main.body.getD i (.Pass ⟨0, 0, 0, 0⟩)
abbrev s_words_with : Stmt := topS 4
theorem sc_words_with : GScope ["letters", "length", "places", "is_more", "at", "place"] ["letters", "length"] (defScope s_words_with) := ⟨rfl, rfl, rfl, by decide +kernel, rfl, by decide +kernel, by decide +kernel⟩
abbrev s_all_turns : Stmt := topS 5
theorem sc_all_turns : FnScope ["word", "at"] ["word"] (defScope s_all_turns) := ⟨rfl, rfl, rfl, by decide +kernel, rfl, by decide +kernel, by decide +kernel⟩
abbrev s_least_turn : Stmt := topS 6
theorem sc_least_turn : FnScope ["word"] ["word"] (defScope s_least_turn) := ⟨rfl, rfl, rfl, by decide +kernel, rfl, by decide +kernel, by decide +kernel⟩
abbrev s_is_repeated : Stmt := topS 7
theorem sc_is_repeated : FnScope ["word"] ["word"] (defScope s_is_repeated) := ⟨rfl, rfl, rfl, by decide +kernel, rfl, by decide +kernel, by decide +kernel⟩
abbrev s_is_comma_free : Stmt := topS 9
theorem sc_is_comma_free : FnScope ["words", "heads", "tails", "word", "many"] ["words"] (defScope s_is_comma_free) := ⟨rfl, rfl, rfl, by decide +kernel, rfl, by decide +kernel, by decide +kernel⟩
abbrev s_dip_end : Stmt := topS 10
theorem sc_dip_end : FnScope ["items", "at", "item"] ["items"] (defScope s_dip_end) := ⟨rfl, rfl, rfl, by decide +kernel, rfl, by decide +kernel, by decide +kernel⟩
abbrev s_dips_of : Stmt := topS 11
theorem sc_dips_of : FnScope ["items", "last", "found", "dip", "item"] ["items"] (defScope s_dips_of) := ⟨rfl, rfl, rfl, by decide +kernel, rfl, by decide +kernel, by decide +kernel⟩
abbrev s_joined : Stmt := topS 12
theorem sc_joined : FnScope ["items", "key", "word"] ["items"] (defScope s_joined) := ⟨rfl, rfl, rfl, by decide +kernel, rfl, by decide +kernel, by decide +kernel⟩
abbrev s_greater_items : Stmt := topS 13
theorem sc_greater_items : FnScope ["items", "dips", "first", "found", "dip", "part"] ["items"] (defScope s_greater_items) := ⟨rfl, rfl, rfl, by decide +kernel, rfl, by decide +kernel, by decide +kernel⟩
abbrev s_marked_turn : Stmt := topS 14
theorem sc_marked_turn : FnScope ["letters", "word", "items", "letter"] ["letters", "word"] (defScope s_marked_turn) := ⟨rfl, rfl, rfl, by decide +kernel, rfl, by decide +kernel, by decide +kernel⟩
abbrev s_comma_free_book : Stmt := topS 15
theorem sc_comma_free_book : FnScope ["letters", "length", "found", "word"] ["letters", "length"] (defScope s_comma_free_book) := ⟨rfl, rfl, rfl, by decide +kernel, rfl, by decide +kernel, by decide +kernel⟩
abbrev s__law_deck : Stmt := topS 17
theorem sc__law_deck : FnScope ["_law_script", "_law_heap", "_law_mixed", "_law_item"] ["_law_script"] (defScope s__law_deck) := ⟨rfl, rfl, rfl, by decide +kernel, rfl, by decide +kernel, by decide +kernel⟩
abbrev s__law_draw : Stmt := topS 18
theorem sc__law_draw : FnScope ["_law_deck_here", "_law_many", "_law_lap", "_law_mixed", "_law_item"] ["_law_deck_here", "_law_many"] (defScope s__law_draw) := ⟨rfl, rfl, rfl, by decide +kernel, rfl, by decide +kernel, by decide +kernel⟩
abbrev s__law_pick : Stmt := topS 19
theorem sc__law_pick : FnScope ["_law_deck_here", "_law_some"] ["_law_deck_here", "_law_some"] (defScope s__law_pick) := ⟨rfl, rfl, rfl, by decide +kernel, rfl, by decide +kernel, by decide +kernel⟩
abbrev s__law_turns : Stmt := topS 20
theorem sc__law_turns : FnScope ["_law_item", "_law_k"] ["_law_item"] (defScope s__law_turns) := ⟨rfl, rfl, rfl, by decide +kernel, rfl, by decide +kernel, by decide +kernel⟩
abbrev s__law_bare : Stmt := topS 21
theorem sc__law_bare : FnScope ["_law_item"] ["_law_item"] (defScope s__law_bare) := ⟨rfl, rfl, rfl, by decide +kernel, rfl, by decide +kernel, by decide +kernel⟩
abbrev s_law : Stmt := topS 22
theorem sc_law : FnScope ["_law_script", "_law_deck_here", "_law_lap", "_law_signs", "_law_most", "_law_size", "_law_some", "_law_turn", "_law_item", "_law_found", "_law_book", "_law_k", "_law_rest"] ["_law_script"] (defScope s_law) := ⟨rfl, rfl, rfl, by decide +kernel, rfl, by decide +kernel, by decide +kernel⟩
set_option maxHeartbeats 4000000 in
structure Fx (W : Wd) (P : Program) (w : World) (mg : Str → Option Value) (base : Heap) where
  dk : DkIs W "heap" "mixed" "lap"
  a_words_with : Addr
  d_words_with : FuncData
  F_words_with : Fun W.K "words_with" "words_with" s_words_with a_words_with d_words_with
  b_words_with : Binds W.K d_words_with ["letters", "length"] []
  m_words_with : mg "words_with" = some (.ref a_words_with)
  a_all_turns : Addr
  d_all_turns : FuncData
  F_all_turns : Fun W.K "all_turns" "all_turns" s_all_turns a_all_turns d_all_turns
  b_all_turns : Binds W.K d_all_turns ["word"] []
  m_all_turns : mg "all_turns" = some (.ref a_all_turns)
  a_least_turn : Addr
  d_least_turn : FuncData
  F_least_turn : Fun W.K "least_turn" "least_turn" s_least_turn a_least_turn d_least_turn
  b_least_turn : Binds W.K d_least_turn ["word"] []
  m_least_turn : mg "least_turn" = some (.ref a_least_turn)
  a_is_repeated : Addr
  d_is_repeated : FuncData
  F_is_repeated : Fun W.K "is_repeated" "is_repeated" s_is_repeated a_is_repeated d_is_repeated
  b_is_repeated : Binds W.K d_is_repeated ["word"] []
  m_is_repeated : mg "is_repeated" = some (.ref a_is_repeated)
  a_is_comma_free : Addr
  d_is_comma_free : FuncData
  F_is_comma_free : Fun W.K "is_comma_free" "is_comma_free" s_is_comma_free a_is_comma_free d_is_comma_free
  b_is_comma_free : Binds W.K d_is_comma_free ["words"] []
  m_is_comma_free : mg "is_comma_free" = some (.ref a_is_comma_free)
  a_dip_end : Addr
  d_dip_end : FuncData
  F_dip_end : Fun W.K "dip_end" "dip_end" s_dip_end a_dip_end d_dip_end
  b_dip_end : Binds W.K d_dip_end ["items"] []
  m_dip_end : mg "dip_end" = some (.ref a_dip_end)
  a_dips_of : Addr
  d_dips_of : FuncData
  F_dips_of : Fun W.K "dips_of" "dips_of" s_dips_of a_dips_of d_dips_of
  b_dips_of : Binds W.K d_dips_of ["items"] []
  m_dips_of : mg "dips_of" = some (.ref a_dips_of)
  a_joined : Addr
  d_joined : FuncData
  F_joined : Fun W.K "joined" "joined" s_joined a_joined d_joined
  b_joined : Binds W.K d_joined ["items"] []
  m_joined : mg "joined" = some (.ref a_joined)
  a_greater_items : Addr
  d_greater_items : FuncData
  F_greater_items : Fun W.K "greater_items" "greater_items" s_greater_items a_greater_items d_greater_items
  b_greater_items : Binds W.K d_greater_items ["items"] []
  m_greater_items : mg "greater_items" = some (.ref a_greater_items)
  a_marked_turn : Addr
  d_marked_turn : FuncData
  F_marked_turn : Fun W.K "marked_turn" "marked_turn" s_marked_turn a_marked_turn d_marked_turn
  b_marked_turn : Binds W.K d_marked_turn ["letters", "word"] []
  m_marked_turn : mg "marked_turn" = some (.ref a_marked_turn)
  a_comma_free_book : Addr
  d_comma_free_book : FuncData
  F_comma_free_book : Fun W.K "comma_free_book" "comma_free_book" s_comma_free_book a_comma_free_book d_comma_free_book
  b_comma_free_book : Binds W.K d_comma_free_book ["letters", "length"] []
  m_comma_free_book : mg "comma_free_book" = some (.ref a_comma_free_book)
  a__law_deck : Addr
  d__law_deck : FuncData
  F__law_deck : Fun W.K "_law_deck" "_law_deck" s__law_deck a__law_deck d__law_deck
  b__law_deck : Binds W.K d__law_deck ["_law_script"] []
  m__law_deck : mg "_law_deck" = some (.ref a__law_deck)
  a__law_draw : Addr
  d__law_draw : FuncData
  F__law_draw : Fun W.K "_law_draw" "_law_draw" s__law_draw a__law_draw d__law_draw
  b__law_draw : Binds W.K d__law_draw ["_law_deck_here", "_law_many"] []
  m__law_draw : mg "_law_draw" = some (.ref a__law_draw)
  a__law_pick : Addr
  d__law_pick : FuncData
  F__law_pick : Fun W.K "_law_pick" "_law_pick" s__law_pick a__law_pick d__law_pick
  b__law_pick : Binds W.K d__law_pick ["_law_deck_here", "_law_some"] []
  m__law_pick : mg "_law_pick" = some (.ref a__law_pick)
  a__law_turns : Addr
  d__law_turns : FuncData
  F__law_turns : Fun W.K "_law_turns" "_law_turns" s__law_turns a__law_turns d__law_turns
  b__law_turns : Binds W.K d__law_turns ["_law_item"] []
  m__law_turns : mg "_law_turns" = some (.ref a__law_turns)
  a__law_bare : Addr
  d__law_bare : FuncData
  F__law_bare : Fun W.K "_law_bare" "_law_bare" s__law_bare a__law_bare d__law_bare
  b__law_bare : Binds W.K d__law_bare ["_law_item"] []
  m__law_bare : mg "_law_bare" = some (.ref a__law_bare)
  a_law : Addr
  d_law : FuncData
  F_law : Fun W.K "law" "law" s_law a_law d_law
  b_law : Binds W.K d_law ["_law_script"] []
  m_law : mg "law" = some (.ref a_law)
  z_any : mg "any" = none
  z_enumerate : mg "enumerate" = none
  z_int : mg "int" = none
  z_len : mg "len" = none
  z_list : mg "list" = none
  z_max : mg "max" = none
  z_min : mg "min" = none
  z_range : mg "range" = none
  z_sorted : mg "sorted" = none
  z_tuple : mg "tuple" = none
variable {W : Wd} {P : Program} {w : World} {mg : Str → Option Value} {base : Heap}
def g_words_with_0 : En → MS := (sSeq (sPut 2 (xVar 4) (xC (.int 0)))
    (sAugM 4 (xC (.int 1))))
noncomputable def g_words_with_1 : GC := (cSeq (cYd (xPk 2 (xJoin (xC (.str "")) (xToL (xLc (xItems (xVar 2)) (aName 5) [5] xYes (xBin ixT (xVar 0) (xVar 5)))))))
    (cSeq (cOf (gPl (sAsg 4 (xBin subT (xVar 1) (xC (.int 1))))))
    (cSeq (cOf (gPl (sWhile 1000000 (xPkB 2 (xAndB (xTest (xBin geT (xVar 4) (xC (.int 0)))) (xTest (xBin eqT (xBin ixT (xVar 2) (xVar 4)) (xBin subT (xCall lenT (xCons (xVar 0) xNil)) (xC (.int 1))))))) g_words_with_0)))
    (cSeq (cOf (gPl (sAsg 3 (xBin geT (xVar 4) (xC (.int 0))))))
    (cSeq (cOf (gPl (sIf (xTest (xVar 3)) (sAugL 2 (xVar 4) (xC (.int 1))) sNext)))
    (cOf gNil))))))
noncomputable def g_words_with : GC := (cSeq (cOf (gPl (sNew 2 (xMulL (xToL (xLst (xCons (xC (.int 0)) xNil))) (xVar 1)))))
    (cSeq (cOf (gPl (sAsg 3 (xC (.bl true)))))
    (cSeq (cWhile 1000000 (xTest (xVar 3)) g_words_with_1)
    (cOf gNil))))
noncomputable abbrev m_words_with : Nat → List T → Option (List T × Bool) := gcM 6 g_words_with
theorem ok_words_with (Y : Fx W P w mg base) : GnC W P w mg base 1 Y.a_words_with Y.d_words_with ["letters", "length"] m_words_with := gnc_of (CX := CX0) Y.F_words_with sc_words_with rfl fun cdv A outer s H E hg hr =>
  (gcs_cons (gc_of (gx_plain fun _ _ => (ts_new (i := 2) sc_words_with.nd (tn_mulL rfl (te_new (tn_lst (ta_cons te_int ta_nil))) (te_v 1)))))
    (gcs_cons (gc_of (gx_plain fun _ _ => (ts_set (i := 3) sc_words_with.nd te_bl)))
    (gcs_cons (gc_while (n := 1000000) (f := g_words_with_1) (fun _ _ => (tt_val (te_v 3)))
    (gcs_cons (gc_yield fun _ _ => (te_pk 2 (te_join rfl te_str (te_new (tn_lc (own := [("place", 5)]) sc_words_with.nd (ti_seq rfl (te_v 2)) (blkOk_by (N := ["letters", "length", "places", "is_more", "at", "place"]) (sc := defScope s_words_with) (own := [("place", 5)]) (by decide +kernel)) (fun _ _ _ _ _ => (tg_name (i := 5) sc_words_with.nd)) (fun _ _ _ _ _ => tts_nil) (fun _ _ _ _ _ => (te_at (room_of hr) rfl (te_v 0) (te_v 5))))))))
    (gcs_cons (gc_of (gx_plain fun _ _ => (ts_set (i := 4) sc_words_with.nd (te_sub (te_v 1) te_int))))
    (gcs_cons (gc_of (gx_plain fun _ _ => (ts_while (n := 1000000) (g := g_words_with_0) PassesOwn.never (tt_pk 2 (tw_and (tt_ge (te_v 4) te_int) (tw_and1 (tt_eq (room_of hr) rfl (te_at (room_of hr) rfl (te_v 2) (te_v 4)) (te_sub (te_len rfl Y.z_len (ta_cons (te_v 0) ta_nil)) te_int)))).pt)
    (ts_cons (ts_put (i := 2) te_int (te_v 4))
    (ts_one (ts_augM 4 sc_words_with.nd te_int))))))
    (gcs_cons (gc_of (gx_plain fun _ _ => (ts_set (i := 3) sc_words_with.nd (te_ge (te_v 4) te_int))))
    (gcs_cons (gc_of (gx_plain fun _ _ => (ts_if (tt_val (te_v 3))
    (ts_one (ts_augL (i := 2) rfl te_int (te_v 4)))
    ts_nil)))
    gcs_nil))))))
    gcs_nil)))
def g_all_turns : En → MS := (sRet (xToL (xLc (xIt rng1 (xCons (xCall maxT (xCons (xCall lenT (xCons (xVar 0) xNil)) (xCons (xC (.int 1)) xNil))) xNil)) (aName 1) [1] xYes (xBin addT (xSl (xVar 0) (xPart (xVar 1)) xNoPart) (xSl (xVar 0) xNoPart (xPart (xVar 1)))))))
abbrev m_all_turns : List T → M T := fnM 2 g_all_turns
theorem ok_all_turns (Y : Fx W P w mg base) : FnT W P w mg base CX0 1 Y.a_all_turns Y.d_all_turns ["word"] m_all_turns := ft_of Y.F_all_turns sc_all_turns rfl fun cdv A outer s H E hg hr =>
  (ts_one (ts_ret (te_new (tn_lc (own := [("at", 1)]) sc_all_turns.nd (ti_rng1 (by rfl) Y.z_range (ta_cons (te_max rfl (room_of hr) rfl Y.z_max (ta_cons (te_len rfl Y.z_len (ta_cons (te_v 0) ta_nil)) (ta_cons te_int ta_nil))) ta_nil)) (blkOk_by (N := ["word", "at"]) (sc := defScope s_all_turns) (own := [("at", 1)]) (by decide +kernel)) (fun _ _ _ _ _ => (tg_name (i := 1) sc_all_turns.nd)) (fun _ _ _ _ _ => tts_nil) (fun _ _ _ _ _ => (te_add rfl (te_sl rfl (te_v 0) (to_some (te_v 1)) to_none) (te_sl rfl (te_v 0) to_none (to_some (te_v 1)))))))))
def g_is_comma_free_0 : En → MS := (sIf (xTest (xCall anyT (xCons (xToL (xLc (xIt rng2 (xCons (xC (.int 1)) (xCons (xCall lenT (xCons (xVar 3) xNil)) xNil))) (aName 4) [4] xYes (xAnd (xBin inT (xSl (xVar 3) xNoPart (xPart (xVar 4))) (xVar 2)) (xBin inT (xSl (xVar 3) (xPart (xVar 4)) xNoPart) (xVar 1))))) xNil))) (sRet (xC (.bl false))) sNext)
def g_is_comma_free_t0 : En → MS := (sSeq (sFor (xItems (xVar 0)) (aName 3) g_is_comma_free_0)
    (sRet (xC (.bl true))))
def g_is_comma_free_t1 : En → MS := (sSeq (sAsg 2 (xCl (.dic []) (clM (xItems (xVar 0)) (aName 3) [3, 4] xYes (clM (xIt rng2 (xCons (xC (.int 1)) (xCons (xCall lenT (xCons (xVar 3) xNil)) xNil))) (aName 4) [4] xYes (mPut (xSl (xVar 3) (xPart (xVar 4)) xNoPart) (xC (.bl true)))))))
    g_is_comma_free_t0)
def g_is_comma_free : En → MS := (sSeq (sAsg 1 (xCl (.dic []) (clM (xItems (xVar 0)) (aName 3) [3, 4] xYes (clM (xIt rng2 (xCons (xC (.int 1)) (xCons (xCall lenT (xCons (xVar 3) xNil)) xNil))) (aName 4) [4] xYes (mPut (xSl (xVar 3) xNoPart (xPart (xVar 4))) (xC (.bl true)))))))
    g_is_comma_free_t1)
abbrev m_is_comma_free : List T → M T := fnM 5 g_is_comma_free
theorem ok_is_comma_free (Y : Fx W P w mg base) : FnT W P w mg base CX0 1 Y.a_is_comma_free Y.d_is_comma_free ["words"] m_is_comma_free := ft_of Y.F_is_comma_free sc_is_comma_free rfl fun cdv A outer s H E hg hr =>
  (ts_cons (ts_set (i := 1) sc_is_comma_free.nd (te_dc2 (own := [("word", 3), ("many", 4)]) (vs1 := [4]) sc_is_comma_free.nd (ti_seq rfl (te_v 0)) (blkOk_by (N := ["words", "heads", "tails", "word", "many"]) (sc := defScope s_is_comma_free) (own := [("word", 3), ("many", 4)]) (by decide +kernel)) (fun _ _ _ _ _ => (tg_name (i := 3) sc_is_comma_free.nd)) (fun _ _ _ _ _ => tts_nil) (fun _ _ _ _ _ => (ti_rng2 (by rfl) Y.z_range (ta_cons te_int (ta_cons (te_len rfl Y.z_len (ta_cons (te_v 3) ta_nil)) ta_nil)))) (fun _ _ _ _ _ => (tg_name (i := 4) sc_is_comma_free.nd)) (fun _ _ _ _ _ => tts_nil) (fun _ _ _ _ _ => (te_sl rfl (te_v 3) to_none (to_some (te_v 4)))) (fun _ _ _ _ _ => te_bl)))
    (show PSs _ _ (tS W E0 g_is_comma_free_t1) from (ts_cons (ts_set (i := 2) sc_is_comma_free.nd (te_dc2 (own := [("word", 3), ("many", 4)]) (vs1 := [4]) sc_is_comma_free.nd (ti_seq rfl (te_v 0)) (blkOk_by (N := ["words", "heads", "tails", "word", "many"]) (sc := defScope s_is_comma_free) (own := [("word", 3), ("many", 4)]) (by decide +kernel)) (fun _ _ _ _ _ => (tg_name (i := 3) sc_is_comma_free.nd)) (fun _ _ _ _ _ => tts_nil) (fun _ _ _ _ _ => (ti_rng2 (by rfl) Y.z_range (ta_cons te_int (ta_cons (te_len rfl Y.z_len (ta_cons (te_v 3) ta_nil)) ta_nil)))) (fun _ _ _ _ _ => (tg_name (i := 4) sc_is_comma_free.nd)) (fun _ _ _ _ _ => tts_nil) (fun _ _ _ _ _ => (te_sl rfl (te_v 3) (to_some (te_v 4)) to_none)) (fun _ _ _ _ _ => te_bl)))
    (show PSs _ _ (tS W E0 g_is_comma_free_t0) from (ts_cons (ts_for (g := g_is_comma_free_0) PassesOwn.never (ti_seq rfl (te_v 0)) (tg_name (i := 3) sc_is_comma_free.nd)
    (ts_one (ts_if (tt_val (te_any rfl rfl Y.z_any (ta_cons (te_new (tn_lc (own := [("many", 4)]) sc_is_comma_free.nd (ti_rng2 (by rfl) Y.z_range (ta_cons te_int (ta_cons (te_len rfl Y.z_len (ta_cons (te_v 3) ta_nil)) ta_nil))) (blkOk_by (N := ["words", "heads", "tails", "word", "many"]) (sc := defScope s_is_comma_free) (own := [("many", 4)]) (by decide +kernel)) (fun _ _ _ _ _ => (tg_name (i := 4) sc_is_comma_free.nd)) (fun _ _ _ _ _ => tts_nil) (fun _ _ _ _ _ => (te_and (te_in (room_of hr) rfl (te_sl rfl (te_v 3) to_none (to_some (te_v 4))) (te_v 2)) (te_one (te_in (room_of hr) rfl (te_sl rfl (te_v 3) (to_some (te_v 4)) to_none) (te_v 1))))))) ta_nil)))
    (ts_one (ts_ret te_bl))
    ts_nil)))
    (ts_one (ts_ret te_bl)))))))
def g_dip_end_0 : En → MS := (sIf (xTest (xChain geU ltU (xBin ixT (xBin ixT (xVar 0) (xBin subT (xVar 1) (xC (.int 2)))) (xC (.int 0))) (xBin ixT (xBin ixT (xVar 0) (xBin subT (xVar 1) (xC (.int 1)))) (xC (.int 0))) (xBin ixT (xVar 2) (xC (.int 0))))) (sRet (xVar 1)) sNext)
def g_dip_end : En → MS := (sSeq (sFor (xIt enu1 (xCons (xVar 0) xNil)) (aTup (aCons (aName 1) (aCons (aName 2) aNil))) g_dip_end_0)
    (sRet (xC (.int 0))))
abbrev m_dip_end : List T → M T := fnM 3 g_dip_end
theorem ok_dip_end (Y : Fx W P w mg base) : FnT W P w mg base CX0 1 Y.a_dip_end Y.d_dip_end ["items"] m_dip_end := ft_of Y.F_dip_end sc_dip_end rfl fun cdv A outer s H E hg hr =>
  (ts_cons (ts_for (g := g_dip_end_0) PassesOwn.never (ti_enum (by rfl) Y.z_enumerate (ta_cons (te_v 0) ta_nil)) (tg_tup rfl (tgs_cons (tg_name (i := 1) sc_dip_end.nd) (tgs_cons (tg_name (i := 2) sc_dip_end.nd) tgs_nil)) (aCons_len (aCons_len aNil_len)))
    (ts_one (ts_if (tt_chain (op_geA.or (op_tupO2 false (room_of hr))) (op_ltA.or (op_tupO true (room_of hr))) agr_geU agr_ltU (te_at (room_of hr) rfl (te_at (room_of hr) rfl (te_v 0) (te_sub (te_v 1) te_int)) te_int) (te_at (room_of hr) rfl (te_at (room_of hr) rfl (te_v 0) (te_sub (te_v 1) te_int)) te_int) (te_at (room_of hr) rfl (te_v 2) te_int))
    (ts_one (ts_ret (te_v 1)))
    ts_nil)))
    (ts_one (ts_ret te_int)))
def g_joined : En → MS := (sRet (xTup (xCons (xTup (xCons (xCall lenT (xCons (xVar 0) xNil)) (xCons (xCall tupleT (xCons (xToL (xLc (xItems (xVar 0)) (aTup (aCons (aName 1) (aCons (aName 2) aNil))) [1, 2] xYes (xVar 1))) xNil)) xNil))) (xCons (xJoin (xC (.str "")) (xToL (xLc (xItems (xVar 0)) (aTup (aCons (aName 1) (aCons (aName 2) aNil))) [1, 2] xYes (xVar 2)))) xNil))))
abbrev m_joined : List T → M T := fnM 3 g_joined
theorem ok_joined (Y : Fx W P w mg base) : FnT W P w mg base CX0 1 Y.a_joined Y.d_joined ["items"] m_joined := ft_of Y.F_joined sc_joined rfl fun cdv A outer s H E hg hr =>
  (ts_one (ts_ret (te_tup (ta_cons (te_tup (ta_cons (te_len rfl Y.z_len (ta_cons (te_v 0) ta_nil)) (ta_cons (te_toTup rfl Y.z_tuple (ta_cons (te_new (tn_lc (own := [("key", 1), ("word", 2)]) sc_joined.nd (ti_seq rfl (te_v 0)) (blkOk_by (N := ["items", "key", "word"]) (sc := defScope s_joined) (own := [("key", 1), ("word", 2)]) (by decide +kernel)) (fun _ _ _ _ _ => (tg_tup rfl (tgs_cons (tg_name (i := 1) sc_joined.nd) (tgs_cons (tg_name (i := 2) sc_joined.nd) tgs_nil)) (aCons_len (aCons_len aNil_len)))) (fun _ _ _ _ _ => tts_nil) (fun _ _ _ _ _ => (te_v 1)))) ta_nil)) ta_nil))) (ta_cons (te_join rfl te_str (te_new (tn_lc (own := [("key", 1), ("word", 2)]) sc_joined.nd (ti_seq rfl (te_v 0)) (blkOk_by (N := ["items", "key", "word"]) (sc := defScope s_joined) (own := [("key", 1), ("word", 2)]) (by decide +kernel)) (fun _ _ _ _ _ => (tg_tup rfl (tgs_cons (tg_name (i := 1) sc_joined.nd) (tgs_cons (tg_name (i := 2) sc_joined.nd) tgs_nil)) (aCons_len (aCons_len aNil_len)))) (fun _ _ _ _ _ => tts_nil) (fun _ _ _ _ _ => (te_v 2))))) ta_nil)))))
def g__law_draw_t0 : En → MS := (sSeq (sAsg 3 (xBin modT (xCall toIntT (xCons (xBin addT (xBin addT (xBin mulT (xVar 3) (xVar 3)) (xBin mulT (xC (.int 40014)) (xVar 2))) (xC (.int 71))) xNil)) (xC (.int 2147483563))))
    (sRet (xBin modT (xCall toIntT (xCons (xBin fdivT (xBin modT (xCall toIntT (xCons (xBin mulT (xVar 3) (xC (.int 39373))) xNil)) (xC (.int 2147483587))) (xC (.int 32))) xNil)) (xVar 1))))
def g__law_draw_t1 : En → MS := (sSeq (sAsg 3 (xBin modT (xCall toIntT (xCons (xVar 3) xNil)) (xC (.int 2147483647))))
    g__law_draw_t0)
def g__law_draw_t2 : En → MS := (sSeq (sAsg 3 (xBin mulT (xCall toIntT (xCons (xBin addT (xBin addT (xBin modT (xCall toIntT (xCons (xVar 3) xNil)) (xC (.int 2147483579))) (xBin mulT (xBin mulT (xC (.int 52711)) (xVar 2)) (xVar 2))) (xC (.int 17))) xNil)) (xC (.int 48271))))
    g__law_draw_t1)
def g__law_draw_t3 : En → MS := (sSeq (sIf (xTest (xDkNe (xVar 0))) (sSeq (sAsg 4 (xDkPop (xVar 0)))
    (sSeq (sIf (xTest (xBin geT (xVar 4) (xBin powT (xC (.int 10)) (xC (.int 18))))) (sSeq (sExpr (xDkApp (xVar 0) (xBin fdivT (xVar 4) (xVar 1))))
    (sRet (xBin modT (xCall toIntT (xCons (xVar 4) xNil)) (xVar 1)))) sNext)
    (sAsg 3 (xBin addT (xVar 3) (xCall toIntT (xCons (xVar 4) xNil)))))) sNext)
    g__law_draw_t2)
def g__law_draw_t4 : En → MS := (sSeq (sDkSet (xVar 0) (xVar 2))
    g__law_draw_t3)
def g__law_draw : En → MS := (sSeq (sPar 2 3 (xCons (xBin addT (xDkN (xVar 0)) (xC (.int 1))) (xCons (xDkB (xVar 0)) xNil)))
    g__law_draw_t4)
abbrev m__law_draw : List T → M T := fnM 5 g__law_draw
theorem ok__law_draw (Y : Fx W P w mg base) : FnT W P w mg base CX0 1 Y.a__law_draw Y.d__law_draw ["_law_deck_here", "_law_many"] m__law_draw := ft_of Y.F__law_draw sc__law_draw rfl fun cdv A outer s H E hg hr =>
  (ts_cons (ts_par (i := 2) (j := 3) rfl sc__law_draw.nd (ta_cons (te_add rfl (te_dqN Y.dk (room_of hr) (te_v 0)) te_int) (ta_cons (te_dqB Y.dk (room_of hr) (te_v 0)) ta_nil)))
    (show PSs _ _ (tS W E0 g__law_draw_t4) from (ts_cons (ts_dqSet Y.dk (room_of hr) (te_v 0) (te_v 2))
    (show PSs _ _ (tS W E0 g__law_draw_t3) from (ts_cons (ts_if (tt_dqNe Y.dk (room_of hr) (te_v 0))
    (ts_cons (ts_set (i := 4) sc__law_draw.nd (te_dqPop Y.dk (room_of hr) (te_v 0)))
    (ts_cons (ts_if (tt_ge (te_v 4) (te_pow te_int te_int))
    (ts_cons (ts_expr (te_dqApp Y.dk (room_of hr) (te_v 0) (te_fdiv (te_v 4) (te_v 1))))
    (ts_one (ts_ret (te_mod (te_toInt  Y.z_int (ta_cons (te_v 4) ta_nil)) (te_v 1)))))
    ts_nil)
    (ts_one (ts_set (i := 3) sc__law_draw.nd (te_add rfl (te_v 3) (te_toInt  Y.z_int (ta_cons (te_v 4) ta_nil)))))))
    ts_nil)
    (show PSs _ _ (tS W E0 g__law_draw_t2) from (ts_cons (ts_set (i := 3) sc__law_draw.nd (te_mul rfl (te_toInt  Y.z_int (ta_cons (te_add rfl (te_add rfl (te_mod (te_toInt  Y.z_int (ta_cons (te_v 3) ta_nil)) te_int) (te_mul rfl (te_mul rfl te_int (te_v 2)) (te_v 2))) te_int) ta_nil)) te_int))
    (show PSs _ _ (tS W E0 g__law_draw_t1) from (ts_cons (ts_set (i := 3) sc__law_draw.nd (te_mod (te_toInt  Y.z_int (ta_cons (te_v 3) ta_nil)) te_int))
    (show PSs _ _ (tS W E0 g__law_draw_t0) from (ts_cons (ts_set (i := 3) sc__law_draw.nd (te_mod (te_toInt  Y.z_int (ta_cons (te_add rfl (te_add rfl (te_mul rfl (te_v 3) (te_v 3)) (te_mul rfl te_int (te_v 2))) te_int) ta_nil)) te_int))
    (ts_one (ts_ret (te_mod (te_toInt  Y.z_int (ta_cons (te_fdiv (te_mod (te_toInt  Y.z_int (ta_cons (te_mul rfl (te_v 3) te_int) ta_nil)) te_int) te_int) ta_nil)) (te_v 1)))))))))))))))
def g__law_turns : En → MS := (sRet (xToL (xLc (xIt rng1 (xCons (xCall lenT (xCons (xVar 0) xNil)) xNil)) (aName 1) [1] xYes (xBin addT (xSl (xVar 0) (xPart (xVar 1)) xNoPart) (xSl (xVar 0) xNoPart (xPart (xVar 1)))))))
abbrev m__law_turns : List T → M T := fnM 2 g__law_turns
theorem ok__law_turns (Y : Fx W P w mg base) : FnT W P w mg base CX0 1 Y.a__law_turns Y.d__law_turns ["_law_item"] m__law_turns := ft_of Y.F__law_turns sc__law_turns rfl fun cdv A outer s H E hg hr =>
  (ts_one (ts_ret (te_new (tn_lc (own := [("_law_k", 1)]) sc__law_turns.nd (ti_rng1 (by rfl) Y.z_range (ta_cons (te_len rfl Y.z_len (ta_cons (te_v 0) ta_nil)) ta_nil)) (blkOk_by (N := ["_law_item", "_law_k"]) (sc := defScope s__law_turns) (own := [("_law_k", 1)]) (by decide +kernel)) (fun _ _ _ _ _ => (tg_name (i := 1) sc__law_turns.nd)) (fun _ _ _ _ _ => tts_nil) (fun _ _ _ _ _ => (te_add rfl (te_sl rfl (te_v 0) (to_some (te_v 1)) to_none) (te_sl rfl (te_v 0) to_none (to_some (te_v 1)))))))))
def g_least_turn : En → MS := (sRet (xCall minT (xCons (xFn m_all_turns (xCons (xVar 0) xNil)) xNil)))
abbrev m_least_turn : List T → M T := fnM 1 g_least_turn
theorem ok_least_turn (Y : Fx W P w mg base) : FnT W P w mg base CX0 2 Y.a_least_turn Y.d_least_turn ["word"] m_least_turn := ft_of Y.F_least_turn sc_least_turn rfl fun cdv A outer s H E hg hr =>
  (ts_one (ts_ret (te_min rfl (room_of hr) rfl Y.z_min (ta_cons (te_call ((ok_all_turns Y).mono (by decide)) rfl hg hr (by rfl) Y.m_all_turns Y.F_all_turns.kp Y.b_all_turns pass0 (ta_cons (te_v 0) ta_nil) rfl (xCons_len xNil_len)) ta_nil))))
def g_is_repeated : En → MS := (sRet (xBin inT (xVar 0) (xSl (xFn m_all_turns (xCons (xVar 0) xNil)) (xPart (xC (.int 1))) xNoPart)))
abbrev m_is_repeated : List T → M T := fnM 1 g_is_repeated
theorem ok_is_repeated (Y : Fx W P w mg base) : FnT W P w mg base CX0 2 Y.a_is_repeated Y.d_is_repeated ["word"] m_is_repeated := ft_of Y.F_is_repeated sc_is_repeated rfl fun cdv A outer s H E hg hr =>
  (ts_one (ts_ret (te_in (room_of hr) rfl (te_v 0) (te_sl rfl (te_call ((ok_all_turns Y).mono (by decide)) rfl hg hr (by rfl) Y.m_all_turns Y.F_all_turns.kp Y.b_all_turns pass0 (ta_cons (te_v 0) ta_nil) rfl (xCons_len xNil_len)) (to_some te_int) to_none))))
def g_dips_of_0 : En → MS := (sSeq (sApp 3 (xVar 4))
    (sIf (xPkB 3 (xAndB (xTest (xBin gtT (xCall lenT (xCons (xVar 3) xNil)) (xC (.int 1)))) (xTest (xBin ltU (xBin ixT (xBin ixT (xVar 3) (xUn negT (xC (.int 2)))) (xC (.int 0))) (xBin ixT (xVar 4) (xC (.int 0))))))) (sFrz 3 (sSeq (sApp 2 (xVar 3))
    (sNew 3 (xLst xNil)))) sNext))
def g_dips_of_t0 : En → MS := (sSeq (sFor (xItems (xBin addT (xSl (xVar 0) (xPart (xBin addT (xVar 1) (xC (.int 1)))) xNoPart) (xSl (xVar 0) xNoPart (xPart (xBin addT (xVar 1) (xC (.int 1))))))) (aName 4) g_dips_of_0)
    (sFrz 2 (sRet (xVar 2))))
def g_dips_of_t1 : En → MS := (sSeq (sNew 3 (xLst xNil))
    g_dips_of_t0)
def g_dips_of_t2 : En → MS := (sSeq (sNew 2 (xLst xNil))
    g_dips_of_t1)
def g_dips_of : En → MS := (sSeq (sAsg 1 (xFn m_dip_end (xCons (xVar 0) xNil)))
    g_dips_of_t2)
abbrev m_dips_of : List T → M T := fnM 5 g_dips_of
theorem ok_dips_of (Y : Fx W P w mg base) : FnT W P w mg base CX0 2 Y.a_dips_of Y.d_dips_of ["items"] m_dips_of := ft_of Y.F_dips_of sc_dips_of rfl fun cdv A outer s H E hg hr =>
  (ts_cons (ts_set (i := 1) sc_dips_of.nd (te_call ((ok_dip_end Y).mono (by decide)) rfl hg hr (by rfl) Y.m_dip_end Y.F_dip_end.kp Y.b_dip_end pass0 (ta_cons (te_v 0) ta_nil) rfl (xCons_len xNil_len)))
    (show PSs _ _ (tS W E0 g_dips_of_t2) from (ts_cons (ts_new (i := 2) sc_dips_of.nd (tn_lst ta_nil))
    (show PSs _ _ (tS W E0 g_dips_of_t1) from (ts_cons (ts_new (i := 3) sc_dips_of.nd (tn_lst ta_nil))
    (show PSs _ _ (tS W E0 g_dips_of_t0) from (ts_cons (ts_for (g := g_dips_of_0) PassesOwn.never (ti_seq rfl (te_add rfl (te_sl rfl (te_v 0) (to_some (te_add rfl (te_v 1) te_int)) to_none) (te_sl rfl (te_v 0) to_none (to_some (te_add rfl (te_v 1) te_int))))) (tg_name (i := 4) sc_dips_of.nd)
    (ts_cons (ts_app (i := 3) (te_v 4))
    (ts_one (ts_if (tt_pk 3 (tw_and (tt_gt (te_len rfl Y.z_len (ta_cons (te_v 3) ta_nil)) te_int) (tw_and1 (tt_ltU (room_of hr) (te_at (room_of hr) rfl (te_at (room_of hr) rfl (te_v 3) (te_neg te_int)) te_int) (te_at (room_of hr) rfl (te_v 4) te_int)))).pt)
    (tss_frz 3 (ts_cons (ts_app (i := 2) (te_v 3))
    (ts_one (ts_new (i := 3) sc_dips_of.nd (tn_lst ta_nil)))))
    ts_nil))))
    (tss_frz 2 (ts_one (ts_ret (te_v 2)))))))))))
def g__law_pick : En → MS := (sRet (xBin ixT (xVar 1) (xFn m__law_draw (xCons (xVar 0) (xCons (xCall lenT (xCons (xVar 1) xNil)) xNil)))))
abbrev m__law_pick : List T → M T := fnM 2 g__law_pick
theorem ok__law_pick (Y : Fx W P w mg base) : FnT W P w mg base CX0 2 Y.a__law_pick Y.d__law_pick ["_law_deck_here", "_law_some"] m__law_pick := ft_of Y.F__law_pick sc__law_pick rfl fun cdv A outer s H E hg hr =>
  (ts_one (ts_ret (te_at (room_of hr) rfl (te_v 1) (te_call ((ok__law_draw Y).mono (by decide)) rfl hg hr (by rfl) Y.m__law_draw Y.F__law_draw.kp Y.b__law_draw pass0 (ta_cons (te_v 0) (ta_cons (te_len rfl Y.z_len (ta_cons (te_v 1) ta_nil)) ta_nil)) rfl (xCons_len (xCons_len xNil_len))))))
def g__law_bare : En → MS := (sRet (xBin eqT (xCount (xFn m__law_turns (xCons (xVar 0) xNil)) (xVar 0)) (xC (.int 1))))
abbrev m__law_bare : List T → M T := fnM 1 g__law_bare
theorem ok__law_bare (Y : Fx W P w mg base) : FnT W P w mg base CX0 2 Y.a__law_bare Y.d__law_bare ["_law_item"] m__law_bare := ft_of Y.F__law_bare sc__law_bare rfl fun cdv A outer s H E hg hr =>
  (ts_one (ts_ret (te_eq (room_of hr) rfl (te_count rfl (room_of hr) (te_call ((ok__law_turns Y).mono (by decide)) rfl hg hr (by rfl) Y.m__law_turns Y.F__law_turns.kp Y.b__law_turns pass0 (ta_cons (te_v 0) ta_nil) rfl (xCons_len xNil_len)) (te_v 0)) te_int)))
def g_greater_items_0 : En → MS := (sAug 2 (xC (.int 1)))
def g_greater_items_1 : En → MS := (sIf (xTest (xBin eqT (xBin modT (xCall lenT (xCons (xVar 4) xNil)) (xC (.int 2))) (xC (.int 1)))) (sApp 3 (xVar 4)) (sPut 3 (xUn negT (xC (.int 1))) (xBin addT (xOwnL 3 (xUn negT (xC (.int 1)))) (xVar 4))))
def g_greater_items_t0 : En → MS := (sSeq (sFor (xItems (xBin addT (xSl (xVar 1) (xPart (xVar 2)) xNoPart) (xSl (xVar 1) xNoPart (xPart (xVar 2))))) (aName 4) g_greater_items_1)
    (sFrz 3 (sRet (xToL (xLc (xItems (xVar 3)) (aName 5) [5] xYes (xFn m_joined (xCons (xVar 5) xNil)))))))
def g_greater_items_t1 : En → MS := (sSeq (sNew 3 (xLst xNil))
    g_greater_items_t0)
def g_greater_items_t2 : En → MS := (sSeq (sWhile 1000000 (xTest (xBin eqT (xBin modT (xCall lenT (xCons (xBin ixT (xVar 1) (xVar 2)) xNil)) (xC (.int 2))) (xC (.int 0)))) g_greater_items_0)
    g_greater_items_t1)
def g_greater_items_t3 : En → MS := (sSeq (sAsg 2 (xC (.int 0)))
    g_greater_items_t2)
def g_greater_items : En → MS := (sSeq (sAsg 1 (xFn m_dips_of (xCons (xVar 0) xNil)))
    g_greater_items_t3)
abbrev m_greater_items : List T → M T := fnM 6 g_greater_items
theorem ok_greater_items (Y : Fx W P w mg base) : FnT W P w mg base CX0 3 Y.a_greater_items Y.d_greater_items ["items"] m_greater_items := ft_of Y.F_greater_items sc_greater_items rfl fun cdv A outer s H E hg hr =>
  (ts_cons (ts_set (i := 1) sc_greater_items.nd (te_call ((ok_dips_of Y).mono (by decide)) rfl hg hr (by rfl) Y.m_dips_of Y.F_dips_of.kp Y.b_dips_of pass0 (ta_cons (te_v 0) ta_nil) rfl (xCons_len xNil_len)))
    (show PSs _ _ (tS W E0 g_greater_items_t3) from (ts_cons (ts_set (i := 2) sc_greater_items.nd te_int)
    (show PSs _ _ (tS W E0 g_greater_items_t2) from (ts_cons (ts_while (n := 1000000) (g := g_greater_items_0) PassesOwn.never (tt_eq (room_of hr) rfl (te_mod (te_len rfl Y.z_len (ta_cons (te_at (room_of hr) rfl (te_v 1) (te_v 2)) ta_nil)) te_int) te_int)
    (ts_one (ts_aug 2 sc_greater_items.nd te_int)))
    (show PSs _ _ (tS W E0 g_greater_items_t1) from (ts_cons (ts_new (i := 3) sc_greater_items.nd (tn_lst ta_nil))
    (show PSs _ _ (tS W E0 g_greater_items_t0) from (ts_cons (ts_for (g := g_greater_items_1) PassesOwn.never (ti_seq rfl (te_add rfl (te_sl rfl (te_v 1) (to_some (te_v 2)) to_none) (te_sl rfl (te_v 1) to_none (to_some (te_v 2))))) (tg_name (i := 4) sc_greater_items.nd)
    (ts_one (ts_if (tt_eq (room_of hr) rfl (te_mod (te_len rfl Y.z_len (ta_cons (te_v 4) ta_nil)) te_int) te_int)
    (ts_one (ts_app (i := 3) (te_v 4)))
    (ts_one (ts_put (i := 3) (te_add rfl (te_ownL 3 (te_neg te_int)) (te_v 4)) (te_neg te_int))))))
    (tss_frz 3 (ts_one (ts_ret (te_new (tn_lc (own := [("part", 5)]) sc_greater_items.nd (ti_seq rfl (te_v 3)) (blkOk_by (N := ["items", "dips", "first", "found", "dip", "part"]) (sc := defScope s_greater_items) (own := [("part", 5)]) (by decide +kernel)) (fun _ _ _ _ _ => (tg_name (i := 5) sc_greater_items.nd)) (fun _ _ _ _ _ => tts_nil) (fun _ _ _ _ _ => (te_call ((ok_joined Y).mono (by decide)) rfl hg hr (by rfl) Y.m_joined Y.F_joined.kp Y.b_joined pass0 (ta_cons (te_v 5) ta_nil) rfl (xCons_len xNil_len)))))))))))))))))
def g_marked_turn_0 : En → MS := (sAsg 2 (xFn m_greater_items (xCons (xVar 2) xNil)))
def g_marked_turn_t0 : En → MS := (sSeq (sWhile 1000000 (xTest (xBin gtT (xCall lenT (xCons (xVar 2) xNil)) (xC (.int 1)))) g_marked_turn_0)
    (sRet (xBin ixT (xBin ixT (xVar 2) (xC (.int 0))) (xC (.int 1)))))
def g_marked_turn : En → MS := (sSeq (sAsg 2 (xToL (xLc (xItems (xVar 1)) (aName 3) [3] xYes (xTup (xCons (xSIx (xVar 0) (xVar 3)) (xCons (xVar 3) xNil))))))
    g_marked_turn_t0)
abbrev m_marked_turn : List T → M T := fnM 4 g_marked_turn
theorem ok_marked_turn (Y : Fx W P w mg base) : FnT W P w mg base CX0 4 Y.a_marked_turn Y.d_marked_turn ["letters", "word"] m_marked_turn := ft_of Y.F_marked_turn sc_marked_turn rfl fun cdv A outer s H E hg hr =>
  (ts_cons (ts_setLc (own := [("letter", 3)]) (i := 2) sc_marked_turn.nd (ti_seq rfl (te_v 1)) (blkOk_by (N := ["letters", "word", "items", "letter"]) (sc := defScope s_marked_turn) (own := [("letter", 3)]) (by decide +kernel)) (fun _ _ _ _ _ => (tg_name (i := 3) sc_marked_turn.nd)) (fun _ _ _ _ _ => tts_nil) (fun _ _ _ _ _ => (te_tup (ta_cons (te_sindex (te_v 0) (te_v 3)) (ta_cons (te_v 3) ta_nil)))))
    (show PSs _ _ (tS W E0 g_marked_turn_t0) from (ts_cons (ts_while (n := 1000000) (g := g_marked_turn_0) PassesOwn.never (tt_gt (te_len rfl Y.z_len (ta_cons (te_v 2) ta_nil)) te_int)
    (ts_one (ts_set (i := 2) sc_marked_turn.nd (te_call ((ok_greater_items Y).mono (by decide)) rfl hg hr (by rfl) Y.m_greater_items Y.F_greater_items.kp Y.b_greater_items pass0 (ta_cons (te_v 2) ta_nil) rfl (xCons_len xNil_len)))))
    (ts_one (ts_ret (te_at (room_of hr) rfl (te_at (room_of hr) rfl (te_v 2) te_int) te_int))))))
def g_comma_free_book_0 : En → MS := (sIf (xAndB (xTest (xBin eqT (xFn m_least_turn (xCons (xVar 3) xNil)) (xVar 3))) (xNotB (xTest (xFn m_is_repeated (xCons (xVar 3) xNil))))) (sApp 2 (xFn m_marked_turn (xCons (xVar 0) (xCons (xVar 3) xNil)))) sNext)
def g_comma_free_book_t0 : En → MS := (sSeq (sForC (xGnC 4000 m_words_with (xCons (xVar 0) (xCons (xVar 1) xNil))) (aName 3) g_comma_free_book_0)
    (sFrz 2 (sRet (xCall tupleT (xCons (xToL (xCallN sortedT (xCons (xVar 2) xNil))) xNil)))))
def g_comma_free_book_t1 : En → MS := (sSeq (sNew 2 (xLst xNil))
    g_comma_free_book_t0)
def g_comma_free_book : En → MS := (sSeq (sIf (xTest (xBin eqT (xBin modT (xVar 1) (xC (.int 2))) (xC (.int 0)))) sNever sNext)
    g_comma_free_book_t1)
abbrev m_comma_free_book : List T → M T := fnM 4 g_comma_free_book
theorem ok_comma_free_book (Y : Fx W P w mg base) : FnT W P w mg base CX0 5 Y.a_comma_free_book Y.d_comma_free_book ["letters", "length"] m_comma_free_book := ft_of Y.F_comma_free_book sc_comma_free_book rfl fun cdv A outer s H E hg hr =>
  (ts_cons (ts_if (tt_eq (room_of hr) rfl (te_mod (te_v 1) te_int) te_int)
    (ts_one ts_never)
    ts_nil)
    (show PSs _ _ (tS W E0 g_comma_free_book_t1) from (ts_cons (ts_new (i := 2) sc_comma_free_book.nd (tn_lst ta_nil))
    (show PSs _ _ (tS W E0 g_comma_free_book_t0) from (ts_cons (ts_forC (g := g_comma_free_book_0) PassesOwn.never (XGens.never rfl) hg hr (pgnc_call (Ex := E0) 4000 ((ok_words_with Y).mono (by decide)) rfl hg (hr.mono (by decide)) (by rfl) Y.m_words_with Y.F_words_with.kp Y.b_words_with (ta_cons (te_v 0) (ta_cons (te_v 1) ta_nil)) rfl (xCons_len (xCons_len xNil_len))) (tg_name (i := 3) sc_comma_free_book.nd)
    (ts_one (ts_if (tw_and (tt_eq (room_of hr) rfl (te_call ((ok_least_turn Y).mono (by decide)) rfl hg hr (by rfl) Y.m_least_turn Y.F_least_turn.kp Y.b_least_turn pass0 (ta_cons (te_v 3) ta_nil) rfl (xCons_len xNil_len)) (te_v 3)) (tw_and1 (tt_not (tt_val (te_call ((ok_is_repeated Y).mono (by decide)) rfl hg hr (by rfl) Y.m_is_repeated Y.F_is_repeated.kp Y.b_is_repeated pass0 (ta_cons (te_v 3) ta_nil) rfl (xCons_len xNil_len)))))).pt
    (ts_one (ts_app (i := 2) (te_call ((ok_marked_turn Y).mono (by decide)) rfl hg hr (by rfl) Y.m_marked_turn Y.F_marked_turn.kp Y.b_marked_turn pass0 (ta_cons (te_v 0) (ta_cons (te_v 3) ta_nil)) rfl (xCons_len (xCons_len xNil_len)))))
    ts_nil)))
    (tss_frz 2 (ts_one (ts_ret (te_toTup rfl Y.z_tuple (ta_cons (te_new (tn_sorted rfl (room_of hr) Y.z_sorted (ta_cons (te_v 2) ta_nil))) ta_nil))))))))))
theorem ok__law_deck (Y : Fx W P w mg base) : FnOk P w W.K mg base CX0 1 Y.a__law_deck Y.d__law_deck ["_law_script"] (spDeck W 63) := by
  refine Y.F__law_deck.ok sc__law_deck (fun vs H Q E h => ?_) (fun cdv A outer s H vs Q E hr h => ?_)
  · obtain ⟨a, ns, rfl, _⟩ := h
    rfl
  · obtain ⟨a, ns, rfl, hS, hn, q⟩ := h
    refine ⟨_, pss_cons (ps_par (i := 1) (j := 2) rfl sc__law_deck.nd rfl rfl (by decide) rfl rfl (pa_cons (pe_callTy call_list_of (by rfl) Y.z_list (by decide +kernel) (pa_cons (pe_slice sl_list (pv 0) po_none (po_some pe_int)) pa_nil)) (pa_cons pe_int pa_nil)) rfl)
      (pss_cons (ps_for PassesOwn.never rfl (pi_list (pv 1)) (pg_name (i := 3) sc__law_deck.nd rfl (.inl rfl))
        (pss_one (ps_set (i := 2) sc__law_deck.nd rfl (.inl rfl) (pe_op op_mod (pe_callTy call_int1 (by rfl) Y.z_int (by decide +kernel) (pa_cons (pe_op op_add (pe_op op_add (pe_op op_mul (pv 2) pe_int) (pe_op op_mod (pe_callTy call_int1 (by rfl) Y.z_int (by decide +kernel) (pa_cons (pv 3) pa_nil)) pe_int)) pe_int) pa_nil)) pe_int))))
      (pss_one (ps_ret (pe_disp (pps_cons pe_str (pe_revL (pv 1)) (pps_cons pe_str (pv 2) (pps_cons pe_str pe_int pps_nil))) rfl rfl (by decide) (by decide))))), ?_⟩
    refine ⟨.ref a, rfl, _, rfl, a, _, rfl, hS, fun p1 np1 => ?_⟩
    have sm1 : Same H (upd H p1 (.lst (cutV (ns.map V.int) none (some 60)))) := upd_same' np1
    refine ⟨p1, _, rfl, .inl (.of upd_same), fun p2 np2 => ?_⟩
    rw [show (60 : Int) = ((60 : Nat) : Int) from rfl, deck_take] at np2 ⊢
    have hns : (ns.take 60).length ≤ 63 := by rw [List.length_take]; omega
    generalize ns.take 60 = ns at hns np2 ⊢
    clear hn
    have hn := hns
    refine ⟨_, _, rfl, ?_⟩
    have sm2 := upd_same' (o := .lst (ns.map V.int)) np2
    have no2 : p2 ≠ p1 := fun z => by
      rw [z, upd_same] at np2
      cases np2
    refine ⟨.ref p2, rfl, p2, rfl, ⟨_, .of upd_same⟩, fun i m σ H' => ∃ b y3, σ = [some (.ref a), some (.ref p2), some (.int b), y3] ∧ i + m = ns.length ∧ H' p2 = some (.lst (ns.map V.int)), ⟨ns.length, _, none, rfl, by omega, upd_same⟩, ?_⟩
    rintro i m σ H' ⟨b, y3, rfl, em, e2⟩
    by_cases hi : i < ns.length
    · have g : (ns.map V.int)[i]? = some (.int ns[i]) := by
        rw [List.getElem?_map, List.getElem?_eq_getElem hi]
        rfl
      refine .inr ⟨⟨_, _, .of e2, g⟩, fun σ' H2 => ∃ b y3, σ' = [some (.ref a), some (.ref p2), some (.int b), y3] ∧ H2 p2 = some (.lst (ns.map V.int)), fun σ' H2 ⟨b, y3, e, e2⟩ => ⟨m - 1, by omega, b, y3, e, by omega, e2⟩, fun x H2 y => ?_⟩
      obtain ⟨rfl, fv⟩ := y
      have ex : x = .int ns[i] := Option.some.inj ((fv _ (.of e2)).symm.trans g)
      subst ex
      refine ⟨.int b, rfl, b, _, rfl, rfl, .inr (by decide), .int ns[i], rfl, .inl ⟨ns[i], rfl, ns[i], _, rfl, rfl, (by decide : (0 : Int) < 2147483647), _, _, rfl, rfl, _, _, rfl, rfl, .inl ⟨_, rfl, _, _, rfl, rfl, (by decide : (0 : Int) < 2147483563), _, _, rfl, e2⟩⟩⟩
    · refine .inl ⟨⟨_, .of e2, by rw [List.length_map]; omega⟩, ?_⟩
      intro p np
      have npp : p2 ≠ p := fun z => by
        rw [← z, e2] at np
        cases np
      refine ⟨.ref p2, rfl, p2, _, rfl, .of (by rw [upd_ne npp]; exact e2), fun c nc => ?_⟩
      have ncp : c ≠ p := fun z => by
        rw [z, upd_same] at nc
        cases nc
      refine ⟨.int b, rfl, ?_⟩
      refine ⟨by rw [upd_ne ncp.symm, upd_same], [(.inr "heap", .ref c), (.inr "mixed", .int b), (.inr "lap", .int 0)], rfl, (by show 3 ≤ 15; decide), ?_⟩
      rw [merge3 Y.dk.n01 Y.dk.n02 Y.dk.n12]
      refine q _ (p, c) ⟨ns.reverse, b, 0⟩ ⟨ncp.symm, ?_, ?_⟩ ⟨Nat.le_refl _, by rw [List.length_reverse]; exact hn⟩
      · show upd _ p _ c = _
        rw [upd_ne ncp, upd_same, List.map_reverse]
      · rw [upd_same, Y.dk.dk]
        rfl
def g_law_0 : En → MS := (sSeq (sAsg 8 (xJoin (xC (.str "")) (xToL (xLc (xIt rng1 (xCons (xVar 5) xNil)) (aName 11) [11] xYes (xFn m__law_pick (xCons (xVar 1) (xCons (xVar 3) xNil)))))))
    (sIf (xTest (xFn m__law_bare (xCons (xVar 8) xNil))) (sSeq (sAsg 9 (xFn m_marked_turn (xCons (xVar 3) (xCons (xVar 8) xNil))))
    (sSeq (sIf (xTest (xBin notInT (xVar 9) (xFn m__law_turns (xCons (xVar 8) xNil)))) (sRet (xC (.bl false))) sNext)
    (sSeq (sIf (xTest (xBin neT (xToL (xLc (xItems (xFn m__law_turns (xCons (xVar 8) xNil))) (aName 12) [12] (xTest (xBin neT (xFn (fun l => m_marked_turn (perm [1, 0] l)) (xCons (xVar 12) (xCons (xVar 3) xNil))) (xVar 9))) (xC (.int 1)))) (xToL (xLst xNil)))) (sRet (xC (.bl false))) sNext)
    (sIf (xPkB 6 (xTest (xBin notInT (xVar 9) (xVar 6)))) (sApp 6 (xVar 9)) sNext)))) sNext))
def g_law_1 : En → MS := (sSeq (sAsg 3 (xFn m__law_pick (xCons (xVar 1) (xCons (xToL (xLst (xCons (xC (.str "ab")) (xCons (xC (.str "ab")) (xCons (xC (.str "qx")) (xCons (xC (.str "moz")) (xCons (xC (.str "bcde")) (xCons (xC (.str "fklpy")) xNil)))))))) xNil))))
    (sSeq (sAsg 4 (xBin ixT (xToL (xLst (xCons (xC (.int 13)) (xCons (xC (.int 9)) (xCons (xC (.int 7)) (xCons (xC (.int 5)) xNil)))))) (xBin subT (xCall lenT (xCons (xVar 3) xNil)) (xC (.int 2)))))
    (sSeq (sAsg 5 (xBin addT (xC (.int 1)) (xBin mulT (xC (.int 2)) (xFn m__law_draw (xCons (xVar 1) (xCons (xBin fdivT (xBin addT (xVar 4) (xC (.int 1))) (xC (.int 2))) xNil))))))
    (sSeq (sNew 6 (xLst xNil))
    (sSeq (sFor (xIt rng1 (xCons (xC (.int 6)) xNil)) (aName 7) g_law_0)
    (sFrz 6 (sSeq (sIf (xNotB (xTest (xFn m_is_comma_free (xCons (xCall tupleT (xCons (xVar 6) xNil)) xNil)))) (sRet (xC (.bl false))) sNext)
    (sIf (xAndB (xTest (xBin ltT (xVar 5) (xC (.int 6)))) (xTest (xBin neT (xVar 6) (xToL (xLst xNil))))) (sSeq (sAsg 10 (xFn m_comma_free_book (xCons (xVar 3) (xCons (xVar 5) xNil))))
    (sIf (xTest (xBin neT (xToL (xLc (xItems (xFn m__law_turns (xCons (xBin ixT (xVar 6) (xC (.int 0))) xNil))) (aName 8) [8] (xTest (xBin inT (xVar 8) (xVar 10))) (xVar 8))) (xToL (xLst (xCons (xBin ixT (xVar 6) (xC (.int 0))) xNil))))) (sRet (xC (.bl false))) sNext)) sNext))))))))
def g_law : En → MS := (sSeq (sFor (xIt rng1 (xCons (xC (.int 4)) xNil)) (aName 2) g_law_1)
    (sRet (xC (.bl true))))
theorem law_body (Y : Fx W P w mg base) {cdv : Value} {A : Around} {outer : List Env} {s : Shared} {H : Hp} {E : XK} (hg : A.guards = some []) (hr : Room 6 (A.deeper (envOfC "law" (defScope s_law) s.heap.objs.size Y.a_law cdv))) :
    PSs (cxOf CX0 P w W.K mg base ["_law_script", "_law_deck_here", "_law_lap", "_law_signs", "_law_most", "_law_size", "_law_some", "_law_turn", "_law_item", "_law_found", "_law_book", "_law_k", "_law_rest"] "law" (defScope s_law) Y.a_law cdv A outer s H E).nox ((defBody s_law).drop 1) (tS W E0 g_law) :=
  (ts_cons (ts_for (g := g_law_1) PassesOwn.never (ti_rng1 (by rfl) Y.z_range (ta_cons te_int ta_nil)) (tg_name (i := 2) sc_law.nd)
    (ts_cons (ts_set (i := 3) sc_law.nd (te_call ((ok__law_pick Y).mono (by decide)) rfl hg hr (by rfl) Y.m__law_pick Y.F__law_pick.kp Y.b__law_pick pass0 (ta_cons (te_v 1) (ta_cons (te_new (tn_lst (ta_cons te_str (ta_cons te_str (ta_cons te_str (ta_cons te_str (ta_cons te_str (ta_cons te_str ta_nil)))))))) ta_nil)) rfl (xCons_len (xCons_len xNil_len))))
    (ts_cons (ts_set (i := 4) sc_law.nd (te_at (room_of hr) rfl (te_new (tn_lst (ta_cons te_int (ta_cons te_int (ta_cons te_int (ta_cons te_int ta_nil)))))) (te_sub (te_len rfl Y.z_len (ta_cons (te_v 3) ta_nil)) te_int)))
    (ts_cons (ts_set (i := 5) sc_law.nd (te_add rfl te_int (te_mul rfl te_int (te_call ((ok__law_draw Y).mono (by decide)) rfl hg hr (by rfl) Y.m__law_draw Y.F__law_draw.kp Y.b__law_draw pass0 (ta_cons (te_v 1) (ta_cons (te_fdiv (te_add rfl (te_v 4) te_int) te_int) ta_nil)) rfl (xCons_len (xCons_len xNil_len))))))
    (ts_cons (ts_new (i := 6) sc_law.nd (tn_lst ta_nil))
    (ts_cons (ts_for (g := g_law_0) PassesOwn.never (ti_rng1 (by rfl) Y.z_range (ta_cons te_int ta_nil)) (tg_name (i := 7) sc_law.nd)
    (ts_cons (ts_set (i := 8) sc_law.nd (te_join rfl te_str (te_new (tn_lc (own := [("_law_k", 11)]) sc_law.nd (ti_rng1 (by rfl) Y.z_range (ta_cons (te_v 5) ta_nil)) (blkOk_by (N := ["_law_script", "_law_deck_here", "_law_lap", "_law_signs", "_law_most", "_law_size", "_law_some", "_law_turn", "_law_item", "_law_found", "_law_book", "_law_k", "_law_rest"]) (sc := defScope s_law) (own := [("_law_k", 11)]) (by decide +kernel)) (fun _ _ _ _ _ => (tg_name (i := 11) sc_law.nd)) (fun _ _ _ _ _ => tts_nil) (fun _ _ _ _ _ => (te_call ((ok__law_pick Y).mono (by decide)) rfl hg hr (by rfl) Y.m__law_pick Y.F__law_pick.kp Y.b__law_pick pass0 (ta_cons (te_v 1) (ta_cons (te_v 3) ta_nil)) rfl (xCons_len (xCons_len xNil_len))))))))
    (ts_one (ts_if (tt_val (te_call ((ok__law_bare Y).mono (by decide)) rfl hg hr (by rfl) Y.m__law_bare Y.F__law_bare.kp Y.b__law_bare pass0 (ta_cons (te_v 8) ta_nil) rfl (xCons_len xNil_len)))
    (ts_cons (ts_set (i := 9) sc_law.nd (te_call ((ok_marked_turn Y).mono (by decide)) rfl hg hr (by rfl) Y.m_marked_turn Y.F_marked_turn.kp Y.b_marked_turn pass0 (ta_cons (te_v 3) (ta_cons (te_v 8) ta_nil)) rfl (xCons_len (xCons_len xNil_len))))
    (ts_cons (ts_if (tt_notIn (room_of hr) rfl (te_v 9) (te_call ((ok__law_turns Y).mono (by decide)) rfl hg hr (by rfl) Y.m__law_turns Y.F__law_turns.kp Y.b__law_turns pass0 (ta_cons (te_v 8) ta_nil) rfl (xCons_len xNil_len)))
    (ts_one (ts_ret te_bl))
    ts_nil)
    (ts_cons (ts_if (tt_ne (room_of hr) rfl (te_new (tn_lc (own := [("_law_rest", 12)]) sc_law.nd (ti_seq rfl (te_call ((ok__law_turns Y).mono (by decide)) rfl hg hr (by rfl) Y.m__law_turns Y.F__law_turns.kp Y.b__law_turns pass0 (ta_cons (te_v 8) ta_nil) rfl (xCons_len xNil_len))) (blkOk_by (N := ["_law_script", "_law_deck_here", "_law_lap", "_law_signs", "_law_most", "_law_size", "_law_some", "_law_turn", "_law_item", "_law_found", "_law_book", "_law_k", "_law_rest"]) (sc := defScope s_law) (own := [("_law_rest", 12)]) (by decide +kernel)) (fun _ _ _ _ _ => (tg_name (i := 12) sc_law.nd)) (fun _ _ _ _ _ => (tts_one (tt_ne (room_of hr) rfl (te_callK ((ok_marked_turn Y).mono (by decide)) rfl hg hr (by rfl) Y.m_marked_turn Y.F_marked_turn.kp (bindsK (ks := ["word", "letters"]) (ps := ["letters", "word"]) (is := [1, 0]) Y.F_marked_turn fun _ _ _ _ _ _ us hl => match us, hl with | [_, _], _ => rfl) pass0 (tk_cons (te_v 12) (tk_cons (te_v 3) tk_nil)) (xCons_len (xCons_len xNil_len)) (fun l hl => match l, hl with | [_, _], _ => rfl)) (te_v 9)))) (fun _ _ _ _ _ => te_int))) (te_new (tn_lst ta_nil)))
    (ts_one (ts_ret te_bl))
    ts_nil)
    (ts_one (ts_if (tt_pk 6 (tt_notIn (room_of hr) rfl (te_v 9) (te_v 6)))
    (ts_one (ts_app (i := 6) (te_v 9)))
    ts_nil)))))
    ts_nil))))
    (tss_frz 6 (ts_cons (ts_if (tt_not (tt_val (te_call ((ok_is_comma_free Y).mono (by decide)) rfl hg hr (by rfl) Y.m_is_comma_free Y.F_is_comma_free.kp Y.b_is_comma_free pass0 (ta_cons (te_toTup rfl Y.z_tuple (ta_cons (te_v 6) ta_nil)) ta_nil) rfl (xCons_len xNil_len))))
    (ts_one (ts_ret te_bl))
    ts_nil)
    (ts_one (ts_if (tw_and (tt_lt (te_v 5) te_int) (tw_and1 (tt_ne (room_of hr) rfl (te_v 6) (te_new (tn_lst ta_nil))))).pt
    (ts_cons (ts_set (i := 10) sc_law.nd (te_call ((ok_comma_free_book Y).mono (by decide)) rfl hg hr (by rfl) Y.m_comma_free_book Y.F_comma_free_book.kp Y.b_comma_free_book pass0 (ta_cons (te_v 3) (ta_cons (te_v 5) ta_nil)) rfl (xCons_len (xCons_len xNil_len))))
    (ts_one (ts_if (tt_ne (room_of hr) rfl (te_new (tn_lc (own := [("_law_item", 8)]) sc_law.nd (ti_seq rfl (te_call ((ok__law_turns Y).mono (by decide)) rfl hg hr (by rfl) Y.m__law_turns Y.F__law_turns.kp Y.b__law_turns pass0 (ta_cons (te_at (room_of hr) rfl (te_v 6) te_int) ta_nil) rfl (xCons_len xNil_len))) (blkOk_by (N := ["_law_script", "_law_deck_here", "_law_lap", "_law_signs", "_law_most", "_law_size", "_law_some", "_law_turn", "_law_item", "_law_found", "_law_book", "_law_k", "_law_rest"]) (sc := defScope s_law) (own := [("_law_item", 8)]) (by decide +kernel)) (fun _ _ _ _ _ => (tg_name (i := 8) sc_law.nd)) (fun _ _ _ _ _ => (tts_one (tt_in (room_of hr) rfl (te_v 8) (te_v 10)))) (fun _ _ _ _ _ => (te_v 8)))) (te_new (tn_lst (ta_cons (te_at (room_of hr) rfl (te_v 6) te_int) ta_nil))))
    (ts_one (ts_ret te_bl))
    ts_nil)))
    ts_nil))))))))))
    (ts_one (ts_ret te_bl)))
end
end K_k50
/-! TLzzq (plain): sorted({.. for .. for ..}). -/
namespace TL
open PySem PySem.Spec PyProof.Rows L2
end TL
open PySem PySem.Spec PyProof.Rows L2 TL
namespace K_k50
/-! draws -/
theorem draw_t2 {d : D} {n m : Int} {l : Int} {x : Sl} (h0 : 0 < n) (hl : smallI l = true) : ∃ r en', g__law_draw_t2 [.val .dck, .val (.int n), .val (.int l), .val (.int m), x] d = .ok (.ret (.int r), en') d ∧ 0 ≤ r ∧ r < n := by
  have c1 : smallI 52711 = true := rfl
  have c2 : smallI 48271 = true := rfl
  have c3 : smallI 40014 = true := rfl
  have c5 : smallI 39373 = true := rfl
  have c4 : ∀ z : Int, smallI (z % 2147483647) = true := fun z => small_of (by omega)
  unfold g__law_draw_t2 g__law_draw_t1 g__law_draw_t0
  simp [c1, c2, c3, c4, c5, hl, h0]
  refine ⟨Int.emod_nonneg _ (by omega), Int.emod_lt_of_pos _ h0⟩
theorem draw_t3 {d : D} {n : Int} {k : Nat} {l m : Int} (h : Dok k d) (h0 : 0 < n) (h1 : n < 1073741824) (hl : smallI l = true) : ∃ r en' d', g__law_draw_t3 [.val .dck, .val (.int n), .val (.int l), .val (.int m), .no] d = .ok (.ret (.int r), en') d' ∧ 0 ≤ r ∧ r < n ∧ Dok k d' := by
  obtain ⟨cells, blend, laps⟩ := d
  obtain ⟨hl', hc⟩ := h
  simp only at hl' hc
  rcases List.eq_nil_or_concat cells with rfl | ⟨ini, c, rfl⟩
  · obtain ⟨r, en', e, r0, r1⟩ := draw_t2 (d := ⟨[], blend, laps⟩) (n := n) (m := m) (l := l) (x := .no) h0 hl
    refine ⟨r, en', ⟨[], blend, laps⟩, ?_, r0, r1, ⟨hl', hc⟩⟩
    simp [g__law_draw_t3, e]
  · rw [List.concat_eq_append, List.length_append] at hc
    rw [List.concat_eq_append]
    have hi : ini.length < 16777216 := by omega
    have he : (ini ++ [c]).isEmpty = false := by cases ini <;> rfl
    by_cases hb : 1000000000000000000 ≤ c
    · refine ⟨c % n, [.val .dck, .val (.int n), .val (.int l), .val (.int m), .val (.int c)], ⟨ini ++ [c / n], blend, laps⟩, ?_, Int.emod_nonneg _ (by omega), Int.emod_lt_of_pos _ h0, ⟨hl', by simp at hc ⊢; omega⟩⟩
      simp [g__law_draw_t3, hb, h0, h1, hi, he]
    · obtain ⟨r, en', e, r0, r1⟩ := draw_t2 (d := ⟨ini, blend, laps⟩) (n := n) (m := m + c) (l := l) (x := .val (.int c)) h0 hl
      refine ⟨r, en', ⟨ini, blend, laps⟩, ?_, r0, r1, ⟨hl', by simp at hc ⊢; omega⟩⟩
      simp [g__law_draw_t3, hb, h0, h1, hi, he, e]
theorem draw_ok {d : D} {n : Int} {k : Nat} (h : Dok k d) (hk : k < 2 ^ 40) (h0 : 0 < n) (h1 : n < 1073741824) : ∃ r d', m__law_draw [.dck, .int n] d = .ok (.int r) d' ∧ 0 ≤ r ∧ r < n ∧ Dok (k + 1) d' := by
  obtain ⟨c, b, l⟩ := d
  have hl : l ≤ k := h.1
  have e2 : (0 : Int) ≤ (l : Int) + 1 := by omega
  have e3 : ((l : Int) + 1).toNat = l + 1 := by omega
  obtain ⟨r, en', d', e, r0, r1, h'⟩ := draw_t3 (d := ⟨c, b, l + 1⟩) (n := n) (k := k + 1) (l := (l : Int) + 1) (m := b) ⟨Nat.succ_le_succ h.1, h.2⟩ h0 h1 (small_of (by omega))
  refine ⟨r, d', fn_ret (en' := en') ?_, r0, r1, h'⟩
  show g__law_draw [.val .dck, .val (.int n), .no, .no, .no] _ = _
  simp [g__law_draw, g__law_draw_t4, e2, e3, e]
end K_k50
open PySem PySem.Spec PyProof.Rows L2 TL
local macro_rules | `(tactic| walk_at "ev") => `(tactic| simp only [ev_pure, ev_Aug, ev_augI, ev_augR, ev_bind, ev_ok, ev_exc, ev_badO, ev_bad, ev_opt, ev_opt0, ev_noX, ev_C, ev_Var, ev_Bin, ev_Un, ev_Test, ev_boolT, ev_If, ev_NotB, ev_AndB, ev_OrB, ev_And, ev_Or, ev_Yes, ev_Chain, ev_Nil, ev_Cons, ev_Tup, ev_Lst, ev_ToL, ev_Call, ev_CallN, ev_Items, ev_It, ev_It2, ev_Pk, ev_PkB, ev_Fn, ev_Sl, ev_Part, ev_NoPart, ev_Lc, ev_wipe0, ev_wipe1, ev_Seq, ev_Asg, ev_Expr, ev_Ret, ev_sIf, ev_Next, ev_For, ev_Frz, ev_New, ev_NewD, ev_App, ev_Ext, ev_Put, ev_withL, ev_Par, ev_Par3, ev_AsgG, ev_lstT, ev_frz, ev_Ot, ev_Otd, ev_get0, ev_getS, ev_set0, ev_setS, ev_retT, ev_retN, ev_add, ev_sub, ev_neg, ev_eqI, ev_neI, ev_eqS, ev_neS, ev_ltI, ev_leI, ev_gtI, ev_geI, ev_not, ev_isN, ev_notN, ev_ixL, ev_ixT, ev_lenL, ev_lenT, ev_toInt, ev_guI, ev_guS, ev_guB, ev_itL, ev_itT, ev_itS, ev_enu1L, ev_enu1T, ev_DkSet, ev_DkB, ev_DkN, ev_DkNe, ev_dckP, ev_DkPop, ev_DkApp, ev_cap0, ev_cap1, ev_cap2, ev_cap3, ev_cap4, ev_cap5, ev_addS, ev_addL, ev_addT, ev_mul, ev_fdiv, ev_mod, ev_pow, ev_lenS, Bool.true_or, Bool.or_true, Bool.false_or, Bool.or_false, Bool.and_true, Bool.true_and, Bool.and_false, Bool.false_and, Bool.not_true, Bool.not_false, if_true, if_false, Bool.false_eq_true, List.length_cons, List.length_nil, List.map_cons, List.map_nil, List.cons_append, List.nil_append, reduceIte, Nat.zero_add, Nat.reduceAdd, decide_true, decide_false, intT?, Option.map_some, Option.bind_some, strT?, T.isNon, and_self, true_and, and_true, ev_aTup, ev_aCons, ev_aNil, ev_aName, ev_While, ev_at0, ev_at1, ev_at2, ev_at3, slT_tup_to, slT_tup_from, slT_lst_to, slT_lst_from, slT_tup_init, slT_lst_init, ev_isiI, ev_isiB, ev_isiT, ev_isiL, ev_isiS, perm1, perm21, perm210, ev_OwnL, ev_OwnD, ev_Keys, ev_withD, ev_PutD, ev_Get2, ev_dicT, ev_keyI, ev_keyS, ev_int1, ev_ixDi, ev_ixDs, ev_never, ev_NewS, ev_withS, ev_AddS, ev_SortS, ev_withQ, ev_SetdApp, ev_Get2N, ev_dixT, ev_ParVN, ev_Split, ev_xStar, ev_itsL, ev_sStar, ev_Js0, ev_Js1, ev_Prop, ev_sortedSet, ev_sortedSetU, ev_OrI, ev_CallO, ev_Lend, ev_Hole, ev_RngL, ev_ParO3, ev_Par3O, ev_FnN, ev_FnXN, ev_ParNV, ev_ExtU, ev_tupT, ev_NewO, ev_Otq, ev_kNil, ev_kSeq, ev_kExpr, ev_kFld, ev_Join, ev_ItemsX, ev_Otx, ev_itemsXd, ev_withX, ev_OwnGet2, ev_ItemsN, ev_PutX, ev_AugX, ev_NewCl, ev_NewDil, ev_AppQ, ev_Pop, ev_Call2, ev_KV, ev_inX, ev_inX0, ev_Meth, ev_Index, ev_InI, ev_OT, ev_LO, ev_NewO, ev_ParOV, ev_Disp, ev_Pairs0, ev_Pairs, ev_SortCl, ev_OwnX, ev_Par2N, ev_isB, ev_notB, ev_AppPop, ev_tupleL, ev_MethA, permS0, ev_SIx, ev_TupRg, ev_CallV, ev_AndB, ev_NeI, ev_cap6, ev_cap7, ev_cap8, ev_cap9, ev_cap10, ev_cap11, ev_cap12, ev_cap13, ev_cap14, ev_cap15, ev_cap16, ev_cap17, ev_cap18, ev_cap19, ev_cap20, ev_cap21, ev_cap22, ev_cap23, ev_cap24, ev_Raise, ev_Raise0, ev_AddL, ev_PopG, ev_ListG, ev_ForG, ev_Gn, ev_CmV, ev_clsIs, ev_sortedSetD, ev_ForC, ev_GnC, ev_GnCv, ev_MulL, ev_IfN, ev_No, ev_AugM, ev_minusI, ev_plusI, ev_AugL, ev_Count, *])
namespace K_k50
theorem dok_mono {j k : Nat} {d : D} (h : Dok j d) (hk : j ≤ k) : Dok k d := ⟨Nat.le_trans h.1 hk, h.2⟩
/-- one of some -/
theorem pick_ok {d : D} {l : List T} {k : Nat} (h : Dok k d) (hk : k < 2 ^ 40) (h0 : 0 < l.length) (h1 : l.length < 1073741824) : ∃ x d', m__law_pick [.dck, .lst l] d = .ok x d' ∧ x ∈ l ∧ Dok (k + 1) d' := by
  obtain ⟨r, d', e, r0, r1, h'⟩ := draw_ok (n := (l.length : Nat)) h hk (by omega) (by omega)
  obtain ⟨i, rfl⟩ : ∃ i : Nat, r = (i : Int) := ⟨r.toNat, by omega⟩
  have hi : i < l.length := by omega
  have e2 : atI l (i : Int) = some l[i] := atI_nat' rfl (List.getElem?_eq_getElem hi)
  refine ⟨l[i], d', fn_ret (en := [.val .dck, .val (.lst l)]) (en' := [.val .dck, .val (.lst l)]) ?_, List.getElem_mem hi, h'⟩
  unfold g__law_pick
  clear h h' hk
  walk_at "ev"
theorem pick_str {d : D} {s : List Nat} {k : Nat} (h : Dok k d) (hk : k < 2 ^ 40) (h0 : 0 < s.length) (h1 : s.length ≤ 16777216) : ∃ c d', m__law_pick [.dck, strR s] d = .ok (strR [c]) d' ∧ c ∈ s ∧ Dok (k + 1) d' := by
  obtain ⟨r, d', e, r0, r1, h'⟩ := draw_ok (n := (s.length : Nat)) h hk (by omega) (by omega)
  obtain ⟨i, rfl⟩ : ∃ i : Nat, r = (i : Int) := ⟨r.toNat, by omega⟩
  have hi : i < s.length := by omega
  have e1 := ev_strLen h1
  have e2 : ixT (strR s) (.int (i : Int)) = some (strR [s[i]]) := by
    show (if (Str.length ⟨s.toArray⟩) ≤ 16777216 then (atI s (i : Int)).map fun c => T.str ⟨#[c]⟩ else none) = _
    rw [if_pos (by show s.length ≤ 16777216; exact h1), atI_nat' rfl (List.getElem?_eq_getElem hi)]
    rfl
  refine ⟨s[i], d', fn_ret (en := [.val .dck, .val (strR s)]) (en' := [.val .dck, .val (strR s)]) ?_, List.getElem_mem hi, h'⟩
  unfold g__law_pick
  clear h h' hk
  walk_at "ev"
end K_k50
open PySem PySem.Spec PyProof.Rows L2 TL
namespace K_k50
structure Ws (ws : List (List Nat)) (n : Nat) : Prop where
  len : ∀ w ∈ ws, w.length = n
  sg : ∀ w ∈ ws, Wo w
  n1 : 1 ≤ n
  n2 : n ≤ 100
  few : ws.length ≤ 100
def cuts (ws : List (List Nat)) (n : Nat) (cut : List Nat → Nat → List Nat) : List (List Nat) := ws.flatMap fun u => (List.range (n - 1)).map fun j => cut u (1 + j)
theorem dict_run {ws : List (List Nat)} {n : Nat} (h : Ws ws n) {x1 x2 : Sl} {sl : En → M T} {cut : List Nat → Nat → List Nat} {d : D}
    (hsl : ∀ u ∈ ws, ∀ (j : Nat), sl [.val (.tup (ws.map strR)), x1, x2, .val (strR u), .val (.int ((1 + j : Nat) : Int))] d = .ok (strR (cut u (1 + j))) d) :
    ∃ l, clM (xItems (xVar 0)) (aName 3) [3, 4] xYes (clM (xIt rng2 (xCons (xC (.int 1)) (xCons (xCall lenT (xCons (xVar 3) xNil)) xNil))) (aName 4) [4] xYes (mPut sl (xC (.bl true)))) [.val (.tup (ws.map strR)), x1, x2, .no, .no] (.dic []) d = .ok (.dic l) d ∧
      ∀ x : List Nat, (lookK l (.inr ⟨x.toArray⟩)).isSome = decide (x ∈ cuts ws n cut) := by
  have r2 : rng2 [.int 1, .int (n : Int)] = some ((List.range (n - 1)).map fun (k : Nat) => T.int ((1 + k : Nat) : Int)) := rng2_nat (i := 1) (n := n - 1) (by have := h.n1; omega) (by have := h.n2; omega)
  obtain ⟨o, e, l, rfl, hl, _⟩ := clL_run strR (a := aName 3) (fm := clM (xIt rng2 (xCons (xC (.int 1)) (xCons (xCall lenT (xCons (xVar 3) xNil)) xNil))) (aName 4) [4] xYes (mPut sl (xC (.bl true)))) (en := [.val (.tup (ws.map strR)), x1, x2, .no, .no]) (d := d)
    (fun pre o => ∃ l, o = .dic l ∧ (∀ x : List Nat, (lookK l (.inr ⟨x.toArray⟩)).isSome = decide (x ∈ cuts pre n cut)) ∧ l.length ≤ pre.length * n) ws [] (.dic []) ⟨[], rfl, fun x => rfl, Nat.zero_le _⟩ fun pr u po o e ⟨l, ho, hl, hn⟩ => by
      subst ho
      have e : ws = pr ++ u :: po := e
      have hu : u ∈ ws := by rw [e]; simp
      have hpr : pr.length < ws.length := by rw [e, List.length_append, List.length_cons]; omega
      obtain ⟨o2, e2, l2, rfl, hl2, hn2⟩ := clL_run (fun (k : Nat) => T.int ((1 + k : Nat) : Int)) (a := aName 4) (fm := mPut sl (xC (.bl true))) (en := [.val (.tup (ws.map strR)), x1, x2, .val (strR u), .no]) (d := d)
        (fun pk o => ∃ l2, o = .dic l2 ∧ (∀ x : List Nat, (lookK l2 (.inr ⟨x.toArray⟩)).isSome = decide (x ∈ cuts pr n cut ∨ x ∈ pk.map fun j => cut u (1 + j))) ∧ l2.length ≤ pr.length * n + pk.length) (List.range (n - 1)) [] (.dic l)
        ⟨l, rfl, fun x => by rw [hl]; exact decide_eq_decide.mpr (by simp), hn⟩ fun pk j pq o ej ⟨l2, ho, hl2, hn2⟩ => by
          subst ho
          have hj : pk.length < n - 1 := by
            have := congrArg List.length ej
            simp at this
            omega
          have a1 := hsl u hu j
          have a2 : capL (l2.length + 1) () = some () := ev_cap (by
            have h1 := h.n2
            have h2 := h.few
            have h3 : pr.length * n ≤ 100 * 100 := Nat.mul_le_mul (by omega) h1
            omega)
          refine ⟨_, rfl, .dic (putT l2 (.inr ⟨(cut u (1 + j)).toArray⟩) (.bl true)), ?_, _, rfl, fun x => ?_, ?_⟩
          · show mPut sl (xC (.bl true)) [.val (.tup (ws.map strR)), x1, x2, .val (strR u), .val (.int ((1 + j : Nat) : Int))] (.dic l2) d = _
            unfold mPut
            have a3 : keyT (strR (cut u (1 + j))) = some (.inr ⟨(cut u (1 + j)).toArray⟩) := rfl
            simp only [ev_bind, ev_opt, a1, ev_ok, ev_C, a2, a3, ev_pure]
          · rw [look_put, hl2, List.map_append]
            by_cases hx : x = cut u (1 + j)
            · subst hx
              simp
            · have hx' : ¬ (Sum.inr (⟨x.toArray⟩ : Str) : Key) = Sum.inr ⟨(cut u (1 + j)).toArray⟩ := fun z => hx (inr_str.mp z)
              rw [decide_eq_false hx', Bool.false_or]
              exact decide_eq_decide.mpr (by simp [hx])
          · have := put_length l2 (.inr ⟨(cut u (1 + j)).toArray⟩) (.bl true)
            rw [List.length_append, List.length_singleton]
            omega
      refine ⟨_, rfl, .dic l2, clM_run (l := (List.range (n - 1)).map fun (k : Nat) => T.int ((1 + k : Nat) : Int)) ?_ e2, l2, rfl, fun x => ?_, ?_⟩
      · have a1 : lenT [strR u] = some (.int (n : Int)) := by rw [ev_strLen (by have := h.len u hu; have := h.n2; omega), h.len u hu]
        clear e2 hl hl2 hsl hn hn2 h
        show xIt rng2 (xCons (xC (.int 1)) (xCons (xCall lenT (xCons (xVar 3) xNil)) xNil)) [.val (.tup (ws.map strR)), x1, x2, .val (strR u), .no] d = _
        walk_at "ev"
      · rw [hl2]
        refine decide_eq_decide.mpr ?_
        unfold cuts
        rw [List.flatMap_append, List.mem_append, List.nil_append]
        simp
      · rw [List.length_append, List.length_singleton, Nat.add_mul, Nat.one_mul]
        rw [List.nil_append, List.length_range] at hn2
        have := h.n1
        omega
  refine ⟨l, clM_run (l := ws.map strR) ?_ e, hl⟩
  clear hl hsl e
  walk_at "ev"
def comma (ws : List (List Nat)) (n : Nat) : Bool := ws.all fun w => !((List.range (n - 1)).any fun k => decide (w.take (1 + k) ∈ cuts ws n (fun u j => u.drop j)) && decide (w.drop (1 + k) ∈ cuts ws n (fun u j => u.take j)))
theorem comma_ok {ws : List (List Nat)} {n : Nat} (h : Ws ws n) (d : D) : m_is_comma_free [.tup (ws.map strR)] d = .ok (.bl (comma ws n)) d := by
  have r2 : rng2 [.int 1, .int (n : Int)] = some ((List.range (n - 1)).map fun (k : Nat) => T.int ((1 + k : Nat) : Int)) := rng2_nat (i := 1) (n := n - 1) (by have := h.n1; omega) (by have := h.n2; omega)
  have r3 : capL ((List.range (n - 1)).map fun (k : Nat) => T.int ((1 + k : Nat) : Int)).length () = some () := ev_cap (by rw [List.length_map, List.length_range]; have := h.n2; omega)
  have ul : ∀ u ∈ ws, u.length ≤ 16777216 := fun u hu => by have := h.len u hu; have := h.n2; omega
  obtain ⟨hd, e1, m1⟩ := dict_run h (x1 := .no) (x2 := .no) (sl := xSl (xVar 3) xNoPart (xPart (xVar 4))) (cut := fun u j => u.take j) (d := d) fun u hu j => by
    have a1 := ev_strTo (1 + j) (ul u hu)
    generalize ((1 + j : Nat) : Int) = jj at a1 ⊢
    clear r2 r3 ul h hu
    walk_at "ev"
  obtain ⟨tl, e2, m2⟩ := dict_run h (x1 := .val (.dic hd)) (x2 := .no) (sl := xSl (xVar 3) (xPart (xVar 4)) xNoPart) (cut := fun u j => u.drop j) (d := d) fun u hu j => by
    have a1 := ev_strFrom (1 + j) (ul u hu)
    generalize ((1 + j : Nat) : Int) = jj at a1 ⊢
    clear r2 r3 ul h hu
    walk_at "ev"
  have e1 := ev_Cl e1
  have e2 := ev_Cl e2
  simp only [O.t] at e1 e2
  obtain ⟨en', q⟩ := forL_allB strR (a := aName 3) (g := g_is_comma_free_0) (fun w => !((List.range (n - 1)).any fun k => decide (w.take (1 + k) ∈ cuts ws n (fun u j => u.drop j)) && decide (w.drop (1 + k) ∈ cuts ws n (fun u j => u.take j))))
      (fun en => ∃ a, en = [.val (.tup (ws.map strR)), .val (.dic hd), .val (.dic tl), a, .no]) (d := d) (.bl false) ws [.val (.tup (ws.map strR)), .val (.dic hd), .val (.dic tl), .no, .no] ⟨_, rfl⟩ fun w hw en ⟨a, he⟩ => by
    subst he
    refine ⟨_, rfl, [.val (.tup (ws.map strR)), .val (.dic hd), .val (.dic tl), .val (strR w), .no], ?_⟩
    have a1 : lenT [strR w] = some (.int (n : Int)) := by rw [ev_strLen (ul w hw), h.len w hw]
    have a2 := lcL_all (fun (k : Nat) => T.int ((1 + k : Nat) : Int)) (a := aName 4) (f := xAnd (xBin inT (xSl (xVar 3) xNoPart (xPart (xVar 4))) (xVar 2)) (xBin inT (xSl (xVar 3) (xPart (xVar 4)) xNoPart) (xVar 1))) (en := [.val (.tup (ws.map strR)), .val (.dic hd), .val (.dic tl), .val (strR w), .no]) (d := d)
      (fun k => .bl (decide (w.take (1 + k) ∈ cuts ws n (fun u j => u.drop j)) && decide (w.drop (1 + k) ∈ cuts ws n (fun u j => u.take j)))) (List.range (n - 1)) fun k hk => by
        refine ⟨_, rfl, ?_⟩
        have b1 := ev_strTo (1 + k) (ul w hw)
        have b2 := ev_strFrom (1 + k) (ul w hw)
        have b3 := in_dic (w.take (1 + k)) tl
        have b4 := in_dic (w.drop (1 + k)) hd
        rw [m2] at b3
        rw [m1] at b4
        generalize ((1 + k : Nat) : Int) = kk at b1 b2 ⊢
        generalize w.take (1 + k) = wt at b1 b3 ⊢
        generalize w.drop (1 + k) = wd at b2 b4 ⊢
        generalize decide (wd ∈ cuts ws n fun u j => u.take j) = z2 at b4 ⊢
        clear r2 r3 ul h hk m1 m2 e1 e2 a1 hw
        cases hz : decide (wt ∈ cuts ws n fun u j => u.drop j) with
        | true =>
          rw [hz] at b3
          clear hz
          walk_at "ev"
        | false =>
          rw [hz] at b3
          clear hz
          walk_at "ev"
    have a3 := any_bools (fun k => decide (w.take (1 + k) ∈ cuts ws n (fun u j => u.drop j)) && decide (w.drop (1 + k) ∈ cuts ws n (fun u j => u.take j))) (List.range (n - 1))
    generalize (List.range (n - 1)).map (fun k => T.bl (decide (w.take (1 + k) ∈ cuts ws n (fun u j => u.drop j)) && decide (w.drop (1 + k) ∈ cuts ws n (fun u j => u.take j)))) = bs at a2 a3
    generalize ((List.range (n - 1)).any fun k => decide (w.take (1 + k) ∈ cuts ws n (fun u j => u.drop j)) && decide (w.drop (1 + k) ∈ cuts ws n (fun u j => u.take j))) = b at a3 ⊢
    clear ul h hw m1 m2 e1 e2
    cases b with
    | true =>
      refine .inr ⟨rfl, ?_⟩
      unfold g_is_comma_free_0
      walk_at "ev"
    | false =>
      refine .inl ⟨rfl, ?_, _, rfl⟩
      unfold g_is_comma_free_0
      walk_at "ev"
  rcases q with ⟨p, q, a', he⟩ | ⟨p, q⟩
  · refine fn_ret (en := [.val (.tup (ws.map strR)), .no, .no, .no, .no]) (en' := en') ?_
    have p : comma ws n = true := p
    rw [p]
    clear p h r2 r3 ul m1 m2 he
    unfold g_is_comma_free g_is_comma_free_t1 g_is_comma_free_t0
    walk_at "ev"
  · refine fn_ret (en := [.val (.tup (ws.map strR)), .no, .no, .no, .no]) (en' := en') ?_
    have p : comma ws n = false := p
    rw [p]
    clear p h r2 r3 ul m1 m2
    unfold g_is_comma_free g_is_comma_free_t1 g_is_comma_free_t0
    walk_at "ev"
def sx (w : List Nat) : Str := ⟨w.toArray⟩
theorem strsOf_strs : ∀ ws : List (List Nat), strsOf (ws.map strR) = some (ws.map fun w => (⟨w.toArray⟩ : Str))
  | [] => rfl
  | w :: ws => by
    rw [List.map_cons, List.map_cons]
    show (strsOf (ws.map strR)).map _ = _
    rw [strsOf_strs ws]
    rfl
theorem join_words {ws : List (List Nat)} (h : ws.flatten.length ≤ 16777216) : joinT (.str "") (.lst (ws.map strR)) = some (strR ws.flatten) := by
  show ((strsOf (ws.map strR)).bind fun ys => if (ys.map (·.length)).sum + ys.length * (Str.length "") ≤ 16777216 then some (T.str (Txt.join "" ys)) else none) = _
  rw [strsOf_strs]
  have e1 : ((ws.map fun w => (⟨w.toArray⟩ : Str)).map (·.length)).sum = ws.flatten.length := by
    rw [List.map_map, List.length_flatten]
    rfl
  have e2 : Str.length "" = 0 := rfl
  show (if ((ws.map fun w => (⟨w.toArray⟩ : Str)).map (·.length)).sum + (ws.map fun w => (⟨w.toArray⟩ : Str)).length * (Str.length "") ≤ 16777216 then some (T.str (Txt.join "" (ws.map fun w => (⟨w.toArray⟩ : Str)))) else none) = _
  rw [e1, e2, Nat.mul_zero, Nat.add_zero, if_pos h]
  have : Txt.join ("" : Str) (ws.map fun w => (⟨w.toArray⟩ : Str)) = ⟨ws.flatten.toArray⟩ := join_all _
  rw [this]
  rfl
end K_k50
open PySem PySem.Spec PyProof.Rows L2 TL
namespace K_k50
/-! words_with -/
def nT (k : Nat) : T := .int (k : Int)
def car (q : Nat) : Nat → List Nat → Nat × List Nat
  | 0, p => (0, p)
  | k + 1, p => if p.getD k 0 = q - 1 then car q k (p.set k 0) else (k + 1, p)
theorem car_le (q : Nat) : ∀ (k : Nat) (p : List Nat), (car q k p).1 ≤ k
  | 0, p => Nat.le_refl _
  | k + 1, p => by
    unfold car
    split
    · exact Nat.le_succ_of_le (car_le q k _)
    · exact Nat.le_refl _
theorem car_len (q : Nat) : ∀ (k : Nat) (p : List Nat), (car q k p).2.length = p.length
  | 0, p => rfl
  | k + 1, p => by
    unfold car
    split
    · rw [car_len q k, List.length_set]
    · rfl
def nxt (q : Nat) (p : List Nat) : Option (List Nat) := match car q p.length p with
  | (0, _) => none
  | (k + 1, p') => some (p'.set k (p'.getD k 0 + 1))
def wrd (sg p : List Nat) : List Nat := p.map fun i => sg.getD i 0
abbrev wE (sg : List Nat) (n : Nat) (p : List Nat) (x3 x4 : Sl) : En := [.val (strR sg), .val (.int (n : Int)), .own (.lst (p.map nT)), x3, x4, .no]
theorem get_D {l : List Nat} {k : Nat} (h : k < l.length) : l[k]? = some (l.getD k 0) := by
  rw [List.getD_eq_getElem?_getD, List.getElem?_eq_getElem h]
  rfl
theorem at_nat {p : List Nat} {k : Nat} (h : k < p.length) : atI (p.map nT) (k : Int) = some (.int (p.getD k 0 : Nat)) := atI_nat' rfl (by
  rw [List.getElem?_map, get_D h]
  rfl)
theorem ixN_nat {n s : Nat} (h : s < n) : L2.ixN n (s : Int) = some s := by
  unfold L2.ixN
  rw [if_pos (by omega), if_pos (by omega)]
  congr 1
theorem map_set (p : List Nat) (k v : Nat) : (p.map nT).set k (nT v) = (p.set k v).map nT := (List.map_set ..).symm
theorem ww_cond {sg : List Nat} {n : Nat} (hs : 1 ≤ sg.length ∧ sg.length ≤ 100) {p : List Nat} {k : Nat} (h : k < p.length) (x3 : Sl) (d : D) :
    xPkB 2 (xAndB (xTest (xBin geT (xVar 4) (xC (.int 0)))) (xTest (xBin eqT (xBin ixT (xVar 2) (xVar 4)) (xBin subT (xCall lenT (xCons (xVar 0) xNil)) (xC (.int 1)))))) (wE sg n p x3 (.val (.int (k : Int)))) d = .ok (decide (p.getD k 0 = sg.length - 1)) d := by
  have g1 : geT (.int (k : Int)) (.int 0) = some (.bl true) := by
    have b : decide ((k : Int) ≥ 0) = true := decide_eq_true (by omega)
    rw [← b]
    rfl
  have a1 := at_nat h
  have ln : lenT [strR sg] = some (.int (sg.length : Int)) := ev_strLen (l := sg) (by omega)
  have eq : eqT (.int (p.getD k 0 : Nat)) (.int ((sg.length : Int) - 1)) = some (.bl (decide (p.getD k 0 = sg.length - 1))) := by
    rw [ev_eqI]
    congr 2
    exact decide_eq_decide.mpr (by omega)
  dsimp only [wE]
  clear hs h
  generalize decide (p.getD k 0 = sg.length - 1) = b at *
  generalize ((p.getD k 0 : Nat) : Int) = i1 at *
  generalize p.map nT = l at *
  generalize (sg.length : Int) = i2 at *
  generalize (k : Int) = i4 at *
  generalize strR sg = s0 at *
  walk_at "ev"
theorem ww_cond0 (sg : List Nat) (n : Nat) (p : List Nat) (x3 : Sl) (d : D) :
    xPkB 2 (xAndB (xTest (xBin geT (xVar 4) (xC (.int 0)))) (xTest (xBin eqT (xBin ixT (xVar 2) (xVar 4)) (xBin subT (xCall lenT (xCons (xVar 0) xNil)) (xC (.int 1)))))) (wE sg n p x3 (.val (.int (-1)))) d = .ok false d := by
  have g1 : geT (.int (-1)) (.int 0) = some (.bl false) := rfl
  dsimp only [wE]
  generalize p.map nT = l at *
  walk_at "ev"
theorem ww_0 {sg : List Nat} {n : Nat} {p : List Nat} {k : Nat} (h : k < p.length) (hp : p.length ≤ 1000) (x3 : Sl) (d : D) : g_words_with_0 (wE sg n p x3 (.val (.int (k : Int)))) d = .ok (.nx, wE sg n (p.set k 0) x3 (.val (.int ((k : Int) - 1)))) d := by
  have jx : L2.ixN (p.map nT).length (k : Int) = some k := by
    rw [List.length_map]
    exact ixN_nat h
  have ms := map_set p k 0
  have z0 : nT 0 = .int 0 := rfl
  rw [z0] at ms
  dsimp only [wE]
  rw [← ms]
  clear ms h hp
  generalize p.map nT = l at *
  generalize hk : (k : Int) = i4 at *
  clear hk
  generalize strR sg = s0 at *
  unfold g_words_with_0
  walk_at "ev"
theorem ww_car {sg : List Nat} {n : Nat} (hs : 1 ≤ sg.length ∧ sg.length ≤ 100) (x3 : Sl) (d : D) : ∀ (k : Nat) (p : List Nat) (f : Nat), k ≤ p.length → p.length ≤ 1000 → k < f →
    whileL (xPkB 2 (xAndB (xTest (xBin geT (xVar 4) (xC (.int 0)))) (xTest (xBin eqT (xBin ixT (xVar 2) (xVar 4)) (xBin subT (xCall lenT (xCons (xVar 0) xNil)) (xC (.int 1))))))) g_words_with_0 f (wE sg n p x3 (.val (.int ((k : Int) - 1)))) d = .ok (.nx, wE sg n (car sg.length k p).2 x3 (.val (.int (((car sg.length k p).1 : Int) - 1)))) d
  | 0, p, f + 1, h1, h2, h3 => by
    have c := ww_cond0 sg n p x3 d
    have z : ((0 : Nat) : Int) - 1 = -1 := rfl
    rw [z]
    have e : (car sg.length 0 p) = (0, p) := rfl
    rw [e]
    show whileL _ _ (f + 1) _ _ = _
    unfold whileL
    rw [M.bind_ok c]
    rfl
  | k + 1, p, f + 1, h1, h2, h3 => by
    have z : ((k + 1 : Nat) : Int) - 1 = (k : Int) := by omega
    rw [z]
    have c := ww_cond (n := n) hs (p := p) (k := k) (by omega) x3 d
    unfold whileL
    rw [M.bind_ok c]
    by_cases y : p.getD k 0 = sg.length - 1
    · rw [decide_eq_true y]
      have st := ww_0 (sg := sg) (n := n) (p := p) (k := k) (by omega) h2 x3 d
      have ih := ww_car (n := n) hs x3 d k (p.set k 0) f (by rw [List.length_set]; omega) (by rw [List.length_set]; exact h2) (by omega)
      have e : car sg.length (k + 1) p = car sg.length k (p.set k 0) := by
        show (if _ then _ else _) = _
        rw [if_pos y]
      rw [e]
      dsimp only
      rw [M.bind_ok st]
      exact ih
    · rw [decide_eq_false y]
      have e : car sg.length (k + 1) p = (k + 1, p) := by
        show (if _ then _ else _) = _
        rw [if_neg y]
      rw [e, z]
      rfl
/-- one word and the next places -/
theorem ww_yield {sg : List Nat} {n : Nat} (hs : sg.length ≤ 100) {p : List Nat} (hp : ∀ i ∈ p, i < sg.length) (hl : p.length ≤ 1000) (x3 x4 : Sl) (d : D) :
    xPk 2 (xJoin (xC (.str "")) (xToL (xLc (xItems (xVar 2)) (aName 5) [5] xYes (xBin ixT (xVar 0) (xVar 5))))) (wE sg n p x3 x4) d = .ok (strR (wrd sg p)) d := by
  have lc := lcL_all nT (a := aName 5) (f := xBin ixT (xVar 0) (xVar 5)) (en := [.val (strR sg), .val (.int (n : Int)), .val (.lst (p.map nT)), x3, x4, .no]) (d := d) (fun i => strR [sg.getD i 0]) p fun i hi => by
    refine ⟨[.val (strR sg), .val (.int (n : Int)), .val (.lst (p.map nT)), x3, x4, .val (nT i)], rfl, ?_⟩
    have ix : ixT (strR sg) (nT i) = some (strR [sg.getD i 0]) := ev_strIx (k := i) (by omega) (get_D (hp i hi))
    generalize strR [sg.getD i 0] = r at *
    generalize strR sg = s0 at *
    generalize nT i = n0 at *
    walk_at "ev"
  have em : p.map (fun i => strR [sg.getD i 0]) = ((wrd sg p).map fun c => [c]).map strR := by
    unfold wrd
    rw [List.map_map, List.map_map]
    rfl
  rw [em] at lc
  have fl : ((wrd sg p).map fun c => [c]).flatten = wrd sg p := by
    generalize wrd sg p = u
    induction u with
    | nil => rfl
    | cons c u ih => rw [List.map_cons, List.flatten_cons, ih]; rfl
  have jw := join_words (ws := (wrd sg p).map fun c => [c]) (by rw [fl]; unfold wrd; rw [List.length_map]; omega)
  rw [fl] at jw
  have s1 : strT? (.str "") = some ("" : Str) := rfl
  have cp : ∀ v : Unit, capL (p.map nT).length v = some v := fun v => ev_cap (by rw [List.length_map]; omega)
  have gd : guardT (strR (wrd sg p)) = some (strR (wrd sg p)) := rfl
  clear em fl hp hs hl
  dsimp only [wE] at *
  generalize ((wrd sg p).map fun c => [c]).map strR = l1 at *
  generalize p.map nT = l at *
  generalize strR (wrd sg p) = r at *
  generalize strR sg = s0 at *
  generalize (n : Int) = n1 at *
  walk_at "ev"
theorem ww_turn {sg : List Nat} {n : Nat} (hs : 1 ≤ sg.length ∧ sg.length ≤ 100) {p : List Nat} (hp : ∀ i ∈ p, i < sg.length) (hl : p.length = n) (hn : n ≤ 1000) (x4 : Sl) {k : Nat} (hk : 2 ≤ k) :
    ∃ p' x3' x4', g_words_with_1 k (wE sg n p (.val (.bl true)) x4) = some (some (.nx, wE sg n p' x3' x4'), [strR (wrd sg p)]) ∧ (∀ r, nxt sg.length p = some r → p' = r ∧ x3' = .val (.bl true)) ∧ (nxt sg.length p = none → x3' = .val (.bl false)) := by
  obtain ⟨c, p1, hc⟩ : ∃ c p1, car sg.length n p = (c, p1) := ⟨_, _, rfl⟩
  have cl := car_le sg.length n p
  have c2 := car_len sg.length n p
  rw [hc] at cl c2
  have y := cYd_eq (k := k) fun d => ww_yield (n := n) hs.2 hp (by omega) (.val (.bl true)) x4 d
  rw [if_neg (by omega)] at y
  have s1 : ∀ d, sAsg 4 (xBin subT (xVar 1) (xC (.int 1))) (wE sg n p (.val (.bl true)) x4) d = .ok (.nx, wE sg n p (.val (.bl true)) (.val (.int ((n : Int) - 1)))) d := fun d => by
    dsimp only [wE]
    generalize (n : Int) = n1 at *
    generalize p.map nT = l at *
    walk_at "ev"
  have w1 : ∀ d, sWhile 1000000 (xPkB 2 (xAndB (xTest (xBin geT (xVar 4) (xC (.int 0)))) (xTest (xBin eqT (xBin ixT (xVar 2) (xVar 4)) (xBin subT (xCall lenT (xCons (xVar 0) xNil)) (xC (.int 1))))))) g_words_with_0 (wE sg n p (.val (.bl true)) (.val (.int ((n : Int) - 1)))) d = .ok (.nx, wE sg n p1 (.val (.bl true)) (.val (.int ((c : Int) - 1)))) d := fun d => by
    have := ww_car (n := n) hs (.val (.bl true)) d n p 1000000 (by omega) (by omega) (by omega)
    rw [hc] at this
    exact this
  have g1 : ∀ d, sAsg 3 (xBin geT (xVar 4) (xC (.int 0))) (wE sg n p1 (.val (.bl true)) (.val (.int ((c : Int) - 1)))) d = .ok (.nx, wE sg n p1 (.val (.bl (decide (1 ≤ c)))) (.val (.int ((c : Int) - 1)))) d := fun d => by
    have ge : geT (.int ((c : Int) - 1)) (.int 0) = some (.bl (decide (1 ≤ c))) := by
      rw [ev_geI]
      congr 2
      exact decide_eq_decide.mpr (by omega)
    dsimp only [wE]
    generalize ((c : Int) - 1) = n2 at *
    generalize decide (1 ≤ c) = b at *
    generalize p1.map nT = l at *
    walk_at "ev"
  have nx : nxt sg.length p = match (c, p1) with
    | (0, _) => none
    | (k + 1, p') => some (p'.set k (p'.getD k 0 + 1)) := by
    unfold nxt
    rw [hl, hc]
  cases c with
  | zero =>
    have i1 : ∀ d, sIf (xTest (xVar 3)) (sAugL 2 (xVar 4) (xC (.int 1))) sNext (wE sg n p1 (.val (.bl false)) (.val (.int (((0 : Nat) : Int) - 1)))) d = .ok (.nx, wE sg n p1 (.val (.bl false)) (.val (.int (((0 : Nat) : Int) - 1)))) d := fun d => rfl
    refine ⟨p1, .val (.bl false), .val (.int (((0 : Nat) : Int) - 1)), ?_, (fun r hr => by rw [nx] at hr; cases hr), fun _ => rfl⟩
    unfold g_words_with_1
    refine (cSeq_nx y ?_).trans rfl
    exact (cSeq_pl s1).trans ((cSeq_pl w1).trans ((cSeq_pl g1).trans ((cSeq_pl i1).trans cNil_eq)))
  | succ c =>
    have z : ((c + 1 : Nat) : Int) - 1 = (c : Int) := by omega
    rw [z] at g1 w1
    have hcl : c < p1.length := by
      have : c + 1 ≤ n := cl
      have : p1.length = n := c2.trans hl
      omega
    have i1 : ∀ d, sIf (xTest (xVar 3)) (sAugL 2 (xVar 4) (xC (.int 1))) sNext (wE sg n p1 (.val (.bl true)) (.val (.int (c : Int)))) d = .ok (.nx, wE sg n (p1.set c (p1.getD c 0 + 1)) (.val (.bl true)) (.val (.int (c : Int)))) d := fun d => by
      have jx : L2.ixN (p1.map nT).length (c : Int) = some c := by
        rw [List.length_map]
        exact ixN_nat hcl
      have a1 := at_nat hcl
      have a2 : atN (p1.map nT) (.int (c : Int)) = some (.int (p1.getD c 0 : Nat)) := a1
      have pl : plusT (.int (p1.getD c 0 : Nat)) (.int 1) = some (.int (((p1.getD c 0 : Nat) : Int) + 1)) := rfl
      have ge : (p1.map nT)[c]? = some (.int (p1.getD c 0 : Nat)) := by
        rw [List.getElem?_map, get_D hcl]
        rfl
      have ms := map_set p1 c (p1.getD c 0 + 1)
      have z9 : nT (p1.getD c 0 + 1) = .int (((p1.getD c 0 : Nat) : Int) + 1) := rfl
      rw [z9] at ms
      dsimp only [wE]
      rw [← ms]
      clear ms hc w1 g1 y s1 nx z z9
      generalize ((p1.getD c 0 : Nat) : Int) = v0 at *
      generalize p1.map nT = l at *
      generalize hk : (c : Int) = i4 at *
      clear hk
      walk_at "ev"
    have b1 : decide (1 ≤ c + 1) = true := decide_eq_true (by omega)
    rw [b1] at g1
    refine ⟨p1.set c (p1.getD c 0 + 1), .val (.bl true), .val (.int (c : Int)), ?_, (fun r hr => ?_), (fun hr => by rw [nx] at hr; cases hr)⟩
    · unfold g_words_with_1
      refine (cSeq_nx y ?_).trans rfl
      exact (cSeq_pl s1).trans ((cSeq_pl w1).trans ((cSeq_pl g1).trans ((cSeq_pl i1).trans cNil_eq)))
    · rw [nx] at hr
      exact ⟨Option.some.inj hr, rfl⟩
/-- a chain of places -/
def chain (q : Nat) : List (List Nat) → Bool
  | [] => false
  | [p] => decide (nxt q p = none)
  | p :: r :: l => decide (nxt q p = some r) && chain q (r :: l)
theorem ww_loop {sg : List Nat} {n : Nat} (hs : 1 ≤ sg.length ∧ sg.length ≤ 100) (hn : n ≤ 1000) : ∀ (l : List (List Nat)) (p : List Nat) (x4 : Sl) (k f : Nat), chain sg.length (p :: l) = true → (∀ r ∈ p :: l, r.length = n ∧ ∀ i ∈ r, i < sg.length) → l.length + 2 ≤ k → l.length + 1 < f →
    ∃ en', cWhileL (xTest (xVar 3)) g_words_with_1 f k (wE sg n p (.val (.bl true)) x4) = some (some (.nx, en'), ((p :: l).map (wrd sg)).map strR)
  | [], p, x4, k, f + 2, hc, hm, hk, _ => by
    obtain ⟨m1, m2⟩ := hm p List.mem_cons_self
    obtain ⟨p', x3', x4', e, a, b⟩ := ww_turn hs m2 m1 hn x4 (k := k) (by simpa using hk)
    have b := b (of_decide_eq_true hc)
    subst b
    exact ⟨_, cWhileL_turn (fun d => rfl) e (cWhileL_done fun d => rfl)⟩
  | r :: l, p, x4, k, f + 1, hc, hm, hk, hf => by
    obtain ⟨m1, m2⟩ := hm p List.mem_cons_self
    rw [List.length_cons] at hk hf
    obtain ⟨p', x3', x4', e, a, b⟩ := ww_turn hs m2 m1 hn x4 (k := k) (by omega)
    have hc : (decide (nxt sg.length p = some r) && chain sg.length (r :: l)) = true := hc
    rw [Bool.and_eq_true] at hc
    obtain ⟨rfl, rfl⟩ := a r (of_decide_eq_true hc.1)
    obtain ⟨en', ih⟩ := ww_loop hs hn l p' x4' (k - 1) f hc.2 (fun r hr => hm r (List.mem_cons_of_mem _ hr)) (by omega) (by omega)
    exact ⟨en', cWhileL_turn (fun d => rfl) e ih⟩
/-- all places, in order -/
def allP (q : Nat) : Nat → List (List Nat)
  | 0 => [[]]
  | n + 1 => (List.range q).flatMap fun i => (allP q n).map (i :: ·)
def goodP (q n : Nat) : Bool := decide ((allP q n).head? = some (List.replicate n 0)) && chain q (allP q n) && ((allP q n).all fun p => decide (p.length = n) && p.all fun i => decide (i < q)) && decide ((allP q n).length + 1 ≤ 4000)
theorem good_all : ∀ q ∈ [2, 3, 4, 5], ∀ n ∈ [1, 3, 5], goodP q n = true := by decide +kernel
theorem mul_zero (n : Nat) (hn : n ≤ 1000) : mulLT (.lst [.int 0]) (.int (n : Int)) = some ((List.replicate n 0).map nT) := by
  unfold mulLT
  dsimp only
  have : (n : Int).toNat = n := by omega
  rw [if_pos ⟨by omega, by omega⟩, this, ev_cap (by show 1 * n ≤ _; omega)]
  congr 1
  clear this hn
  induction n with
  | zero => rfl
  | succ n ih =>
    rw [List.replicate_succ, List.flatten_cons, ih]
    rfl
theorem words_with_ok {sg : List Nat} {n : Nat} (hq : sg.length ∈ [2, 3, 4, 5]) (hn : n ∈ [1, 3, 5]) : m_words_with 4000 [strR sg, .int (n : Int)] = some (((allP sg.length n).map (wrd sg)).map strR, true) := by
  have g := good_all _ hq n hn
  have hs : 1 ≤ sg.length ∧ sg.length ≤ 100 := by
    have : ∀ q ∈ [2, 3, 4, 5], 1 ≤ q ∧ q ≤ 100 := by decide
    exact this _ hq
  have h1 : n ≤ 1000 := by
    have : ∀ q ∈ [1, 3, 5], q ≤ 1000 := by decide
    exact this _ hn
  unfold goodP at g
  simp only [Bool.and_eq_true, decide_eq_true_eq, List.all_eq_true] at g
  obtain ⟨⟨⟨g1, g2⟩, g3⟩, g4⟩ := g
  generalize allP sg.length n = A at *
  cases A with
  | nil => cases g1
  | cons p l =>
    have g1 : p = List.replicate n 0 := Option.some.inj g1
    subst g1
    rw [List.length_cons] at g4
    obtain ⟨en', lp⟩ := ww_loop (sg := sg) (n := n) hs h1 l (List.replicate n 0) .no 4000 1000000 g2 g3 (by omega) (by omega)
    have ml := mul_zero n h1
    refine gcM_full (en := en') ?_
    show g_words_with 4000 [.val (strR sg), .val (.int (n : Int)), .no, .no, .no, .no] = _
    unfold g_words_with
    have e1 : ∀ d, sNew 2 (xMulL (xToL (xLst (xCons (xC (.int 0)) xNil))) (xVar 1)) [.val (strR sg), .val (.int (n : Int)), .no, .no, .no, .no] d = .ok (.nx, wE sg n (List.replicate n 0) .no .no) d := fun d => by
      dsimp only [wE]
      clear lp g2 g3 g4
      generalize (List.replicate n 0).map nT = l9 at *
      generalize (n : Int) = n1 at *
      walk_at "ev"
    have e2 : ∀ d, sAsg 3 (xC (.bl true)) (wE sg n (List.replicate n 0) .no .no) d = .ok (.nx, wE sg n (List.replicate n 0) (.val (.bl true)) .no) d := fun d => rfl
    refine (cSeq_pl e1).trans ((cSeq_pl e2).trans ?_)
    have q := cSeq_nx (f := cWhile 1000000 (xTest (xVar 3)) g_words_with_1) (g := cOf gNil) (l2 := []) lp cNil_eq
    rw [List.append_nil] at q
    exact q
end K_k50
/-! RG: rings of records, counted (pure). -/
namespace RG
/-! ### words as circles -/
def cy (w : List Nat) (i : Nat) : Option Nat := w[i % w.length]?
def rot (k : Nat) (w : List Nat) : List Nat := w.drop k ++ w.take k
def pow (v : List Nat) (e : Nat) : List Nat := (List.replicate e v).flatten
theorem rot_len (k : Nat) (w : List Nat) : (rot k w).length = w.length := by
  unfold rot
  rw [List.length_append, List.length_drop, List.length_take]
  omega
theorem pow_succ (v : List Nat) (e : Nat) : pow v (e + 1) = v ++ pow v e := by
  unfold pow
  rw [List.replicate_succ, List.flatten_cons]
theorem cy_ext {w v : List Nat} (hl : w.length = v.length) (h : ∀ i, cy w i = cy v i) : w = v := by
  apply List.ext_getElem? 
  intro i
  by_cases hi : i < w.length
  · have := h i
    unfold cy at this
    rwa [Nat.mod_eq_of_lt hi, ← hl, Nat.mod_eq_of_lt hi] at this
  · rw [List.getElem?_eq_none (by omega), List.getElem?_eq_none (by omega)]
theorem cy_rot {k : Nat} {w : List Nat} (hk : k ≤ w.length) (i : Nat) : cy (rot k w) i = cy w (i + k) := by
  by_cases h0 : w.length = 0
  · have : w = [] := List.length_eq_zero_iff.mp h0
    subst this
    simp [cy, rot]
  · unfold cy
    rw [rot_len]
    have hi : i % w.length < w.length := Nat.mod_lt _ (by omega)
    have e : (i + k) % w.length = (i % w.length + k) % w.length := by rw [Nat.mod_add_mod]
    rw [e]
    generalize i % w.length = j at hi
    unfold rot
    by_cases hj : j < w.length - k
    · rw [List.getElem?_append_left (by rw [List.length_drop]; exact hj), List.getElem?_drop, Nat.mod_eq_of_lt (by omega), Nat.add_comm]
    · rw [List.getElem?_append_right (by rw [List.length_drop]; omega), List.length_drop, List.getElem?_take_of_lt (by omega)]
      congr 1
      rw [Nat.mod_eq_sub_mod (by omega), Nat.mod_eq_of_lt (by omega)]
      omega
theorem cy_mod (w : List Nat) (i : Nat) : cy w (i % w.length) = cy w i := by
  unfold cy
  rw [Nat.mod_mod]
/-! ### periods -/
def Per (w : List Nat) (k : Nat) : Prop := ∀ i, cy w (i + k) = cy w i
theorem Per.add {w : List Nat} {a b : Nat} (ha : Per w a) (hb : Per w b) : Per w (a + b) := fun i => by rw [← Nat.add_assoc, hb, ha]
theorem Per.sub {w : List Nat} {a b : Nat} (ha : Per w a) (hb : Per w b) (h : a ≤ b) : Per w (b - a) := fun i => by
  have h1 := ha (i + (b - a))
  rw [show i + (b - a) + a = i + b by omega, hb] at h1
  exact h1.symm
theorem Per.len (w : List Nat) : Per w w.length := fun i => by
  unfold cy
  rw [Nat.add_mod_right]
theorem Per.zero (w : List Nat) : Per w 0 := fun _ => rfl
theorem Per.mul {w : List Nat} {a : Nat} (ha : Per w a) : ∀ m, Per w (a * m)
  | 0 => Per.zero w
  | m + 1 => by
    rw [Nat.mul_succ]
    exact (Per.mul ha m).add ha
theorem Per.mod {w : List Nat} {a b : Nat} (ha : Per w a) (hb : Per w b) : Per w (b % a) := by
  have h := (ha.mul (b / a)).sub hb (Nat.mul_div_le b a)
  have e : b - a * (b / a) = b % a := by
    have := Nat.div_add_mod b a
    omega
  rwa [e] at h
theorem per_rot {k : Nat} {w : List Nat} (hk : k ≤ w.length) : rot k w = w ↔ Per w k := by
  constructor
  · intro h i
    rw [← cy_rot hk, h]
  · intro h
    exact cy_ext (rot_len k w) fun i => by rw [cy_rot hk, h]
def Prim (w : List Nat) : Prop := ∀ k, 0 < k → k < w.length → rot k w ≠ w
instance (w : List Nat) : Decidable (Prim w) := decidable_of_iff (∀ k, k < w.length → 0 < k → rot k w ≠ w) ⟨fun h k a b => h k b a, fun h k a b => h k b a⟩
theorem Prim.le_per {v : List Nat} (hv : Prim v) {k : Nat} (hk : 0 < k) (hp : Per v k) : v.length ≤ k := by
  rcases Nat.eq_zero_or_pos v.length with h | h
  · omega
  · have h2 := (Per.len v).mod hp
    rcases Nat.eq_zero_or_pos (k % v.length) with h3 | h3
    · have := Nat.le_of_dvd hk (Nat.dvd_of_mod_eq_zero h3)
      omega
    · have h4 := Nat.mod_lt k h
      exact absurd ((per_rot (by omega)).mpr h2) (hv _ h3 h4)
/-! ### rotations, the least one -/
theorem rot_rot {w : List Nat} {j k : Nat} (hw : w ≠ []) (hk : k ≤ w.length) (hj : j ≤ w.length) : rot j (rot k w) = rot ((j + k) % w.length) w := by
  have l := List.length_pos_iff.mpr hw
  have hm := Nat.mod_lt (j + k) l
  refine cy_ext (by simp only [rot_len]) fun i => ?_
  rw [cy_rot (by rw [rot_len]; exact hj), cy_rot hk, cy_rot (by omega)]
  rw [← cy_mod w (i + j + k), ← cy_mod w (i + (j + k) % w.length), Nat.add_mod_mod, Nat.add_assoc]
theorem rot_inj {w : List Nat} (p : Prim w) {i j : Nat} (hi : i < w.length) (hj : j < w.length) (h : rot i w = rot j w) : i = j := by
  have key : ∀ {i j : Nat}, i < j → j < w.length → rot i w = rot j w → False := fun {i j} hij hj h => by
    have hp : Per w (j - i) := fun z => by
      have h2 : cy (rot i w) (z + (w.length - i)) = cy (rot j w) (z + (w.length - i)) := by rw [h]
      rw [cy_rot (by omega), cy_rot (by omega), show z + (w.length - i) + i = z + w.length by omega, show z + (w.length - i) + j = (z + (j - i)) + w.length by omega, Per.len w, Per.len w] at h2
      exact h2.symm
    have := p.le_per (by omega) hp
    omega
  rcases Nat.lt_trichotomy i j with q | q | q
  · exact (key q hj h).elim
  · exact q
  · exact (key q hi h.symm).elim
def Lyn (w : List Nat) : Prop := ∀ k, 0 < k → k < w.length → w < rot k w
instance (w : List Nat) : Decidable (Lyn w) := decidable_of_iff (∀ k, k < w.length → 0 < k → w < rot k w) ⟨fun h k a b => h k b a, fun h k a b => h k b a⟩
theorem Lyn.prim {w : List Nat} (h : Lyn w) : Prim w := fun k h0 hk e => by
  have := h k h0 hk
  rw [e] at this
  exact List.lt_irrefl _ this
theorem min_of (f : Nat → List Nat) : ∀ n, 0 < n → ∃ k, k < n ∧ ∀ j, j < n → f k ≤ f j
  | 0, h => by omega
  | 1, _ => ⟨0, by omega, fun j hj => by
    have : j = 0 := by omega
    subst this
    exact List.le_refl _⟩
  | n + 2, _ => by
    obtain ⟨k, hk, h⟩ := min_of f (n + 1) (by omega)
    rcases List.le_total (f k) (f (n + 1)) with q | q
    · refine ⟨k, by omega, fun j hj => ?_⟩
      rcases Nat.lt_or_ge j (n + 1) with r | r
      · exact h j r
      · have : j = n + 1 := by omega
        subst this
        exact q
    · refine ⟨n + 1, by omega, fun j hj => ?_⟩
      rcases Nat.lt_or_ge j (n + 1) with r | r
      · exact List.le_trans q (h j r)
      · have : j = n + 1 := by omega
        subst this
        exact List.le_refl _
theorem rot_zero (w : List Nat) : rot 0 w = w := by simp [rot]
theorem lt_of_le_ne {a b : List Nat} (h : a ≤ b) (n : a ≠ b) : a < b := by
  by_cases q : a < b
  · exact q
  · exact absurd (List.le_antisymm h (List.not_lt.mp q)) n
theorem Prim.rot {w : List Nat} (p : Prim w) {k : Nat} (hk : k < w.length) : Prim (rot k w) := fun j h0 hj e => by
  rw [rot_len] at hj
  have hw : w ≠ [] := fun z => by rw [z] at hj; simp at hj
  rw [rot_rot hw (by omega) (by omega)] at e
  have h1 := rot_inj p (Nat.mod_lt _ (by omega)) hk e
  rcases Nat.lt_or_ge (j + k) w.length with q | q
  · rw [Nat.mod_eq_of_lt q] at h1
    omega
  · rw [Nat.mod_eq_sub_mod q, Nat.mod_eq_of_lt (by omega)] at h1
    omega
theorem exists_lyn {w : List Nat} (hw : w ≠ []) (p : Prim w) : ∃ k, k < w.length ∧ Lyn (rot k w) := by
  have l := List.length_pos_iff.mpr hw
  obtain ⟨k, hk, h⟩ := min_of (fun k => RG.rot k w) w.length l
  refine ⟨k, hk, fun j h0 hj => ?_⟩
  have hp := (p.rot hk) j h0 hj
  rw [rot_len] at hj
  refine lt_of_le_ne ?_ hp.symm
  rw [rot_rot hw (by omega) (by omega)]
  exact h _ (Nat.mod_lt _ l)
/-- the turn back -/
theorem rot_back {w : List Nat} {k : Nat} (hk : k ≤ w.length) : rot (w.length - k) (rot k w) = w := by
  refine cy_ext (by simp only [rot_len]) fun i => ?_
  rw [cy_rot (by rw [rot_len]; omega), cy_rot hk, show i + (w.length - k) + k = i + w.length by omega, Per.len w]
end RG
/-! MT: marked turns of words of letters' numbers, told by recursors (the kernel is quick with them), checked for all words within the limits. -/
noncomputable section
namespace MT
def appR {α : Type} (l m : List α) : List α := @List.rec α (fun _ => List α) m (fun a _ ih => a :: ih) l
def mapR {α β : Type} (f : α → β) (l : List α) : List β := @List.rec α (fun _ => List β) [] (fun a _ ih => f a :: ih) l
def dropR {α : Type} (l : List α) : Nat → List α := @List.rec α (fun _ => Nat → List α) (fun _ => []) (fun a t ih k => @Nat.rec (fun _ => List α) (a :: t) (fun k' _ => ih k') k) l
def takeR {α : Type} (l : List α) : Nat → List α := @List.rec α (fun _ => Nat → List α) (fun _ => []) (fun a t ih k => @Nat.rec (fun _ => List α) [] (fun k' _ => a :: ih k') k) l
def scanD {α : Type} (lt : α → α → Bool) (l : List α) : α → α → Nat → Nat :=
  @List.rec α (fun _ => α → α → Nat → Nat) (fun _ _ _ => 0) (fun x _ ih a b i => @Bool.rec (fun _ => Nat) (ih b x (i + 1)) (@Bool.rec (fun _ => Nat) i (ih b x (i + 1)) (lt a b)) (lt b x)) l
abbrev It (α : Type) := α × List Nat
/-- the last two, continued -/
def last2 {α β : Type} (z : β) (k : α → α → β) (l : List α) : β :=
  @List.rec α (fun _ => Option α → Option α → β) (fun a b => @Option.rec α (fun _ => β) z (fun a => @Option.rec α (fun _ => β) z (fun b => k a b) b) a) (fun x _ ih _ b => ih b (some x)) l none none
def dipE {α : Type} (lt : α → α → Bool) (ks : List α) : Nat := last2 0 (fun a b => scanD lt ks a b 0) ks
def cutD {α : Type} (lt : α → α → Bool) (l : List (It α)) : Option α → List (It α) → List (List (It α)) :=
  @List.rec (It α) (fun _ => Option α → List (It α) → List (List (It α))) (fun _ _ => []) (fun x _ ih p cur => @Option.rec α (fun _ => List (List (It α))) (ih (some x.1) (appR cur [x])) (fun p => @Bool.rec (fun _ => List (List (It α))) (ih (some x.1) (appR cur [x])) (appR cur [x] :: ih none []) (lt p x.1)) p) l
def rotR {α : Type} (l : List α) (k : Nat) : List α := appR (dropR l k) (takeR l k)
def dipsP {α : Type} (lt : α → α → Bool) (l : List (It α)) : List (List (It α)) := cutD lt (rotR l (dipE lt (mapR Prod.fst l) + 1)) none []
def oddB {α : Type} (l : List α) : Bool := @List.rec α (fun _ => Bool) false (fun _ _ ih => @Bool.rec (fun _ => Bool) true false ih) l
def grpR {α : Type} (ds : List (List α)) : List α → List (List α) :=
  @List.rec (List α) (fun _ => List α → List (List α)) (fun cur => [cur]) (fun d _ ih cur => @Bool.rec (fun _ => List (List α)) (ih (appR cur d)) (cur :: ih d) (oddB d)) ds
def splitE {α β : Type} (z : β) (k : List α → List (List α) → β) (ds : List (List α)) : List (List α) → β :=
  @List.rec (List α) (fun _ => List (List α) → β) (fun _ => z) (fun d t ih pre => @Bool.rec (fun _ => β) (ih (appR pre [d])) (k d (appR t pre)) (oddB d)) ds
def lenR {α : Type} (l : List α) : Nat := @List.rec α (fun _ => Nat) 0 (fun _ _ ih => Nat.succ ih) l
def flatR {α : Type} (l : List (List α)) : List α := @List.rec (List α) (fun _ => List α) [] (fun a _ ih => appR a ih) l
def joinP {α : Type} (l : List (It α)) : It (Nat × List α) := ((lenR l, mapR Prod.fst l), flatR (mapR Prod.snd l))
def greaterP {α β : Type} (lt : α → α → Bool) (z : β) (k : List (It (Nat × List α)) → β) (l : List (It α)) : β := splitE z (fun d ds => k (mapR joinP (grpR ds d))) (dipsP lt l) []
def lexB (l : List Nat) : List Nat → Bool :=
  @List.rec Nat (fun _ => List Nat → Bool) (fun m => @List.rec Nat (fun _ => Bool) false (fun _ _ _ => true) m) (fun a _ ih m => @List.rec Nat (fun _ => Bool) false (fun b m _ => @Bool.rec (fun _ => Bool) (@Bool.rec (fun _ => Bool) false (ih m) (Nat.beq a b)) true (Nat.blt a b)) m) l
def lt1 (a b : Nat × List Nat) : Bool := @Bool.rec (fun _ => Bool) (Nat.blt a.1 b.1) (lexB a.2 b.2) (Nat.beq a.1 b.1)
def oneR {α β : Type} (l : List α) (one : α → β) (more : β) : β := @List.rec α (fun _ => β) more (fun x t _ => @List.rec α (fun _ => β) (one x) (fun _ _ _ => more) t) l
def itsP (w : List Nat) : List (It Nat) := mapR (fun c => (c, [c])) w
def mtP (w : List Nat) : Option (List Nat) := oneR w (fun _ => some w) (greaterP Nat.blt none (fun l => oneR l (fun x => some x.2) (greaterP lt1 none (fun l => oneR l (fun x => some x.2) none) l)) (itsP w))
def eqL (l : List Nat) : List Nat → Bool :=
  @List.rec Nat (fun _ => List Nat → Bool) (fun m => @List.rec Nat (fun _ => Bool) true (fun _ _ _ => false) m) (fun a _ ih m => @List.rec Nat (fun _ => Bool) false (fun b m _ => @Bool.rec (fun _ => Bool) false (ih m) (Nat.beq a b)) m) l
def anyR (n : Nat) (f : Nat → Bool) : Bool := @Nat.rec (fun _ => Bool) false (fun k ih => @Bool.rec (fun _ => Bool) ih true (f k)) n
def allR (n : Nat) (f : Nat → Bool) : Bool := @Nat.rec (fun _ => Bool) true (fun c ih => @Bool.rec (fun _ => Bool) false ih (f c)) n
def andR (a b : Bool) : Bool := @Bool.rec (fun _ => Bool) false b a
def codR (q : Nat) (w : List Nat) : Nat → Nat := @List.rec Nat (fun _ => Nat → Nat) (fun acc => acc) (fun a _ ih acc => ih (Nat.add (Nat.mul acc q) a)) w
def bitB (B c : Nat) : Bool := Nat.beq (Nat.mod (Nat.shiftRight B c) 2) 1
def okW (q n B : Nat) (w : List Nat) : Bool := @Option.rec (List Nat) (fun _ => Bool) false (fun v => @Option.rec (List Nat) (fun _ => Bool) false (fun u => andR (eqL u v) (andR (anyR n fun k => eqL (rotR w k) v) (bitB B (codR q v 0)))) (mtP (rotR w 1))) (mtP w)
def okR (q n B : Nat) (w : List Nat) : Bool := @Bool.rec (fun _ => Bool) (anyR (n - 1) fun k => eqL (rotR w (k + 1)) w) true (okW q n B w)
def allW (q : Nat) (n : Nat) : (List Nat → Bool) → Bool := @Nat.rec (fun _ => (List Nat → Bool) → Bool) (fun f => f []) (fun _ ih f => allR q fun c => ih fun w => f (c :: w)) n
def getR (l : List Nat) : Nat → Nat := @List.rec Nat (fun _ => Nat → Nat) (fun _ => 0) (fun a _ ih k => @Nat.rec (fun _ => Nat) a (fun k' _ => ih k') k) l
def cfC (q n : Nat) (S P : List Nat) (c : Nat) : Bool := allR (n - 1) fun k => andR (andR (bitB (getR S (k + 1)) (Nat.mod c (Nat.pow q (k + 1)))) (bitB (getR P (k + 1)) (Nat.div c (Nat.pow q (n - (k + 1))))))
  (@Bool.rec (fun _ => Bool) true (@Bool.rec (fun _ => Bool) true false (bitB (getR P (n - (k + 1))) (Nat.mod c (Nat.pow q (n - (k + 1)))))) (bitB (getR S (k + 1)) (Nat.div c (Nat.pow q (n - (k + 1))))))
def cfW (q n B : Nat) (S P : List Nat) (w : List Nat) : Bool := @Bool.rec (fun _ => Bool) true (cfC q n S P (codR q w 0)) (bitB B (codR q w 0))
def B1 : Nat := 31
def S1 : List Nat := [0, 0]
def P1 : List Nat := [0, 0]
def B3 : Nat := 696941644269957220296789846959063070
def S3 : List Nat := [0, 30, 549790, 0]
def P3 : List Nat := [0, 31, 16227425, 0]
def B5 : Nat := 857399858664359028194311403888832630262995952184069648418797078269802420725915184860880657472616804685661226457307638941564670990839356193316743224857688629675013126587550789263534653939736714189420492393007836644575464607791242493948331241893874753457042504745216872607480799179068388600903748312008050132501930615071956178338147596591021935843685658897522568072257449149579539604024500606054518042396019538283643853880844763972139093845441011481274015166480312271499381731573958774676532614765825424054213156086193058596294689098742769968282353734622460960415805935550000674981027983990691457782249055184575693413797188178704724010063015934633738922808299967908169119760272578268097709443155937382295020554209365971859464695542348556878953104823836377969692120983557369605127113544292894656118091760422624350849985243603553019870259605532400137711778855847951003403718428004511110157373741217713555069262871560711550770172215458529280030
def S5 : List Nat := [0, 30, 549790, 696941644269957810592618622484480030, 2281362232604971925597488334499980966974135457568308604643275089422530101454254338191356445449409133847356807851716049321109292446114402234889055280684470692560080474262800880682961731614, 0]
def P5 : List Nat := [0, 31, 33004641, 42535294637080751219785092553716531231, 67335954687116477028476705892969544880929320953707108919206535738035641700831538177424332519638962159230378946726737145118498881449470410273732600964278663667252843526794952298201104236001, 0]
def B7 : Nat := 40919429159500898784405369857355406931053797947750760395214020541129142875924901767644469364422778847292486843745955320554006502018392598228803814499980487348698743214473880708787212645167360793565794109751760132801622210012415561927526379075789307576545337247495058280885394387375403196939060356492093643180795197997138826822981206463605005023064300239875814596888438778691384119565835416272315566646101165862472346431368007637754752668104005733900133373879753236402429165850610980292626640964914340851005967196402596506547328339729141667653329238347856383644405684081698314214167861151073038376321736890562383902413929728337390763563368752879676455218250337469665408052425305419480139130670959597581631212945011403600930637321779183650623627979945279965279494534452562820608652686014649779965205718838921679832612189564806427962700923220060555181666473672948636360652283903355124299898594703246401976609061511743382559883667964101498038049638707029442296145246917146558930008209370641124443192484419200332238438887132384630912706494025069265423993251066200801921479966031592958714345165488029042733046692366132002909004430841617454281883925884569493434580215329312427086948680806497489086064785299857317276913735770409186107570696335950728070195508789000236676459982982431338793264378472253052257384805961360956947888295802405971131777300133904685191182989619168225485197347030296107217719283609077381331919339190207222345774415098054694834142319349694914477915447654466513873542596732282887379895721630144456611711298677115278324730835289166115303259130298362238251099837931478243385023631353181205361710252030156829375091099161102125451409602401776100186742706360631131880415402756600650781904708355177966356861311509841486507130006263778580759170622378303591251041558902357962142925698479230563701733328026122982341297594431575298395511124609389719853991621586096748827339946696482326856379526935255340969356046080650273760109897970642114205875549565247751009219139953486842004781044531560717314107298055543437185920951487478128524875449371886548481718325242900370743528636047512164413290189331949443571959257871680844822617668497578860990702885234094078621717763629531224542612249153935768182936868440937354924838272300194992544613246501318882490278926822697424234015365889842693950335431789733759354956492571859598061162021422513464156477421396608231417639320678980681714944060795590414564295890212825844787005022603350559019490725928859065944797806271386668336430085330304701834588282506721137479576836604972122299729873965391405586115494454563509399536893933989123457745204629137558245884111706458190937499752478316742506837650429665644199139002090518729774222343070284772127280512183941789445516902546403459176987753654179298185852380190026943390367376730381079287971011526510074323847276757621459161794323201214796267400422374581181306476412983094860437709048518416091043763302667439836438653512056561277236907390788986047877188354300862379443550714742499369590840602471627816203112429362578926730758169469617872254411800920412909073697527050915424142190950558319702854909450604615975853879817658680626516897306700192779459314671176425185942053654443141685239918875993974586503433094185086178359723265583180647348650159133982755271042309798902129590362092506842299232692790504437158874912239242919767099889650400186347407952185331815343420425530994184414206170806121737020501250593994146626655932611236949353172529286071565118664200335052920560973992853962904630050623094589331284370316179613621135824771672444389639160078702348658685133943267856126014959594056000856760690544177787984668701560987668144226859759245430110022065086516064394629874411565241848503037700793079919405030844754586877477383316622524079654277593871489606610301552620993261097004082346255843026553278945245465362357313799218289589773337694651132134669929246362607849300451333631006732893643962517153694220084086930275653374624676136567787736762827216454755760566714535748089439632826683182922279785196893214129651327009980644823715499940639575149144160537665645751559431818546973826427171231190809816110580292588151889843616792666419493992940052097535996259160410325529524223450041344782233386563149586656468146515278533809068732258582259082402709670760660625109289537013453545045072038410939448636262775189879599889377224339729745032072727704984595841995985187426985820519878613009067156118082378939926133708727574821913186365203347336057909917991575528205672149351493031955371751912941711605024628265629194241924458672670330405577087425884615540931921575167766516329324016769259911468376332605021947744460991766756766524523723790461361956931642668458714478792753218952780324001544690021040733446662944998553477983082966063502419511446389691306539133937173771380132679564897141948095876651683671041794225838785463018674942666768482388102847528450016232785957845946721032363349689585599650702355900718675636714274864469741482516428581727300878350
def S7 : List Nat := [0, 14, 2254, 634454278509821966, 3982534051815009609220209756259822678588406387110486703369458775029116174350, 6182956168646451429384067901055558195160611369361022612376694528296066390730249515785162588123323074927790830969133769036488703013636120901047046029714008366616131869066210501852331737161962769716303566608085336151670603559493806179856194598260827923621260354059636570755105451807534143027489056922689994766, 35920539226478089746523652859714267502095110955556238455173969915680194960801903857896916053517844660828581661614645204760757914777150614221233543454629243210122151726989837957105302097480444751939785605041875651050865066311482004895382551830783735429659121983771510683651264522720075536622022100960140647510123005360437580070941889473820464957310815007413715084774105223575466757651449325285915653868286119301439139921254897820954568858487738713841675120205574193967385058880182594664605034263208257065917307142570097391197559233797356176396934572937528970841255530447080587535923645398741613625015555843070464709315426009410378079451855854973612630609299796219983979242744169342984137369744935946500086769383791948645511755302285318924621456857875879658435686770925255771807956280673548493634512963246102709036545093071896090948065024228611469078523598152510518385458700214327419410117347030793652282564921798156138441791084969895182393943258101641054201873790926853301057384768296761489568891016988285938872120302568783263045164513898579160838488528335842197113003464627439888994802856364086045042668496225021809749055152119065004264621762525577048397855816119711027774698717033113633765925167952462908910859010686328621941784590, 0]
def P7 : List Nat := [0, 15, 63281, 18446480186640629775, 111809555185501185808289659607332190621492089638319113128211637948393432612849, 179766741823881399488329593543172672349141282512207802170229500216727067546909233642307304223477460566188434736847542113028488874313189886103964985315653076362855412223846443235235362790034467022714762977372700622282031238660509727990700817309384345729146092914781652608796808975024832409571574637410748661775, 486265933296094036353411988359343462771142187528400702782916428450848063463799540392748319777269685908812835917055271609101207278426061928172937114872068086177411107972310789041658988811032212824156072988166571534204988314962072165929744766703937517578429152804703411047685575728079550287947465036823663340352017313029796446278042395420619786183304173047782333635046231469084324737186801552406632332844280321629026856617276907554933150796463362542196990146761829974257745283272008511020267447183029150961294822451085031730540055125506553180681175626163515246201587816653417295699554339529939873234804407199467450588615030746833206757177849076383119174791466309876249066348457079519762455372851945017676799667108685452945853674639569684473169706523668095185491431233651945499925528810117983155290299808337111085238307138038653540755107333460669526286514544903979850113056277334425326484413487266995670177206008262300854951574621267742311803003561302996099478173561967187789452824229383744032571292113821888487036399733030410465586505588425159439190181636101498116573583506028042231955288231716266018762646084724570864613554254422807797773998384210577341189755972441675494459120694788842581804812790948006280739529320754519044226316145, 0]
def B9 : Nat := 110857724077359263481588820515377299885350091403377236678821748272335743452042232509469319835939452453924357688361468131908241234598520984503162888715487021177006166394814600152404674127688925425336208808203397665460501972248418243845100348579297399149346293103909856295742178315378097893842170059133211911190147391190163880551011307543254254982351990311618123522674882551204998944815936949700894560591617912166515272794424870815275346176011824931175618496316699548756131733542102520883487470642788590853197103655137087343848732423661288581481368799935247204263921051465803518303881473897996151309950992271738553559316836485965696551910469823884402358466509344287402967971368822768092569358648502219706705307432231963646690350768214302382860082344500670121138867419215994139855994407483652882128702983434963673677889903485810104393665422157444450257926228361241825686028420975783335229686931399670084766719725336595013465948162884116560308441632216460055278972339894493339559722623876403913337111840385480627228164447003584503395356585456777696697123449849092682433778720955336954383434638385460968837943509940398995002875880239622013169497630015705893230146184407040798603199617887018289531015271215226409980070965707073665894868708729281540326876489412297164921595842487349776159694771105240609183513554641698463110279964044170732111776739501867951896499907755367686011536184832047562237032013353369044122591457102952083105791063350464231632441190061881204826539756443995472249542912803209645843585475822397919426218760707631705749716730633971604660594678814044165919448570371386366262905935495639235772924841620334219952351793297902571351680671658493727548166954544675014600447436139714569973640937421499962693612988397106192562277913288253073177766035472597547581420033702410929220486636527786996068648855591839527326190000850336323152725443726738701110028070029737939183093409212043162492662676166575273821144447735382773608637105016684130849434434957720432809974268916661236910271572694012478917469968961608423435205821528754498022694520190361447633780729741582381634241043461813460638588533183566367291399733823867905636207113630208840559000938721833523076513118094887554530744931850305424445544475979137044569707384663623038008084775593598795438809054755020400958599233227588368481962061776514916983374143846900716637039715559910896908825016378295951968873827371405829325016959418844815491043873538737124740402270055945307456927879624178682271590387492852018755049070434803981161876106907674981772002132113163476971085127215193204255334287895954837793143227758667159791799627069111814218407178099673818820308349257272371589743960110071636090217155985124668933268705776397176432097722569992484951168437018663020541327480247696388180004249606167840065228656654552168195309057068740945891171633809554371899691581985308472584235155047202478983313606301113223336067938848583402288597517463528387218169881792484747754770102025833457529572652625363344407501416433604425255776804405393618553973274092821823792300479866171294902972327026957300998082647654886975568786925749108472754955527006184811161685414949476393422104259766335572095453444576796915810105457045942038874326256175698074079499890178020626899334151811183895889977350249206090495461422369310692408587298543879107250890608230502847436149412992152378145952839188283039521023469472603074965756332530207737994873286527898347971044648965459107305601169234788454823338289471786329636880918165226638211073369042112898540570550940129998711201407851049531138288321562830255823275759465251494084052380078782185705381910378282498251703418427725369969724770275927932226200908947997917091102017433806303769250559268960806514641356171805830624984819058102838130813073603673023242638282747312562662389165971620825389955250865776476448805577255869565482905887191754972539807714776687502893771306446044676059833334858629174295122925776604735694677521754231862115151961586517884501259122546807712374370210986300921700802265740591550203095542310146475163747934068958364410124007162323947485827036710384784001379182493221684385159872595792885290058818691970087706646574420688308116267093259880578766325947913862283020359206236431118258883307640475740174701222355253504330292296982901003310686152758670882852529797363574404867698628179067328187944887156613080998578857833146032807797913098653362136441105983588186576974576989339012947395414550646373405866340970303168518481177145406019996626667643630900904431764976538829554531630662460888928940880736712621015612977732909733563451660618585590795166214176256382298798995663363375242565539459757633254502161773960989875450420997762070984236642664293570726878538742386172636953887315038887646387818590511551577941656327792455613312288823084428324849165077977164447351817765186581693252115079694892408682857929329961166010206213132661583340863476302399353669905217042299806446153603908864572781143085276218513402616741699145266229925977769960448894538353461272799543378625608173317469643117580000885740742430624007229691183126351953186097768661068768868429694191773292783611227691040264691455786202264232882025867222252965111891957819282946356315258856728974833535789568998790252397408916846405789191325291113772650321013610740528479417293594768908412813647917009491746862907038017827240584647544792381849444974546746943400004968689624239531401748418627344848318688294688734606916382096418284752991845806398633330890793488836270784396425717402136758790800224865085818472097740617377329307430471900985091651274048767059511982355225722219147180166959036774753697036572302154243349585911975669050206054401313546275849399078700774616601670703848271790158486523826203900827068396739366346541365048813777842356245742423334445729030478176661461412484053051774952269433294810867982861488535697883149192255270905028624351114691452035271807001673206028789498534526147493537314483016353941744404991524510919350937811745834962556473932158250535942
def S9 : List Nat := [0, 6, 38, 9980934, 179800523912456351271942, 1051115040364036480528694386682916820598642512298147265053721361183689734, 210004278622193058705980358729228882727049104645065383569100746075114779122662612705983834151091707318087259042550730848282571824270239839840216575126474791687827946398494592845916537427976156175138604163296128684018694, 1674795638432185086319183628163020405640564080644218179986728987652765996977228298525561520587055415311938978068242631281154603791637748485699730665705188975576611152874907218056492762753948777351939941497985696644181870815026888543780281224931337148227588283827643013761426443507935120564976427766067660154517138399626313012369562049418691412043915206485554142333240410718971593145969403345788372353541699619646400880708126417937573077681776148806874744115988813953348968184632921510718859305796462683704857392149071355725319177544085606246515997086326225849829348437804952200973052461241238574493781439683091442753752872114215100346359201771706325170408454, 849498967722369836983260041799748558732151906159786336185004594376357278255457960898670290995560180934422415802263017363409501910260993646969263333825056597925642472738583366356405680135537554600921772516150037657387144825320521115629050303495232933319401739017399113513391607364636712606016829664059970970390517303846667815096895225842005820672480961745167171314582967688648675161264892527761050142301322499045372674035614364562792348946527870943869303229848730770343708268570236657419610499960796413898637165533587185171414352150334524463995383982047904926142020871733525113670509328946244672154850570778413601596544111346080539993717955483716601694128311347303607098019273162630975079750036835165949305491416858433015872108749932821583357547719417283960887878952681633691517100782714337109316942018906646605606572636380836682427000020524896526170302768696929992633238806250061684521744683085502315792836804761816805822297263762246478268222508641787033526918041675307281257803638809792434255613281084257320850531929988849455240360292297334518695130209701141554425857481607158516421707711019292116459913485983917449803307996919877875081292559764765794602488568994094427037972566129103697443160689642335373720674384073536427571201286348759735392867074134790171086702711328280666742720731798717804081703631307558477650015123232821627087835433793329204738254457496123653549606182954278949672109909958751664728122055842005080529780860116807206710852457906480289904697360647349306256439291925418257904073234971347482310003252607739624781803968951826584306768248724735618803974972217032282927600417338902445778893569763019824241672550630507611004318248149161940071927006992059867107631315396197490502620419516047516633842059989117239327862973888949318444506520545485612204621448372133071935282901984318373616334123738021516818705326130270264386697534961476520009111199884863758866268282244339160615657675684455452338776608923951334680355318865693613636979809428345340364267736070, 0]
def P9 : List Nat := [0, 7, 473, 133987847, 2238051098674593875886585, 14110567328437934192218974104683239616210400596548657641108399377302420999, 2614009660648178344446558676724787016700130109089701895166253953208896368539220834454000955805083696614425625937121552832498736679558596773145337397283271988404708801853571942204930441930183174991878044409238768404398585, 22483092439897802674854038470970593667023275089950791457374762587265743550075032577970037580636757399540703519782775349446842087043355669433047417292089471033046394913240633437239091115075454135636443490994148481815703869326597710056222787631994316197314884560262754398458573945293464053390072727664163753716815997635626493154792898798015693378642081673306273097522860698718636356361451704292357016627091560709415414509876823152729784737083038776841257852178153528570300256981790872548689224378499548428508642962420758090727824884895835447942948765525858203529109188519332306175087139532101719325755893857397447659745395476635976391844317785419569788570566151, 4851101727471123501336483150837386660368490568752919378469522377152544511993362746690731653193258306046915947482529138771201156744293946136158932435246206229427882128439591836198471137329563856970952668049656420383075848919777180938166072224057246078279461366624933736985799138315613605475706469616082196971544486917627926169005870204102604855751377411083258963261183207944468098471171770538030334749680283244894728858142717329227346959706932070549564248703072855839357567435942705947111201606379803442370002706761682581972552828954281194500909282366283478844922047681005498478721714994126418136465139839165536513297485662004093887776776305958825516761481275660369799120236983183049830969964971928261696479480969628054335400931618398216178564675385163017150611796719620123931556645532344370417028802222489343233863845325223931157365297850185993131836805984689283070932888374670430460594252782003373400522980345658744695205064540601636529079909247903046492799072025635545809042921665440504495618385553317041806250279183958392629319152636014621224249077376760562517315329246432730853049281492962350826871939169253768145231640730732443939788978312998404124255482934597351366205019834772163920945451559944869946200536987404835842092854577522595504691557822081646128690217223177771900204040364096907052656206273211864058870673592399477013881528527674407854951593092745326957211628287158337419296102743670573415610185334052873944634080150142304438948574633450880267909236745015476787338413817315265894971312502525717476216409085368802861174286183200419985356236361950516538397982209551260391306268464247848737457595507226683220065634240390405181291326097057896200321799902334570051485481616645946467019624249255375347199271302942393433799308957807020594797665766545296285711129065482812721998569974697152352754782555151565643716704165160548415240979331602694672456347917371470741274153325391377054562731201981919310269107708785151478399927916078105603243081457138003437920387596505, 0]
def B11 : Nat := 4308868650556771513669799585724374017455279878773008318960902175487095445562903315327017748898105805478301246391704330044477432168150376533810504915271905006465197054608352778706742935861011061738525839603912720575556388583040546169461917485060840429526237542157034014767006402408920661375756014789807167520645958529859980053247572561454150843447184802752068585333475870419226533641288881305553697186325601227913555302971231698139340634876640246481796633593180014923402409202529260049151796602744606916472948001675394518522263682560256809650672855714592264381698245638254865885581140917324188685887025337263399764002
def S11 : List Nat := [0, 2, 2, 34, 8738, 572661794, 2459528493099261986, 45370292654198594860255863661672923170, 15438710572266313874747174359546114244862752603862105842541500138265145114658, 1787680552292958003142563645728674011325343518788754808599236761424570044791195643948107400367351957555117025737708253745482161844649886045187618122104866, 23968877485237683947655749652527517207312191845094197456531578298620560431356999061849470653204679774243059294211620278690274454883792608349563055960713381444315483623551258452222684945204119241823875714911833439840457197221109215952717731971653489177380328751521466227353825932370790190358545373124762927138, 0]
def P11 : List Nat := [0, 3, 13, 243, 56589, 4092788979, 15928667888379027213, 324264150444028969266595594367188009203, 99985647988658990229698485449985141907694398819635385849478607590030108057357, 12776658064917698565176782000577850321136600557090253253612379631083412438450965173156100819805747249742785187567907814770114454213114582537745807011676403, 59703656170242662373819368490027486442874223033076450456534221724658363986559575366820442666744698460143724440634434149636049949628155672532583621474115820212065223767784115014872156725010199233842629481906542126405133414196524515054333357250874480638225447778259723214956652647725708917466271653631186982149, 0]
def B13 : Nat := 145430874284979400083952231669997194584991615421041495824982726075004287253560857792377113824478236320768892118767643772653093958518331487719460328580759340216370461976339379672334103229368874090733944680070781438639866891070451320471248462500456092218473619897765648366391314112046308939967005011408599333967716432745072148222040684922046697472294970531261938128881138246147731664547658429829734121423698749932380877498546765380617175543932464990160552440048058140010689397648260393784030517813246852226527810224758494386234504135979246806427902383916842213950961535211886538686578034155931468982448911749620465571196170423340908281392774636044498167643696378983722247553490988107800927104453927403946090769207667296793020555443061523587701728031169013713736530941373608176700267558111457274785952413588878386019417213358450671195121313593735338750622347666346392566821577098877650199959599293125732987216424142820255570912453240042211668607852326594176207335723400019055614694079814286968328033568165121761102197399480845061606552133588228104247407659178975716429750083653913579742647511669654055502692529218388183583947218608843405118868891407616600995381897187865384565252800848574043309487119719515546668110077010008334242957658150563435173888882480731249716318094051021031535415431731433349383598361229881050265803225473478057441934910261695061893508387728376817373881785576292836043258855945267939853319862814991979103294580551232013771874311800310682440368830841328016280801324232359547390856427439420204516846152881003647962601318828803742112105649515460254847681620597743466490137956521294073730049926960217887504207588434822976578862532181630740472905769176576302273426095943216835503384392004435696950131130898316464100422913214146317970637434858969621981366703412130676383026199510284847313120831656505465189513011492762706813999999197758038474782306800653526000593916283415173757292024652534879973331448201676727705935566846828114197359435415715642943348544893139484571188905865934376821745232759064187225369058234345165417330318264225064465889046950614240580883365515894716453693115046321242801387827598641345468090689885495433950687853930439830748308544359061375571221270215891531353090618641692156108794355350279269265264520811116413241971954035602429638614444977028177849389913338596867619523852439642548366761031356421727342392851064678966194033636989878519069095935572428831221528199745378321076217862284462404979721462232860272109756435644153890
def S13 : List Nat := [0, 2, 2, 34, 8738, 572661794, 2459528493099261986, 45370292654198594860255863661672923170, 15438710572266313874747174359546114244862752603862105842541500138265145114658, 1787680552292958003142563645728674011325343518788754808599236761424570044791211082658679666681225867795299625412731049476304242004982309882890817368096802, 23968877485237683947655749652527517207312191845094197456531578298620560431357206061115509574099144571730735365534867768692051790948602884144839379743275246584513781964179201200917926462007675622355710363915171426992664803658702926643334610505618589653605432968519959633595965903722887289837679850530562768930, 4308868650556771513669799585724374017455279878773008318960902175487095445562940527442965719520980021183893155336717441595650027105252914116228063619281967492612182388333739232938162543715757472555670137723390088381668564980733332062256388962425325914123347341180778382278343265454155452645275917586258741807576320073675742963258353155985142748087819404926870545005459026962417122729259789746491841314972783297285507935581277517857717252562835605759439876679185512375357938127019589595788928161985441359643361689204309478993985883883589048935342202557134520984336856288387781042159149041085325711994487431879343603746, 139249734340524852145571387459215026690875853212157652225633744942251574920207158966400178683234151584590847630542028801612411161674438808092968441195901384571765873189269159406563025460129295041677945548462633702821653049286474215589565806170293742066085451416051432330843314394534135513816584928713244766624273611679799953127148598130866639010501026269743966069473932941739304921265676374291521544623205882698952360108453042937912404123259857633864309034231193003561288058856691974798158276314441903617066070022952447387926298965412429807988908076068612721878973532979424916605102217896011930754871065963973407964297690249710435512571320833364053275144087002159851716938031902131493451119533694483648946442114582717869456161142433519738202125371099949288286598247473886485629934641517371565980144155347625436159970534838840076147850146994325155120330553328127897473871216243165738197795636567517036392110725193583059893000604046114977611838471575935428295470109821588530210636712854437104692878475751311966960607387474797964082825245311263437589901639000649047830827804470666303359662049637220532354962289684068741439998179073304973898206447666647178252891277507409351710396445825524816768133042701013786556372241910366863605497890, 0]
def P13 : List Nat := [0, 3, 13, 243, 56589, 4092788979, 15928667888379027213, 324264150444028969266595594367188009203, 99985868844542138949757111622482967917645687913239818316099454977804951682829, 12776658065064221064883385884004521853848445551555084590810421117470471037578268607632624293021135589153455634141171626654753477640674816903792675134570739, 155229527472803070886908482087190994728448767605742510252666177312368502831015448218166850369604494524524073489415605130789748482569028062162425473942774203009819129776019131697328615182135245809843621193984394220712424907640244956979646698081559880855066845688877521376819137718873263086447723835261668351757, 30795737708391961969902139972178932712958384847362266245098131282225632449140080165910193027858354593334292943362419770786289379796065907168518056847939204274212665122134310040471772415454056696567527962536534930008889897981846776169617297728500211386617316590065784167316056531909753690769464803602520342335611840690525695044754770949034017445397767034782572372353725594390351398956560626536291129350553902788285190004547946901352487347197122464443282915905369672389311985680646893187224637582850838119338409691525248305300074216682946540253232457832512770992785905457766404312416649549987420098593711614607618670835, 346854718832148360914074695394185167098662487843394911000015301823923971208366348440324614213374974079706211384355000701437586488605356859715559919009765240557598731512470569803878090560724880706574372541215927989549173682598316893696439749374079112735227775787159872411372099417257068059837168755233241531547016434414061862072283216216658155116327879577269912486937025349603114761415518205591219071337305071296851129853851615264884171074076690721771787491612107826840296584364232829034424106270474730215650238938877457866919160125626368494650628139231496279733370683805318228280202596103024121772750925792794749231144639834010807143335695854764110703397554228120756287215082738038453947701186654055623685453924993739190621288345219340136814152373176748132217205562815855230599162851105805932661628038381037077998242995512314205961991721714883041415026636674448716117217786448810635990966054402989440938181026533007094572399582395069893984455980464786723673559920837358805163026759371699440212643314365076032733467886831574403717007775495040385345607709288232216488682930411101991796250024498489163529848760199127761039650417736218859108237495679205351270872575739875222115769462541861995538752374482763771815144532985801564972143877, 0]
def QQ (n : Nat) : Nat := if n ≤ 5 then 5 else if n = 7 then 4 else if n = 9 then 3 else 2
def BB (n : Nat) : Nat := if n = 1 then B1 else if n = 3 then B3 else if n = 5 then B5 else if n = 7 then B7 else if n = 9 then B9 else if n = 11 then B11 else if n = 13 then B13 else 0
def SS (n : Nat) : List Nat := if n = 1 then S1 else if n = 3 then S3 else if n = 5 then S5 else if n = 7 then S7 else if n = 9 then S9 else if n = 11 then S11 else if n = 13 then S13 else []
def PP (n : Nat) : List Nat := if n = 1 then P1 else if n = 3 then P3 else if n = 5 then P5 else if n = 7 then P7 else if n = 9 then P9 else if n = 11 then P11 else if n = 13 then P13 else []
theorem allR_of (n : Nat) (f : Nat → Bool) (h : ∀ c, c < n → f c = true) : allR n f = true := by
  induction n with
  | zero => rfl
  | succ n ih =>
    have h1 := h n (Nat.lt_succ_self n)
    have e : allR (n + 1) f = @Bool.rec (fun _ => Bool) false (allR n f) (f n) := rfl
    rw [e, h1]
    exact ih fun c hc => h c (Nat.lt_succ_of_lt hc)
theorem allW_split {q n : Nat} {f : List Nat → Bool} (h : ∀ c, c < q → allW q n (fun w => f (c :: w)) = true) : allW q (n + 1) f = true := allR_of q _ h
theorem run1 : allW 5 1 (okR 5 1 B1) = true := by decide +kernel
theorem cfr1 : allW 5 1 (cfW 5 1 B1 S1 P1) = true := by decide +kernel
theorem run3 : allW 5 3 (okR 5 3 B3) = true := by decide +kernel
theorem cfr3 : allW 5 3 (cfW 5 3 B3 S3 P3) = true := by decide +kernel
theorem run5_0 : allW 5 4 (fun w => okR 5 5 B5 (0 :: w)) = true := by decide +kernel
theorem run5_1 : allW 5 4 (fun w => okR 5 5 B5 (1 :: w)) = true := by decide +kernel
theorem run5_2 : allW 5 4 (fun w => okR 5 5 B5 (2 :: w)) = true := by decide +kernel
theorem run5_3 : allW 5 4 (fun w => okR 5 5 B5 (3 :: w)) = true := by decide +kernel
theorem run5_4 : allW 5 4 (fun w => okR 5 5 B5 (4 :: w)) = true := by decide +kernel
theorem run5 : allW 5 5 (okR 5 5 B5) = true := allW_split (n := 4) fun c hc => match c, hc with
  | 0, _ => run5_0
  | 1, _ => run5_1
  | 2, _ => run5_2
  | 3, _ => run5_3
  | 4, _ => run5_4
  | c + 5, hc => absurd hc (by omega)
theorem cfr5_0 : allW 5 4 (fun w => cfW 5 5 B5 S5 P5 (0 :: w)) = true := by decide +kernel
theorem cfr5_1 : allW 5 4 (fun w => cfW 5 5 B5 S5 P5 (1 :: w)) = true := by decide +kernel
theorem cfr5_2 : allW 5 4 (fun w => cfW 5 5 B5 S5 P5 (2 :: w)) = true := by decide +kernel
theorem cfr5_3 : allW 5 4 (fun w => cfW 5 5 B5 S5 P5 (3 :: w)) = true := by decide +kernel
theorem cfr5_4 : allW 5 4 (fun w => cfW 5 5 B5 S5 P5 (4 :: w)) = true := by decide +kernel
theorem cfr5 : allW 5 5 (cfW 5 5 B5 S5 P5) = true := allW_split (n := 4) fun c hc => match c, hc with
  | 0, _ => cfr5_0
  | 1, _ => cfr5_1
  | 2, _ => cfr5_2
  | 3, _ => cfr5_3
  | 4, _ => cfr5_4
  | c + 5, hc => absurd hc (by omega)
theorem run7_0_0 : allW 4 5 (fun w => okR 4 7 B7 (0 :: 0 :: w)) = true := by decide +kernel
theorem run7_0_1 : allW 4 5 (fun w => okR 4 7 B7 (0 :: 1 :: w)) = true := by decide +kernel
theorem run7_0_2 : allW 4 5 (fun w => okR 4 7 B7 (0 :: 2 :: w)) = true := by decide +kernel
theorem run7_0_3 : allW 4 5 (fun w => okR 4 7 B7 (0 :: 3 :: w)) = true := by decide +kernel
theorem run7_0 : allW 4 6 (fun w => okR 4 7 B7 (0 :: w)) = true := allW_split (n := 5) fun c hc => match c, hc with
  | 0, _ => run7_0_0
  | 1, _ => run7_0_1
  | 2, _ => run7_0_2
  | 3, _ => run7_0_3
  | c + 4, hc => absurd hc (by omega)
theorem run7_1_0 : allW 4 5 (fun w => okR 4 7 B7 (1 :: 0 :: w)) = true := by decide +kernel
theorem run7_1_1 : allW 4 5 (fun w => okR 4 7 B7 (1 :: 1 :: w)) = true := by decide +kernel
theorem run7_1_2 : allW 4 5 (fun w => okR 4 7 B7 (1 :: 2 :: w)) = true := by decide +kernel
theorem run7_1_3 : allW 4 5 (fun w => okR 4 7 B7 (1 :: 3 :: w)) = true := by decide +kernel
theorem run7_1 : allW 4 6 (fun w => okR 4 7 B7 (1 :: w)) = true := allW_split (n := 5) fun c hc => match c, hc with
  | 0, _ => run7_1_0
  | 1, _ => run7_1_1
  | 2, _ => run7_1_2
  | 3, _ => run7_1_3
  | c + 4, hc => absurd hc (by omega)
theorem run7_2_0 : allW 4 5 (fun w => okR 4 7 B7 (2 :: 0 :: w)) = true := by decide +kernel
theorem run7_2_1 : allW 4 5 (fun w => okR 4 7 B7 (2 :: 1 :: w)) = true := by decide +kernel
theorem run7_2_2 : allW 4 5 (fun w => okR 4 7 B7 (2 :: 2 :: w)) = true := by decide +kernel
theorem run7_2_3 : allW 4 5 (fun w => okR 4 7 B7 (2 :: 3 :: w)) = true := by decide +kernel
theorem run7_2 : allW 4 6 (fun w => okR 4 7 B7 (2 :: w)) = true := allW_split (n := 5) fun c hc => match c, hc with
  | 0, _ => run7_2_0
  | 1, _ => run7_2_1
  | 2, _ => run7_2_2
  | 3, _ => run7_2_3
  | c + 4, hc => absurd hc (by omega)
theorem run7_3_0 : allW 4 5 (fun w => okR 4 7 B7 (3 :: 0 :: w)) = true := by decide +kernel
theorem run7_3_1 : allW 4 5 (fun w => okR 4 7 B7 (3 :: 1 :: w)) = true := by decide +kernel
theorem run7_3_2 : allW 4 5 (fun w => okR 4 7 B7 (3 :: 2 :: w)) = true := by decide +kernel
theorem run7_3_3 : allW 4 5 (fun w => okR 4 7 B7 (3 :: 3 :: w)) = true := by decide +kernel
theorem run7_3 : allW 4 6 (fun w => okR 4 7 B7 (3 :: w)) = true := allW_split (n := 5) fun c hc => match c, hc with
  | 0, _ => run7_3_0
  | 1, _ => run7_3_1
  | 2, _ => run7_3_2
  | 3, _ => run7_3_3
  | c + 4, hc => absurd hc (by omega)
theorem run7 : allW 4 7 (okR 4 7 B7) = true := allW_split (n := 6) fun c hc => match c, hc with
  | 0, _ => run7_0
  | 1, _ => run7_1
  | 2, _ => run7_2
  | 3, _ => run7_3
  | c + 4, hc => absurd hc (by omega)
theorem cfr7_0_0 : allW 4 5 (fun w => cfW 4 7 B7 S7 P7 (0 :: 0 :: w)) = true := by decide +kernel
theorem cfr7_0_1 : allW 4 5 (fun w => cfW 4 7 B7 S7 P7 (0 :: 1 :: w)) = true := by decide +kernel
theorem cfr7_0_2 : allW 4 5 (fun w => cfW 4 7 B7 S7 P7 (0 :: 2 :: w)) = true := by decide +kernel
theorem cfr7_0_3 : allW 4 5 (fun w => cfW 4 7 B7 S7 P7 (0 :: 3 :: w)) = true := by decide +kernel
theorem cfr7_0 : allW 4 6 (fun w => cfW 4 7 B7 S7 P7 (0 :: w)) = true := allW_split (n := 5) fun c hc => match c, hc with
  | 0, _ => cfr7_0_0
  | 1, _ => cfr7_0_1
  | 2, _ => cfr7_0_2
  | 3, _ => cfr7_0_3
  | c + 4, hc => absurd hc (by omega)
theorem cfr7_1_0 : allW 4 5 (fun w => cfW 4 7 B7 S7 P7 (1 :: 0 :: w)) = true := by decide +kernel
theorem cfr7_1_1 : allW 4 5 (fun w => cfW 4 7 B7 S7 P7 (1 :: 1 :: w)) = true := by decide +kernel
theorem cfr7_1_2 : allW 4 5 (fun w => cfW 4 7 B7 S7 P7 (1 :: 2 :: w)) = true := by decide +kernel
theorem cfr7_1_3 : allW 4 5 (fun w => cfW 4 7 B7 S7 P7 (1 :: 3 :: w)) = true := by decide +kernel
theorem cfr7_1 : allW 4 6 (fun w => cfW 4 7 B7 S7 P7 (1 :: w)) = true := allW_split (n := 5) fun c hc => match c, hc with
  | 0, _ => cfr7_1_0
  | 1, _ => cfr7_1_1
  | 2, _ => cfr7_1_2
  | 3, _ => cfr7_1_3
  | c + 4, hc => absurd hc (by omega)
theorem cfr7_2_0 : allW 4 5 (fun w => cfW 4 7 B7 S7 P7 (2 :: 0 :: w)) = true := by decide +kernel
theorem cfr7_2_1 : allW 4 5 (fun w => cfW 4 7 B7 S7 P7 (2 :: 1 :: w)) = true := by decide +kernel
theorem cfr7_2_2 : allW 4 5 (fun w => cfW 4 7 B7 S7 P7 (2 :: 2 :: w)) = true := by decide +kernel
theorem cfr7_2_3 : allW 4 5 (fun w => cfW 4 7 B7 S7 P7 (2 :: 3 :: w)) = true := by decide +kernel
theorem cfr7_2 : allW 4 6 (fun w => cfW 4 7 B7 S7 P7 (2 :: w)) = true := allW_split (n := 5) fun c hc => match c, hc with
  | 0, _ => cfr7_2_0
  | 1, _ => cfr7_2_1
  | 2, _ => cfr7_2_2
  | 3, _ => cfr7_2_3
  | c + 4, hc => absurd hc (by omega)
theorem cfr7_3_0 : allW 4 5 (fun w => cfW 4 7 B7 S7 P7 (3 :: 0 :: w)) = true := by decide +kernel
theorem cfr7_3_1 : allW 4 5 (fun w => cfW 4 7 B7 S7 P7 (3 :: 1 :: w)) = true := by decide +kernel
theorem cfr7_3_2 : allW 4 5 (fun w => cfW 4 7 B7 S7 P7 (3 :: 2 :: w)) = true := by decide +kernel
theorem cfr7_3_3 : allW 4 5 (fun w => cfW 4 7 B7 S7 P7 (3 :: 3 :: w)) = true := by decide +kernel
theorem cfr7_3 : allW 4 6 (fun w => cfW 4 7 B7 S7 P7 (3 :: w)) = true := allW_split (n := 5) fun c hc => match c, hc with
  | 0, _ => cfr7_3_0
  | 1, _ => cfr7_3_1
  | 2, _ => cfr7_3_2
  | 3, _ => cfr7_3_3
  | c + 4, hc => absurd hc (by omega)
theorem cfr7 : allW 4 7 (cfW 4 7 B7 S7 P7) = true := allW_split (n := 6) fun c hc => match c, hc with
  | 0, _ => cfr7_0
  | 1, _ => cfr7_1
  | 2, _ => cfr7_2
  | 3, _ => cfr7_3
  | c + 4, hc => absurd hc (by omega)
theorem run9_0_0_0 : allW 3 6 (fun w => okR 3 9 B9 (0 :: 0 :: 0 :: w)) = true := by decide +kernel
theorem run9_0_0_1 : allW 3 6 (fun w => okR 3 9 B9 (0 :: 0 :: 1 :: w)) = true := by decide +kernel
theorem run9_0_0_2 : allW 3 6 (fun w => okR 3 9 B9 (0 :: 0 :: 2 :: w)) = true := by decide +kernel
theorem run9_0_0 : allW 3 7 (fun w => okR 3 9 B9 (0 :: 0 :: w)) = true := allW_split (n := 6) fun c hc => match c, hc with
  | 0, _ => run9_0_0_0
  | 1, _ => run9_0_0_1
  | 2, _ => run9_0_0_2
  | c + 3, hc => absurd hc (by omega)
theorem run9_0_1_0 : allW 3 6 (fun w => okR 3 9 B9 (0 :: 1 :: 0 :: w)) = true := by decide +kernel
theorem run9_0_1_1 : allW 3 6 (fun w => okR 3 9 B9 (0 :: 1 :: 1 :: w)) = true := by decide +kernel
theorem run9_0_1_2 : allW 3 6 (fun w => okR 3 9 B9 (0 :: 1 :: 2 :: w)) = true := by decide +kernel
theorem run9_0_1 : allW 3 7 (fun w => okR 3 9 B9 (0 :: 1 :: w)) = true := allW_split (n := 6) fun c hc => match c, hc with
  | 0, _ => run9_0_1_0
  | 1, _ => run9_0_1_1
  | 2, _ => run9_0_1_2
  | c + 3, hc => absurd hc (by omega)
theorem run9_0_2_0 : allW 3 6 (fun w => okR 3 9 B9 (0 :: 2 :: 0 :: w)) = true := by decide +kernel
theorem run9_0_2_1 : allW 3 6 (fun w => okR 3 9 B9 (0 :: 2 :: 1 :: w)) = true := by decide +kernel
theorem run9_0_2_2 : allW 3 6 (fun w => okR 3 9 B9 (0 :: 2 :: 2 :: w)) = true := by decide +kernel
theorem run9_0_2 : allW 3 7 (fun w => okR 3 9 B9 (0 :: 2 :: w)) = true := allW_split (n := 6) fun c hc => match c, hc with
  | 0, _ => run9_0_2_0
  | 1, _ => run9_0_2_1
  | 2, _ => run9_0_2_2
  | c + 3, hc => absurd hc (by omega)
theorem run9_0 : allW 3 8 (fun w => okR 3 9 B9 (0 :: w)) = true := allW_split (n := 7) fun c hc => match c, hc with
  | 0, _ => run9_0_0
  | 1, _ => run9_0_1
  | 2, _ => run9_0_2
  | c + 3, hc => absurd hc (by omega)
theorem run9_1_0_0 : allW 3 6 (fun w => okR 3 9 B9 (1 :: 0 :: 0 :: w)) = true := by decide +kernel
theorem run9_1_0_1 : allW 3 6 (fun w => okR 3 9 B9 (1 :: 0 :: 1 :: w)) = true := by decide +kernel
theorem run9_1_0_2 : allW 3 6 (fun w => okR 3 9 B9 (1 :: 0 :: 2 :: w)) = true := by decide +kernel
theorem run9_1_0 : allW 3 7 (fun w => okR 3 9 B9 (1 :: 0 :: w)) = true := allW_split (n := 6) fun c hc => match c, hc with
  | 0, _ => run9_1_0_0
  | 1, _ => run9_1_0_1
  | 2, _ => run9_1_0_2
  | c + 3, hc => absurd hc (by omega)
theorem run9_1_1_0 : allW 3 6 (fun w => okR 3 9 B9 (1 :: 1 :: 0 :: w)) = true := by decide +kernel
theorem run9_1_1_1 : allW 3 6 (fun w => okR 3 9 B9 (1 :: 1 :: 1 :: w)) = true := by decide +kernel
theorem run9_1_1_2 : allW 3 6 (fun w => okR 3 9 B9 (1 :: 1 :: 2 :: w)) = true := by decide +kernel
theorem run9_1_1 : allW 3 7 (fun w => okR 3 9 B9 (1 :: 1 :: w)) = true := allW_split (n := 6) fun c hc => match c, hc with
  | 0, _ => run9_1_1_0
  | 1, _ => run9_1_1_1
  | 2, _ => run9_1_1_2
  | c + 3, hc => absurd hc (by omega)
theorem run9_1_2_0 : allW 3 6 (fun w => okR 3 9 B9 (1 :: 2 :: 0 :: w)) = true := by decide +kernel
theorem run9_1_2_1 : allW 3 6 (fun w => okR 3 9 B9 (1 :: 2 :: 1 :: w)) = true := by decide +kernel
theorem run9_1_2_2 : allW 3 6 (fun w => okR 3 9 B9 (1 :: 2 :: 2 :: w)) = true := by decide +kernel
theorem run9_1_2 : allW 3 7 (fun w => okR 3 9 B9 (1 :: 2 :: w)) = true := allW_split (n := 6) fun c hc => match c, hc with
  | 0, _ => run9_1_2_0
  | 1, _ => run9_1_2_1
  | 2, _ => run9_1_2_2
  | c + 3, hc => absurd hc (by omega)
theorem run9_1 : allW 3 8 (fun w => okR 3 9 B9 (1 :: w)) = true := allW_split (n := 7) fun c hc => match c, hc with
  | 0, _ => run9_1_0
  | 1, _ => run9_1_1
  | 2, _ => run9_1_2
  | c + 3, hc => absurd hc (by omega)
theorem run9_2_0_0 : allW 3 6 (fun w => okR 3 9 B9 (2 :: 0 :: 0 :: w)) = true := by decide +kernel
theorem run9_2_0_1 : allW 3 6 (fun w => okR 3 9 B9 (2 :: 0 :: 1 :: w)) = true := by decide +kernel
theorem run9_2_0_2 : allW 3 6 (fun w => okR 3 9 B9 (2 :: 0 :: 2 :: w)) = true := by decide +kernel
theorem run9_2_0 : allW 3 7 (fun w => okR 3 9 B9 (2 :: 0 :: w)) = true := allW_split (n := 6) fun c hc => match c, hc with
  | 0, _ => run9_2_0_0
  | 1, _ => run9_2_0_1
  | 2, _ => run9_2_0_2
  | c + 3, hc => absurd hc (by omega)
theorem run9_2_1_0 : allW 3 6 (fun w => okR 3 9 B9 (2 :: 1 :: 0 :: w)) = true := by decide +kernel
theorem run9_2_1_1 : allW 3 6 (fun w => okR 3 9 B9 (2 :: 1 :: 1 :: w)) = true := by decide +kernel
theorem run9_2_1_2 : allW 3 6 (fun w => okR 3 9 B9 (2 :: 1 :: 2 :: w)) = true := by decide +kernel
theorem run9_2_1 : allW 3 7 (fun w => okR 3 9 B9 (2 :: 1 :: w)) = true := allW_split (n := 6) fun c hc => match c, hc with
  | 0, _ => run9_2_1_0
  | 1, _ => run9_2_1_1
  | 2, _ => run9_2_1_2
  | c + 3, hc => absurd hc (by omega)
theorem run9_2_2_0 : allW 3 6 (fun w => okR 3 9 B9 (2 :: 2 :: 0 :: w)) = true := by decide +kernel
theorem run9_2_2_1 : allW 3 6 (fun w => okR 3 9 B9 (2 :: 2 :: 1 :: w)) = true := by decide +kernel
theorem run9_2_2_2 : allW 3 6 (fun w => okR 3 9 B9 (2 :: 2 :: 2 :: w)) = true := by decide +kernel
theorem run9_2_2 : allW 3 7 (fun w => okR 3 9 B9 (2 :: 2 :: w)) = true := allW_split (n := 6) fun c hc => match c, hc with
  | 0, _ => run9_2_2_0
  | 1, _ => run9_2_2_1
  | 2, _ => run9_2_2_2
  | c + 3, hc => absurd hc (by omega)
theorem run9_2 : allW 3 8 (fun w => okR 3 9 B9 (2 :: w)) = true := allW_split (n := 7) fun c hc => match c, hc with
  | 0, _ => run9_2_0
  | 1, _ => run9_2_1
  | 2, _ => run9_2_2
  | c + 3, hc => absurd hc (by omega)
theorem run9 : allW 3 9 (okR 3 9 B9) = true := allW_split (n := 8) fun c hc => match c, hc with
  | 0, _ => run9_0
  | 1, _ => run9_1
  | 2, _ => run9_2
  | c + 3, hc => absurd hc (by omega)
theorem cfr9_0_0_0 : allW 3 6 (fun w => cfW 3 9 B9 S9 P9 (0 :: 0 :: 0 :: w)) = true := by decide +kernel
theorem cfr9_0_0_1 : allW 3 6 (fun w => cfW 3 9 B9 S9 P9 (0 :: 0 :: 1 :: w)) = true := by decide +kernel
theorem cfr9_0_0_2 : allW 3 6 (fun w => cfW 3 9 B9 S9 P9 (0 :: 0 :: 2 :: w)) = true := by decide +kernel
theorem cfr9_0_0 : allW 3 7 (fun w => cfW 3 9 B9 S9 P9 (0 :: 0 :: w)) = true := allW_split (n := 6) fun c hc => match c, hc with
  | 0, _ => cfr9_0_0_0
  | 1, _ => cfr9_0_0_1
  | 2, _ => cfr9_0_0_2
  | c + 3, hc => absurd hc (by omega)
theorem cfr9_0_1_0 : allW 3 6 (fun w => cfW 3 9 B9 S9 P9 (0 :: 1 :: 0 :: w)) = true := by decide +kernel
theorem cfr9_0_1_1 : allW 3 6 (fun w => cfW 3 9 B9 S9 P9 (0 :: 1 :: 1 :: w)) = true := by decide +kernel
theorem cfr9_0_1_2 : allW 3 6 (fun w => cfW 3 9 B9 S9 P9 (0 :: 1 :: 2 :: w)) = true := by decide +kernel
theorem cfr9_0_1 : allW 3 7 (fun w => cfW 3 9 B9 S9 P9 (0 :: 1 :: w)) = true := allW_split (n := 6) fun c hc => match c, hc with
  | 0, _ => cfr9_0_1_0
  | 1, _ => cfr9_0_1_1
  | 2, _ => cfr9_0_1_2
  | c + 3, hc => absurd hc (by omega)
theorem cfr9_0_2_0 : allW 3 6 (fun w => cfW 3 9 B9 S9 P9 (0 :: 2 :: 0 :: w)) = true := by decide +kernel
theorem cfr9_0_2_1 : allW 3 6 (fun w => cfW 3 9 B9 S9 P9 (0 :: 2 :: 1 :: w)) = true := by decide +kernel
theorem cfr9_0_2_2 : allW 3 6 (fun w => cfW 3 9 B9 S9 P9 (0 :: 2 :: 2 :: w)) = true := by decide +kernel
theorem cfr9_0_2 : allW 3 7 (fun w => cfW 3 9 B9 S9 P9 (0 :: 2 :: w)) = true := allW_split (n := 6) fun c hc => match c, hc with
  | 0, _ => cfr9_0_2_0
  | 1, _ => cfr9_0_2_1
  | 2, _ => cfr9_0_2_2
  | c + 3, hc => absurd hc (by omega)
theorem cfr9_0 : allW 3 8 (fun w => cfW 3 9 B9 S9 P9 (0 :: w)) = true := allW_split (n := 7) fun c hc => match c, hc with
  | 0, _ => cfr9_0_0
  | 1, _ => cfr9_0_1
  | 2, _ => cfr9_0_2
  | c + 3, hc => absurd hc (by omega)
theorem cfr9_1_0_0 : allW 3 6 (fun w => cfW 3 9 B9 S9 P9 (1 :: 0 :: 0 :: w)) = true := by decide +kernel
theorem cfr9_1_0_1 : allW 3 6 (fun w => cfW 3 9 B9 S9 P9 (1 :: 0 :: 1 :: w)) = true := by decide +kernel
theorem cfr9_1_0_2 : allW 3 6 (fun w => cfW 3 9 B9 S9 P9 (1 :: 0 :: 2 :: w)) = true := by decide +kernel
theorem cfr9_1_0 : allW 3 7 (fun w => cfW 3 9 B9 S9 P9 (1 :: 0 :: w)) = true := allW_split (n := 6) fun c hc => match c, hc with
  | 0, _ => cfr9_1_0_0
  | 1, _ => cfr9_1_0_1
  | 2, _ => cfr9_1_0_2
  | c + 3, hc => absurd hc (by omega)
theorem cfr9_1_1_0 : allW 3 6 (fun w => cfW 3 9 B9 S9 P9 (1 :: 1 :: 0 :: w)) = true := by decide +kernel
theorem cfr9_1_1_1 : allW 3 6 (fun w => cfW 3 9 B9 S9 P9 (1 :: 1 :: 1 :: w)) = true := by decide +kernel
theorem cfr9_1_1_2 : allW 3 6 (fun w => cfW 3 9 B9 S9 P9 (1 :: 1 :: 2 :: w)) = true := by decide +kernel
theorem cfr9_1_1 : allW 3 7 (fun w => cfW 3 9 B9 S9 P9 (1 :: 1 :: w)) = true := allW_split (n := 6) fun c hc => match c, hc with
  | 0, _ => cfr9_1_1_0
  | 1, _ => cfr9_1_1_1
  | 2, _ => cfr9_1_1_2
  | c + 3, hc => absurd hc (by omega)
theorem cfr9_1_2_0 : allW 3 6 (fun w => cfW 3 9 B9 S9 P9 (1 :: 2 :: 0 :: w)) = true := by decide +kernel
theorem cfr9_1_2_1 : allW 3 6 (fun w => cfW 3 9 B9 S9 P9 (1 :: 2 :: 1 :: w)) = true := by decide +kernel
theorem cfr9_1_2_2 : allW 3 6 (fun w => cfW 3 9 B9 S9 P9 (1 :: 2 :: 2 :: w)) = true := by decide +kernel
theorem cfr9_1_2 : allW 3 7 (fun w => cfW 3 9 B9 S9 P9 (1 :: 2 :: w)) = true := allW_split (n := 6) fun c hc => match c, hc with
  | 0, _ => cfr9_1_2_0
  | 1, _ => cfr9_1_2_1
  | 2, _ => cfr9_1_2_2
  | c + 3, hc => absurd hc (by omega)
theorem cfr9_1 : allW 3 8 (fun w => cfW 3 9 B9 S9 P9 (1 :: w)) = true := allW_split (n := 7) fun c hc => match c, hc with
  | 0, _ => cfr9_1_0
  | 1, _ => cfr9_1_1
  | 2, _ => cfr9_1_2
  | c + 3, hc => absurd hc (by omega)
theorem cfr9_2_0_0 : allW 3 6 (fun w => cfW 3 9 B9 S9 P9 (2 :: 0 :: 0 :: w)) = true := by decide +kernel
theorem cfr9_2_0_1 : allW 3 6 (fun w => cfW 3 9 B9 S9 P9 (2 :: 0 :: 1 :: w)) = true := by decide +kernel
theorem cfr9_2_0_2 : allW 3 6 (fun w => cfW 3 9 B9 S9 P9 (2 :: 0 :: 2 :: w)) = true := by decide +kernel
theorem cfr9_2_0 : allW 3 7 (fun w => cfW 3 9 B9 S9 P9 (2 :: 0 :: w)) = true := allW_split (n := 6) fun c hc => match c, hc with
  | 0, _ => cfr9_2_0_0
  | 1, _ => cfr9_2_0_1
  | 2, _ => cfr9_2_0_2
  | c + 3, hc => absurd hc (by omega)
theorem cfr9_2_1_0 : allW 3 6 (fun w => cfW 3 9 B9 S9 P9 (2 :: 1 :: 0 :: w)) = true := by decide +kernel
theorem cfr9_2_1_1 : allW 3 6 (fun w => cfW 3 9 B9 S9 P9 (2 :: 1 :: 1 :: w)) = true := by decide +kernel
theorem cfr9_2_1_2 : allW 3 6 (fun w => cfW 3 9 B9 S9 P9 (2 :: 1 :: 2 :: w)) = true := by decide +kernel
theorem cfr9_2_1 : allW 3 7 (fun w => cfW 3 9 B9 S9 P9 (2 :: 1 :: w)) = true := allW_split (n := 6) fun c hc => match c, hc with
  | 0, _ => cfr9_2_1_0
  | 1, _ => cfr9_2_1_1
  | 2, _ => cfr9_2_1_2
  | c + 3, hc => absurd hc (by omega)
theorem cfr9_2_2_0 : allW 3 6 (fun w => cfW 3 9 B9 S9 P9 (2 :: 2 :: 0 :: w)) = true := by decide +kernel
theorem cfr9_2_2_1 : allW 3 6 (fun w => cfW 3 9 B9 S9 P9 (2 :: 2 :: 1 :: w)) = true := by decide +kernel
theorem cfr9_2_2_2 : allW 3 6 (fun w => cfW 3 9 B9 S9 P9 (2 :: 2 :: 2 :: w)) = true := by decide +kernel
theorem cfr9_2_2 : allW 3 7 (fun w => cfW 3 9 B9 S9 P9 (2 :: 2 :: w)) = true := allW_split (n := 6) fun c hc => match c, hc with
  | 0, _ => cfr9_2_2_0
  | 1, _ => cfr9_2_2_1
  | 2, _ => cfr9_2_2_2
  | c + 3, hc => absurd hc (by omega)
theorem cfr9_2 : allW 3 8 (fun w => cfW 3 9 B9 S9 P9 (2 :: w)) = true := allW_split (n := 7) fun c hc => match c, hc with
  | 0, _ => cfr9_2_0
  | 1, _ => cfr9_2_1
  | 2, _ => cfr9_2_2
  | c + 3, hc => absurd hc (by omega)
theorem cfr9 : allW 3 9 (cfW 3 9 B9 S9 P9) = true := allW_split (n := 8) fun c hc => match c, hc with
  | 0, _ => cfr9_0
  | 1, _ => cfr9_1
  | 2, _ => cfr9_2
  | c + 3, hc => absurd hc (by omega)
theorem run11_0 : allW 2 10 (fun w => okR 2 11 B11 (0 :: w)) = true := by decide +kernel
theorem run11_1 : allW 2 10 (fun w => okR 2 11 B11 (1 :: w)) = true := by decide +kernel
theorem run11 : allW 2 11 (okR 2 11 B11) = true := allW_split (n := 10) fun c hc => match c, hc with
  | 0, _ => run11_0
  | 1, _ => run11_1
  | c + 2, hc => absurd hc (by omega)
theorem cfr11_0 : allW 2 10 (fun w => cfW 2 11 B11 S11 P11 (0 :: w)) = true := by decide +kernel
theorem cfr11_1 : allW 2 10 (fun w => cfW 2 11 B11 S11 P11 (1 :: w)) = true := by decide +kernel
theorem cfr11 : allW 2 11 (cfW 2 11 B11 S11 P11) = true := allW_split (n := 10) fun c hc => match c, hc with
  | 0, _ => cfr11_0
  | 1, _ => cfr11_1
  | c + 2, hc => absurd hc (by omega)
theorem run13_0_0_0 : allW 2 10 (fun w => okR 2 13 B13 (0 :: 0 :: 0 :: w)) = true := by decide +kernel
theorem run13_0_0_1 : allW 2 10 (fun w => okR 2 13 B13 (0 :: 0 :: 1 :: w)) = true := by decide +kernel
theorem run13_0_0 : allW 2 11 (fun w => okR 2 13 B13 (0 :: 0 :: w)) = true := allW_split (n := 10) fun c hc => match c, hc with
  | 0, _ => run13_0_0_0
  | 1, _ => run13_0_0_1
  | c + 2, hc => absurd hc (by omega)
theorem run13_0_1_0 : allW 2 10 (fun w => okR 2 13 B13 (0 :: 1 :: 0 :: w)) = true := by decide +kernel
theorem run13_0_1_1 : allW 2 10 (fun w => okR 2 13 B13 (0 :: 1 :: 1 :: w)) = true := by decide +kernel
theorem run13_0_1 : allW 2 11 (fun w => okR 2 13 B13 (0 :: 1 :: w)) = true := allW_split (n := 10) fun c hc => match c, hc with
  | 0, _ => run13_0_1_0
  | 1, _ => run13_0_1_1
  | c + 2, hc => absurd hc (by omega)
theorem run13_0 : allW 2 12 (fun w => okR 2 13 B13 (0 :: w)) = true := allW_split (n := 11) fun c hc => match c, hc with
  | 0, _ => run13_0_0
  | 1, _ => run13_0_1
  | c + 2, hc => absurd hc (by omega)
theorem run13_1_0_0 : allW 2 10 (fun w => okR 2 13 B13 (1 :: 0 :: 0 :: w)) = true := by decide +kernel
theorem run13_1_0_1 : allW 2 10 (fun w => okR 2 13 B13 (1 :: 0 :: 1 :: w)) = true := by decide +kernel
theorem run13_1_0 : allW 2 11 (fun w => okR 2 13 B13 (1 :: 0 :: w)) = true := allW_split (n := 10) fun c hc => match c, hc with
  | 0, _ => run13_1_0_0
  | 1, _ => run13_1_0_1
  | c + 2, hc => absurd hc (by omega)
theorem run13_1_1_0 : allW 2 10 (fun w => okR 2 13 B13 (1 :: 1 :: 0 :: w)) = true := by decide +kernel
theorem run13_1_1_1 : allW 2 10 (fun w => okR 2 13 B13 (1 :: 1 :: 1 :: w)) = true := by decide +kernel
theorem run13_1_1 : allW 2 11 (fun w => okR 2 13 B13 (1 :: 1 :: w)) = true := allW_split (n := 10) fun c hc => match c, hc with
  | 0, _ => run13_1_1_0
  | 1, _ => run13_1_1_1
  | c + 2, hc => absurd hc (by omega)
theorem run13_1 : allW 2 12 (fun w => okR 2 13 B13 (1 :: w)) = true := allW_split (n := 11) fun c hc => match c, hc with
  | 0, _ => run13_1_0
  | 1, _ => run13_1_1
  | c + 2, hc => absurd hc (by omega)
theorem run13 : allW 2 13 (okR 2 13 B13) = true := allW_split (n := 12) fun c hc => match c, hc with
  | 0, _ => run13_0
  | 1, _ => run13_1
  | c + 2, hc => absurd hc (by omega)
theorem cfr13_0_0_0 : allW 2 10 (fun w => cfW 2 13 B13 S13 P13 (0 :: 0 :: 0 :: w)) = true := by decide +kernel
theorem cfr13_0_0_1 : allW 2 10 (fun w => cfW 2 13 B13 S13 P13 (0 :: 0 :: 1 :: w)) = true := by decide +kernel
theorem cfr13_0_0 : allW 2 11 (fun w => cfW 2 13 B13 S13 P13 (0 :: 0 :: w)) = true := allW_split (n := 10) fun c hc => match c, hc with
  | 0, _ => cfr13_0_0_0
  | 1, _ => cfr13_0_0_1
  | c + 2, hc => absurd hc (by omega)
theorem cfr13_0_1_0 : allW 2 10 (fun w => cfW 2 13 B13 S13 P13 (0 :: 1 :: 0 :: w)) = true := by decide +kernel
theorem cfr13_0_1_1 : allW 2 10 (fun w => cfW 2 13 B13 S13 P13 (0 :: 1 :: 1 :: w)) = true := by decide +kernel
theorem cfr13_0_1 : allW 2 11 (fun w => cfW 2 13 B13 S13 P13 (0 :: 1 :: w)) = true := allW_split (n := 10) fun c hc => match c, hc with
  | 0, _ => cfr13_0_1_0
  | 1, _ => cfr13_0_1_1
  | c + 2, hc => absurd hc (by omega)
theorem cfr13_0 : allW 2 12 (fun w => cfW 2 13 B13 S13 P13 (0 :: w)) = true := allW_split (n := 11) fun c hc => match c, hc with
  | 0, _ => cfr13_0_0
  | 1, _ => cfr13_0_1
  | c + 2, hc => absurd hc (by omega)
theorem cfr13_1_0_0 : allW 2 10 (fun w => cfW 2 13 B13 S13 P13 (1 :: 0 :: 0 :: w)) = true := by decide +kernel
theorem cfr13_1_0_1 : allW 2 10 (fun w => cfW 2 13 B13 S13 P13 (1 :: 0 :: 1 :: w)) = true := by decide +kernel
theorem cfr13_1_0 : allW 2 11 (fun w => cfW 2 13 B13 S13 P13 (1 :: 0 :: w)) = true := allW_split (n := 10) fun c hc => match c, hc with
  | 0, _ => cfr13_1_0_0
  | 1, _ => cfr13_1_0_1
  | c + 2, hc => absurd hc (by omega)
theorem cfr13_1_1_0 : allW 2 10 (fun w => cfW 2 13 B13 S13 P13 (1 :: 1 :: 0 :: w)) = true := by decide +kernel
theorem cfr13_1_1_1 : allW 2 10 (fun w => cfW 2 13 B13 S13 P13 (1 :: 1 :: 1 :: w)) = true := by decide +kernel
theorem cfr13_1_1 : allW 2 11 (fun w => cfW 2 13 B13 S13 P13 (1 :: 1 :: w)) = true := allW_split (n := 10) fun c hc => match c, hc with
  | 0, _ => cfr13_1_1_0
  | 1, _ => cfr13_1_1_1
  | c + 2, hc => absurd hc (by omega)
theorem cfr13_1 : allW 2 12 (fun w => cfW 2 13 B13 S13 P13 (1 :: w)) = true := allW_split (n := 11) fun c hc => match c, hc with
  | 0, _ => cfr13_1_0
  | 1, _ => cfr13_1_1
  | c + 2, hc => absurd hc (by omega)
theorem cfr13 : allW 2 13 (cfW 2 13 B13 S13 P13) = true := allW_split (n := 12) fun c hc => match c, hc with
  | 0, _ => cfr13_0
  | 1, _ => cfr13_1
  | c + 2, hc => absurd hc (by omega)
/-! ### what the recursors tell -/
theorem app_eq {α : Type} : ∀ l m : List α, appR l m = l ++ m
  | [], _ => rfl
  | a :: l, m => congrArg (a :: ·) (app_eq l m)
theorem map_eq {α β : Type} (f : α → β) : ∀ l : List α, mapR f l = l.map f
  | [] => rfl
  | a :: l => congrArg (f a :: ·) (map_eq f l)
theorem drop_eq {α : Type} : ∀ (l : List α) (k : Nat), dropR l k = l.drop k
  | [], k => by
    show ([] : List α) = _
    simp
  | a :: l, 0 => rfl
  | a :: l, k + 1 => drop_eq l k
theorem take_eq {α : Type} : ∀ (l : List α) (k : Nat), takeR l k = l.take k
  | [], k => by
    show ([] : List α) = _
    simp
  | a :: l, 0 => rfl
  | a :: l, k + 1 => congrArg (a :: ·) (take_eq l k)
theorem rot_eq {α : Type} (l : List α) (k : Nat) : rotR l k = l.drop k ++ l.take k := by
  unfold rotR
  rw [app_eq, drop_eq, take_eq]
theorem len_eq {α : Type} : ∀ l : List α, lenR l = l.length
  | [] => rfl
  | _ :: l => congrArg (· + 1) (len_eq l)
theorem flat_eq {α : Type} : ∀ l : List (List α), flatR l = l.flatten
  | [] => rfl
  | a :: l => by
    show appR a (flatR l) = _
    rw [app_eq, flat_eq l]
    rfl
theorem odd_eq {α : Type} : ∀ l : List α, oddB l = decide (l.length % 2 = 1)
  | [] => rfl
  | a :: l => by
    show @Bool.rec (fun _ => Bool) true false (oddB l) = _
    rw [odd_eq l, List.length_cons]
    by_cases h : l.length % 2 = 1
    · rw [decide_eq_true h, decide_eq_false (by omega)]
    · rw [decide_eq_false h, decide_eq_true (by omega)]
theorem scan_cons {α : Type} (lt : α → α → Bool) (x : α) (l : List α) (a b : α) (i : Nat) : scanD lt (x :: l) a b i = if (!lt a b && lt b x) = true then i else scanD lt l b x (i + 1) := by
  show @Bool.rec (fun _ => Nat) (scanD lt l b x (i + 1)) (@Bool.rec (fun _ => Nat) i (scanD lt l b x (i + 1)) (lt a b)) (lt b x) = _
  cases lt a b <;> cases lt b x <;> rfl
theorem last2_app {α β : Type} (z : β) (k : α → α → β) (l : List α) (a b : α) : last2 z k (l ++ [a, b]) = k a b := by
  have : ∀ (l : List α) (u v : Option α), @List.rec α (fun _ => Option α → Option α → β) (fun a b => @Option.rec α (fun _ => β) z (fun a => @Option.rec α (fun _ => β) z (fun b => k a b) b) a) (fun x _ ih _ b => ih b (some x)) (l ++ [a, b]) u v = k a b := fun l => by
    induction l with
    | nil => exact fun _ _ => rfl
    | cons x l ih => exact fun _ v => ih v (some x)
  exact this l none none
theorem cut_none {α : Type} (lt : α → α → Bool) (x : It α) (l cur : List (It α)) : cutD lt (x :: l) none cur = cutD lt l (some x.1) (cur ++ [x]) := by
  show cutD lt l (some x.1) (appR cur [x]) = _
  rw [app_eq]
theorem cut_some {α : Type} (lt : α → α → Bool) (x : It α) (l cur : List (It α)) (p : α) : cutD lt (x :: l) (some p) cur = if lt p x.1 = true then (cur ++ [x]) :: cutD lt l none [] else cutD lt l (some x.1) (cur ++ [x]) := by
  show @Bool.rec (fun _ => List (List (It α))) (cutD lt l (some x.1) (appR cur [x])) (appR cur [x] :: cutD lt l none []) (lt p x.1) = _
  rw [app_eq]
  cases lt p x.1 <;> rfl
theorem grp_cons {α : Type} (d : List α) (ds : List (List α)) (cur : List α) : grpR (d :: ds) cur = if oddB d = true then cur :: grpR ds d else grpR ds (cur ++ d) := by
  show @Bool.rec (fun _ => List (List α)) (grpR ds (appR cur d)) (cur :: grpR ds d) (oddB d) = _
  rw [app_eq]
  cases oddB d <;> rfl
theorem split_cons {α β : Type} (z : β) (k : List α → List (List α) → β) (d : List α) (t pre : List (List α)) : splitE z k (d :: t) pre = if oddB d = true then k d (t ++ pre) else splitE z k t (pre ++ [d]) := by
  show @Bool.rec (fun _ => β) (splitE z k t (appR pre [d])) (k d (appR t pre)) (oddB d) = _
  rw [app_eq, app_eq]
  cases oddB d <;> rfl
theorem eqL_iff : ∀ {l m : List Nat}, eqL l m = true ↔ l = m
  | [], [] => ⟨fun _ => rfl, fun _ => rfl⟩
  | [], _ :: _ => ⟨(fun h => nomatch h), (fun h => nomatch h)⟩
  | _ :: _, [] => ⟨(fun h => nomatch h), (fun h => nomatch h)⟩
  | a :: l, b :: m => by
    have ih := eqL_iff (l := l) (m := m)
    have e : eqL (a :: l) (b :: m) = @Bool.rec (fun _ => Bool) false (eqL l m) (Nat.beq a b) := rfl
    rw [e]
    cases h : Nat.beq a b with
    | true =>
      have := Nat.eq_of_beq_eq_true h
      subst this
      show eqL l m = true ↔ _
      rw [ih, List.cons.injEq]
      exact ⟨fun h => ⟨rfl, h⟩, fun h => h.2⟩
    | false =>
      have := Nat.ne_of_beq_eq_false h
      exact ⟨(fun h => nomatch h), fun h => absurd (List.cons.inj h).1 this⟩
theorem any_iff (f : Nat → Bool) : ∀ n, anyR n f = true ↔ ∃ k, k < n ∧ f k = true
  | 0 => ⟨(fun h => nomatch h), fun ⟨k, h, _⟩ => absurd h (Nat.not_lt_zero k)⟩
  | n + 1 => by
    have ih := any_iff f n
    have e : anyR (n + 1) f = @Bool.rec (fun _ => Bool) (anyR n f) true (f n) := rfl
    rw [e]
    cases h : f n with
    | true => exact ⟨fun _ => ⟨n, Nat.lt_succ_self n, h⟩, fun _ => rfl⟩
    | false =>
      show anyR n f = true ↔ _
      rw [ih]
      constructor
      · rintro ⟨k, hk, q⟩
        exact ⟨k, Nat.lt_succ_of_lt hk, q⟩
      · rintro ⟨k, hk, q⟩
        refine ⟨k, Nat.lt_of_le_of_ne (Nat.le_of_lt_succ hk) fun z => ?_, q⟩
        subst z
        rw [h] at q
        cases q
theorem all_of (f : Nat → Bool) : ∀ n, allR n f = true → ∀ k, k < n → f k = true
  | 0, _, k, h => absurd h (Nat.not_lt_zero k)
  | n + 1, h, k, hk => by
    have e : allR (n + 1) f = @Bool.rec (fun _ => Bool) false (allR n f) (f n) := rfl
    rw [e] at h
    cases q : f n with
    | true =>
      rw [q] at h
      rcases Nat.lt_or_ge k n with z | z
      · exact all_of f n h k z
      · have : k = n := by omega
        subst this
        exact q
    | false =>
      rw [q] at h
      cases h
theorem and_iff {a b : Bool} : andR a b = true ↔ a = true ∧ b = true := by
  cases a <;> cases b <;> decide
theorem allW_of (q : Nat) : ∀ (n : Nat) (f : List Nat → Bool), allW q n f = true → ∀ w : List Nat, w.length = n → (∀ c ∈ w, c < q) → f w = true
  | 0, f, h, w, hl, _ => by
    rw [List.length_eq_zero_iff.mp hl]
    exact h
  | n + 1, f, h, w, hl, hw => by
    cases w with
    | nil => cases hl
    | cons c w =>
      have h1 := all_of _ q h c (hw c List.mem_cons_self)
      exact allW_of q n (fun w => f (c :: w)) h1 w (by simpa using hl) fun x hx => hw x (List.mem_cons_of_mem _ hx)
theorem cod_app (q : Nat) : ∀ (a b : List Nat) (acc : Nat), codR q (a ++ b) acc = codR q b (codR q a acc)
  | [], _, _ => rfl
  | _ :: a, b, acc => cod_app q a b _
theorem cod_acc (q : Nat) : ∀ (b : List Nat) (acc : Nat), codR q b acc = acc * q ^ b.length + codR q b 0
  | [], acc => by
    show acc = acc * q ^ 0 + 0
    simp
  | c :: b, acc => by
    show codR q b (acc * q + c) = _ + codR q b (0 * q + c)
    rw [cod_acc q b (acc * q + c), cod_acc q b (0 * q + c), List.length_cons, Nat.pow_succ, Nat.add_mul, Nat.zero_mul, Nat.zero_add, Nat.mul_assoc, Nat.mul_comm q, Nat.add_assoc]
theorem cod_lt (q : Nat) : ∀ b : List Nat, (∀ c ∈ b, c < q) → codR q b 0 < q ^ b.length
  | [], _ => Nat.one_pos
  | c :: b, h => by
    have ih := cod_lt q b fun x hx => h x (List.mem_cons_of_mem _ hx)
    have hc := h c List.mem_cons_self
    show codR q b (0 * q + c) < _
    rw [cod_acc, Nat.zero_mul, Nat.zero_add, List.length_cons, Nat.pow_succ]
    have : (c + 1) * q ^ b.length ≤ q * q ^ b.length := Nat.mul_le_mul_right _ hc
    rw [Nat.add_mul, Nat.one_mul] at this
    rw [Nat.mul_comm (q ^ b.length)]
    omega
theorem cod_cut {q : Nat} {w : List Nat} (hq : ∀ c ∈ w, c < q) {i : Nat} (hi : i ≤ w.length) : codR q (w.take i) 0 = codR q w 0 / q ^ (w.length - i) ∧ codR q (w.drop i) 0 = codR q w 0 % q ^ (w.length - i) := by
  have e : codR q w 0 = codR q (w.take i) 0 * q ^ (w.drop i).length + codR q (w.drop i) 0 := by
    rw [← cod_acc, ← cod_app, List.take_append_drop]
  have l := cod_lt q (w.drop i) fun c hc => hq c (List.mem_of_mem_drop hc)
  rw [List.length_drop] at e l
  have pos : 0 < q ^ (w.length - i) := Nat.lt_of_le_of_lt (Nat.zero_le _) l
  rw [e]
  constructor
  · rw [Nat.mul_comm, Nat.mul_add_div pos, Nat.div_eq_of_lt l, Nat.add_zero]
  · rw [Nat.mul_comm, Nat.mul_add_mod, Nat.mod_eq_of_lt l]
theorem cf_of {q n B : Nat} {S P : List Nat} (h : allW q n (cfW q n B S P) = true) {x y z : List Nat} (hx : x.length = n ∧ (∀ c ∈ x, c < q) ∧ bitB B (codR q x 0) = true) (hy : y.length = n ∧ (∀ c ∈ y, c < q) ∧ bitB B (codR q y 0) = true) (hz : z.length = n ∧ (∀ c ∈ z, c < q) ∧ bitB B (codR q z 0) = true)
    {i : Nat} (i0 : 0 < i) (i1 : i < n) (e1 : z.take i = x.drop (n - i)) (e2 : z.drop i = y.take (n - i)) : False := by
  have go : ∀ w : List Nat, w.length = n → (∀ c ∈ w, c < q) → bitB B (codR q w 0) = true → ∀ k, 0 < k → k < n → bitB (getR S k) (codR q (w.drop (n - k)) 0) = true ∧ bitB (getR P k) (codR q (w.take k) 0) = true ∧ ¬ (bitB (getR S k) (codR q (w.take k) 0) = true ∧ bitB (getR P (n - k)) (codR q (w.drop k) 0) = true) := fun w h1 h2 h3 k k0 k1 => by
    have f := allW_of q n _ h w h1 h2
    unfold cfW at f
    rw [h3] at f
    have f : cfC q n S P (codR q w 0) = true := f
    obtain ⟨j, rfl⟩ : ∃ j, k = j + 1 := ⟨k - 1, by omega⟩
    have g := all_of _ _ f j (by omega)
    obtain ⟨g1, g2⟩ := and_iff.mp g
    obtain ⟨g3, g4⟩ := and_iff.mp g1
    obtain ⟨c1, c2⟩ := cod_cut h2 (i := n - (j + 1)) (by omega)
    obtain ⟨c3, c4⟩ := cod_cut h2 (i := j + 1) (by omega)
    rw [h1] at c1 c2 c3 c4
    have en : n - (n - (j + 1)) = j + 1 := by omega
    rw [en] at c1 c2
    refine ⟨by rw [c2]; exact g3, by rw [c3]; exact g4, fun ⟨u1, u2⟩ => ?_⟩
    rw [c3] at u1
    rw [c4] at u2
    have v1 : bitB (getR S (j + 1)) (Nat.div (codR q w 0) (Nat.pow q (n - (j + 1)))) = true := u1
    have v2 : bitB (getR P (n - (j + 1))) (Nat.mod (codR q w 0) (Nat.pow q (n - (j + 1)))) = true := u2
    rw [v1, v2] at g2
    cases g2
  refine (go z hz.1 hz.2.1 hz.2.2 i i0 i1).2.2 ⟨?_, ?_⟩
  · rw [e1]
    exact (go x hx.1 hx.2.1 hx.2.2 i i0 i1).1
  · rw [e2]
    exact (go y hy.1 hy.2.1 hy.2.2 (n - i) (by omega) (by omega)).2.1
/-- marked: of this length, and its sign stands in the table -/
structure Mk (n : Nat) (v : List Nat) : Prop where
  len : v.length = n
  sg : ∀ c ∈ v, c < QQ n
  bit : bitB (BB n) (codR (QQ n) v 0) = true
def Lens (n : Nat) : Prop := n = 1 ∨ n = 3 ∨ n = 5 ∨ n = 7 ∨ n = 9 ∨ n = 11 ∨ n = 13
theorem run_all {n : Nat} (h : Lens n) : allW (QQ n) n (okR (QQ n) n (BB n)) = true := by
  rcases h with rfl | rfl | rfl | rfl | rfl | rfl | rfl
  · exact run1
  · exact run3
  · exact run5
  · exact run7
  · exact run9
  · exact run11
  · exact run13
theorem cfr_all {n : Nat} (h : Lens n) : allW (QQ n) n (cfW (QQ n) n (BB n) (SS n) (PP n)) = true := by
  rcases h with rfl | rfl | rfl | rfl | rfl | rfl | rfl
  · exact cfr1
  · exact cfr3
  · exact cfr5
  · exact cfr7
  · exact cfr9
  · exact cfr11
  · exact cfr13
theorem rot_is (w : List Nat) (k : Nat) : rotR w k = RG.rot k w := rot_eq w k
theorem mark_one {n : Nat} (h : Lens n) {w : List Nat} (hl : w.length = n) (hw : ∀ c ∈ w, c < QQ n) (p : RG.Prim w) : ∃ v, mtP w = some v ∧ mtP (RG.rot 1 w) = some v ∧ (∃ k, k < n ∧ RG.rot k w = v) ∧ bitB (BB n) (codR (QQ n) v 0) = true := by
  have f := allW_of _ n _ (run_all h) w hl hw
  unfold okR at f
  cases q : okW (QQ n) n (BB n) w with
  | false =>
    rw [q] at f
    obtain ⟨k, hk, e⟩ := (any_iff _ _).mp (show (anyR (n - 1) fun k => eqL (rotR w (k + 1)) w) = true from f)
    have e := eqL_iff.mp e
    rw [rot_is] at e
    exact absurd e (p (k + 1) (by omega) (by omega))
  | true =>
    unfold okW at q
    cases m1 : mtP w with
    | none =>
      rw [m1] at q
      cases q
    | some v =>
      rw [m1] at q
      cases m2 : mtP (rotR w 1) with
      | none =>
        rw [m2] at q
        cases q
      | some u =>
        rw [m2] at q
        have q : andR (eqL u v) (andR (anyR n fun k => eqL (rotR w k) v) (bitB (BB n) (codR (QQ n) v 0))) = true := q
        obtain ⟨q1, q2⟩ := and_iff.mp q
        obtain ⟨q3, q4⟩ := and_iff.mp q2
        have q1 := eqL_iff.mp q1
        subst q1
        obtain ⟨k, hk, e⟩ := (any_iff _ _).mp q3
        have e := eqL_iff.mp e
        rw [rot_is] at e m2
        exact ⟨u, rfl, m2, ⟨k, hk, e⟩, q4⟩
theorem lens_pos {n : Nat} (h : Lens n) : 0 < n := by
  rcases h with rfl | rfl | rfl | rfl | rfl | rfl | rfl <;> decide
/-- a word that isn't repeated has one marked turn, the same for all its turns -/
theorem mark_all {n : Nat} (h : Lens n) {w : List Nat} (hl : w.length = n) (hw : ∀ c ∈ w, c < QQ n) (p : RG.Prim w) : ∃ v, (∀ k, k < n → mtP (RG.rot k w) = some v) ∧ (∃ k, k < n ∧ RG.rot k w = v) ∧ Mk n v := by
  have n0 := lens_pos h
  have ne : w ≠ [] := fun z => by
    rw [z] at hl
    simp at hl
    omega
  obtain ⟨v, m0, m1, ⟨k, hk, e⟩, b⟩ := mark_one h hl hw p
  refine ⟨v, fun j => ?_, ⟨k, hk, e⟩, ⟨by rw [← e, RG.rot_len]; exact hl, fun c hc => ?_, b⟩⟩
  · induction j with
    | zero =>
      intro _
      rw [RG.rot_zero]
      exact m0
    | succ j ih =>
      intro hj
      have ih := ih (by omega)
      have hr : ∀ c ∈ RG.rot j w, c < QQ n := fun c hc => by
        unfold RG.rot at hc
        rcases List.mem_append.mp hc with hc | hc
        · exact hw c (List.mem_of_mem_drop hc)
        · exact hw c (List.mem_of_mem_take hc)
      obtain ⟨u, g0, g1, _, _⟩ := mark_one h (w := RG.rot j w) (by rw [RG.rot_len]; exact hl) hr (p.rot (by omega))
      rw [ih] at g0
      cases g0
      rw [RG.rot_rot ne (by omega) (by omega), Nat.mod_eq_of_lt (by omega), Nat.add_comm] at g1
      exact g1
  · rw [← e] at hc
    unfold RG.rot at hc
    rcases List.mem_append.mp hc with hc | hc
    · exact hw c (List.mem_of_mem_drop hc)
    · exact hw c (List.mem_of_mem_take hc)
/-- no marked word stands amid two -/
theorem mark_free {n : Nat} (h : Lens n) {x y z : List Nat} (hx : Mk n x) (hy : Mk n y) (hz : Mk n z) {i : Nat} (i0 : 0 < i) (i1 : i < n) (e1 : z.take i = x.drop (n - i)) (e2 : z.drop i = y.take (n - i)) : False :=
  cf_of (cfr_all h) ⟨hx.len, hx.sg, hx.bit⟩ ⟨hy.len, hy.sg, hy.bit⟩ ⟨hz.len, hz.sg, hz.bit⟩ i0 i1 e1 e2
end MT
end
/-! TLzzz: codes of tuples of any length, of data of one shape. -/
namespace TL
open PySem PySem.Spec PyProof.Rows L2
section
variable {α : Type} [DecidableEq α] (E : Cd α)
def lxV : List α → List α → Bool
  | [], [] => false
  | [], _ :: _ => true
  | _ :: _, [] => false
  | a :: x, b :: y => if a = b then lxV x y else E.lt a b
theorem lxV_tot : ∀ x y : List α, lxV E x y = false → lxV E y x = false → x = y
  | [], [], _, _ => rfl
  | [], _ :: _, h, _ => by cases h
  | _ :: _, [], _, h => by cases h
  | a :: x, b :: y, h1, h2 => by
    unfold lxV at h1 h2
    by_cases h : a = b
    · rw [if_pos h] at h1
      rw [if_pos h.symm] at h2
      rw [h, lxV_tot x y h1 h2]
    · rw [if_neg h] at h1
      rw [if_neg (fun z => h z.symm)] at h2
      exact absurd (E.tot _ _ h1 h2) h
theorem pyL_map : ∀ l : List α, pyL (l.map E.enc) = some (l.map E.d)
  | [] => rfl
  | a :: l => by
    rw [List.map_cons]
    simp only [pyL]
    rw [E.py, pyL_map l]
    rfl
theorem nkL_map : ∀ l : List α, nkL (l.map E.enc) = some (l.map E.n)
  | [] => rfl
  | a :: l => by
    rw [List.map_cons]
    simp only [nkL]
    rw [E.nk, nkL_map l]
    rfl
theorem inj_map : ∀ x y : List α, x.map E.n = y.map E.n → x = y
  | [], [], _ => rfl
  | [], _ :: _, h => by cases h
  | _ :: _, [], h => by cases h
  | a :: x, b :: y, h => by
    have h := List.cons.inj h
    rw [E.inj _ _ h.1, inj_map x y h.2]
theorem alike_map : ∀ x y : List α, PySem.W.alikeAll (x.map E.d) (y.map E.d) = true
  | [], _ => by simp only [List.map_nil, PySem.W.alikeAll]
  | _ :: _, [] => by simp only [List.map_nil, List.map_cons, PySem.W.alikeAll]
  | a :: x, b :: y => by
    simp only [List.map_cons, PySem.W.alikeAll]
    rw [E.alike, alike_map x y]
    rfl
theorem eqv_map : ∀ x y : List α, PyData.eqvAll (x.map E.d) (y.map E.d) = decide (x = y)
  | [], [] => by simp [PyData.eqvAll]
  | [], _ :: _ => by simp [PyData.eqvAll]
  | _ :: _, [] => by simp [PyData.eqvAll]
  | a :: x, b :: y => by
    simp only [List.map_cons, PyData.eqvAll]
    rw [E.eqv, eqv_map x y]
    by_cases h1 : a = b
    · by_cases h2 : x = y
      · simp [h1, h2]
      · simp [h1, h2]
    · simp [h1]
theorem dl_map : ∀ x y : List α, PyProof.Rows.lexLt itemOrd (PySem.W.keyToksAll (x.map E.d)) (PySem.W.keyToksAll (y.map E.d)) = lxV E x y
  | [], [] => by
    rw [List.map_nil, PySem.W.keyToksAll.eq_1]
    exact (listOrd itemOrd).irrefl [Sum.inl 0]
  | [], b :: y => by
    simp only [List.map_cons, List.map_nil, PySem.W.keyToksAll]
    rw [PySem.W.lex_atom (by simp)]
    rfl
  | a :: x, [] => by
    simp only [List.map_cons, List.map_nil, PySem.W.keyToksAll]
    rw [PySem.W.lex_atom (by simp)]
    rfl
  | a :: x, b :: y => by
    simp only [List.map_cons]
    rw [PySem.W.dataLt_cons (E.alike _ _), E.eqv, dl_map x y, E.dl]
    show _ = (if a = b then lxV E x y else E.lt a b)
    simp only [decide_eq_true_eq]
theorem nd_map : ∀ x : List α, NestedKey.depthAll (x.map E.n) ≤ E.dep
  | [] => Nat.zero_le _
  | a :: x => by
    simp only [List.map_cons, NestedKey.depthAll]
    have := E.nd a
    have := nd_map x
    omega
theorem dd_map : ∀ x : List α, PyData.depthAll (x.map E.d) ≤ E.dep
  | [] => Nat.zero_le _
  | a :: x => by
    simp only [List.map_cons, PyData.depthAll]
    have := E.dd a
    have := dd_map x
    omega
theorem ord_map (h8 : E.dep ≤ 8) {k : Nat} (hk : E.dep ≤ k) : ∀ x y : List α, ((x.map E.enc).zip (y.map E.enc)).all (fun p => keyOk p.1 && keyOk p.2 && alkT k p.1 p.2) = true ∧ lexG (ordT true k) true (x.map E.enc) (y.map E.enc) = lxV E x y ∧ lexG (ordT false k) false (x.map E.enc) (y.map E.enc) = !lxV E y x
  | [], [] => ⟨rfl, rfl, rfl⟩
  | [], _ :: _ => ⟨rfl, rfl, rfl⟩
  | _ :: _, [] => ⟨rfl, rfl, rfl⟩
  | a :: x, b :: y => by
    obtain ⟨p1, p2, p3⟩ := E.ord k hk a b
    obtain ⟨q1, q2, q3⟩ := ord_map h8 hk x y
    have ko : ∀ x, keyOk (E.enc x) = true := fun x => by
      unfold keyOk
      rw [E.nk]
      have := E.nd x
      exact decide_eq_true (by omega)
    refine ⟨?_, ?_, ?_⟩
    · rw [List.map_cons, List.map_cons, List.zip_cons_cons, List.all_cons, q1, ko, ko, p1]
      rfl
    · simp only [List.map_cons, lexG, keyD_eq, q2, p2, lxV]
    · simp only [List.map_cons, lexG, keyD_eq, q3, p3, lxV]
      by_cases h : a = b
      · rw [if_pos h, if_pos h.symm]
      · rw [if_neg h, if_neg (fun z => h z.symm)]
/-- the items of a tuple of any length -/
def cdV (h8 : E.dep ≤ 8) : CdL (List α) where
  encs l := l.map E.enc
  lt := lxV E
  ds l := l.map E.d
  ns l := l.map E.n
  dep := E.dep
  py := pyL_map E
  nk := nkL_map E
  inj := inj_map E
  alike := alike_map E
  eqv := eqv_map E
  dl := dl_map E
  tot := lxV_tot E
  nd := nd_map E
  dd := dd_map E
  ord _ hk := ord_map E h8 hk
end
end TL
open PySem PySem.Spec PyProof.Rows L2 TL
namespace K_k50
/-! keys; where the last dip ends -/
structure KC (α : Type) where
  enc : α → T
  lt : α → α → Bool
  hlt : ∀ a b, ltU (enc a) (enc b) = some (.bl (lt a b))
  hge : ∀ a b, geU (enc a) (enc b) = some (.bl (!lt a b))
theorem blt_dec (a b : Nat) : Nat.blt a b = decide ((a : Int) < (b : Int)) := by
  by_cases h : a < b
  · rw [decide_eq_true (by omega)]
    exact Nat.ble_eq_true_of_le h
  · rw [decide_eq_false (by omega)]
    exact Bool.eq_false_iff.mpr fun z => h (Nat.le_of_ble_eq_true z)
def kc0 : KC Nat where
  enc := nT
  lt := Nat.blt
  hlt a b := by
    show some (T.bl (decide ((a : Int) < (b : Int)))) = _
    rw [blt_dec]
  hge a b := by
    show geT (.int (a : Int)) (.int (b : Int)) = _
    rw [ev_geI, blt_dec]
    congr 2
    by_cases h : (a : Int) < (b : Int)
    · rw [decide_eq_true h, decide_eq_false (by omega)]
      rfl
    · rw [decide_eq_false h, decide_eq_true (by omega)]
      rfl
abbrev Ky := Int × List Int × Unit
def cdL : Cd (List Int) := cdT (cdV cdI (by decide))
def cdK : Cd Ky := cdT (cdC cdI (cdC cdL cdN (by decide)) (by decide))
def kyC (a : Nat × List Nat) : Ky := ((a.1 : Int), a.2.map fun c : Nat => (c : Int), ())
def kyT (a : Nat × List Nat) : T := .tup [nT a.1, .tup (a.2.map nT)]
theorem kyT_c (a : Nat × List Nat) : kyT a = cdK.enc (kyC a) := by
  show T.tup [nT a.1, .tup (a.2.map nT)] = .tup [.int (a.1 : Int), .tup ((a.2.map fun c : Nat => (c : Int)).map T.int)]
  rw [List.map_map]
  rfl
theorem lexB_eq : ∀ l m : List Nat, MT.lexB l m = lxV cdI (l.map fun c : Nat => (c : Int)) (m.map fun c : Nat => (c : Int))
  | [], [] => rfl
  | [], _ :: _ => rfl
  | _ :: _, [] => rfl
  | a :: l, b :: m => by
    have ih := lexB_eq l m
    have e : MT.lexB (a :: l) (b :: m) = @Bool.rec (fun _ => Bool) (@Bool.rec (fun _ => Bool) false (MT.lexB l m) (Nat.beq a b)) true (Nat.blt a b) := rfl
    have e2 : lxV cdI ((a :: l).map fun c : Nat => (c : Int)) ((b :: m).map fun c : Nat => (c : Int)) = if (a : Int) = (b : Int) then lxV cdI (l.map fun c : Nat => (c : Int)) (m.map fun c : Nat => (c : Int)) else decide ((a : Int) < (b : Int)) := rfl
    rw [e, e2, ← ih, blt_dec]
    by_cases h : (a : Int) = (b : Int)
    · have h' : a = b := by omega
      subst h'
      rw [if_pos rfl, decide_eq_false (by omega), Nat.beq_refl]
    · rw [if_neg h]
      have : Nat.beq a b = false := Bool.eq_false_iff.mpr fun z => h (by have := Nat.eq_of_beq_eq_true z; omega)
      rw [this]
      cases decide ((a : Int) < (b : Int)) <;> rfl
theorem lt1_eq (a b : Nat × List Nat) : MT.lt1 a b = cdK.lt (kyC a) (kyC b) := by
  have e : MT.lt1 a b = @Bool.rec (fun _ => Bool) (Nat.blt a.1 b.1) (MT.lexB a.2 b.2) (Nat.beq a.1 b.1) := rfl
  have e2 : cdK.lt (kyC a) (kyC b) = if (a.1 : Int) = (b.1 : Int) then (if (a.2.map fun c : Nat => (c : Int)) = (b.2.map fun c : Nat => (c : Int)) then false else lxV cdI (a.2.map fun c : Nat => (c : Int)) (b.2.map fun c : Nat => (c : Int))) else decide ((a.1 : Int) < (b.1 : Int)) := rfl
  rw [e, e2, lexB_eq, blt_dec]
  by_cases h : (a.1 : Int) = (b.1 : Int)
  · have h' : a.1 = b.1 := by omega
    rw [if_pos h, h', Nat.beq_refl]
    show lxV cdI _ _ = _
    split
    · rename_i q
      rw [q]
      exact cdL.irr _
    · rfl
  · rw [if_neg h]
    have : Nat.beq a.1 b.1 = false := Bool.eq_false_iff.mpr fun z => h (by have := Nat.eq_of_beq_eq_true z; omega)
    rw [this]
noncomputable def kc1 : KC (Nat × List Nat) where
  enc := kyT
  lt := MT.lt1
  hlt a b := by
    have o := cdK.ord 3 (by decide) (kyC a) (kyC b)
    rw [kyT_c, kyT_c, lt1_eq]
    show (if alkT 3 (cdK.enc (kyC a)) (cdK.enc (kyC b)) then some (T.bl (ordT true 3 (cdK.enc (kyC a)) (cdK.enc (kyC b)))) else none) = _
    rw [o.1, o.2.1]
    rfl
  hge a b := by
    have o := cdK.ord 3 (by decide) (kyC a) (kyC b)
    have o2 := cdK.ord 3 (by decide) (kyC b) (kyC a)
    rw [kyT_c, kyT_c, lt1_eq]
    show (if alkT 3 (cdK.enc (kyC a)) (cdK.enc (kyC b)) then some (T.bl (ordT false 3 (cdK.enc (kyC b)) (cdK.enc (kyC a)))) else none) = _
    rw [o.1, o2.2.2]
    rfl
section
variable {α : Type} (E : KC α) (sg : List Nat)
def itE (x : MT.It α) : T := .tup [E.enc x.1, strR (wrd sg x.2)]
theorem dip_0_ok (L : List T) (i : Int) (a b x : MT.It α) (ha : atI L (i - 2) = some (itE E sg a)) (hb : atI L (i - 1) = some (itE E sg b)) (d : D) :
    g_dip_end_0 [.val (.lst L), .val (.int i), .val (itE E sg x)] d = .ok (if (!E.lt a.1 b.1 && E.lt b.1 x.1) = true then .ret (.int i) else .nx, [.val (.lst L), .val (.int i), .val (itE E sg x)]) d := by
  have h1 := E.hge a.1 b.1
  have h2 := E.hlt b.1 x.1
  have ia : ixT (itE E sg a) (.int 0) = some (E.enc a.1) := rfl
  have ib : ixT (itE E sg b) (.int 0) = some (E.enc b.1) := rfl
  have ix : ixT (itE E sg x) (.int 0) = some (E.enc x.1) := rfl
  generalize itE E sg a = a' at *
  generalize itE E sg b = b' at *
  generalize itE E sg x = x' at *
  generalize E.enc a.1 = ka at *
  generalize E.enc b.1 = kb at *
  generalize E.enc x.1 = kx at *
  generalize E.lt a.1 b.1 = z1 at *
  generalize E.lt b.1 x.1 = z2 at *
  cases z1 with
  | true =>
    rw [Bool.not_true, Bool.false_and, if_neg Bool.false_ne_true]
    replace h1 : geU ka kb = some (.bl false) := h1
    unfold g_dip_end_0
    walk_at "ev"
  | false =>
    replace h1 : geU ka kb = some (.bl true) := h1
    cases z2 with
    | true =>
      rw [Bool.not_false, Bool.true_and, if_pos rfl]
      unfold g_dip_end_0
      walk_at "ev"
    | false =>
      rw [Bool.not_false, Bool.true_and, if_neg Bool.false_ne_true]
      unfold g_dip_end_0
      walk_at "ev"
theorem dip_loop (L : List T) : ∀ (xs pre : List (MT.It α)) (a b : MT.It α) (x1 x2 : Sl) (d : D), L = (pre ++ xs).map (itE E sg) → atI L ((pre.length : Int) - 2) = some (itE E sg a) → atI L ((pre.length : Int) - 1) = some (itE E sg b) →
    (∃ en' : En, ∃ j : Nat, forL (aTup (aCons (aName 1) (aCons (aName 2) aNil))) g_dip_end_0 (enumL (pre.length : Int) (xs.map (itE E sg))) [.val (.lst L), x1, x2] d = .ok (.ret (.int (j : Int)), en') d ∧ j = MT.scanD E.lt (xs.map Prod.fst) a.1 b.1 pre.length) ∨
    (∃ en' : En, forL (aTup (aCons (aName 1) (aCons (aName 2) aNil))) g_dip_end_0 (enumL (pre.length : Int) (xs.map (itE E sg))) [.val (.lst L), x1, x2] d = .ok (.nx, en') d ∧ MT.scanD E.lt (xs.map Prod.fst) a.1 b.1 pre.length = 0)
  | [], pre, a, b, x1, x2, d, _, _, _ => .inr ⟨_, rfl, rfl⟩
  | x :: xs, pre, a, b, x1, x2, d, hL, ha, hb => by
    have st := dip_0_ok E sg L (pre.length : Int) a b x ha hb d
    have sc := MT.scan_cons E.lt x.1 (xs.map Prod.fst) a.1 b.1 pre.length
    have hx : atI L (pre.length : Int) = some (itE E sg x) := atI_nat' rfl (by
      rw [hL, List.map_append, List.getElem?_append_right (by rw [List.length_map]; omega), List.length_map, Nat.sub_self]
      rfl)
    have el : enumL (pre.length : Int) ((x :: xs).map (itE E sg)) = .tup [.int (pre.length : Int), itE E sg x] :: enumL ((pre.length : Int) + 1) (xs.map (itE E sg)) := rfl
    have ml : ((x :: xs).map Prod.fst) = x.1 :: xs.map Prod.fst := rfl
    have e2 : ((pre ++ [x]).length : Int) = (pre.length : Int) + 1 := by rw [List.length_append]; rfl
    have e3 : (pre ++ [x]).length = pre.length + 1 := by rw [List.length_append]; rfl
    have ih := dip_loop L xs (pre ++ [x]) b x (.val (.int (pre.length : Int))) (.val (itE E sg x)) d (by rw [hL, List.append_assoc]; rfl) (by rw [e2, show (pre.length : Int) + 1 - 2 = (pre.length : Int) - 1 by omega]; exact hb) (by rw [e2, show (pre.length : Int) + 1 - 1 = (pre.length : Int) by omega]; exact hx)
    rw [e2, e3] at ih
    rw [el, ml, sc]
    by_cases z : (!E.lt a.1 b.1 && E.lt b.1 x.1) = true
    · rw [if_pos z] at st ⊢
      refine .inl ⟨[.val (.lst L), .val (.int (pre.length : Int)), .val (itE E sg x)], pre.length, ?_, rfl⟩
      unfold forL
      simp only [ev_aTup, ev_aCons, ev_aNil, ev_aName, ev_set0, ev_setS, ev_opt, ev_bind, ev_ok, ev_noX, Option.bind_some, st, ev_pure]
    · rw [if_neg z] at st ⊢
      have fl : forL (aTup (aCons (aName 1) (aCons (aName 2) aNil))) g_dip_end_0 (.tup [.int (pre.length : Int), itE E sg x] :: enumL ((pre.length : Int) + 1) (xs.map (itE E sg))) [.val (.lst L), x1, x2] d = forL (aTup (aCons (aName 1) (aCons (aName 2) aNil))) g_dip_end_0 (enumL ((pre.length : Int) + 1) (xs.map (itE E sg))) [.val (.lst L), .val (.int (pre.length : Int)), .val (itE E sg x)] d := by
        conv => lhs; unfold forL
        simp only [ev_aTup, ev_aCons, ev_aNil, ev_aName, ev_set0, ev_setS, ev_opt, ev_bind, ev_ok, ev_noX, Option.bind_some, st, ev_pure]
      rw [fl]
      exact ih
theorem two_last {β : Type} {l : List β} (h : 2 ≤ l.length) : ∃ l0 a b, l = l0 ++ [a, b] := by
  rcases List.eq_nil_or_concat l with rfl | ⟨l1, b, rfl⟩
  · exact absurd h (by show ¬ 2 ≤ 0; decide)
  · rcases List.eq_nil_or_concat l1 with rfl | ⟨l0, a, rfl⟩
    · exact absurd h (by show ¬ 2 ≤ 1; decide)
    · exact ⟨l0, a, b, by simp [List.concat_eq_append]⟩
theorem dip_end_ok {l : List (MT.It α)} (h : 2 ≤ l.length) (h2 : l.length ≤ 1000) (d : D) : m_dip_end [.lst (l.map (itE E sg))] d = .ok (.int (MT.dipE E.lt (l.map Prod.fst) : Int)) d := by
  obtain ⟨l0, a, b, rfl⟩ := two_last h
  have dp : MT.dipE E.lt ((l0 ++ [a, b]).map Prod.fst) = MT.scanD E.lt ((l0 ++ [a, b]).map Prod.fst) a.1 b.1 0 := by
    unfold MT.dipE
    rw [List.map_append]
    exact MT.last2_app _ _ _ _ _
  have ll : (l0 ++ [a, b]).length = l0.length + 2 := by rw [List.length_append]; rfl
  have ha : atI ((l0 ++ [a, b]).map (itE E sg)) (0 - 2) = some (itE E sg a) := by
    unfold atI ixN
    rw [if_neg (by omega), if_pos (by rw [List.length_map, ll]; omega), List.length_map, ll]
    show ((l0 ++ [a, b]).map (itE E sg))[((0 : Int) - 2 + ((l0.length + 2 : Nat) : Int)).toNat]? = _
    rw [show ((0 : Int) - 2 + ((l0.length + 2 : Nat) : Int)).toNat = l0.length by omega, List.map_append, List.getElem?_append_right (by rw [List.length_map]; omega), List.length_map, Nat.sub_self]
    rfl
  have hb : atI ((l0 ++ [a, b]).map (itE E sg)) (0 - 1) = some (itE E sg b) := by
    unfold atI ixN
    rw [if_neg (by omega), if_pos (by rw [List.length_map, ll]; omega), List.length_map, ll]
    show ((l0 ++ [a, b]).map (itE E sg))[((0 : Int) - 1 + ((l0.length + 2 : Nat) : Int)).toNat]? = _
    rw [show ((0 : Int) - 1 + ((l0.length + 2 : Nat) : Int)).toNat = l0.length + 1 by omega, List.map_append, List.getElem?_append_right (by rw [List.length_map]; omega), List.length_map, Nat.add_sub_cancel_left]
    rfl
  have lp := dip_loop E sg ((l0 ++ [a, b]).map (itE E sg)) (l0 ++ [a, b]) [] a b .no .no d rfl ha hb
  have z0 : (([] : List (MT.It α)).length : Int) = 0 := rfl
  rw [z0, show ([] : List (MT.It α)).length = 0 from rfl, ← dp] at lp
  have c1 : ∀ v : Unit, capL (enumL 0 ((l0 ++ [a, b]).map (itE E sg))).length v = some v := fun v => ev_cap (by rw [enumL_length, List.length_map]; omega)
  generalize (l0 ++ [a, b]).map (itE E sg) = L at *
  rcases lp with ⟨en', j, e, hj⟩ | ⟨en', e, hj⟩
  · refine fn_ret (en := [.val (.lst L), .no, .no]) (en' := en') ?_
    rw [hj] at e
    clear ha hb dp hj h h2 ll
    generalize (MT.dipE E.lt _ : Int) = i at *
    unfold g_dip_end
    generalize g_dip_end_0 = G at *
    walk_at "ev"
  · refine fn_ret (en := [.val (.lst L), .no, .no]) (en' := en') ?_
    rw [hj]
    clear ha hb dp hj h h2 ll
    unfold g_dip_end
    generalize g_dip_end_0 = G at *
    walk_at "ev"
    rfl
end
end K_k50
open PySem PySem.Spec PyProof.Rows L2 TL
namespace K_k50
/-! the dips -/
section
variable {α : Type} (E : KC α) (sg : List Nat)
def dpT (c : List (MT.It α)) : T := .lst (c.map (itE E sg))
def lastK (c : List (MT.It α)) : Option α := c.getLast?.map Prod.fst
abbrev dE (A : T) (i : Int) (F : List (List (MT.It α))) (C : List (MT.It α)) (x4 : Sl) : En := [.val A, .val (.int i), .own (.lst (F.map (dpT E sg))), .own (.lst (C.map (itE E sg))), x4]
theorem dips_0_ok (A : T) (i : Int) {F : List (List (MT.It α))} {C : List (MT.It α)} (hF : F.length ≤ 1000) (hC : C.length ≤ 1000) (x : MT.It α) (d : D) :
    ∃ F' C', g_dips_of_0 (dE E sg A i F C (.val (itE E sg x))) d = .ok (.nx, dE E sg A i F' C' (.val (itE E sg x))) d ∧ F'.length ≤ F.length + 1 ∧ C'.length ≤ C.length + 1 ∧
      ∀ post, F' ++ MT.cutD E.lt post (lastK C') C' = F ++ MT.cutD E.lt (x :: post) (lastK C) C := by
  have em : (C ++ [x]).map (itE E sg) = C.map (itE E sg) ++ [itE E sg x] := by rw [List.map_append]; rfl
  have c1 : capL ((C.map (itE E sg)).length + 1) () = some () := ev_cap (by rw [List.length_map]; omega)
  have c2 : capL ((F.map (dpT E sg)).length + 1) () = some () := ev_cap (by rw [List.length_map]; omega)
  have ln : ∀ z : List T, z.length = C.length → lenT [.lst (z ++ [itE E sg x])] = some (.int ((C.length : Int) + 1)) := fun z hz => by
    rw [ev_lenL, List.length_append, hz]
    rfl
  have ln := ln (C.map (itE E sg)) (List.length_map _)
  have ix : ixT (itE E sg x) (.int 0) = some (E.enc x.1) := rfl
  rcases List.eq_nil_or_concat C with rfl | ⟨C0, p, rfl⟩
  · refine ⟨F, [x], ?_, by omega, Nat.le_refl _, fun post => ?_⟩
    · have gt : decide ((1 : Int) < ((([] : List (MT.It α)).length : Int) + 1)) = false := rfl
      have e0 : ([] : List (MT.It α)).map (itE E sg) = [] := rfl
      have e1 : [x].map (itE E sg) = [itE E sg x] := rfl
      rw [e0, List.nil_append] at ln
      rw [e0] at c1
      dsimp only [dE]
      rw [e0, e1]
      clear em hF hC e0 e1
      generalize itE E sg x = x' at *
      generalize F.map (dpT E sg) = f1 at *
      generalize ((([] : List (MT.It α)).length : Int) + 1) = n1 at *
      unfold g_dips_of_0
      walk_at "ev"
    · have e : lastK ([] : List (MT.It α)) = none := rfl
      rw [e, MT.cut_none]
      rfl
  · rw [List.concat_eq_append] at *
    have gt : decide ((1 : Int) < (((C0 ++ [p]).length : Int) + 1)) = true := decide_eq_true (by rw [List.length_append]; show (1 : Int) < ((C0.length + 1 : Nat) : Int) + 1; omega)
    have em2 : ((C0 ++ [p]) ++ [x]).map (itE E sg) = (C0 ++ [p]).map (itE E sg) ++ [itE E sg x] := by rw [List.map_append]; rfl
    have at2 : atI ((C0 ++ [p]).map (itE E sg) ++ [itE E sg x]) (-2) = some (itE E sg p) := by
      have hl : ((C0 ++ [p]).map (itE E sg) ++ [itE E sg x]).length = C0.length + 2 := by rw [List.length_append, List.length_map, List.length_append]; rfl
      unfold atI ixN
      rw [if_neg (by omega), if_pos (by rw [hl]; omega), hl]
      show ((C0 ++ [p]).map (itE E sg) ++ [itE E sg x])[((-2 : Int) + ((C0.length + 2 : Nat) : Int)).toNat]? = _
      rw [show ((-2 : Int) + ((C0.length + 2 : Nat) : Int)).toNat = C0.length by omega, List.map_append, List.append_assoc, List.getElem?_append_right (by rw [List.length_map]; omega), List.length_map, Nat.sub_self]
      rfl
    have ip : ixT (itE E sg p) (.int 0) = some (E.enc p.1) := rfl
    have lt := E.hlt p.1 x.1
    have lk : lastK (C0 ++ [p]) = some p.1 := by
      unfold lastK
      rw [List.getLast?_append]
      rfl
    have lk2 : lastK ((C0 ++ [p]) ++ [x]) = some x.1 := by
      unfold lastK
      rw [List.getLast?_append]
      rfl
    have ng : negT (.int 2) = some (.int (-2)) := rfl
    have cs := fun post => MT.cut_some E.lt x post (C0 ++ [p]) p.1
    cases z : E.lt p.1 x.1 with
    | true =>
      rw [z] at lt
      refine ⟨F ++ [(C0 ++ [p]) ++ [x]], [], ?_, by rw [List.length_append]; exact Nat.le_refl _, Nat.zero_le _, fun post => ?_⟩
      · have e0 : ([] : List (MT.It α)).map (itE E sg) = [] := rfl
        have ef : (F ++ [(C0 ++ [p]) ++ [x]]).map (dpT E sg) = F.map (dpT E sg) ++ [.lst ((C0 ++ [p]).map (itE E sg) ++ [itE E sg x])] := by
          rw [List.map_append, ← em2]
          rfl
        dsimp only [dE]
        rw [e0, ef]
        clear em em2 hF hC e0 ef cs z lk lk2
        generalize (C0 ++ [p]).map (itE E sg) = l1 at *
        generalize itE E sg x = x' at *
        generalize itE E sg p = p' at *
        generalize E.enc x.1 = kx at *
        generalize E.enc p.1 = kp at *
        generalize F.map (dpT E sg) = f1 at *
        generalize (((C0 ++ [p]).length : Int) + 1) = n1 at *
        unfold g_dips_of_0
        walk_at "ev"
      · have e : lastK ([] : List (MT.It α)) = none := rfl
        rw [e, lk, cs, if_pos z, List.append_assoc]
        rfl
    | false =>
      rw [z] at lt
      refine ⟨F, (C0 ++ [p]) ++ [x], ?_, by omega, by rw [List.length_append]; exact Nat.le_refl _, fun post => ?_⟩
      · dsimp only [dE]
        rw [em2]
        clear em em2 hF hC cs z lk lk2 c2
        generalize (C0 ++ [p]).map (itE E sg) = l1 at *
        generalize itE E sg x = x' at *
        generalize itE E sg p = p' at *
        generalize E.enc x.1 = kx at *
        generalize E.enc p.1 = kp at *
        generalize F.map (dpT E sg) = f1 at *
        generalize (((C0 ++ [p]).length : Int) + 1) = n1 at *
        unfold g_dips_of_0
        walk_at "ev"
      · rw [lk2, lk, cs, if_neg (by rw [z]; exact Bool.false_ne_true)]
theorem dips_of_ok {l : List (MT.It α)} (h : 2 ≤ l.length) (h2 : l.length ≤ 900) (d : D) : m_dips_of [.lst (l.map (itE E sg))] d = .ok (.lst ((MT.dipsP E.lt l).map (dpT E sg))) d := by
  have de := dip_end_ok E sg h (by omega) d
  have dp : MT.dipsP E.lt l = MT.cutD E.lt (l.drop (MT.dipE E.lt (l.map Prod.fst) + 1) ++ l.take (MT.dipE E.lt (l.map Prod.fst) + 1)) none [] := by
    unfold MT.dipsP
    rw [MT.rot_eq, MT.map_eq]
  generalize hk : MT.dipE E.lt (l.map Prod.fst) = k at *
  have hr : (l.drop (k + 1) ++ l.take (k + 1)).length = l.length := by rw [List.length_append, List.length_drop, List.length_take]; omega
  obtain ⟨en', d', e, rfl, F, C, x4, rfl, hF, hC, fin⟩ := forL_inv (itE E sg) (l.drop (k + 1) ++ l.take (k + 1)) (a := aName 4) (g := g_dips_of_0)
    (fun pre en d' => d' = d ∧ ∃ F C x4, en = dE E sg (.lst (l.map (itE E sg))) (k : Int) F C x4 ∧ F.length ≤ pre.length ∧ C.length ≤ pre.length ∧ ∀ post, l.drop (k + 1) ++ l.take (k + 1) = pre ++ post → F ++ MT.cutD E.lt post (lastK C) C = MT.cutD E.lt (l.drop (k + 1) ++ l.take (k + 1)) none [])
    (en := dE E sg (.lst (l.map (itE E sg))) (k : Int) [] [] .no) (d := d) ⟨rfl, [], [], .no, rfl, Nat.le_refl _, Nat.le_refl _, fun post hp => by rw [hp]; rfl⟩ fun pre x post en d1 hx ⟨hd1, F, C, x4, he, hF, hC, fin⟩ => by
      subst he
      subst hd1
      have hp : pre.length ≤ l.length := by rw [← hr, hx, List.length_append]; omega
      obtain ⟨F', C', st, f1, c1, fi⟩ := dips_0_ok E sg (.lst (l.map (itE E sg))) (k : Int) (F := F) (C := C) (by omega) (by omega) x d1
      refine ⟨_, rfl, _, d1, st, rfl, F', C', _, rfl, by rw [List.length_append]; show _ ≤ _ + 1; omega, by rw [List.length_append]; show _ ≤ _ + 1; omega, fun post2 hp2 => ?_⟩
      rw [fi post2]
      exact fin (x :: post2) (by rw [hp2, List.append_assoc]; rfl)
  have fin := fin [] (List.append_nil _).symm
  have e0 : MT.cutD E.lt ([] : List (MT.It α)) (lastK C) C = [] := rfl
  rw [e0, List.append_nil] at fin
  rw [dp, ← fin]
  have s1 : slT (.lst (l.map (itE E sg))) (some ((k + 1 : Nat) : Int)) none = some (.lst ((l.map (itE E sg)).drop (k + 1))) := slT_lst_from _ _
  have s2 : slT (.lst (l.map (itE E sg))) none (some ((k + 1 : Nat) : Int)) = some (.lst ((l.map (itE E sg)).take (k + 1))) := slT_lst_to _ _
  have p1 : addT (.int (k : Int)) (.int 1) = some (.int ((k + 1 : Nat) : Int)) := rfl
  have em : (l.drop (k + 1) ++ l.take (k + 1)).map (itE E sg) = (l.map (itE E sg)).drop (k + 1) ++ (l.map (itE E sg)).take (k + 1) := by rw [List.map_append, List.map_drop, List.map_take]
  rw [em] at e
  have cl : ∀ z : T, capL (((l.map (itE E sg)).drop (k + 1)).length + ((l.map (itE E sg)).take (k + 1)).length) z = some z := fun z => ev_cap (by rw [List.length_drop, List.length_take, List.length_map]; omega)
  have cl2 : ∀ z : Unit, capL (((l.map (itE E sg)).drop (k + 1)) ++ ((l.map (itE E sg)).take (k + 1))).length z = some z := fun z => ev_cap (by rw [List.length_append, List.length_drop, List.length_take, List.length_map]; omega)
  have e1 : ([] : List (List (MT.It α))).map (dpT E sg) = [] := rfl
  have e2 : ([] : List (MT.It α)).map (itE E sg) = [] := rfl
  refine fn_ret (en := [.val (.lst (l.map (itE E sg))), .no, .no, .no, .no]) (en' := [.val (.lst (l.map (itE E sg))), .val (.int (k : Int)), .val (.lst (F.map (dpT E sg))), .own (.lst (C.map (itE E sg))), x4]) ?_
  dsimp only [dE] at e
  rw [e1, e2] at e
  clear e1 e2 e0 fin em hF hC hr dp hk h h2
  generalize (l.map (itE E sg)).drop (k + 1) = u1 at *
  generalize (l.map (itE E sg)).take (k + 1) = u2 at *
  generalize l.map (itE E sg) = u3 at *
  generalize F.map (dpT E sg) = u4 at *
  generalize C.map (itE E sg) = u5 at *
  generalize ((k + 1 : Nat) : Int) = k1 at *
  generalize (k : Int) = k0 at *
  unfold g_dips_of g_dips_of_t2 g_dips_of_t1 g_dips_of_t0
  generalize g_dips_of_0 = G at *
  generalize m_dip_end = R at *
  walk_at "ev"
end
end K_k50
open PySem PySem.Spec PyProof.Rows L2 TL
namespace K_k50
/-! the greater items -/
/-- how many items in all -/
theorem cut_flat {α : Type} (lt : α → α → Bool) : ∀ (l : List (MT.It α)) (p : Option α) (cur : List (MT.It α)), (MT.cutD lt l p cur).flatten.length ≤ cur.length + l.length ∧ (∀ x ∈ (MT.cutD lt l p cur).flatten, x ∈ cur ∨ x ∈ l) ∧ (MT.cutD lt l p cur).length ≤ l.length
  | [], _, cur => ⟨Nat.zero_le _, nofun, Nat.le_refl _⟩
  | x :: l, none, cur => by
    obtain ⟨h1, h2, h3⟩ := cut_flat lt l (some x.1) (cur ++ [x])
    rw [MT.cut_none]
    rw [List.length_append] at h1
    refine ⟨by rw [List.length_cons]; simp at h1 ⊢; omega, fun y hy => ?_, by rw [List.length_cons]; omega⟩
    rcases h2 y hy with h | h
    · rcases List.mem_append.mp h with h | h
      · exact .inl h
      · exact .inr (by rw [List.mem_singleton.mp h]; exact List.mem_cons_self)
    · exact .inr (List.mem_cons_of_mem _ h)
  | x :: l, some p, cur => by
    rw [MT.cut_some]
    split
    · obtain ⟨h1, h2, h3⟩ := cut_flat lt l none []
      rw [List.flatten_cons]
      refine ⟨by rw [List.length_append, List.length_append, List.length_cons]; simp at h1 ⊢; omega, fun y hy => ?_, by rw [List.length_cons, List.length_cons]; omega⟩
      rcases List.mem_append.mp hy with hy | hy
      · rcases List.mem_append.mp hy with h | h
        · exact .inl h
        · exact .inr (by rw [List.mem_singleton.mp h]; exact List.mem_cons_self)
      · rcases h2 y hy with h | h
        · cases h
        · exact .inr (List.mem_cons_of_mem _ h)
    · obtain ⟨h1, h2, h3⟩ := cut_flat lt l (some x.1) (cur ++ [x])
      rw [List.length_append] at h1
      refine ⟨by rw [List.length_cons]; simp at h1 ⊢; omega, fun y hy => ?_, by rw [List.length_cons]; omega⟩
      rcases h2 y hy with h | h
      · rcases List.mem_append.mp h with h | h
        · exact .inl h
        · exact .inr (by rw [List.mem_singleton.mp h]; exact List.mem_cons_self)
      · exact .inr (List.mem_cons_of_mem _ h)
theorem grp_flat {β : Type} : ∀ (ds : List (List β)) (cur : List β), (MT.grpR ds cur).flatten = cur ++ ds.flatten
  | [], cur => by
    show (cur ++ []) = _
    rfl
  | d :: ds, cur => by
    rw [MT.grp_cons]
    split
    · rw [List.flatten_cons, grp_flat ds d, List.flatten_cons]
    · rw [grp_flat ds (cur ++ d), List.flatten_cons, List.append_assoc]
theorem part_len {β : Type} {ps : List (List β)} {c : List β} (h : c ∈ ps) : c.length ≤ ps.flatten.length := by
  induction ps with
  | nil => cases h
  | cons p ps ih =>
    rw [List.flatten_cons, List.length_append]
    rcases List.mem_cons.mp h with rfl | h
    · omega
    · have := ih h
      omega
theorem split_is {β γ : Type} (z : γ) (k : List β → List (List β) → γ) : ∀ (ds pre0 : List (List β)), (∃ pre d t, ds = pre ++ d :: t ∧ (∀ x ∈ pre, MT.oddB x = false) ∧ MT.oddB d = true ∧ MT.splitE z k ds pre0 = k d (t ++ (pre0 ++ pre))) ∨ MT.splitE z k ds pre0 = z
  | [], _ => .inr rfl
  | d :: t, pre0 => by
    have sc := MT.split_cons z k d t pre0
    cases h : MT.oddB d with
    | true =>
      rw [h, if_pos rfl] at sc
      exact .inl ⟨[], d, t, rfl, nofun, h, by rw [sc, List.append_nil]⟩
    | false =>
      rw [h, if_neg Bool.false_ne_true] at sc
      rcases split_is z k t (pre0 ++ [d]) with ⟨pre, d', t', e, hp, hd, hs⟩ | hs
      · refine .inl ⟨d :: pre, d', t', by rw [e]; rfl, fun x hx => ?_, hd, by rw [sc, hs, List.append_assoc]; rfl⟩
        rcases List.mem_cons.mp hx with rfl | hx
        · exact h
        · exact hp x hx
      · exact .inr (by rw [sc, hs])
section
variable {α : Type} (E : KC α) (sg : List Nat)
def keJ (a : Nat × List α) : T := .tup [nT a.1, .tup (a.2.map E.enc)]
def itJ (x : MT.It (Nat × List α)) : T := .tup [keJ E x.1, strR (wrd sg x.2)]
theorem wrd_flat : ∀ l : List (List Nat), wrd sg l.flatten = (l.map (wrd sg)).flatten
  | [] => rfl
  | a :: l => by
    rw [List.flatten_cons, List.map_cons, List.flatten_cons, ← wrd_flat l]
    exact List.map_append
theorem joined_ok {c : List (MT.It α)} (h : c.length ≤ 1000) (hw : (c.map Prod.snd).flatten.length ≤ 1000000) (d : D) : m_joined [dpT E sg c] d = .ok (itJ E sg (MT.joinP c)) d := by
  have a1 := lcL_all (itE E sg) (a := aTup (aCons (aName 1) (aCons (aName 2) aNil))) (f := xVar 1) (en := [.val (dpT E sg c), .no, .no]) (d := d) (fun x => E.enc x.1) c fun x hx => ⟨[.val (dpT E sg c), .val (E.enc x.1), .val (strR (wrd sg x.2))], rfl, rfl⟩
  have a2 := lcL_all (itE E sg) (a := aTup (aCons (aName 1) (aCons (aName 2) aNil))) (f := xVar 2) (en := [.val (dpT E sg c), .no, .no]) (d := d) (fun x => strR (wrd sg x.2)) c fun x hx => ⟨[.val (dpT E sg c), .val (E.enc x.1), .val (strR (wrd sg x.2))], rfl, rfl⟩
  have e2 : c.map (fun x => strR (wrd sg x.2)) = (c.map fun x => wrd sg x.2).map strR := by rw [List.map_map]; rfl
  have fl : (c.map fun x => wrd sg x.2).flatten = wrd sg (c.map Prod.snd).flatten := by
    rw [wrd_flat, List.map_map]
    rfl
  rw [e2] at a2
  have jn := join_words (ws := c.map fun x => wrd sg x.2) (by rw [fl]; show (List.map _ _).length ≤ _; rw [List.length_map]; omega)
  rw [fl] at jn
  have js : itJ E sg (MT.joinP c) = .tup [.tup [.int (c.length : Int), .tup (c.map fun x => E.enc x.1)], strR (wrd sg (c.map Prod.snd).flatten)] := by
    unfold MT.joinP itJ keJ
    rw [MT.len_eq, MT.map_eq, MT.map_eq, MT.flat_eq, List.map_map]
    rfl
  have c1 : ∀ v : Unit, capL (c.map (itE E sg)).length v = some v := fun v => ev_cap (by rw [List.length_map]; omega)
  have ln : ((c.map (itE E sg)).length : Int) = (c.length : Int) := by rw [List.length_map]
  have s1 : strT? (.str "") = some "" := rfl
  have tp : tupleT [.lst (c.map fun x => E.enc x.1)] = some (.tup (c.map fun x => E.enc x.1)) := rfl
  rw [js]
  refine fn_ret (en := [.val (dpT E sg c), .no, .no]) (en' := [.val (dpT E sg c), .no, .no]) ?_
  unfold dpT at *
  clear js fl e2 hw h
  generalize strR (wrd sg (c.map Prod.snd).flatten) = w1 at *
  generalize (c.map fun x => wrd sg x.2).map strR = l1 at *
  generalize (c.map fun x => E.enc x.1) = l2 at *
  generalize c.map (itE E sg) = l3 at *
  generalize (c.length : Int) = n1 at *
  unfold g_joined
  walk_at "ev"
theorem odd_test {c : List (MT.It α)} (hc : c.length ≤ 100000) : eqT (.int (((c.map (itE E sg)).length : Int) % 2)) (.int 1) = some (.bl (MT.oddB c)) ∧ eqT (.int (((c.map (itE E sg)).length : Int) % 2)) (.int 0) = some (.bl (!MT.oddB c)) := by
  rw [ev_eqI, ev_eqI, MT.odd_eq, List.length_map]
  constructor
  · congr 2
    exact decide_eq_decide.mpr (by omega)
  · congr 2
    by_cases h : c.length % 2 = 1
    · rw [decide_eq_true h, decide_eq_false (by omega)]
      rfl
    · rw [decide_eq_false h, decide_eq_true (by omega)]
      rfl
abbrev gE (A : T) (ds : List (List (MT.It α))) (k : Int) (x3 x4 : Sl) : En := [.val A, .val (.lst (ds.map (dpT E sg))), .val (.int k), x3, x4, .no]
theorem first_loop (A : T) (ds t : List (List (MT.It α))) (dd : List (MT.It α)) (hd : MT.oddB dd = true) (few : ∀ c ∈ ds, c.length ≤ 100000) (d : D) : ∀ (post pre : List (List (MT.It α))) (f : Nat), ds = pre ++ post ++ dd :: t → (∀ x ∈ post, MT.oddB x = false) → post.length < f →
    whileL (xTest (xBin eqT (xBin modT (xCall lenT (xCons (xBin ixT (xVar 1) (xVar 2)) xNil)) (xC (.int 2))) (xC (.int 0)))) g_greater_items_0 f (gE E sg A ds (pre.length : Int) .no .no) d = .ok (.nx, gE E sg A ds ((pre.length + post.length : Nat) : Int) .no .no) d
  | [], pre, f, hs, hp, hf => by
    cases f with
    | zero => omega
    | succ f =>
      have ha : atI (ds.map (dpT E sg)) (pre.length : Int) = some (dpT E sg dd) := atI_nat' rfl (by
        rw [hs, List.append_nil, List.map_append, List.getElem?_append_right (by rw [List.length_map]; omega), List.length_map, Nat.sub_self]
        rfl)
      have ot := (odd_test E sg (c := dd) (few dd (by rw [hs]; simp))).2
      rw [hd] at ot
      have c : xTest (xBin eqT (xBin modT (xCall lenT (xCons (xBin ixT (xVar 1) (xVar 2)) xNil)) (xC (.int 2))) (xC (.int 0))) (gE E sg A ds (pre.length : Int) .no .no) d = .ok false d := by
        have two : (0 : Int) < 2 := by omega
        replace ha : atI (ds.map (dpT E sg)) (pre.length : Int) = some (.lst (dd.map (itE E sg))) := ha
        clear hs few hd hp
        dsimp only [gE]
        generalize ds.map (dpT E sg) = l1 at *
        generalize dd.map (itE E sg) = l2 at *
        generalize (pre.length : Int) = n1 at *
        replace ot : eqT (.int ((l2.length : Int) % 2)) (.int 0) = some (.bl false) := ot
        have dt : decide ((l2.length : Int) % 2 = 0) = false := by
          rw [ev_eqI] at ot
          exact T.bl.inj (Option.some.inj ot)
        clear ot
        walk_at "ev"
      unfold whileL
      simp only [c, ev_bind, ev_ok, ev_pure]
      rfl
  | x :: post, pre, f, hs, hp, hf => by
    cases f with
    | zero => omega
    | succ f =>
      have hx := hp x List.mem_cons_self
      have ha : atI (ds.map (dpT E sg)) (pre.length : Int) = some (dpT E sg x) := atI_nat' rfl (by
        rw [hs, List.append_assoc, List.map_append, List.getElem?_append_right (by rw [List.length_map]; omega), List.length_map, Nat.sub_self]
        rfl)
      have ot := (odd_test E sg (c := x) (few x (by rw [hs]; simp))).2
      rw [hx] at ot
      have ih := first_loop A ds t dd hd few d post (pre ++ [x]) f (by rw [hs]; simp) (fun y hy => hp y (List.mem_cons_of_mem _ hy)) (by rw [List.length_cons] at hf; omega)
      have e2 : ((pre ++ [x]).length : Int) = (pre.length : Int) + 1 := by rw [List.length_append]; rfl
      have e3 : (pre ++ [x]).length + post.length = pre.length + (x :: post).length := by
        have q1 : (x :: post).length = post.length + 1 := rfl
        have q2 : (pre ++ [x]).length = pre.length + 1 := by rw [List.length_append]; rfl
        omega
      rw [e2, e3] at ih
      have c : xTest (xBin eqT (xBin modT (xCall lenT (xCons (xBin ixT (xVar 1) (xVar 2)) xNil)) (xC (.int 2))) (xC (.int 0))) (gE E sg A ds (pre.length : Int) .no .no) d = .ok true d := by
        replace ha : atI (ds.map (dpT E sg)) (pre.length : Int) = some (.lst (x.map (itE E sg))) := ha
        clear hs few hd hp ih e2 e3 hf
        dsimp only [gE]
        generalize ds.map (dpT E sg) = l1 at *
        generalize x.map (itE E sg) = l2 at *
        generalize (pre.length : Int) = n1 at *
        replace ot : eqT (.int ((l2.length : Int) % 2)) (.int 0) = some (.bl true) := ot
        have dt : decide ((l2.length : Int) % 2 = 0) = true := by
          rw [ev_eqI] at ot
          exact T.bl.inj (Option.some.inj ot)
        have two : (0 : Int) < 2 := by omega
        clear ot
        walk_at "ev"
      have st : g_greater_items_0 (gE E sg A ds (pre.length : Int) .no .no) d = .ok (.nx, gE E sg A ds ((pre.length : Int) + 1) .no .no) d := rfl
      unfold whileL
      simp only [c, st, ev_bind, ev_ok]
      exact ih
abbrev gE3 (A D1 : T) (k : Int) (F : List (List (MT.It α))) (x4 : Sl) : En := [.val A, .val D1, .val (.int k), .own (.lst (F.map (dpT E sg))), x4, .no]
theorem grp_odd (A D1 : T) (k : Int) {F : List (List (MT.It α))} (hF : F.length ≤ 10000) {x : List (MT.It α)} (hx : MT.oddB x = true) (hl : x.length ≤ 10000) (d : D) :
    g_greater_items_1 (gE3 E sg A D1 k F (.val (dpT E sg x))) d = .ok (.nx, gE3 E sg A D1 k (F ++ [x]) (.val (dpT E sg x))) d := by
  have ot := (odd_test E sg (c := x) (by omega)).1
  rw [hx, ev_eqI] at ot
  have dt : decide (((x.map (itE E sg)).length : Int) % 2 = 1) = true := T.bl.inj (Option.some.inj ot)
  have c2 : capL ((F.map (dpT E sg)).length + 1) () = some () := ev_cap (by rw [List.length_map]; omega)
  have em : (F ++ [x]).map (dpT E sg) = F.map (dpT E sg) ++ [.lst (x.map (itE E sg))] := by rw [List.map_append]; rfl
  have two : (0 : Int) < 2 := by omega
  have dx : dpT E sg x = .lst (x.map (itE E sg)) := rfl
  dsimp only [gE3]
  rw [em, dx]
  clear ot em dx hx hl hF
  generalize x.map (itE E sg) = l2 at *
  generalize F.map (dpT E sg) = l1 at *
  unfold g_greater_items_1
  walk_at "ev"
theorem grp_even (A D1 : T) (k : Int) {F0 : List (List (MT.It α))} {c : List (MT.It α)} {x : List (MT.It α)} (hx : MT.oddB x = false) (hl : x.length ≤ 10000) (hc : c.length ≤ 10000) (d : D) :
    g_greater_items_1 (gE3 E sg A D1 k (F0 ++ [c]) (.val (dpT E sg x))) d = .ok (.nx, gE3 E sg A D1 k (F0 ++ [c ++ x]) (.val (dpT E sg x))) d := by
  have ot := (odd_test E sg (c := x) (by omega)).1
  rw [hx, ev_eqI] at ot
  have dt : decide (((x.map (itE E sg)).length : Int) % 2 = 1) = false := T.bl.inj (Option.some.inj ot)
  have em : (F0 ++ [c]).map (dpT E sg) = F0.map (dpT E sg) ++ [.lst (c.map (itE E sg))] := by rw [List.map_append]; rfl
  have em2 : (F0 ++ [c ++ x]).map (dpT E sg) = F0.map (dpT E sg) ++ [.lst (c.map (itE E sg) ++ x.map (itE E sg))] := by
    rw [List.map_append]
    show _ ++ [T.lst ((c ++ x).map (itE E sg))] = _
    rw [List.map_append]
  have two : (0 : Int) < 2 := by omega
  have dx : dpT E sg x = .lst (x.map (itE E sg)) := rfl
  have cp : ∀ z : T, capL ((c.map (itE E sg)).length + (x.map (itE E sg)).length) z = some z := fun z => ev_cap (by rw [List.length_map, List.length_map]; omega)
  have ixl : ∀ (l : List T) (z : T), ixN (l ++ [z]).length (-1) = some l.length := fun l z => by
    unfold ixN
    rw [if_neg (by omega), if_pos (by rw [List.length_append]; show -((l.length + 1 : Nat) : Int) ≤ -1; omega), List.length_append]
    congr 1
    show ((-1 : Int) + ((l.length + 1 : Nat) : Int)).toNat = _
    omega
  have at1 : ∀ (l : List T) (z : T), atI (l ++ [z]) (-1) = some z := fun l z => by
    unfold atI
    rw [ixl, Option.bind_some, List.getElem?_append_right (Nat.le_refl _), Nat.sub_self]
    rfl
  have sl : ∀ (l : List T) (z y : T), (l ++ [z]).set l.length y = l ++ [y] := fun l z y => by
    rw [List.set_append_right _ _ (Nat.le_refl _), Nat.sub_self]
    rfl
  have i1 : ∀ i : Int, intT1 (.int i) = some i := fun i => rfl
  dsimp only [gE3]
  rw [em, em2, dx]
  clear ot em em2 dx hx hl hc
  generalize x.map (itE E sg) = l2 at *
  generalize c.map (itE E sg) = l3 at *
  generalize F0.map (dpT E sg) = l1 at *
  unfold g_greater_items_1
  walk_at "ev"
theorem greater_ok {l : List (MT.It α)} (h : 2 ≤ l.length) (h2 : l.length ≤ 900) (hw : ∀ x ∈ l, x.2.length ≤ 100) {r : List (MT.It (Nat × List α))} (hr : MT.greaterP E.lt none some l = some r) (d : D) :
    m_greater_items [.lst (l.map (itE E sg))] d = .ok (.lst (r.map (itJ E sg))) d := by
  have dp := dips_of_ok E sg h h2 d
  have flat : (MT.dipsP E.lt l).flatten.length ≤ l.length ∧ (∀ x ∈ (MT.dipsP E.lt l).flatten, x ∈ l) ∧ (MT.dipsP E.lt l).length ≤ l.length := by
    unfold MT.dipsP
    rw [MT.rot_eq]
    obtain ⟨f1, f2, f3⟩ := cut_flat E.lt (l.drop (MT.dipE E.lt (MT.mapR Prod.fst l) + 1) ++ l.take (MT.dipE E.lt (MT.mapR Prod.fst l) + 1)) none []
    have hl : (l.drop (MT.dipE E.lt (MT.mapR Prod.fst l) + 1) ++ l.take (MT.dipE E.lt (MT.mapR Prod.fst l) + 1)).length = l.length := by rw [List.length_append, List.length_drop, List.length_take]; omega
    rw [hl] at f1 f3
    refine ⟨by simpa using f1, fun x hx => ?_, f3⟩
    rcases f2 x hx with z | z
    · cases z
    · rcases List.mem_append.mp z with z | z
      · exact List.mem_of_mem_drop z
      · exact List.mem_of_mem_take z
  unfold MT.greaterP at hr
  generalize MT.dipsP E.lt l = ds at *
  obtain ⟨fl, fm, fn⟩ := flat
  rcases split_is (none : Option (List (MT.It (Nat × List α)))) (fun d ds => some (MT.mapR MT.joinP (MT.grpR ds d))) ds [] with ⟨pre, dd, t, es, hp, hd, sp⟩ | sp
  · rw [sp] at hr
    have hr := Option.some.inj hr
    rw [List.nil_append, MT.map_eq] at hr
    subst hr
    have few : ∀ c ∈ ds, c.length ≤ 900 := fun c hc => by have := part_len hc; omega
    have fw := first_loop E sg (.lst (l.map (itE E sg))) ds t dd hd (fun c hc => by have := few c hc; omega) d pre [] 1000000 es hp (by
      have := congrArg List.length es
      rw [List.length_append] at this
      omega)
    have z0 : (([] : List (List (MT.It α))).length : Int) = 0 := rfl
    have z1 : ([] : List (List (MT.It α))).length + pre.length = pre.length := by rw [List.length_nil, Nat.zero_add]
    rw [z0, z1] at fw
    have rl : (ds.drop pre.length ++ ds.take pre.length) = dd :: (t ++ pre) := by
      rw [es, List.drop_left' rfl, List.take_left' rfl]
      rfl
    have rlen : (dd :: (t ++ pre)).length ≤ 900 := by
      rw [← rl, List.length_append, List.length_drop, List.length_take]
      omega
    have mem : ∀ c ∈ dd :: (t ++ pre), c ∈ ds := fun c hc => by
      rw [es]
      rcases List.mem_cons.mp hc with rfl | hc
      · simp
      · rcases List.mem_append.mp hc with hc | hc
        · simp [hc]
        · simp [hc]
    have tot : (dd :: (t ++ pre)).flatten.length = ds.flatten.length := by
      rw [es, List.flatten_cons, List.flatten_append, List.flatten_append, List.flatten_cons, List.length_append, List.length_append, List.length_append, List.length_append]
      omega
    obtain ⟨en', d', e, rfl, F, x4, rfl, fin⟩ := forL_inv (dpT E sg) (dd :: (t ++ pre)) (a := aName 4) (g := g_greater_items_1)
      (fun pr en d' => d' = d ∧ ∃ F x4, en = gE3 E sg (.lst (l.map (itE E sg))) (.lst (ds.map (dpT E sg))) (pre.length : Int) F x4 ∧ ((pr = [] ∧ F = []) ∨ ∃ F0 c, F = F0 ++ [c] ∧ F.flatten = pr.flatten ∧ F.length ≤ pr.length ∧ ∀ post, dd :: (t ++ pre) = pr ++ post → F0 ++ MT.grpR post c = MT.grpR (t ++ pre) dd))
      (en := gE3 E sg (.lst (l.map (itE E sg))) (.lst (ds.map (dpT E sg))) (pre.length : Int) [] .no) (d := d) ⟨rfl, [], .no, rfl, .inl ⟨rfl, rfl⟩⟩ fun pr x post en d1 hx ⟨hd1, F, x4, he, fin⟩ => by
        subst he
        subst hd1
        have xm : x ∈ ds := mem x (by rw [hx]; simp)
        have xl := few x xm
        have pl : pr.length ≤ 900 := by
          have := congrArg List.length hx
          rw [List.length_append] at this
          omega
        have pf : pr.flatten.length ≤ l.length := by
          have := congrArg (fun z => z.flatten.length) hx
          simp only [List.flatten_append, List.length_append] at this
          omega
        rcases fin with ⟨rfl, rfl⟩ | ⟨F0, c, rfl, ff, fl2, fin⟩
        · have hx' : dd = x ∧ t ++ pre = post := List.cons.inj hx
          obtain ⟨rfl, rfl⟩ := hx'
          refine ⟨_, rfl, _, d1, grp_odd E sg _ _ _ (F := []) (Nat.zero_le _) hd (by omega) d1, rfl, [dd], _, rfl, .inr ⟨[], dd, rfl, rfl, Nat.le_refl _, fun post hp => ?_⟩⟩
          have hp : t ++ pre = post := (List.cons.inj hp).2
          rw [hp]
          rfl
        · have cl : c.length ≤ 900 := by
            have := part_len (ps := F0 ++ [c]) (c := c) (by simp)
            rw [ff] at this
            omega
          cases ox : MT.oddB x with
          | true =>
            refine ⟨_, rfl, _, d1, grp_odd E sg _ _ _ (F := F0 ++ [c]) (by omega) ox (by omega) d1, rfl, (F0 ++ [c]) ++ [x], _, rfl, .inr ⟨F0 ++ [c], x, rfl, by rw [List.flatten_append, ff, List.flatten_append], by
              have q1 : ((F0 ++ [c]) ++ [x]).length = (F0 ++ [c]).length + 1 := by rw [List.length_append]; rfl
              have q2 : (pr ++ [x]).length = pr.length + 1 := by rw [List.length_append]; rfl
              omega, fun post2 hp2 => ?_⟩⟩
            have := fin (x :: post2) (by rw [hp2, List.append_assoc]; rfl)
            rw [MT.grp_cons, ox, if_pos rfl] at this
            rw [← this, List.append_assoc]
            rfl
          | false =>
            refine ⟨_, rfl, _, d1, grp_even E sg _ _ _ (F0 := F0) (c := c) ox (by omega) (by omega) d1, rfl, F0 ++ [c ++ x], _, rfl, .inr ⟨F0, c ++ x, rfl, ?_, by
              have q1 : (F0 ++ [c ++ x]).length = F0.length + 1 := by rw [List.length_append]; rfl
              have q2 : (pr ++ [x]).length = pr.length + 1 := by rw [List.length_append]; rfl
              have q3 : (F0 ++ [c]).length = F0.length + 1 := by rw [List.length_append]; rfl
              omega, fun post2 hp2 => ?_⟩⟩
            · rw [List.flatten_append, List.flatten_append, ← ff, List.flatten_append]
              simp
            · have := fin (x :: post2) (by rw [hp2, List.append_assoc]; rfl)
              rw [MT.grp_cons, ox, if_neg Bool.false_ne_true] at this
              exact this
    rcases fin with ⟨z, _⟩ | ⟨F0, c, hF, ff, fl2, fin⟩
    · cases z
    have fin := fin [] (List.append_nil _).symm
    have g0 : F0 ++ MT.grpR [] c = F := by rw [hF]; rfl
    rw [g0] at fin
    rw [← fin]
    have pfl : ∀ c ∈ F, c.length ≤ 900 ∧ (c.map Prod.snd).flatten.length ≤ 1000000 := fun c hc => by
      have := part_len hc
      rw [ff, tot] at this
      refine ⟨by omega, ?_⟩
      have cm : ∀ x ∈ c, x.2.length ≤ 100 := fun x hx => hw x (fm x (by
        have h1 : x ∈ F.flatten := List.mem_flatten.mpr ⟨c, hc, hx⟩
        rw [ff] at h1
        obtain ⟨b, hb, hxb⟩ := List.mem_flatten.mp h1
        exact List.mem_flatten.mpr ⟨b, mem b hb, hxb⟩))
      have sum : ∀ c : List (MT.It α), (∀ x ∈ c, x.2.length ≤ 100) → (c.map Prod.snd).flatten.length ≤ c.length * 100 := fun c => by
        induction c with
        | nil => exact fun _ => Nat.le_refl _
        | cons x c ih =>
          intro h
          have h1 := h x List.mem_cons_self
          have h2 := ih fun y hy => h y (List.mem_cons_of_mem _ hy)
          rw [List.map_cons, List.flatten_cons, List.length_append, List.length_cons, Nat.succ_mul]
          omega
      have := sum c cm
      have : c.length * 100 ≤ 900 * 100 := Nat.mul_le_mul_right _ (by omega)
      omega
    have lc := lcL_all (dpT E sg) (a := aName 5) (f := xFn m_joined (xCons (xVar 5) xNil)) (en := [.val (.lst (l.map (itE E sg))), .val (.lst (ds.map (dpT E sg))), .val (.int (pre.length : Int)), .val (.lst (F.map (dpT E sg))), x4, .no]) (d := d') (fun c => itJ E sg (MT.joinP c)) F fun c hc => by
      obtain ⟨p1, p2⟩ := pfl c hc
      have jo := joined_ok E sg (c := c) (by omega) p2 d'
      refine ⟨[.val (.lst (l.map (itE E sg))), .val (.lst (ds.map (dpT E sg))), .val (.int (pre.length : Int)), .val (.lst (F.map (dpT E sg))), x4, .val (dpT E sg c)], rfl, ?_⟩
      clear e fw dp
      generalize dpT E sg c = c' at *
      generalize itJ E sg (MT.joinP c) = j' at *
      generalize F.map (dpT E sg) = l1 at *
      generalize ds.map (dpT E sg) = l2 at *
      generalize l.map (itE E sg) = l3 at *
      generalize m_joined = R at *
      walk_at "ev"
    have em : (F.map MT.joinP).map (itJ E sg) = F.map fun c => itJ E sg (MT.joinP c) := by rw [List.map_map]; rfl
    rw [em]
    have rm : (dd :: (t ++ pre)).map (dpT E sg) = (ds.map (dpT E sg)).drop pre.length ++ (ds.map (dpT E sg)).take pre.length := by rw [← rl, List.map_append, List.map_drop, List.map_take]
    rw [rm] at e
    have s1 : slT (.lst (ds.map (dpT E sg))) (some (pre.length : Int)) none = some (.lst ((ds.map (dpT E sg)).drop pre.length)) := slT_lst_from _ _
    have s2 : slT (.lst (ds.map (dpT E sg))) none (some (pre.length : Int)) = some (.lst ((ds.map (dpT E sg)).take pre.length)) := slT_lst_to _ _
    have cl : ∀ z : T, capL (((ds.map (dpT E sg)).drop pre.length).length + ((ds.map (dpT E sg)).take pre.length).length) z = some z := fun z => ev_cap (by rw [List.length_drop, List.length_take, List.length_map]; omega)
    have cl2 : ∀ z : Unit, capL (((ds.map (dpT E sg)).drop pre.length) ++ ((ds.map (dpT E sg)).take pre.length)).length z = some z := fun z => ev_cap (by rw [List.length_append, List.length_drop, List.length_take, List.length_map]; omega)
    have cF : ∀ z : Unit, capL (F.map (dpT E sg)).length z = some z := fun z => ev_cap (by rw [List.length_map]; omega)
    have e1 : ([] : List (List (MT.It α))).map (dpT E sg) = [] := rfl
    refine fn_ret (en := [.val (.lst (l.map (itE E sg))), .no, .no, .no, .no, .no]) (en' := [.val (.lst (l.map (itE E sg))), .val (.lst (ds.map (dpT E sg))), .val (.int (pre.length : Int)), .val (.lst (F.map (dpT E sg))), x4, .no]) ?_
    dsimp only [gE3, gE] at e fw
    rw [e1] at e
    clear e1 fin hF ff fl2 pfl rm rl rlen mem tot few hp hd sp es fl fm fn hw h h2 em g0
    generalize (F.map fun c => itJ E sg (MT.joinP c)) = l9 at *
    generalize (ds.map (dpT E sg)).drop pre.length = u1 at *
    generalize (ds.map (dpT E sg)).take pre.length = u2 at *
    generalize F.map (dpT E sg) = u4 at *
    generalize ds.map (dpT E sg) = u3 at *
    generalize l.map (itE E sg) = u5 at *
    generalize (pre.length : Int) = k0 at *
    unfold g_greater_items g_greater_items_t3 g_greater_items_t2 g_greater_items_t1 g_greater_items_t0
    generalize g_greater_items_0 = G0 at *
    generalize g_greater_items_1 = G1 at *
    generalize m_joined = R at *
    generalize m_dips_of = R2 at *
    walk_at "ev"
  · rw [sp] at hr
    cases hr
end
end K_k50
open PySem PySem.Spec PyProof.Rows L2 TL
namespace K_k50
/-! marked_turn -/
theorem split_k {β γ δ : Type} (z : γ) (k : δ → γ) (f : List β → List (List β) → δ) : ∀ (ds pre : List (List β)), MT.splitE z (fun d ds => k (f d ds)) ds pre = (MT.splitE none (fun d ds => some (f d ds)) ds pre).elim z k
  | [], _ => rfl
  | d :: t, pre => by
    rw [MT.split_cons, MT.split_cons]
    split
    · rfl
    · exact split_k z k f t (pre ++ [d])
theorem greater_k {α γ : Type} (lt : α → α → Bool) (z : γ) (k : List (MT.It (Nat × List α)) → γ) (l : List (MT.It α)) : MT.greaterP lt z k l = (MT.greaterP lt none some l).elim z k := by
  unfold MT.greaterP
  exact split_k z k (fun d ds => MT.mapR MT.joinP (MT.grpR ds d)) _ _
theorem grp_len {β : Type} : ∀ (ds : List (List β)) (cur : List β), (MT.grpR ds cur).length ≤ ds.length + 1
  | [], _ => Nat.le_refl _
  | d :: ds, cur => by
    rw [MT.grp_cons]
    have h1 := grp_len ds d
    have h2 := grp_len ds (cur ++ d)
    split
    · rw [List.length_cons, List.length_cons]
      omega
    · rw [List.length_cons]
      omega
theorem greater_parts {α : Type} {lt : α → α → Bool} {l : List (MT.It α)} {r : List (MT.It (Nat × List α))} (hr : MT.greaterP lt none some l = some r) :
    ∃ ps : List (List (MT.It α)), r = ps.map MT.joinP ∧ ps.length ≤ l.length ∧ ∀ c ∈ ps, c.length ≤ l.length ∧ ∀ x ∈ c, x ∈ l := by
  have flat : (MT.dipsP lt l).flatten.length ≤ l.length ∧ (∀ x ∈ (MT.dipsP lt l).flatten, x ∈ l) ∧ (MT.dipsP lt l).length ≤ l.length := by
    unfold MT.dipsP
    rw [MT.rot_eq]
    obtain ⟨f1, f2, f3⟩ := cut_flat lt (l.drop (MT.dipE lt (MT.mapR Prod.fst l) + 1) ++ l.take (MT.dipE lt (MT.mapR Prod.fst l) + 1)) none []
    have hl : (l.drop (MT.dipE lt (MT.mapR Prod.fst l) + 1) ++ l.take (MT.dipE lt (MT.mapR Prod.fst l) + 1)).length = l.length := by rw [List.length_append, List.length_drop, List.length_take]; omega
    rw [hl] at f1 f3
    refine ⟨by simpa using f1, fun x hx => ?_, f3⟩
    rcases f2 x hx with z | z
    · cases z
    · rcases List.mem_append.mp z with z | z
      · exact List.mem_of_mem_drop z
      · exact List.mem_of_mem_take z
  unfold MT.greaterP at hr
  generalize MT.dipsP lt l = ds at *
  obtain ⟨fl, fm, fn⟩ := flat
  rcases split_is (none : Option (List (MT.It (Nat × List α)))) (fun d ds => some (MT.mapR MT.joinP (MT.grpR ds d))) ds [] with ⟨pre, dd, t, es, hp, hd, sp⟩ | sp
  · rw [sp] at hr
    have hr := Option.some.inj hr
    rw [List.nil_append, MT.map_eq] at hr
    have gl := grp_len (t ++ pre) dd
    have tot : (dd ++ (t ++ pre).flatten).length = ds.flatten.length := by
      rw [es, List.flatten_append, List.flatten_append, List.flatten_cons, List.length_append, List.length_append, List.length_append, List.length_append]
      omega
    refine ⟨_, hr.symm, ?_, fun c hc => ⟨?_, fun x hx => ?_⟩⟩
    · have := congrArg List.length es
      rw [List.length_append, List.length_cons] at this
      rw [List.length_append] at gl
      omega
    · have := part_len hc
      rw [grp_flat, tot] at this
      omega
    · have h1 : x ∈ (MT.grpR (t ++ pre) dd).flatten := List.mem_flatten.mpr ⟨c, hc, hx⟩
      rw [grp_flat] at h1
      refine fm x ?_
      rw [es, List.flatten_append, List.flatten_cons]
      rcases List.mem_append.mp h1 with h1 | h1
      · simp [h1]
      · rw [List.flatten_append] at h1
        rcases List.mem_append.mp h1 with h1 | h1
        · simp only [List.mem_append]
          exact .inr (.inr h1)
        · simp only [List.mem_append]
          exact .inl h1
  · rw [sp] at hr
    cases hr
theorem words_sum {α : Type} {m : Nat} : ∀ c : List (MT.It α), (∀ x ∈ c, x.2.length ≤ m) → (c.map Prod.snd).flatten.length ≤ c.length * m
  | [], _ => Nat.zero_le _
  | x :: c, h => by
    have h1 := h x List.mem_cons_self
    have h2 := words_sum c fun y hy => h y (List.mem_cons_of_mem _ hy)
    rw [List.map_cons, List.flatten_cons, List.length_append, List.length_cons, Nat.succ_mul]
    omega
theorem whileL_no {c : En → M Bool} {g : En → MS} {n : Nat} {en : En} {d : D} (h : c en d = .ok false d) : whileL c g (n + 1) en d = .ok (.nx, en) d := by
  unfold whileL
  simp only [h, ev_bind, ev_ok, ev_pure]
theorem whileL_go {c : En → M Bool} {g : En → MS} {n : Nat} {en en' : En} {d : D} (h : c en d = .ok true d) (s : g en d = .ok (.nx, en') d) : whileL c g (n + 1) en d = whileL c g n en' d := by
  conv => lhs; unfold whileL
  simp only [h, s, ev_bind, ev_ok]
def sgs : List (List Nat) := [[97, 98], [113, 120], [109, 111, 122], [98, 99, 100, 101], [102, 107, 108, 112, 121]]
theorem sg_index {sg : List Nat} (h : sg ∈ sgs) {i : Nat} (hi : i < sg.length) : sindexT (strR sg) (strR [sg.getD i 0]) = some (.int (i : Int)) := by
  have : ∀ sg ∈ sgs, ∀ i, i < sg.length → (Builtin.Str.occurrences ⟨sg.toArray⟩ ⟨#[sg.getD i 0]⟩ 0 (Str.length ⟨sg.toArray⟩) 1).head? = some i := by decide +kernel
  have := this sg h i hi
  show (match Builtin.Str.occurrences ⟨sg.toArray⟩ ⟨#[sg.getD i 0]⟩ 0 (Str.length ⟨sg.toArray⟩) 1 with
    | i :: _ => some (T.int ((i : Nat) : Int))
    | [] => none) = _
  generalize Builtin.Str.occurrences ⟨sg.toArray⟩ ⟨#[sg.getD i 0]⟩ 0 (Str.length ⟨sg.toArray⟩) 1 = o at *
  cases o with
  | nil => cases this
  | cons a o =>
    cases this
    rfl
abbrev mE (a b : T) (L : List T) : En := [.val a, .val b, .val (.lst L), .no]
theorem mt_cond (a b : T) (L : List T) (d : D) : xTest (xBin gtT (xCall lenT (xCons (xVar 2) xNil)) (xC (.int 1))) (mE a b L) d = .ok (decide ((1 : Int) < (L.length : Int))) d := rfl
theorem one_more {α β : Type} (l : List α) (one : α → β) (more : β) : MT.oneR l one more = (match l with | [x] => one x | _ => more) := by
  match l with
  | [] => rfl
  | [_] => rfl
  | _ :: _ :: _ => rfl
theorem mt_step {α : Type} (E : KC α) (sg : List Nat) (a b : T) {l : List (MT.It α)} (h : 2 ≤ l.length) (h2 : l.length ≤ 900) (hw : ∀ x ∈ l, x.2.length ≤ 100) {r : List (MT.It (Nat × List α))} (hr : MT.greaterP E.lt none some l = some r) (d : D) :
    g_marked_turn_0 (mE a b (l.map (itE E sg))) d = .ok (.nx, mE a b (r.map (itJ E sg))) d := by
  have g := greater_ok E sg h h2 hw hr d
  dsimp only [mE]
  clear h h2 hw hr
  generalize l.map (itE E sg) = l1 at *
  generalize r.map (itJ E sg) = l2 at *
  unfold g_marked_turn_0
  generalize m_greater_items = R at *
  walk_at "ev"
theorem marked_turn_ok {sg : List Nat} (hs : sg ∈ sgs) {w : List Nat} (hw : ∀ c ∈ w, c < sg.length) (h1 : 1 ≤ w.length) (h2 : w.length ≤ 100) {v : List Nat} (hv : MT.mtP w = some v) (d : D) :
    m_marked_turn [strR sg, strR (wrd sg w)] d = .ok (strR (wrd sg v)) d := by
  have wl : (wrd sg w).length = w.length := List.length_map _
  have it : ∀ c : Nat, itE kc0 sg (c, [c]) = .tup [.int (c : Int), strR [sg.getD c 0]] := fun c => rfl
  have a1 := lcL_all (fun i : Nat => strR [sg.getD i 0]) (a := aName 3) (f := xTup (xCons (xSIx (xVar 0) (xVar 3)) (xCons (xVar 3) xNil))) (en := [.val (strR sg), .val (strR (wrd sg w)), .no, .no]) (d := d) (fun c => itE kc0 sg (c, [c])) w fun c hc => by
    have ix := sg_index hs (hw c hc)
    refine ⟨[.val (strR sg), .val (strR (wrd sg w)), .no, .val (strR [sg.getD c 0])], rfl, ?_⟩
    have st : strT? (strR sg) = some ⟨sg.toArray⟩ := rfl
    have sr : T.str ⟨sg.toArray⟩ = strR sg := rfl
    rw [it]
    clear hw h1 h2 hv wl
    show (xTup (xCons (xSIx (xVar 0) (xVar 3)) (xCons (xVar 3) xNil))) [.val (strR sg), .val (strR (wrd sg w)), .no, .val (strR [sg.getD c 0])] d = _
    simp only [ev_Tup, ev_Cons, ev_Nil, ev_SIx, ev_Var, ev_get0, ev_getS, ev_bind, ev_ok, ev_opt, ev_pure, st, sr, ix]
    rfl
  have e1 : w.map (fun i : Nat => strR [sg.getD i 0]) = (wrd sg w).map fun c => strR [c] := by
    unfold wrd
    rw [List.map_map]
    rfl
  rw [e1] at a1
  have e2 : w.map (fun c => itE kc0 sg (c, [c])) = (MT.itsP w).map (itE kc0 sg) := by
    unfold MT.itsP
    rw [MT.map_eq, List.map_map]
    rfl
  rw [e2] at a1
  have it2 := ev_strItems (wrd sg w)
  have il : (MT.itsP w).length = w.length := by
    unfold MT.itsP
    rw [MT.map_eq, List.length_map]
  have iw : ∀ x ∈ MT.itsP w, x.2.length ≤ 1 := fun x hx => by
    unfold MT.itsP at hx
    rw [MT.map_eq] at hx
    obtain ⟨c, _, rfl⟩ := List.mem_map.mp hx
    exact Nat.le_refl _
  have fin : ∃ k : T, whileL (xTest (xBin gtT (xCall lenT (xCons (xVar 2) xNil)) (xC (.int 1)))) g_marked_turn_0 1000000 (mE (strR sg) (strR (wrd sg w)) ((MT.itsP w).map (itE kc0 sg))) d = .ok (.nx, mE (strR sg) (strR (wrd sg w)) [.tup [k, strR (wrd sg v)]]) d := by
    have hv0 := hv
    unfold MT.mtP at hv
    rw [one_more] at hv
    by_cases z : w.length = 1
    · obtain ⟨c, rfl⟩ := List.length_eq_one_iff.mp z
      have hv : some [c] = some v := hv
      cases hv
      exact ⟨.int (c : Int), whileL_no (n := 999999) rfl⟩
    · have hv : MT.greaterP Nat.blt none (fun l => MT.oneR l (fun x => some x.2) (MT.greaterP MT.lt1 none (fun l => MT.oneR l (fun x => some x.2) none) l)) (MT.itsP w) = some v := by
        match w, z, hv with
        | [], _, hv => exact hv
        | [c], z, _ => exact absurd rfl z
        | _ :: _ :: _, _, hv => exact hv
      rw [greater_k] at hv
      cases g1 : MT.greaterP Nat.blt none some (MT.itsP w) with
      | none =>
        rw [g1] at hv
        cases hv
      | some r =>
        rw [g1] at hv
        have s1 := mt_step kc0 sg (strR sg) (strR (wrd sg w)) (l := MT.itsP w) (by omega) (by omega) (fun x hx => by have := iw x hx; omega) g1 d
        have c1 := mt_cond (strR sg) (strR (wrd sg w)) ((MT.itsP w).map (itE kc0 sg)) d
        rw [List.length_map, il, decide_eq_true (by omega)] at c1
        rw [whileL_go (n := 999999) c1 s1]
        have ej : r.map (itJ kc0 sg) = r.map (itE kc1 sg) := rfl
        rw [ej]
        have hv : MT.oneR r (fun x => some x.2) (MT.greaterP MT.lt1 none (fun l => MT.oneR l (fun x => some x.2) none) r) = some v := hv
        rw [one_more] at hv
        obtain ⟨ps, rfl, pl, pc⟩ := greater_parts g1
        have rw1 : ∀ x ∈ ps.map MT.joinP, x.2.length ≤ 100 := fun x hx => by
          obtain ⟨c, hc, rfl⟩ := List.mem_map.mp hx
          obtain ⟨q1, q2⟩ := pc c hc
          have e : (MT.joinP c).2 = (c.map Prod.snd).flatten := by
            unfold MT.joinP
            rw [MT.map_eq, MT.map_eq, MT.flat_eq]
          rw [e]
          have := words_sum (m := 1) c fun x hx => iw x (q2 x hx)
          omega
        have rl : (ps.map MT.joinP).length ≤ 900 := by rw [List.length_map]; omega
        generalize ps.map MT.joinP = r at *
        by_cases z2 : r.length = 1
        · obtain ⟨x, rfl⟩ := List.length_eq_one_iff.mp z2
          have hv : some x.2 = some v := hv
          cases hv
          exact ⟨kc1.enc x.1, whileL_no (n := 999998) rfl⟩
        · have hv : MT.greaterP MT.lt1 none (fun l => MT.oneR l (fun x => some x.2) none) r = some v := by
            match r, z2, hv with
            | [], _, hv => exact hv
            | [c], z, _ => exact absurd rfl z
            | _ :: _ :: _, _, hv => exact hv
          rw [greater_k] at hv
          cases g2 : MT.greaterP MT.lt1 none some r with
          | none =>
            rw [g2] at hv
            cases hv
          | some r2 =>
            rw [g2] at hv
            have r0 : 2 ≤ r.length := by
              match r, z2, g2 with
              | [], _, g2 => cases g2
              | [c], z, _ => exact absurd rfl z
              | _ :: _ :: _, _, _ => exact Nat.le_add_left _ _
            have s2 := mt_step kc1 sg (strR sg) (strR (wrd sg w)) (l := r) r0 rl rw1 g2 d
            have c2 := mt_cond (strR sg) (strR (wrd sg w)) (r.map (itE kc1 sg)) d
            rw [List.length_map, decide_eq_true (by omega)] at c2
            rw [whileL_go (n := 999998) c2 s2]
            have hv : MT.oneR r2 (fun x => some x.2) none = some v := hv
            rw [one_more] at hv
            match r2, hv with
            | [x], hv =>
              have hv : some x.2 = some v := hv
              cases hv
              exact ⟨keJ kc1 x.1, whileL_no (n := 999997) rfl⟩
  obtain ⟨k, fin⟩ := fin
  have c1 : ∀ v : Unit, capL ((wrd sg w).map fun c => strR [c]).length v = some v := fun v => ev_cap (by rw [List.length_map, wl]; omega)
  refine fn_ret (en := [.val (strR sg), .val (strR (wrd sg w)), .no, .no]) (en' := mE (strR sg) (strR (wrd sg w)) [.tup [k, strR (wrd sg v)]]) ?_
  clear hv hw hs wl it e1 e2 il iw h1 h2
  dsimp only [mE] at fin ⊢
  generalize (MT.itsP w).map (itE kc0 sg) = l1 at *
  generalize (wrd sg w).map (fun c => strR [c]) = l2 at *
  generalize strR (wrd sg v) = v1 at *
  generalize strR (wrd sg w) = w1 at *
  generalize strR sg = s1 at *
  unfold g_marked_turn g_marked_turn_t0
  generalize g_marked_turn_0 = G at *
  walk_at "ev"
end K_k50
open PySem PySem.Spec PyProof.Rows L2 TL
namespace K_k50
/-! turns of a word -/
def trn (w : List Nat) : List (List Nat) := (List.range w.length).map fun k => RG.rot k w
theorem trn_mem {w v : List Nat} : v ∈ trn w ↔ ∃ k, k < w.length ∧ RG.rot k w = v := by
  unfold trn
  rw [List.mem_map]
  constructor
  · rintro ⟨k, hk, e⟩
    exact ⟨k, List.mem_range.mp hk, e⟩
  · rintro ⟨k, hk, e⟩
    exact ⟨k, List.mem_range.mpr hk, e⟩
theorem trn_len (w : List Nat) : (trn w).length = w.length := by
  unfold trn
  rw [List.length_map, List.length_range]
theorem Wo.rot {w : List Nat} (h : Wo w) (k : Nat) : Wo (RG.rot k w) := fun c hc => by
  unfold RG.rot at hc
  rcases List.mem_append.mp hc with hc | hc
  · exact h c (List.mem_of_mem_drop hc)
  · exact h c (List.mem_of_mem_take hc)
theorem trn_wo {w : List Nat} (h : Wo w) : ∀ v ∈ trn w, Wo v := fun v hv => by
  obtain ⟨k, _, rfl⟩ := trn_mem.mp hv
  exact Wo.rot h k
theorem turn_at {w : List Nat} (hw : w.length ≤ 1000) (x0 : Sl) (k : Nat) (d : D) : (xBin addT (xSl (xVar 0) (xPart (xVar 1)) xNoPart) (xSl (xVar 0) xNoPart (xPart (xVar 1)))) [.val (strR w), .val (.int (k : Int))] d = .ok (strR (RG.rot k w)) d := by
  have s1 := ev_strFrom (l := w) k (by omega)
  have s2 := ev_strTo (l := w) k (by omega)
  have ad : addT (strR (w.drop k)) (strR (w.take k)) = some (strR (RG.rot k w)) := by
    rw [ev_strAdd, ev_cap (by rw [List.length_drop, List.length_take]; omega)]
    rfl
  clear hw
  generalize strR (w.drop k) = t1 at *
  generalize strR (w.take k) = t2 at *
  generalize strR (RG.rot k w) = t3 at *
  generalize strR w = t4 at *
  generalize (k : Int) = n at *
  walk_at "ev"
theorem turns_lc {w : List Nat} (hw : w.length ≤ 1000) (d : D) : lcL (aName 1) xYes (xBin addT (xSl (xVar 0) (xPart (xVar 1)) xNoPart) (xSl (xVar 0) xNoPart (xPart (xVar 1)))) [.val (strR w), .no] ((List.range w.length).map fun (k : Nat) => T.int (k : Int)) d = .ok ((trn w).map strR) d := by
  have q := lcL_all (fun (k : Nat) => T.int (k : Int)) (a := aName 1) (f := xBin addT (xSl (xVar 0) (xPart (xVar 1)) xNoPart) (xSl (xVar 0) xNoPart (xPart (xVar 1)))) (en := [.val (strR w), .no]) (d := d) (fun k => strR (RG.rot k w)) (List.range w.length) fun k _ => ⟨[.val (strR w), .val (.int (k : Int))], rfl, turn_at hw .no k d⟩
  rw [q]
  unfold trn
  rw [List.map_map]
  rfl
theorem law_turns_ok {w : List Nat} (hw : w.length ≤ 1000) (d : D) : m__law_turns [strR w] d = .ok (.lst ((trn w).map strR)) d := by
  have lc := turns_lc hw d
  have r1 := rng1_nat (n := w.length) (by omega)
  have ln := ev_strLen (l := w) (by omega)
  have c1 : ∀ v : Unit, capL ((List.range w.length).map fun (k : Nat) => T.int (k : Int)).length v = some v := fun v => ev_cap (by rw [List.length_map, List.length_range]; omega)
  refine fn_ret (en := [.val (strR w), .no]) (en' := [.val (strR w), .no]) ?_
  clear hw
  generalize (List.range w.length).map (fun (k : Nat) => T.int (k : Int)) = l1 at *
  generalize (trn w).map strR = l2 at *
  generalize strR w = t4 at *
  generalize (w.length : Int) = n at *
  unfold g__law_turns
  walk_at "ev"
theorem all_turns_ok {w : List Nat} (h1 : 1 ≤ w.length) (hw : w.length ≤ 1000) (d : D) : m_all_turns [strR w] d = .ok (.lst ((trn w).map strR)) d := by
  have lc := turns_lc hw d
  have r1 := rng1_nat (n := w.length) (by omega)
  have ln := ev_strLen (l := w) (by omega)
  have mx : maxT [.int (w.length : Int), .int 1] = some (.int (w.length : Int)) := by
    rw [ev_max2, if_neg (by omega)]
  have c1 : ∀ v : Unit, capL ((List.range w.length).map fun (k : Nat) => T.int (k : Int)).length v = some v := fun v => ev_cap (by rw [List.length_map, List.length_range]; omega)
  refine fn_ret (en := [.val (strR w), .no]) (en' := [.val (strR w), .no]) ?_
  clear hw h1
  generalize (List.range w.length).map (fun (k : Nat) => T.int (k : Int)) = l1 at *
  generalize (trn w).map strR = l2 at *
  generalize strR w = t4 at *
  generalize (w.length : Int) = n at *
  unfold g_all_turns
  walk_at "ev"
/-! the least one -/
def minW (x : List Nat) (xs : List (List Nat)) : List Nat := xs.foldl (fun a y => if y < a then y else a) x
theorem minW_facts : ∀ (xs : List (List Nat)) (x : List Nat), minW x xs ∈ x :: xs ∧ ∀ y ∈ x :: xs, ¬ y < minW x xs
  | [], x => ⟨List.mem_cons_self, fun y hy => by
    rw [List.mem_singleton.mp hy]
    exact List.lt_irrefl _⟩
  | y :: xs, x => by
    have e : minW x (y :: xs) = minW (if y < x then y else x) xs := rfl
    obtain ⟨i1, i2⟩ := minW_facts xs (if y < x then y else x)
    rw [e]
    by_cases z : y < x
    · rw [if_pos z] at i1 i2 ⊢
      refine ⟨List.mem_cons_of_mem _ i1, fun u hu => ?_⟩
      rcases List.mem_cons.mp hu with rfl | hu
      · intro q
        exact i2 y List.mem_cons_self (List.lt_trans z q)
      · exact i2 u hu
    · rw [if_neg z] at i1 i2 ⊢
      refine ⟨?_, fun u hu => ?_⟩
      · rcases List.mem_cons.mp i1 with h | h
        · rw [h]
          exact List.mem_cons_self
        · exact List.mem_cons_of_mem _ (List.mem_cons_of_mem _ h)
      · rcases List.mem_cons.mp hu with rfl | hu
        · exact i2 u List.mem_cons_self
        · rcases List.mem_cons.mp hu with rfl | hu
          · intro q
            have h1 := i2 x List.mem_cons_self
            exact h1 (List.lt_of_le_of_lt (List.not_lt.mp z) q)
          · exact i2 u (List.mem_cons_of_mem _ hu)
theorem minOf_eq : ∀ (xs : List (List Nat)) (x : List Nat), PySem.W.minOf (⟨x.toArray⟩ : Str) (xs.map fun w => (⟨w.toArray⟩ : Str)) = ⟨(minW x xs).toArray⟩
  | [], x => rfl
  | y :: xs, x => by
    have ih := minOf_eq xs (if y < x then y else x)
    have e : PySem.W.minOf (⟨x.toArray⟩ : Str) ((y :: xs).map fun w => (⟨w.toArray⟩ : Str)) = PySem.W.minOf (if decide (y < x) = true then (⟨y.toArray⟩ : Str) else ⟨x.toArray⟩) (xs.map fun w => (⟨w.toArray⟩ : Str)) := rfl
    have e2 : minW x (y :: xs) = minW (if y < x then y else x) xs := rfl
    rw [e, e2, ← ih]
    congr 1
    by_cases z : y < x
    · rw [if_pos z, decide_eq_true z, if_pos rfl]
    · rw [if_neg z, decide_eq_false z, if_neg Bool.false_ne_true]
def leastW (w : List Nat) : List Nat := match trn w with
  | [] => []
  | x :: xs => minW x xs
theorem least_facts {w : List Nat} (h : 1 ≤ w.length) : leastW w ∈ trn w ∧ ∀ y ∈ trn w, ¬ y < leastW w := by
  unfold leastW
  have := trn_len w
  cases e : trn w with
  | nil =>
    rw [e] at this
    simp at this
    omega
  | cons x xs => exact minW_facts xs x
theorem least_turn_ok {w : List Nat} (h1 : 1 ≤ w.length) (hw : w.length ≤ 1000) (d : D) : m_least_turn [strR w] d = .ok (strR (leastW w)) d := by
  have al := all_turns_ok h1 hw d
  have mn : minT [.lst ((trn w).map strR)] = some (strR (leastW w)) := by
    have := trn_len w
    unfold leastW
    cases e : trn w with
    | nil =>
      rw [e] at this
      simp at this
      omega
    | cons x xs =>
      show (strsOf (xs.map strR)).map (fun ys => T.str (PySem.W.minOf ⟨x.toArray⟩ ys)) = _
      rw [strsOf_strs]
      show some (T.str (PySem.W.minOf ⟨x.toArray⟩ (xs.map fun w => (⟨w.toArray⟩ : Str)))) = _
      rw [minOf_eq]
      rfl
  refine fn_ret (en := [.val (strR w)]) (en' := [.val (strR w)]) ?_
  clear h1 hw
  generalize (trn w).map strR = l2 at *
  generalize strR (leastW w) = t3 at *
  generalize strR w = t4 at *
  unfold g_least_turn
  generalize m_all_turns = R at *
  walk_at "ev"
def repW (w : List Nat) : Bool := decide (w ∈ (trn w).drop 1)
theorem rep_iff {w : List Nat} : repW w = true ↔ ∃ k, 0 < k ∧ k < w.length ∧ RG.rot k w = w := by
  unfold repW trn
  rw [decide_eq_true_eq, ← List.map_drop, List.mem_map]
  constructor
  · rintro ⟨k, hk, e⟩
    obtain ⟨j, hj, rfl⟩ := List.mem_iff_getElem.mp hk
    rw [List.length_drop, List.length_range] at hj
    rw [List.getElem_drop, List.getElem_range] at e
    exact ⟨1 + j, by omega, by omega, e⟩
  · rintro ⟨k, k0, k1, e⟩
    refine ⟨k, List.mem_iff_getElem.mpr ⟨k - 1, by rw [List.length_drop, List.length_range]; omega, ?_⟩, e⟩
    rw [List.getElem_drop, List.getElem_range]
    omega
theorem is_repeated_ok {w : List Nat} (h1 : 1 ≤ w.length) (hw : w.length ≤ 1000) (wo : Wo w) (d : D) : m_is_repeated [strR w] d = .ok (.bl (repW w)) d := by
  have al := all_turns_ok h1 hw d
  have sl : slT (.lst ((trn w).map strR)) (some (1 : Int)) none = some (.lst (((trn w).drop 1).map strR)) := by
    have := slT_lst_from ((trn w).map strR) 1
    rw [← List.map_drop] at this
    exact this
  have inn : inT (strR w) (.lst (((trn w).drop 1).map strR)) = some (.bl (repW w)) := in_strs wo fun v hv => trn_wo wo v (List.mem_of_mem_drop hv)
  refine fn_ret (en := [.val (strR w)]) (en' := [.val (strR w)]) ?_
  clear h1 hw
  generalize ((trn w).drop 1).map strR = l1 at *
  generalize (trn w).map strR = l2 at *
  generalize repW w = b at *
  generalize strR w = t4 at *
  unfold g_is_repeated
  generalize m_all_turns = R at *
  walk_at "ev"
/-! bare ones -/
def bareB (w : List Nat) : Bool := decide (((trn w).count w : Int) = 1)
theorem count_strs {x : List Nat} {ws : List (List Nat)} (hx : Wo x) (h : ∀ w ∈ ws, Wo w) : countT (ws.map strR) (strR x) = some (.int ((ws.count x : Nat) : Int)) := by
  have cp : (ws.map pyS).countP (fun z => PyData.eqv z (pyS x)) = ws.count x := by
    rw [List.countP_map]
    unfold List.count
    refine List.countP_congr fun w _ => ?_
    show PyData.eqv (pyS w) (pyS x) = true ↔ (w == x) = true
    rw [eqv_strs, decide_eq_true_eq, beq_iff_eq]
  show (match pyL (ws.map strR), (strR x).py with
    | some ds, some d => if SeqAt.shaped (.list ds) && SeqAt.shaped d then some (T.int ((ds.countP fun z => PyData.eqv z d : Nat) : Int)) else none
    | _, _ => none) = _
  rw [pyL_strs]
  show (if SeqAt.shaped (.list (ws.map pyS)) && SeqAt.shaped (pyS x) then some (T.int (((ws.map pyS).countP fun z => PyData.eqv z (pyS x) : Nat) : Int)) else none) = _
  rw [shaped_strs h, shaped_str hx, cp]
  rfl
theorem bare_iff {w : List Nat} (h1 : 1 ≤ w.length) : bareB w = true ↔ RG.Prim w := by
  have e : trn w = w :: (trn w).drop 1 := by
    unfold trn
    obtain ⟨n, hn⟩ : ∃ n, w.length = n + 1 := ⟨w.length - 1, by omega⟩
    rw [hn, List.range_succ_eq_map, List.map_cons, RG.rot_zero]
    rfl
  have c : (trn w).count w = ((trn w).drop 1).count w + 1 := by
    conv => lhs; rw [e]
    rw [List.count_cons_self]
  have ri := rep_iff (w := w)
  unfold repW at ri
  rw [decide_eq_true_eq] at ri
  unfold bareB
  rw [decide_eq_true_eq, c]
  constructor
  · intro h k k0 k1 q
    have := List.count_pos_iff.mpr (ri.mpr ⟨k, k0, k1, q⟩)
    omega
  · intro p
    have : ((trn w).drop 1).count w = 0 := List.count_eq_zero.mpr fun z => by
      obtain ⟨k, k0, k1, q⟩ := ri.mp z
      exact p k k0 k1 q
    omega
theorem law_bare_ok {w : List Nat} (hw : w.length ≤ 1000) (wo : Wo w) (d : D) : m__law_bare [strR w] d = .ok (.bl (bareB w)) d := by
  have al := law_turns_ok hw d
  have cn := count_strs wo (trn_wo wo)
  refine fn_ret (en := [.val (strR w)]) (en' := [.val (strR w)]) ?_
  unfold bareB
  clear hw
  generalize (trn w).map strR = l2 at *
  generalize ((trn w).count w : Int) = b at *
  generalize strR w = t4 at *
  have il : TL.itL (.lst l2) = some l2 := rfl
  unfold g__law_bare
  generalize m__law_turns = R at *
  walk_at "ev"
end K_k50
open PySem PySem.Spec PyProof.Rows L2 TL
namespace K_k50
/-! the book -/
theorem okS : CdOk cdS false := ⟨fun a => rfl, by decide, .inr fun a => rfl⟩
theorem sgs_len {sg : List Nat} (h : sg ∈ sgs) : 2 ≤ sg.length ∧ sg.length ≤ 5 := by
  have : ∀ sg ∈ sgs, 2 ≤ sg.length ∧ sg.length ≤ 5 := by decide
  exact this sg h
theorem sgs_wo {sg : List Nat} (h : sg ∈ sgs) : ∀ c ∈ sg, c < 128 := by
  have : ∀ sg ∈ sgs, ∀ c ∈ sg, c < 128 := by decide
  exact this sg h
theorem sgs_inj {sg : List Nat} (h : sg ∈ sgs) {i j : Nat} (hi : i < sg.length) (hj : j < sg.length) (e : sg.getD i 0 = sg.getD j 0) : i = j := by
  have : ∀ sg ∈ sgs, ∀ i, i < sg.length → ∀ j, j < sg.length → sg.getD i 0 = sg.getD j 0 → i = j := by decide
  exact this sg h i hi j hj e
theorem wrd_inj {sg : List Nat} (h : sg ∈ sgs) : ∀ {p r : List Nat}, (∀ c ∈ p, c < sg.length) → (∀ c ∈ r, c < sg.length) → wrd sg p = wrd sg r → p = r
  | [], [], _, _, _ => rfl
  | [], _ :: _, _, _, e => nomatch e
  | _ :: _, [], _, _, e => nomatch e
  | a :: p, b :: r, hp, hr, e => by
    have e : sg.getD a 0 :: wrd sg p = sg.getD b 0 :: wrd sg r := e
    obtain ⟨e1, e2⟩ := List.cons.inj e
    rw [sgs_inj h (hp a List.mem_cons_self) (hr b List.mem_cons_self) e1, wrd_inj h (fun c hc => hp c (List.mem_cons_of_mem _ hc)) (fun c hc => hr c (List.mem_cons_of_mem _ hc)) e2]
theorem wrd_rot (sg p : List Nat) (k : Nat) : wrd sg (RG.rot k p) = RG.rot k (wrd sg p) := by
  unfold wrd RG.rot
  rw [List.map_append, List.map_drop, List.map_take]
theorem wrd_len (sg p : List Nat) : (wrd sg p).length = p.length := List.length_map _
theorem wrd_wo {sg p : List Nat} (h : sg ∈ sgs) (hp : ∀ c ∈ p, c < sg.length) : Wo (wrd sg p) := fun c hc => by
  obtain ⟨i, hi, rfl⟩ := List.mem_map.mp hc
  have := hp i hi
  refine sgs_wo h _ ?_
  rw [List.getD_eq_getElem?_getD, List.getElem?_eq_getElem this]
  exact List.getElem_mem this
theorem rot_sg {q : Nat} {p : List Nat} (hp : ∀ c ∈ p, c < q) (k : Nat) : ∀ c ∈ RG.rot k p, c < q := fun c hc => by
  unfold RG.rot at hc
  rcases List.mem_append.mp hc with hc | hc
  · exact hp c (List.mem_of_mem_drop hc)
  · exact hp c (List.mem_of_mem_take hc)
theorem prim_wrd {sg p : List Nat} (h : sg ∈ sgs) (hp : ∀ c ∈ p, c < sg.length) : RG.Prim (wrd sg p) ↔ RG.Prim p := by
  constructor
  · intro q k k0 k1 e
    exact q k k0 (by rw [wrd_len]; exact k1) (by rw [← wrd_rot, e])
  · intro q k k0 k1 e
    rw [wrd_len] at k1
    rw [← wrd_rot] at e
    exact q k k0 k1 (wrd_inj h (rot_sg hp k) hp e)
def condB (w : List Nat) : Bool := decide (leastW w = w) && !repW w
theorem cond_prim {w : List Nat} (h : condB w = true) : RG.Prim w := by
  unfold condB at h
  rw [Bool.and_eq_true] at h
  intro k k0 k1 e
  have := rep_iff.mpr ⟨k, k0, k1, e⟩
  rw [this] at h
  cases h.2
theorem lyn_cond {w : List Nat} (h1 : 1 ≤ w.length) (h : RG.Lyn w) : condB w = true := by
  have p := h.prim
  obtain ⟨f1, f2⟩ := least_facts h1
  have r : repW w = false := Bool.eq_false_iff.mpr fun z => by
    obtain ⟨k, k0, k1, e⟩ := rep_iff.mp z
    exact p k k0 k1 e
  have l : leastW w = w := by
    obtain ⟨k, hk, e⟩ := trn_mem.mp f1
    by_cases z : k = 0
    · subst z
      rw [RG.rot_zero] at e
      exact e.symm
    · have lt := h k (by omega) hk
      rw [e] at lt
      exact absurd lt (f2 w (trn_mem.mpr ⟨0, h1, RG.rot_zero w⟩))
  unfold condB
  rw [r, decide_eq_true l]
  rfl
noncomputable def mv (p : List Nat) : List Nat := (MT.mtP p).getD []
abbrev bE (sg : List Nat) (n : Nat) (F : List (List Nat)) (x3 : Sl) : En := [.val (strR sg), .val (.int (n : Int)), .own (.lst (F.map strR)), x3]
theorem book_0_ok {sg : List Nat} (hs : sg ∈ sgs) {n : Nat} (L : MT.Lens n) (hq : sg.length ≤ MT.QQ n) {p : List Nat} (hp : p.length = n ∧ ∀ c ∈ p, c < sg.length) {F : List (List Nat)} (hF : F.length ≤ 100000) (d : D) :
    g_comma_free_book_0 (bE sg n F (.val (strR (wrd sg p)))) d = .ok (.nx, bE sg n (if condB (wrd sg p) = true then F ++ [wrd sg (mv p)] else F) (.val (strR (wrd sg p)))) d := by
  have n0 := MT.lens_pos L
  have n13 : n ≤ 13 := by rcases L with rfl | rfl | rfl | rfl | rfl | rfl | rfl <;> decide
  have wl := wrd_len sg p
  have wo := wrd_wo hs hp.2
  have lt := least_turn_ok (w := wrd sg p) (by omega) (by omega) d
  have rp := is_repeated_ok (w := wrd sg p) (by omega) (by omega) wo d
  have q1 : eqT (strR (leastW (wrd sg p))) (strR (wrd sg p)) = some (.bl (decide (leastW (wrd sg p) = wrd sg p))) := ev_strEq _ _
  cases c : condB (wrd sg p) with
  | true =>
    have pr := (prim_wrd hs hp.2).mp (cond_prim c)
    obtain ⟨v, hv, _, _⟩ := MT.mark_all L hp.1 (fun c hc => by have := hp.2 c hc; omega) pr
    have hv := hv 0 n0
    rw [RG.rot_zero] at hv
    have mt := marked_turn_ok hs hp.2 (by omega) (by omega) hv d
    have e : mv p = v := by
      unfold mv
      rw [hv]
      rfl
    rw [if_pos rfl, e]
    unfold condB at c
    rw [Bool.and_eq_true] at c
    obtain ⟨c1, c2⟩ := c
    rw [c1] at q1
    have c3 : repW (wrd sg p) = false := by simpa using c2
    rw [c3] at rp
    have cp : capL ((F.map strR).length + 1) () = some () := ev_cap (by rw [List.length_map]; omega)
    have em : (F ++ [wrd sg v]).map strR = F.map strR ++ [strR (wrd sg v)] := by rw [List.map_append]; rfl
    have gu : guardT (strR (wrd sg v)) = some (strR (wrd sg v)) := rfl
    dsimp only [bE]
    rw [em]
    clear c1 c2 c3 em wo hF hp L hq hs pr hv e wl
    generalize F.map strR = l1 at *
    generalize strR (leastW (wrd sg p)) = s1 at *
    generalize strR (wrd sg p) = s2 at *
    generalize strR (wrd sg v) = s3 at *
    generalize strR sg = s4 at *
    unfold g_comma_free_book_0
    generalize m_least_turn = R1 at *
    generalize m_is_repeated = R2 at *
    generalize m_marked_turn = R3 at *
    walk_at "ev"
  | false =>
    rw [if_neg Bool.false_ne_true]
    unfold condB at c
    dsimp only [bE]
    clear wo hF hp L hq hs wl
    generalize F.map strR = l1 at *
    cases c1 : decide (leastW (wrd sg p) = wrd sg p) with
    | false =>
      rw [c1] at q1
      clear c c1 rp
      generalize strR (leastW (wrd sg p)) = s1 at *
      generalize strR (wrd sg p) = s2 at *
      generalize strR sg = s4 at *
      unfold g_comma_free_book_0
      generalize m_least_turn = R1 at *
      generalize m_is_repeated = R2 at *
      generalize m_marked_turn = R3 at *
      walk_at "ev"
    | true =>
      rw [c1] at q1 c
      have c3 : repW (wrd sg p) = true := by simpa using c
      rw [c3] at rp
      clear c c1 c3
      generalize strR (leastW (wrd sg p)) = s1 at *
      generalize strR (wrd sg p) = s2 at *
      generalize strR sg = s4 at *
      unfold g_comma_free_book_0
      generalize m_least_turn = R1 at *
      generalize m_is_repeated = R2 at *
      generalize m_marked_turn = R3 at *
      walk_at "ev"
noncomputable def bookL (sg : List Nat) (l : List (List Nat)) : List (List Nat) := (l.filter fun p => condB (wrd sg p)).map fun p => wrd sg (mv p)
theorem book_loop {sg : List Nat} (hs : sg ∈ sgs) {n : Nat} (L : MT.Lens n) (hq : sg.length ≤ MT.QQ n) (d : D) : ∀ (r : List (List Nat)) (F : List (List Nat)) (x3 : Sl), (∀ p ∈ r, p.length = n ∧ ∀ c ∈ p, c < sg.length) → F.length + r.length ≤ 100000 →
    ∃ y3, forLC (aName 3) g_comma_free_book_0 true ((r.map (wrd sg)).map strR) (bE sg n F x3) d = .ok (.nx, bE sg n (F ++ bookL sg r) y3) d
  | [], F, x3, _, _ => ⟨x3, by
    have e : bookL sg [] = [] := rfl
    rw [e, List.append_nil]
    rfl⟩
  | p :: r, F, x3, hp, hl => by
    rw [List.length_cons] at hl
    have st := book_0_ok hs L hq (hp p List.mem_cons_self) (F := F) (by omega) d
    have ev : forLC (aName 3) g_comma_free_book_0 true (((p :: r).map (wrd sg)).map strR) (bE sg n F x3) d = M.bind (g_comma_free_book_0 (bE sg n F (.val (strR (wrd sg p))))) (fun r1 => match r1.1 with | .nx => forLC (aName 3) g_comma_free_book_0 true ((r.map (wrd sg)).map strR) r1.2 | .ct => forLC (aName 3) g_comma_free_book_0 true ((r.map (wrd sg)).map strR) r1.2 | .brk => .pure (.nx, r1.2) | .ret _ => .pure r1) d := rfl
    rw [ev, M.bind_ok st]
    have fl : (if condB (wrd sg p) = true then F ++ [wrd sg (mv p)] else F).length ≤ F.length + 1 := by
      split
      · rw [List.length_append]
        exact Nat.le_refl _
      · omega
    obtain ⟨y3, ih⟩ := book_loop hs L hq d r (if condB (wrd sg p) = true then F ++ [wrd sg (mv p)] else F) (.val (strR (wrd sg p))) (fun x hx => hp x (List.mem_cons_of_mem _ hx)) (by omega)
    refine ⟨y3, ?_⟩
    have e : (if condB (wrd sg p) = true then F ++ [wrd sg (mv p)] else F) ++ bookL sg r = F ++ bookL sg (p :: r) := by
      unfold bookL
      rw [List.filter_cons]
      split
      · rw [List.map_cons, List.append_assoc]
        rfl
      · rfl
    rw [e] at ih
    exact ih
theorem sorted_strs {B : List (List Nat)} (h : B.length ≤ 1000000) : ∃ L : List (List Nat), sortedT [.lst (B.map strR)] = some (L.map strR) ∧ L.length = B.length ∧ ∀ x, x ∈ L ↔ x ∈ B := by
  have e : B.map strR = (B.map sx).map cdS.enc := by rw [List.map_map]; rfl
  have sc := sortC_cd cdS okS (l := B.map sx) (by rw [List.length_map]; omega)
  have mm : ((B.map sx).map cdS.enc).mergeSort leD = ((B.map sx).mergeSort fun a b => !cdS.lt b a).map cdS.enc := (List.map_mergeSort (r := fun a b : Str => !cdS.lt b a) (s := leD) (f := cdS.enc) fun a _ b _ => (leD_cd cdS a b).symm).symm
  refine ⟨((B.map sx).mergeSort fun a b => !cdS.lt b a).map fun s => s.cps.toList, ?_, by rw [List.length_map, List.length_mergeSort, List.length_map], fun x => ?_⟩
  · show (if sortC (B.map strR) then some ((B.map strR).mergeSort leD) else none) = _
    rw [e, if_pos sc, mm, List.map_map]
    rfl
  · rw [List.mem_map]
    constructor
    · rintro ⟨s, hs, rfl⟩
      rw [List.mem_mergeSort] at hs
      obtain ⟨w, hw, rfl⟩ := List.mem_map.mp hs
      exact hw
    · intro hx
      exact ⟨sx x, List.mem_mergeSort.mpr (List.mem_map.mpr ⟨x, hx, rfl⟩), rfl⟩
theorem allP_all (q : Nat) : ∀ (n : Nat) (p : List Nat), p ∈ allP q n ↔ p.length = n ∧ ∀ c ∈ p, c < q
  | 0, p => by
    show p ∈ [[]] ↔ _
    rw [List.mem_singleton]
    constructor
    · rintro rfl
      exact ⟨rfl, nofun⟩
    · rintro ⟨h, _⟩
      exact List.length_eq_zero_iff.mp h
  | n + 1, p => by
    show p ∈ (List.range q).flatMap (fun i => (allP q n).map (i :: ·)) ↔ _
    rw [List.mem_flatMap]
    constructor
    · rintro ⟨i, hi, h⟩
      obtain ⟨r, hr, rfl⟩ := List.mem_map.mp h
      obtain ⟨h1, h2⟩ := (allP_all q n r).mp hr
      refine ⟨by rw [List.length_cons, h1], fun c hc => ?_⟩
      rcases List.mem_cons.mp hc with rfl | hc
      · exact List.mem_range.mp hi
      · exact h2 c hc
    · rintro ⟨h1, h2⟩
      cases p with
      | nil => cases h1
      | cons i r =>
        exact ⟨i, List.mem_range.mpr (h2 i List.mem_cons_self), List.mem_map.mpr ⟨r, (allP_all q n r).mpr ⟨by simpa using h1, fun c hc => h2 c (List.mem_cons_of_mem _ hc)⟩, rfl⟩⟩
theorem book_ok {sg : List Nat} (hs : sg ∈ sgs) {n : Nat} (hn : n = 1 ∨ n = 3 ∨ n = 5) (d : D) :
    ∃ B : List (List Nat), m_comma_free_book [strR sg, .int (n : Int)] d = .ok (.tup (B.map strR)) d ∧ B.length ≤ 4000 ∧ ∀ x, x ∈ B ↔ ∃ p : List Nat, p.length = n ∧ (∀ c ∈ p, c < sg.length) ∧ condB (wrd sg p) = true ∧ wrd sg (mv p) = x := by
  have sl := sgs_len hs
  have L : MT.Lens n := by rcases hn with rfl | rfl | rfl <;> simp [MT.Lens]
  have hq : sg.length ≤ MT.QQ n := by
    have : MT.QQ n = 5 := by rcases hn with rfl | rfl | rfl <;> decide
    omega
  have n5 : n ≤ 5 := by omega
  have ww := words_with_ok (sg := sg) (n := n) (by have : sg.length = 2 ∨ sg.length = 3 ∨ sg.length = 4 ∨ sg.length = 5 := by omega
                                                   simpa using this) (by simpa using hn)
  have mem := allP_all sg.length n
  have few : (allP sg.length n).length ≤ 4000 := by
    have g := good_all sg.length (by have : sg.length = 2 ∨ sg.length = 3 ∨ sg.length = 4 ∨ sg.length = 5 := by omega
                                     simpa using this) n (by simpa using hn)
    unfold goodP at g
    simp only [Bool.and_eq_true, decide_eq_true_eq] at g
    have := g.2
    omega
  obtain ⟨y3, lp⟩ := book_loop hs L hq d (allP sg.length n) [] .no (fun p hp => (mem p).mp hp) (by show 0 + _ ≤ _; omega)
  rw [List.nil_append] at lp
  have bl : (bookL sg (allP sg.length n)).length ≤ 4000 := by
    unfold bookL
    rw [List.length_map]
    exact Nat.le_trans (List.length_filter_le _ _) few
  obtain ⟨B, so, hBl, hB⟩ := sorted_strs (B := bookL sg (allP sg.length n)) (by omega)
  refine ⟨B, ?_, by omega, fun x => ?_⟩
  · have md : (n : Int) % 2 = 1 := by omega
    have q0 : eqT (.int 1) (.int 0) = some (.bl false) := rfl
    have two : (0 : Int) < 2 := by omega
    have tp : tupleT [.lst (B.map strR)] = some (.tup (B.map strR)) := rfl
    have e0 : ([] : List (List Nat)).map strR = [] := rfl
    refine fn_ret (en := [.val (strR sg), .val (.int (n : Int)), .no, .no]) (en' := [.val (strR sg), .val (.int (n : Int)), .val (.lst ((bookL sg (allP sg.length n)).map strR)), y3]) ?_
    dsimp only [bE] at lp
    rw [e0] at lp
    clear hs hn L hq n5 mem few bl hBl hB e0 sl
    generalize (bookL sg (allP sg.length n)).map strR = l1 at *
    generalize B.map strR = l2 at *
    generalize ((allP sg.length n).map (wrd sg)).map strR = l3 at *
    generalize (n : Int) = n1 at *
    generalize strR sg = s1 at *
    unfold g_comma_free_book g_comma_free_book_t1 g_comma_free_book_t0
    generalize g_comma_free_book_0 = G at *
    generalize m_words_with = R at *
    walk_at "ev"
  · rw [hB]
    unfold bookL
    rw [List.mem_map]
    constructor
    · rintro ⟨p, hp, rfl⟩
      obtain ⟨h1, h2⟩ := List.mem_filter.mp hp
      obtain ⟨h3, h4⟩ := (mem p).mp h1
      exact ⟨p, h3, h4, h2, rfl⟩
    · rintro ⟨p, h1, h2, h3, rfl⟩
      exact ⟨p, List.mem_filter.mpr ⟨(mem p).mpr ⟨h1, h2⟩, h3⟩, rfl⟩
end K_k50
open PySem PySem.Spec PyProof.Rows L2 TL
namespace K_k50
/-! one drawn word -/
/-- a marked turn that was found -/
def Fd (sg : List Nat) (n : Nat) (x : List Nat) : Prop := ∃ p v : List Nat, p.length = n ∧ (∀ c ∈ p, c < sg.length) ∧ RG.Prim p ∧ (∀ k, k < n → MT.mtP (RG.rot k p) = some v) ∧ (∃ k, k < n ∧ RG.rot k p = v) ∧ MT.Mk n v ∧ x = wrd sg v
theorem Fd.wo {sg : List Nat} (hs : sg ∈ sgs) {n : Nat} {x : List Nat} (h : Fd sg n x) : x.length = n ∧ Wo x := by
  obtain ⟨p, v, hl, hp, _, _, ⟨k, hk, e⟩, m, rfl⟩ := h
  refine ⟨by rw [wrd_len]; exact m.len, wrd_wo hs ?_⟩
  rw [← e]
  exact rot_sg hp k
abbrev lE (x2 : Sl) (sg : List Nat) (x4 : Sl) (n : Nat) (F : List (List Nat)) (x7 x8 x9 x10 : Sl) : En := [.no, .val .dck, x2, .val (strR sg), x4, .val (.int (n : Int)), .own (.lst (F.map strR)), x7, x8, x9, x10, .no, .no]
theorem item_draw {sg : List Nat} (hs : sg ∈ sgs) {n : Nat} (hn : n ≤ 100) {F : List (List Nat)} (x2 x4 x7 x8 x9 x10 : Sl) {d : D} {k : Nat} (hd : Dok k d) (hk : k < 2 ^ 38) :
    ∃ p d', p.length = n ∧ (∀ c ∈ p, c < sg.length) ∧ Dok (k + n) d' ∧ sAsg 8 (xJoin (xC (.str "")) (xToL (xLc (xIt rng1 (xCons (xVar 5) xNil)) (aName 11) [11] xYes (xFn m__law_pick (xCons (xVar 1) (xCons (xVar 3) xNil)))))) (lE x2 sg x4 n F x7 x8 x9 x10) d = .ok (.nx, lE x2 sg x4 n F x7 (.val (strR (wrd sg p))) x9 x10) d' := by
  have sl := sgs_len hs
  have all : ∃ ys d', lcL (aName 11) xYes (xFn m__law_pick (xCons (xVar 1) (xCons (xVar 3) xNil))) (lE x2 sg x4 n F x7 x8 x9 x10) ((List.range n).map fun (k : Nat) => T.int (k : Int)) d = .ok ys d' ∧ ys.length = (List.range n).length ∧ (∀ y ∈ ys, ∃ c, c ∈ sg ∧ y = strR [c]) ∧ Dok (k + (0 + (List.range n).length)) d' :=
    lcL_draw (fun (k : Nat) => T.int (k : Int)) (a := aName 11) (fun j d => Dok (k + j) d) (fun y => ∃ c, c ∈ sg ∧ y = strR [c]) (List.range n) 0 d hd fun x j d hx hj hdj => by
      rw [List.length_range] at hj
      obtain ⟨c, d3, e3, hc, hd3⟩ := pick_str (s := sg) hdj (by omega) (by omega) (by omega)
      refine ⟨[.no, .val .dck, x2, .val (strR sg), x4, .val (.int (n : Int)), .own (.lst (F.map strR)), x7, x8, x9, x10, .val (.int (x : Int)), .no], rfl, strR [c], d3, ?_, ⟨c, hc, rfl⟩, dok_mono hd3 (by omega)⟩
      clear hd hd3 hdj
      generalize F.map strR = f' at *
      generalize strR sg = s' at *
      generalize strR [c] = c' at *
      generalize m__law_pick = R at *
      walk_at "ev"
  obtain ⟨ys, d2, e2, hl, hy, hd2⟩ := all
  rw [List.length_range] at hl hd2
  obtain ⟨p, hp1, hp⟩ : ∃ p : List Nat, ys = ((wrd sg p).map fun c => [c]).map strR ∧ ∀ c ∈ p, c < sg.length := by
    clear e2 hl
    induction ys with
    | nil => exact ⟨[], rfl, nofun⟩
    | cons y ys ih =>
      obtain ⟨p, e, hw⟩ := ih fun z hz => hy z (List.mem_cons_of_mem _ hz)
      obtain ⟨c, hc, e2⟩ := hy y List.mem_cons_self
      obtain ⟨i, hi, ei⟩ := List.mem_iff_getElem.mp hc
      have eg : sg.getD i 0 = c := by rw [List.getD_eq_getElem?_getD, List.getElem?_eq_getElem hi, ← ei]; rfl
      refine ⟨i :: p, ?_, fun x hx => ?_⟩
      · have e3 : wrd sg (i :: p) = sg.getD i 0 :: wrd sg p := rfl
        rw [e3, List.map_cons, List.map_cons, ← e, e2, eg]
      · rcases List.mem_cons.mp hx with rfl | hx
        · exact hi
        · exact hw x hx
  subst hp1
  rw [List.length_map, List.length_map, wrd_len] at hl
  have fl : ∀ w : List Nat, (w.map fun c => [c]).flatten = w := fun w => by
    induction w with
    | nil => rfl
    | cons c w ih =>
      rw [List.map_cons, List.flatten_cons, ih]
      rfl
  have jn := join_words (ws := (wrd sg p).map fun c => [c]) (by rw [fl, wrd_len]; omega)
  rw [fl] at jn
  have r1 := rng1_nat (n := n) (by omega)
  have c1 : ∀ v : Unit, capL ((List.range n).map fun (k : Nat) => T.int (k : Int)).length v = some v := fun v => ev_cap (by rw [List.length_map, List.length_range]; omega)
  have s1 : strT? (.str "") = some "" := rfl
  refine ⟨p, d2, hl, hp, dok_mono hd2 (by omega), ?_⟩
  clear hd hd2 hl hp hy fl hs sl
  dsimp only [lE] at *
  generalize (List.range n).map (fun (k : Nat) => T.int (k : Int)) = u1 at *
  generalize ((wrd sg p).map fun c => [c]).map strR = u2 at *
  generalize strR (wrd sg p) = u3 at *
  generalize F.map strR = f' at *
  generalize strR sg = s' at *
  generalize (n : Int) = n' at *
  generalize m__law_pick = R at *
  walk_at "ev"
theorem law_0_ok {sg : List Nat} (hs : sg ∈ sgs) {n : Nat} (L : MT.Lens n) (hq : sg.length ≤ MT.QQ n) {F : List (List Nat)} (hF : F.length ≤ 1000) (fd : ∀ x ∈ F, Fd sg n x) (x2 x4 x7 x8 x9 x10 : Sl) {d : D} {k : Nat} (hd : Dok k d) (hk : k < 2 ^ 38) :
    ∃ F' y8 y9 d', g_law_0 (lE x2 sg x4 n F x7 x8 x9 x10) d = .ok (.nx, lE x2 sg x4 n F' x7 y8 y9 x10) d' ∧ F'.length ≤ F.length + 1 ∧ (∀ x ∈ F', Fd sg n x) ∧ Dok (k + 20) d' := by
  have n0 := MT.lens_pos L
  have n13 : n ≤ 13 := by rcases L with rfl | rfl | rfl | rfl | rfl | rfl | rfl <;> decide
  obtain ⟨p, d1, hl, hp, hd1, a1⟩ := item_draw hs (n := n) (by omega) (F := F) x2 x4 x7 x8 x9 x10 hd hk
  have wl := wrd_len sg p
  have wo := wrd_wo hs hp
  have ba := law_bare_ok (w := wrd sg p) (by omega) wo d1
  have bi := bare_iff (w := wrd sg p) (by omega)
  cases b : bareB (wrd sg p) with
  | false =>
    rw [b] at ba
    refine ⟨F, .val (strR (wrd sg p)), x9, d1, ?_, by omega, fd, dok_mono hd1 (by omega)⟩
    unfold g_law_0
    rw [ev_Seq, a1]
    clear a1 hd hd1 wo wl bi b fd hF
    dsimp only [lE]
    generalize F.map strR = f' at *
    generalize strR (wrd sg p) = u3 at *
    generalize strR sg = s' at *
    generalize m__law_bare = R at *
    generalize m_marked_turn = R2 at *
    generalize m__law_turns = R3 at *
    walk_at "ev"
  | true =>
    rw [b] at ba bi
    have pr := (prim_wrd hs hp).mp (bi.mp rfl)
    obtain ⟨v, hv, ⟨j, hj, ej⟩, mk⟩ := MT.mark_all L hl (fun c hc => by have := hp c hc; omega) pr
    have hv0 := hv 0 n0
    rw [RG.rot_zero] at hv0
    have vp : ∀ c ∈ v, c < sg.length := by
      rw [← ej]
      exact rot_sg hp j
    have mt := marked_turn_ok hs hp (by omega) (by omega) hv0 d1
    have tu := law_turns_ok (w := wrd sg p) (by omega) d1
    have vwo := wrd_wo hs vp
    have nin := notin_strs (x := wrd sg v) (ws := trn (wrd sg p)) vwo (trn_wo wo)
    have vm : wrd sg v ∈ trn (wrd sg p) := trn_mem.mpr ⟨j, by omega, by rw [← wrd_rot, ej]⟩
    rw [decide_eq_true vm] at nin
    have lc := lcL_map strR (a := aName 12) (fc := xTest (xBin neT (xFn (fun l => m_marked_turn (perm [1, 0] l)) (xCons (xVar 12) (xCons (xVar 3) xNil))) (xVar 9))) (f := xC (.int 1)) (en := lE x2 sg x4 n F x7 (.val (strR (wrd sg p))) (.val (strR (wrd sg v))) x10) (d := d1) (fun _ => false) (fun _ => T.int 1) (trn (wrd sg p)) fun t ht => by
      obtain ⟨i, hi, rfl⟩ := trn_mem.mp ht
      rw [wl, hl] at hi
      have mi := marked_turn_ok hs (w := RG.rot i p) (rot_sg hp i) (by rw [RG.rot_len]; omega) (by rw [RG.rot_len]; omega) (hv i hi) d1
      rw [wrd_rot] at mi
      have pm : (fun l => m_marked_turn (perm [1, 0] l)) [strR (RG.rot i (wrd sg p)), strR sg] d1 = .ok (strR (wrd sg v)) d1 := mi
      refine ⟨[.no, .val .dck, x2, .val (strR sg), x4, .val (.int (n : Int)), .own (.lst (F.map strR)), x7, .val (strR (wrd sg p)), .val (strR (wrd sg v)), x10, .no, .val (strR (RG.rot i (wrd sg p)))], rfl, ?_, fun z => nomatch z⟩
      have ne : neT (strR (wrd sg v)) (strR (wrd sg v)) = some (.bl false) := by rw [ev_strNe, decide_eq_true rfl]; rfl
      clear mt tu nin ba a1 mi hd hd1 ht
      generalize F.map strR = f' at *
      generalize strR (RG.rot i (wrd sg p)) = u1 at *
      generalize strR (wrd sg v) = u2 at *
      generalize strR (wrd sg p) = u3 at *
      generalize strR sg = s' at *
      generalize (fun l => m_marked_turn (perm [1, 0] l)) = R2 at *
      walk_at "ev"
    have ff : ((trn (wrd sg p)).filter fun _ => false) = [] := List.filter_eq_nil_iff.mpr fun _ _ h => nomatch h
    rw [ff, List.map_nil] at lc
    have ne0 : neT (.lst []) (.lst []) = some (.bl false) := rfl
    have ct : ∀ z : Unit, capL ((trn (wrd sg p)).map strR).length z = some z := fun z => ev_cap (by rw [List.length_map, trn_len]; omega)
    have nf := notin_strs (x := wrd sg v) (ws := F) vwo fun x hx => (Fd.wo hs (fd x hx)).2
    have cp : capL ((F.map strR).length + 1) () = some () := ev_cap (by rw [List.length_map]; omega)
    have em : (F ++ [wrd sg v]).map strR = F.map strR ++ [strR (wrd sg v)] := by rw [List.map_append]; rfl
    refine ⟨if wrd sg v ∈ F then F else F ++ [wrd sg v], .val (strR (wrd sg p)), .val (strR (wrd sg v)), d1, ?_, ?_, fun x hx => ?_, dok_mono hd1 (by omega)⟩
    · unfold g_law_0
      rw [ev_Seq, a1]
      by_cases z : wrd sg v ∈ F
      · rw [if_pos z]
        rw [decide_eq_true z] at nf
        clear a1 hd hd1 wo wl bi b fd hF ff vwo em z vm
        dsimp only [lE] at *
        generalize F.map strR = f' at *
        generalize (trn (wrd sg p)).map strR = u1 at *
        generalize strR (wrd sg v) = u2 at *
        generalize strR (wrd sg p) = u3 at *
        generalize strR sg = s' at *
        generalize (fun l => m_marked_turn (perm [1, 0] l)) = R4 at *
        generalize m__law_bare = R at *
        generalize m_marked_turn = R2 at *
        generalize m__law_turns = R3 at *
        walk_at "ev"
      · rw [if_neg z]
        rw [decide_eq_false z] at nf
        dsimp only [lE] at *
        rw [em]
        clear a1 hd hd1 wo wl bi b fd hF ff vwo em z vm
        generalize F.map strR = f' at *
        generalize (trn (wrd sg p)).map strR = u1 at *
        generalize strR (wrd sg v) = u2 at *
        generalize strR (wrd sg p) = u3 at *
        generalize strR sg = s' at *
        generalize (fun l => m_marked_turn (perm [1, 0] l)) = R4 at *
        generalize m__law_bare = R at *
        generalize m_marked_turn = R2 at *
        generalize m__law_turns = R3 at *
        walk_at "ev"
    · split
      · omega
      · rw [List.length_append]
        exact Nat.le_refl _
    · split at hx
      · exact fd x hx
      · rcases List.mem_append.mp hx with hx | hx
        · exact fd x hx
        · rw [List.mem_singleton.mp hx]
          exact ⟨p, v, hl, hp, pr, hv, ⟨j, hj, ej⟩, mk, rfl⟩
end K_k50
open PySem PySem.Spec PyProof.Rows L2 TL
namespace K_k50
/-! the found ones stand in no two of them; the book has them alone: plain -/
theorem wrd_take (sg p : List Nat) (i : Nat) : wrd sg (p.take i) = (wrd sg p).take i := List.map_take
theorem wrd_drop (sg p : List Nat) (i : Nat) : wrd sg (p.drop i) = (wrd sg p).drop i := List.map_drop
theorem Fd.mk' {sg : List Nat} {n : Nat} {x : List Nat} (h : Fd sg n x) : ∃ v, MT.Mk n v ∧ (∀ c ∈ v, c < sg.length) ∧ x = wrd sg v := by
  obtain ⟨p, v, hl, hp, _, _, ⟨k, hk, e⟩, m, rfl⟩ := h
  exact ⟨v, m, by rw [← e]; exact rot_sg hp k, rfl⟩
theorem comma_true {sg : List Nat} (hs : sg ∈ sgs) {n : Nat} (L : MT.Lens n) {F : List (List Nat)} (fd : ∀ x ∈ F, Fd sg n x) : comma F n = true := by
  unfold comma
  rw [List.all_eq_true]
  intro z hz
  rw [Bool.not_eq_true', List.any_eq_false]
  intro k hk h
  rw [List.mem_range] at hk
  rw [Bool.and_eq_true, decide_eq_true_eq, decide_eq_true_eq] at h
  obtain ⟨h1, h2⟩ := h
  unfold cuts at h1 h2
  obtain ⟨x, hx, h1⟩ := List.mem_flatMap.mp h1
  obtain ⟨j1, hj1, e1⟩ := List.mem_map.mp h1
  obtain ⟨y, hy, h2⟩ := List.mem_flatMap.mp h2
  obtain ⟨j2, hj2, e2⟩ := List.mem_map.mp h2
  rw [List.mem_range] at hj1 hj2
  obtain ⟨vz, mz, sz, rfl⟩ := (fd z hz).mk'
  obtain ⟨vx, mx, sx, rfl⟩ := (fd x hx).mk'
  obtain ⟨vy, my, sy, rfl⟩ := (fd y hy).mk'
  have lz := wrd_len sg vz
  have lx := wrd_len sg vx
  have ly := wrd_len sg vy
  have mzl := mz.len
  have mxl := mx.len
  have myl := my.len
  replace e1 : (wrd sg vx).drop (1 + j1) = (wrd sg vz).take (1 + k) := e1
  replace e2 : (wrd sg vy).take (1 + j2) = (wrd sg vz).drop (1 + k) := e2
  have l1 := congrArg List.length e1
  have l2 := congrArg List.length e2
  rw [List.length_drop, List.length_take] at l1
  rw [List.length_take, List.length_drop] at l2
  have q1 : 1 + j1 = n - (1 + k) := by omega
  have q2 : 1 + j2 = n - (1 + k) := by omega
  rw [q1, ← wrd_take, ← wrd_drop] at e1
  rw [q2, ← wrd_take, ← wrd_drop] at e2
  have i1 := wrd_inj hs (fun c hc => sx c (List.mem_of_mem_drop hc)) (fun c hc => sz c (List.mem_of_mem_take hc)) e1
  have i2 := wrd_inj hs (fun c hc => sy c (List.mem_of_mem_take hc)) (fun c hc => sz c (List.mem_of_mem_drop hc)) e2
  exact MT.mark_free L mx my mz (i := 1 + k) (by omega) (by omega) i1.symm i2.symm
theorem book_one {sg : List Nat} (hs : sg ∈ sgs) {n : Nat} (L : MT.Lens n) (hq : sg.length ≤ MT.QQ n) {B : List (List Nat)} (hB : ∀ x, x ∈ B ↔ ∃ p : List Nat, p.length = n ∧ (∀ c ∈ p, c < sg.length) ∧ condB (wrd sg p) = true ∧ wrd sg (mv p) = x) {x : List Nat} (fx : Fd sg n x) :
    (trn x).filter (fun t => decide (t ∈ B)) = [x] := by
  have n0 := MT.lens_pos L
  obtain ⟨p0, v0, hl, hp, pr, hv, ⟨j, hj, ej⟩, mk, rfl⟩ := fx
  have vp : ∀ c ∈ v0, c < sg.length := by
    rw [← ej]
    exact rot_sg hp j
  have vl := mk.len
  have wl := wrd_len sg v0
  have p0n : p0 ≠ [] := fun z => by
    rw [z] at hl
    simp at hl
    omega
  have vpr : RG.Prim v0 := by
    rw [← ej]
    exact pr.rot (by omega)
  -- all turns of v0 are turned to v0
  have rotv : ∀ i, i < n → MT.mtP (RG.rot i v0) = some v0 := fun i hi => by
    rw [← ej, RG.rot_rot p0n (by omega) (by omega), ej]
    exact hv _ (by rw [hl]; exact Nat.mod_lt _ n0)
  have inB : wrd sg v0 ∈ B := by
    have wne : wrd sg v0 ≠ [] := fun z => by
      rw [z] at wl
      simp at wl
      omega
    obtain ⟨k, hk, ly⟩ := RG.exists_lyn wne ((prim_wrd hs vp).mpr vpr)
    rw [← wrd_rot] at ly
    have hk' : k < n := by omega
    refine (hB _).mpr ⟨RG.rot k v0, by rw [RG.rot_len]; exact vl, rot_sg vp k, lyn_cond (by rw [wrd_len, RG.rot_len]; omega) ly, ?_⟩
    unfold mv
    rw [rotv k hk']
    rfl
  have outB : ∀ k, 0 < k → k < n → RG.rot k (wrd sg v0) ∉ B := fun k k0 k1 h => by
    obtain ⟨p, pl, ps, pc, pe⟩ := (hB _).mp h
    have pp := (prim_wrd hs ps).mp (cond_prim pc)
    obtain ⟨v, hv', ⟨i, hi, ei⟩, mk'⟩ := MT.mark_all L pl (fun c hc => by have := ps c hc; omega) pp
    have m0 := hv' 0 n0
    rw [RG.rot_zero] at m0
    have em : mv p = v := by
      unfold mv
      rw [m0]
      rfl
    rw [em, ← wrd_rot] at pe
    have vs : ∀ c ∈ v, c < sg.length := by
      rw [← ei]
      exact rot_sg ps i
    have ev := wrd_inj hs vs (rot_sg vp k) pe
    have pne : p ≠ [] := fun z => by
      rw [z] at pl
      simp at pl
      omega
    have back : RG.rot (p.length - i) v = p := by
      rw [← ei]
      exact RG.rot_back (by omega)
    have vne : v0 ≠ [] := fun z => by
      rw [z] at vl
      simp at vl
      omega
    rw [ev, RG.rot_rot vne (by omega) (by omega)] at back
    have : MT.mtP p = some v0 := by
      rw [← back]
      exact rotv _ (by rw [vl]; exact Nat.mod_lt _ n0)
    rw [m0] at this
    have e0 : v = v0 := Option.some.inj this
    rw [e0] at ev
    exact vpr k k0 (by omega) ev.symm
  have e : trn (wrd sg v0) = wrd sg v0 :: (trn (wrd sg v0)).drop 1 := by
    unfold trn
    obtain ⟨m, hm⟩ : ∃ m, (wrd sg v0).length = m + 1 := ⟨n - 1, by omega⟩
    rw [hm, List.range_succ_eq_map, List.map_cons, RG.rot_zero]
    rfl
  rw [e, List.filter_cons_of_pos (p := fun t => decide (t ∈ B)) (decide_eq_true inB)]
  congr 1
  rw [List.filter_eq_nil_iff]
  intro t ht h
  have h := of_decide_eq_true h
  unfold trn at ht
  rw [← List.map_drop] at ht
  obtain ⟨k, hk, rfl⟩ := List.mem_map.mp ht
  obtain ⟨i, hi, ei⟩ := List.mem_iff_getElem.mp hk
  rw [List.length_drop, List.length_range] at hi
  rw [List.getElem_drop, List.getElem_range] at ei
  exact outB k (by omega) (by omega) h
end K_k50
open PySem PySem.Spec PyProof.Rows L2 TL
namespace K_k50
/-! the law -/
theorem seq_nx {f g : En → MS} {en en' : En} {d d' : D} (h : f en d = .ok (.nx, en') d') : sSeq f g en d = g en' d' := by
  rw [ev_Seq, h]
  rfl
theorem in_strsT {x : List Nat} {ws : List (List Nat)} : inT (strR x) (.tup (ws.map strR)) = some (.bl (decide (x ∈ ws))) := by
  have h1 : ((ws.map strR).all flatT) = true := by
    rw [List.all_eq_true]
    intro t ht
    obtain ⟨w, _, rfl⟩ := List.mem_map.mp ht
    rfl
  show (match (strR x).py, pyL (ws.map strR) with
    | some d, some ds => if flatT (strR x) && (ws.map strR).all flatT then some (ds.any fun z => PyData.eqv z d) else none
    | _, _ => none).map T.bl = _
  rw [pyL_strs, h1]
  show (if flatT (strR x) && true then some ((ws.map pyS).any fun z => PyData.eqv z (pyS x)) else none).map T.bl = _
  rw [any_strs]
  rfl
/-- the sizes -/
theorem size_facts {sg : List Nat} (h : sg ∈ sgs) : ∃ m m1 hf : Int, ixT (.lst [.int 13, .int 9, .int 7, .int 5]) (.int ((sg.length : Int) - 2)) = some (.int m) ∧ addT (.int m) (.int 1) = some (.int m1) ∧ fdivT (.int m1) (.int 2) = some (.int hf) ∧ 0 < hf ∧ hf < 100 ∧
    ∀ z : Int, 0 ≤ z → z < hf → ∃ n : Nat, (n : Int) = 1 + 2 * z ∧ MT.Lens n ∧ sg.length ≤ MT.QQ n := by
  have lens : ∀ k : Nat, k ≤ 6 → MT.Lens (1 + 2 * k) := fun k hk => by
    obtain rfl | rfl | rfl | rfl | rfl | rfl | rfl : k = 0 ∨ k = 1 ∨ k = 2 ∨ k = 3 ∨ k = 4 ∨ k = 5 ∨ k = 6 := by omega
    all_goals simp [MT.Lens]
  have go : ∀ (z : Int) (b q : Nat), 0 ≤ z → z < (b : Int) → b ≤ 7 → (∀ k, k < b → q ≤ MT.QQ (1 + 2 * k)) → ∃ n : Nat, (n : Int) = 1 + 2 * z ∧ MT.Lens n ∧ q ≤ MT.QQ n := fun z b q h0 h1 hb hq => by
    obtain ⟨k, rfl⟩ : ∃ k : Nat, z = (k : Int) := ⟨z.toNat, by omega⟩
    exact ⟨1 + 2 * k, by omega, lens k (by omega), hq k (by omega)⟩
  simp only [sgs, List.mem_cons, List.not_mem_nil, or_false] at h
  rcases h with rfl | rfl | rfl | rfl | rfl
  · exact ⟨13, 14, 7, rfl, rfl, rfl, by decide, by decide, fun z h0 h1 => go z 7 2 h0 h1 (by decide) (by decide)⟩
  · exact ⟨13, 14, 7, rfl, rfl, rfl, by decide, by decide, fun z h0 h1 => go z 7 2 h0 h1 (by decide) (by decide)⟩
  · exact ⟨9, 10, 5, rfl, rfl, rfl, by decide, by decide, fun z h0 h1 => go z 5 3 h0 h1 (by decide) (by decide)⟩
  · exact ⟨7, 8, 4, rfl, rfl, rfl, by decide, by decide, fun z h0 h1 => go z 4 4 h0 h1 (by decide) (by decide)⟩
  · exact ⟨5, 6, 3, rfl, rfl, rfl, by decide, by decide, fun z h0 h1 => go z 3 5 h0 h1 (by decide) (by decide)⟩
noncomputable abbrev rest1 : En → MS := sFrz 6 (sSeq (sIf (xNotB (xTest (xFn m_is_comma_free (xCons (xCall tupleT (xCons (xVar 6) xNil)) xNil)))) (sRet (xC (.bl false))) sNext)
    (sIf (xAndB (xTest (xBin ltT (xVar 5) (xC (.int 6)))) (xTest (xBin neT (xVar 6) (xToL (xLst xNil))))) (sSeq (sAsg 10 (xFn m_comma_free_book (xCons (xVar 3) (xCons (xVar 5) xNil))))
    (sIf (xTest (xBin neT (xToL (xLc (xItems (xFn m__law_turns (xCons (xBin ixT (xVar 6) (xC (.int 0))) xNil))) (aName 8) [8] (xTest (xBin inT (xVar 8) (xVar 10))) (xVar 8))) (xToL (xLst (xCons (xBin ixT (xVar 6) (xC (.int 0))) xNil))))) (sRet (xC (.bl false))) sNext)) sNext))
theorem rest_ok {sg : List Nat} (hs : sg ∈ sgs) {n : Nat} (L : MT.Lens n) (hq : sg.length ≤ MT.QQ n) {F : List (List Nat)} (hF : F.length ≤ 100) (fd : ∀ x ∈ F, Fd sg n x) (x2 x4 x7 x8 x9 x10 : Sl) (d : D) :
    ∃ y8 y10, rest1 (lE x2 sg x4 n F x7 x8 x9 x10) d = .ok (.nx, [.no, .val .dck, x2, .val (strR sg), x4, .val (.int (n : Int)), .val (.lst (F.map strR)), x7, y8, x9, y10, .no, .no]) d := by
  have n0 := MT.lens_pos L
  have n13 : n ≤ 13 := by rcases L with rfl | rfl | rfl | rfl | rfl | rfl | rfl <;> decide
  have W : Ws F n := ⟨fun x hx => (Fd.wo hs (fd x hx)).1, fun x hx => (Fd.wo hs (fd x hx)).2, n0, by omega, hF⟩
  have cf := comma_ok W d
  rw [comma_true hs L fd] at cf
  have tp : tupleT [.lst (F.map strR)] = some (.tup (F.map strR)) := rfl
  have lt : ltT (.int (n : Int)) (.int 6) = some (.bl (decide ((n : Int) < 6))) := rfl
  have ne := ne_strs0 (a := F) fun x hx => (Fd.wo hs (fd x hx)).2
  by_cases z : n < 6
  · have zz : decide ((n : Int) < 6) = true := decide_eq_true (by omega)
    cases F with
    | nil =>
      refine ⟨x8, x10, ?_⟩
      have ne2 : neT (.lst (([] : List (List Nat)).map strR)) (.lst []) = some (.bl false) := ne
      clear ne W fd hF hq L hs n0 n13 z lt
      unfold rest1
      dsimp only [lE]
      generalize ([] : List (List Nat)).map strR = f' at *
      generalize strR sg = s' at *
      generalize (n : Int) = n' at *
      generalize m_is_comma_free = R1 at *
      generalize m_comma_free_book = R2 at *
      generalize m__law_turns = R3 at *
      walk_at "ev"
    | cons x F =>
      have fx := fd x List.mem_cons_self
      obtain ⟨xl, xwo⟩ := Fd.wo hs fx
      have n5 : n = 1 ∨ n = 3 ∨ n = 5 := by rcases L with rfl | rfl | rfl | rfl | rfl | rfl | rfl <;> omega
      obtain ⟨B, bo, bl, hB⟩ := book_ok hs n5 d
      have one := book_one hs L hq hB fx
      have tu := law_turns_ok (w := x) (by omega) d
      have lc := lcL_map strR (a := aName 8) (fc := xTest (xBin inT (xVar 8) (xVar 10))) (f := xVar 8) (en := [.no, .val .dck, x2, .val (strR sg), x4, .val (.int (n : Int)), .val (.lst ((x :: F).map strR)), x7, .no, x9, .val (.tup (B.map strR)), .no, .no]) (d := d) (fun t => decide (t ∈ B)) strR (trn x) fun t ht => by
        refine ⟨[.no, .val .dck, x2, .val (strR sg), x4, .val (.int (n : Int)), .val (.lst ((x :: F).map strR)), x7, .val (strR t), x9, .val (.tup (B.map strR)), .no, .no], rfl, ?_, fun _ => rfl⟩
        have inn := in_strsT (x := t) (ws := B)
        generalize decide (t ∈ B) = b at *
        generalize (x :: F).map strR = f' at *
        generalize B.map strR = b' at *
        generalize strR sg = s' at *
        generalize strR t = t' at *
        walk_at "ev"
      rw [one] at lc
      have ne1 : neT (.lst [strR x]) (.lst [strR x]) = some (.bl false) := by
        have := ne_strs (a := [x]) (b := [x]) (by simpa using xwo) (by simpa using xwo)
        rw [decide_eq_true rfl] at this
        exact this
      have ne2 : neT (.lst ((x :: F).map strR)) (.lst []) = some (.bl true) := ne
      have at0 : atI ((x :: F).map strR) 0 = some (strR x) := by rw [List.map_cons, ev_at0]
      have lx : ([x] : List (List Nat)).map strR = [strR x] := rfl
      have ct : ∀ z : Unit, capL ((trn x).map strR).length z = some z := fun z => ev_cap (by rw [List.length_map, trn_len]; omega)
      refine ⟨x8, .val (.tup (B.map strR)), ?_⟩
      rw [lx] at lc
      clear ne W fd hF hq L hs n0 n13 z lt hB bl one lx
      unfold rest1
      dsimp only [lE]
      generalize (x :: F).map strR = f' at *
      generalize (trn x).map strR = u' at *
      generalize B.map strR = b' at *
      generalize strR sg = s' at *
      generalize strR x = x' at *
      generalize (n : Int) = n' at *
      generalize m_is_comma_free = R1 at *
      generalize m_comma_free_book = R2 at *
      generalize m__law_turns = R3 at *
      walk_at "ev"
  · have zz : decide ((n : Int) < 6) = false := decide_eq_false (by omega)
    refine ⟨x8, x10, ?_⟩
    clear ne W fd hF hq L hs n0 n13 z lt
    unfold rest1
    dsimp only [lE]
    generalize F.map strR = f' at *
    generalize strR sg = s' at *
    generalize (n : Int) = n' at *
    generalize m_is_comma_free = R1 at *
    generalize m_comma_free_book = R2 at *
    generalize m__law_turns = R3 at *
    walk_at "ev"
theorem law_1_ok {d : D} {k : Nat} (hd : Dok k d) (hk : k < 2 ^ 35) (x2 x3 x4 x5 x6 x7 x8 x9 x10 : Sl) :
    ∃ y3 y4 y5 y6 y7 y8 y9 y10 d', g_law_1 [.no, .val .dck, x2, x3, x4, x5, x6, x7, x8, x9, x10, .no, .no] d = .ok (.nx, [.no, .val .dck, x2, y3, y4, y5, y6, y7, y8, y9, y10, .no, .no]) d' ∧ Dok (k + 1000) d' := by
  obtain ⟨st, d1, e1, hst, hd1⟩ := pick_ok (l := [.str "ab", .str "ab", .str "qx", .str "moz", .str "bcde", .str "fklpy"]) hd (by omega) (by decide) (by decide)
  obtain ⟨sg, rfl, hs⟩ : ∃ sg : List Nat, st = strR sg ∧ sg ∈ sgs := by
    simp only [List.mem_cons, List.not_mem_nil, or_false] at hst
    rcases hst with rfl | rfl | rfl | rfl | rfl | rfl
    · exact ⟨[97, 98], rfl, by decide⟩
    · exact ⟨[97, 98], rfl, by decide⟩
    · exact ⟨[113, 120], rfl, by decide⟩
    · exact ⟨[109, 111, 122], rfl, by decide⟩
    · exact ⟨[98, 99, 100, 101], rfl, by decide⟩
    · exact ⟨[102, 107, 108, 112, 121], rfl, by decide⟩
  obtain ⟨m, m1, hf, q1, q2, q3, h0, h1, hz⟩ := size_facts hs
  obtain ⟨z, d2, e2, z0, z1, hd2⟩ := draw_ok (n := hf) hd1 (by omega) h0 (by omega)
  obtain ⟨n, hn, L, hq⟩ := hz z z0 z1
  have sl := sgs_len hs
  have ln := ev_strLen (l := sg) (by omega)
  have mu : mulT (.int 2) (.int z) = some (.int (2 * z)) := rfl
  have ad : addT (.int 1) (.int (2 * z)) = some (.int (n : Int)) := by
    show some (T.int (1 + 2 * z)) = _
    rw [hn]
  obtain ⟨en3, d3, e3, hF3, F, y7, y8, y9, rfl, hFl, fd⟩ := forL_inv (fun (k : Nat) => T.int (k : Int)) (List.range 6) (a := aName 7) (g := g_law_0)
    (fun pre en d => Dok (k + 10 + 20 * pre.length) d ∧ ∃ F y7 y8 y9, en = lE x2 sg (.val (.int m)) n F y7 y8 y9 x10 ∧ F.length ≤ pre.length ∧ ∀ x ∈ F, Fd sg n x) (en := lE x2 sg (.val (.int m)) n [] x7 x8 x9 x10) (d := d2) ⟨dok_mono hd2 (by omega), [], x7, x8, x9, rfl, Nat.le_refl _, nofun⟩ fun pre i post en d hx ⟨hdd, F, y7, y8, y9, he, hFl, fd⟩ => by
      subst he
      have hp : pre.length < 6 := by
        have := congrArg List.length hx
        rw [List.length_range, List.length_append, List.length_cons] at this
        omega
      obtain ⟨F', z8, z9, d', e, fl, fd', hd'⟩ := law_0_ok hs L hq (F := F) (by omega) fd x2 (.val (.int m)) (.val (.int (i : Int))) y8 y9 x10 hdd (by omega)
      exact ⟨_, rfl, _, d', e, dok_mono hd' (by rw [List.length_append, List.length_singleton]; omega), F', _, _, _, rfl, by rw [List.length_append, List.length_singleton]; omega, fd'⟩
  rw [List.length_range] at hF3 hFl
  obtain ⟨z8, z10, rs⟩ := rest_ok hs L hq (F := F) (by omega) fd x2 (.val (.int m)) y7 y8 y9 x10 d3
  have r1 : rng1 [.int 6] = some ((List.range 6).map fun (k : Nat) => T.int (k : Int)) := rng1_nat (n := 6) (by omega)
  have c1 : ∀ z : Unit, capL ((List.range 6).map fun (k : Nat) => T.int (k : Int)).length z = some z := fun z => rfl
  refine ⟨.val (strR sg), .val (.int m), .val (.int (n : Int)), .val (.lst (F.map strR)), y7, z8, y9, z10, d3, ?_, dok_mono hF3 (by omega)⟩
  · have b1 : sAsg 3 (xFn m__law_pick (xCons (xVar 1) (xCons (xToL (xLst (xCons (xC (.str "ab")) (xCons (xC (.str "ab")) (xCons (xC (.str "qx")) (xCons (xC (.str "moz")) (xCons (xC (.str "bcde")) (xCons (xC (.str "fklpy")) xNil)))))))) xNil))) [.no, .val .dck, x2, x3, x4, x5, x6, x7, x8, x9, x10, .no, .no] d = .ok (.nx, [.no, .val .dck, x2, .val (strR sg), x4, x5, x6, x7, x8, x9, x10, .no, .no]) d1 := by
      clear e2 e3 rs hd hd1 hd2 hF3 hst
      generalize strR sg = s' at *
      generalize m__law_pick = R at *
      walk_at "ev"
    have b2 : sAsg 4 (xBin ixT (xToL (xLst (xCons (xC (.int 13)) (xCons (xC (.int 9)) (xCons (xC (.int 7)) (xCons (xC (.int 5)) xNil)))))) (xBin subT (xCall lenT (xCons (xVar 3) xNil)) (xC (.int 2)))) [.no, .val .dck, x2, .val (strR sg), x4, x5, x6, x7, x8, x9, x10, .no, .no] d1 = .ok (.nx, [.no, .val .dck, x2, .val (strR sg), .val (.int m), x5, x6, x7, x8, x9, x10, .no, .no]) d1 := by
      have q1' : atI [T.int 13, .int 9, .int 7, .int 5] ((sg.length : Int) - 2) = some (.int m) := q1
      clear e1 e2 e3 rs hd hd1 hd2 hF3 hst q1 b1 hs sl
      generalize strR sg = s' at *
      generalize (sg.length : Int) = l' at *
      walk_at "ev"
    have b3 : sAsg 5 (xBin addT (xC (.int 1)) (xBin mulT (xC (.int 2)) (xFn m__law_draw (xCons (xVar 1) (xCons (xBin fdivT (xBin addT (xVar 4) (xC (.int 1))) (xC (.int 2))) xNil))))) [.no, .val .dck, x2, .val (strR sg), .val (.int m), x5, x6, x7, x8, x9, x10, .no, .no] d1 = .ok (.nx, [.no, .val .dck, x2, .val (strR sg), .val (.int m), .val (.int (n : Int)), x6, x7, x8, x9, x10, .no, .no]) d2 := by
      have dv : (xBin fdivT (xBin addT (xVar 4) (xC (.int 1))) (xC (.int 2))) [.no, .val .dck, x2, .val (strR sg), .val (.int m), x5, x6, x7, x8, x9, x10, .no, .no] d1 = .ok (.int hf) d1 := by
        show (((M.opt (addT (.int m) (.int 1))) d1).bind fun x => M.opt (fdivT x (.int 2))) = _
        rw [q2]
        show M.opt (fdivT (.int m1) (.int 2)) d1 = _
        rw [q3]
        rfl
      have dr : (xFn m__law_draw (xCons (xVar 1) (xCons (xBin fdivT (xBin addT (xVar 4) (xC (.int 1))) (xC (.int 2))) xNil))) [.no, .val .dck, x2, .val (strR sg), .val (.int m), x5, x6, x7, x8, x9, x10, .no, .no] d1 = .ok (.int z) d2 := by
        generalize (xBin fdivT (xBin addT (xVar 4) (xC (.int 1))) (xC (.int 2))) = Q at *
        generalize m__law_draw = R at *
        clear rs e3 e1 b1 b2
        generalize strR sg = s' at *
        walk_at "ev"
      generalize (xFn m__law_draw (xCons (xVar 1) (xCons (xBin fdivT (xBin addT (xVar 4) (xC (.int 1))) (xC (.int 2))) xNil))) = Q at *
      clear hn rs e1 e2 e3 b1 b2 dv hst hs sl ln q1 q2 q3 hz
      generalize (n : Int) = n' at *
      generalize strR sg = s' at *
      walk_at "ev"
    have b4 : sNew 6 (xLst xNil) [.no, .val .dck, x2, .val (strR sg), .val (.int m), .val (.int (n : Int)), x6, x7, x8, x9, x10, .no, .no] d2 = .ok (.nx, lE x2 sg (.val (.int m)) n [] x7 x8 x9 x10) d2 := rfl
    have b5 : sFor (xIt rng1 (xCons (xC (.int 6)) xNil)) (aName 7) g_law_0 (lE x2 sg (.val (.int m)) n [] x7 x8 x9 x10) d2 = .ok (.nx, lE x2 sg (.val (.int m)) n F y7 y8 y9 x10) d3 := by
      clear rs e1 e2 b1 b2 b3 b4 hn ad hz hst ln
      dsimp only [lE] at *
      generalize (List.range 6).map (fun (k : Nat) => T.int (k : Int)) = u4 at *
      generalize F.map strR = f' at *
      generalize ([] : List (List Nat)).map strR = f0 at *
      generalize strR sg = s' at *
      generalize (n : Int) = n' at *
      generalize g_law_0 = G at *
      walk_at "ev"
    unfold g_law_1
    rw [seq_nx b1, seq_nx b2, seq_nx b3, seq_nx b4, seq_nx b5]
    exact rs
theorem law_true : ∀ d : D, Dok 0 d → ∃ d' en', g_law (lawE 13 1) d = .ok (.ret (.bl true), en') d' := fun d hd => by
  obtain ⟨en2, d2, e2, hd2, x2, x3, x4, x5, x6, x7, x8, x9, x10, rfl⟩ := forL_inv (fun (k : Nat) => T.int (k : Int)) (List.range 4) (a := aName 2) (g := g_law_1)
    (fun pre en d => Dok (1000 * pre.length) d ∧ ∃ x2 x3 x4 x5 x6 x7 x8 x9 x10, en = [.no, .val .dck, x2, x3, x4, x5, x6, x7, x8, x9, x10, .no, .no]) (en := [.no, .val .dck, .no, .no, .no, .no, .no, .no, .no, .no, .no, .no, .no]) (d := d) ⟨hd, _, _, _, _, _, _, _, _, _, rfl⟩ fun pre i post en d hx ⟨hdd, x2, x3, x4, x5, x6, x7, x8, x9, x10, he⟩ => by
      subst he
      have hp : pre.length < 4 := by
        have := congrArg List.length hx
        rw [List.length_range, List.length_append, List.length_cons] at this
        omega
      obtain ⟨y3, y4, y5, y6, y7, y8, y9, y10, d', e, hd'⟩ := law_1_ok hdd (by omega) (.val (.int (i : Int))) x3 x4 x5 x6 x7 x8 x9 x10
      exact ⟨_, rfl, _, d', e, dok_mono hd' (by rw [List.length_append, List.length_singleton]; omega), _, _, _, _, _, _, _, _, _, rfl⟩
  have r1 : rng1 [.int 4] = some ((List.range 4).map fun (k : Nat) => T.int (k : Int)) := rng1_nat (n := 4) (by omega)
  have c1 : ∀ z : Unit, capL ((List.range 4).map fun (k : Nat) => T.int (k : Int)).length z = some z := fun z => rfl
  refine ⟨d2, [.no, .val .dck, x2, x3, x4, x5, x6, x7, x8, x9, x10, .no, .no], ?_⟩
  show g_law [.no, .val .dck, .no, .no, .no, .no, .no, .no, .no, .no, .no, .no, .no] d = _
  clear hd hd2
  generalize (List.range 4).map (fun (k : Nat) => T.int (k : Int)) = u4 at *
  unfold g_law
  generalize g_law_1 = G at *
  walk_at "ev"
end K_k50
open PySem PySem.Spec PyProof.Rows L2 TL
namespace K_k50
section
variable {W : Wd} {P : Program} {w : World} {mg : Str → Option Value} {base : Heap}
theorem ok_law (Y : Fx W P w mg base) : CallS P w W.K mg base CX0 Y.a_law Y.d_law "_law_script" (spS W.K 63) := fun s H u v Q E env hb rv hsp =>
  fg_of Y.F_law sc_law (fun vs H Q E ⟨a, ns, h, _⟩ => by subst h; rfl) (fun cdv A outer s H vs Q E hg hr hsp => by
    obtain ⟨a, ns, rfl, hS, hn, q⟩ := hsp
    refine ⟨_, pss_cons (ps_set (i := 1) sc_law.nd rfl (by first | exact .inl rfl | exact .inr rfl) (pe_call ((ok__law_deck Y).mono (by decide)) hr (by rfl) Y.m__law_deck Y.F__law_deck.kp Y.b__law_deck .nil pass0 (pa_cons (pv 0) pa_nil))) (law_body Y hg hr), ?_⟩
    exact ⟨.ref a, rfl, a, ns, rfl, hS, hn, fun H' dk d hD h0 => law_rest2 hD rfl h0 law_true q⟩) callerA [] s H ⟨[u], []⟩ [u] [v] Q E rfl (k := 6) ⟨rfl, by decide, by decide⟩ env hb (.cons rv .nil) hsp
end
set_option maxHeartbeats 0 in
theorem all_mk {l : PySem.W.OpenLaw} {w : World} {K : PySem.W.Frag} {h : Heap} {mg : Str → Option Value} {fa : Addr} (X : K.In h) (G : h.Ns mainGlobals mg) (hfa : mg "law" = some (.ref fa))
    {f0 : Addr} {od0 an0 : Option Addr} {sl0 : Array (Option Value)} {oc0 kV0 dc0 pm0 cd0 ct0 : Value}
    {f1 : Addr} {od1 an1 : Option Addr} {sl1 : Array (Option Value)} {oc1 kV1 dc1 pm1 cd1 ct1 : Value}
    {f2 : Addr} {od2 an2 : Option Addr} {sl2 : Array (Option Value)} {oc2 kV2 dc2 pm2 cd2 ct2 : Value}
    {f3 : Addr} {od3 an3 : Option Addr} {sl3 : Array (Option Value)} {oc3 kV3 dc3 pm3 cd3 ct3 : Value}
    {f4 : Addr} {od4 an4 : Option Addr} {sl4 : Array (Option Value)} {oc4 kV4 dc4 pm4 cd4 ct4 : Value}
    {f5 : Addr} {od5 an5 : Option Addr} {sl5 : Array (Option Value)} {oc5 kV5 dc5 pm5 cd5 ct5 : Value}
    {f6 : Addr} {od6 an6 : Option Addr} {sl6 : Array (Option Value)} {oc6 kV6 dc6 pm6 cd6 ct6 : Value}
    {f7 : Addr} {od7 an7 : Option Addr} {sl7 : Array (Option Value)} {oc7 kV7 dc7 pm7 cd7 ct7 : Value}
    {f8 : Addr} {od8 an8 : Option Addr} {sl8 : Array (Option Value)} {oc8 kV8 dc8 pm8 cd8 ct8 : Value}
    {f9 : Addr} {od9 an9 : Option Addr} {sl9 : Array (Option Value)} {oc9 kV9 dc9 pm9 cd9 ct9 : Value}
    {f10 : Addr} {od10 an10 : Option Addr} {sl10 : Array (Option Value)} {oc10 kV10 dc10 pm10 cd10 ct10 : Value}
    {f11 : Addr} {od11 an11 : Option Addr} {sl11 : Array (Option Value)} {oc11 kV11 dc11 pm11 cd11 ct11 : Value}
    {f12 : Addr} {od12 an12 : Option Addr} {sl12 : Array (Option Value)} {oc12 kV12 dc12 pm12 cd12 ct12 : Value}
    {f13 : Addr} {od13 an13 : Option Addr} {sl13 : Array (Option Value)} {oc13 kV13 dc13 pm13 cd13 ct13 : Value}
    {f14 : Addr} {od14 an14 : Option Addr} {sl14 : Array (Option Value)} {oc14 kV14 dc14 pm14 cd14 ct14 : Value}
    {f15 : Addr} {od15 an15 : Option Addr} {sl15 : Array (Option Value)} {oc15 kV15 dc15 pm15 cd15 ct15 : Value}
    {f16 : Addr} {od16 an16 : Option Addr} {sl16 : Array (Option Value)} {oc16 kV16 dc16 pm16 cd16 ct16 : Value}
    (a0 : PySem.W.nsIn K mainGlobals "words_with" = some (some (.ref f0))) (l0 : K.lookup f0 = some ⟨oc0, od0, .func (PySem.W.fnOf "words_with" "words_with" (defArgs s_words_with) (defBody s_words_with) (defScope s_words_with) .none kV0 dc0 pm0 an0 cd0 ct0), sl0⟩) (c0 : PySem.W.codeIn K cd0 "words_with" = true) (k0 : PySem.W.keepIn K (.ref f0) = true)
    (a1 : PySem.W.nsIn K mainGlobals "all_turns" = some (some (.ref f1))) (l1 : K.lookup f1 = some ⟨oc1, od1, .func (PySem.W.fnOf "all_turns" "all_turns" (defArgs s_all_turns) (defBody s_all_turns) (defScope s_all_turns) .none kV1 dc1 pm1 an1 cd1 ct1), sl1⟩) (c1 : PySem.W.codeIn K cd1 "all_turns" = true) (k1 : PySem.W.keepIn K (.ref f1) = true)
    (a2 : PySem.W.nsIn K mainGlobals "least_turn" = some (some (.ref f2))) (l2 : K.lookup f2 = some ⟨oc2, od2, .func (PySem.W.fnOf "least_turn" "least_turn" (defArgs s_least_turn) (defBody s_least_turn) (defScope s_least_turn) .none kV2 dc2 pm2 an2 cd2 ct2), sl2⟩) (c2 : PySem.W.codeIn K cd2 "least_turn" = true) (k2 : PySem.W.keepIn K (.ref f2) = true)
    (a3 : PySem.W.nsIn K mainGlobals "is_repeated" = some (some (.ref f3))) (l3 : K.lookup f3 = some ⟨oc3, od3, .func (PySem.W.fnOf "is_repeated" "is_repeated" (defArgs s_is_repeated) (defBody s_is_repeated) (defScope s_is_repeated) .none kV3 dc3 pm3 an3 cd3 ct3), sl3⟩) (c3 : PySem.W.codeIn K cd3 "is_repeated" = true) (k3 : PySem.W.keepIn K (.ref f3) = true)
    (a4 : PySem.W.nsIn K mainGlobals "is_comma_free" = some (some (.ref f4))) (l4 : K.lookup f4 = some ⟨oc4, od4, .func (PySem.W.fnOf "is_comma_free" "is_comma_free" (defArgs s_is_comma_free) (defBody s_is_comma_free) (defScope s_is_comma_free) .none kV4 dc4 pm4 an4 cd4 ct4), sl4⟩) (c4 : PySem.W.codeIn K cd4 "is_comma_free" = true) (k4 : PySem.W.keepIn K (.ref f4) = true)
    (a5 : PySem.W.nsIn K mainGlobals "dip_end" = some (some (.ref f5))) (l5 : K.lookup f5 = some ⟨oc5, od5, .func (PySem.W.fnOf "dip_end" "dip_end" (defArgs s_dip_end) (defBody s_dip_end) (defScope s_dip_end) .none kV5 dc5 pm5 an5 cd5 ct5), sl5⟩) (c5 : PySem.W.codeIn K cd5 "dip_end" = true) (k5 : PySem.W.keepIn K (.ref f5) = true)
    (a6 : PySem.W.nsIn K mainGlobals "dips_of" = some (some (.ref f6))) (l6 : K.lookup f6 = some ⟨oc6, od6, .func (PySem.W.fnOf "dips_of" "dips_of" (defArgs s_dips_of) (defBody s_dips_of) (defScope s_dips_of) .none kV6 dc6 pm6 an6 cd6 ct6), sl6⟩) (c6 : PySem.W.codeIn K cd6 "dips_of" = true) (k6 : PySem.W.keepIn K (.ref f6) = true)
    (a7 : PySem.W.nsIn K mainGlobals "joined" = some (some (.ref f7))) (l7 : K.lookup f7 = some ⟨oc7, od7, .func (PySem.W.fnOf "joined" "joined" (defArgs s_joined) (defBody s_joined) (defScope s_joined) .none kV7 dc7 pm7 an7 cd7 ct7), sl7⟩) (c7 : PySem.W.codeIn K cd7 "joined" = true) (k7 : PySem.W.keepIn K (.ref f7) = true)
    (a8 : PySem.W.nsIn K mainGlobals "greater_items" = some (some (.ref f8))) (l8 : K.lookup f8 = some ⟨oc8, od8, .func (PySem.W.fnOf "greater_items" "greater_items" (defArgs s_greater_items) (defBody s_greater_items) (defScope s_greater_items) .none kV8 dc8 pm8 an8 cd8 ct8), sl8⟩) (c8 : PySem.W.codeIn K cd8 "greater_items" = true) (k8 : PySem.W.keepIn K (.ref f8) = true)
    (a9 : PySem.W.nsIn K mainGlobals "marked_turn" = some (some (.ref f9))) (l9 : K.lookup f9 = some ⟨oc9, od9, .func (PySem.W.fnOf "marked_turn" "marked_turn" (defArgs s_marked_turn) (defBody s_marked_turn) (defScope s_marked_turn) .none kV9 dc9 pm9 an9 cd9 ct9), sl9⟩) (c9 : PySem.W.codeIn K cd9 "marked_turn" = true) (k9 : PySem.W.keepIn K (.ref f9) = true)
    (a10 : PySem.W.nsIn K mainGlobals "comma_free_book" = some (some (.ref f10))) (l10 : K.lookup f10 = some ⟨oc10, od10, .func (PySem.W.fnOf "comma_free_book" "comma_free_book" (defArgs s_comma_free_book) (defBody s_comma_free_book) (defScope s_comma_free_book) .none kV10 dc10 pm10 an10 cd10 ct10), sl10⟩) (c10 : PySem.W.codeIn K cd10 "comma_free_book" = true) (k10 : PySem.W.keepIn K (.ref f10) = true)
    (a11 : PySem.W.nsIn K mainGlobals "_law_deck" = some (some (.ref f11))) (l11 : K.lookup f11 = some ⟨oc11, od11, .func (PySem.W.fnOf "_law_deck" "_law_deck" (defArgs s__law_deck) (defBody s__law_deck) (defScope s__law_deck) .none kV11 dc11 pm11 an11 cd11 ct11), sl11⟩) (c11 : PySem.W.codeIn K cd11 "_law_deck" = true) (k11 : PySem.W.keepIn K (.ref f11) = true)
    (a12 : PySem.W.nsIn K mainGlobals "_law_draw" = some (some (.ref f12))) (l12 : K.lookup f12 = some ⟨oc12, od12, .func (PySem.W.fnOf "_law_draw" "_law_draw" (defArgs s__law_draw) (defBody s__law_draw) (defScope s__law_draw) .none kV12 dc12 pm12 an12 cd12 ct12), sl12⟩) (c12 : PySem.W.codeIn K cd12 "_law_draw" = true) (k12 : PySem.W.keepIn K (.ref f12) = true)
    (a13 : PySem.W.nsIn K mainGlobals "_law_pick" = some (some (.ref f13))) (l13 : K.lookup f13 = some ⟨oc13, od13, .func (PySem.W.fnOf "_law_pick" "_law_pick" (defArgs s__law_pick) (defBody s__law_pick) (defScope s__law_pick) .none kV13 dc13 pm13 an13 cd13 ct13), sl13⟩) (c13 : PySem.W.codeIn K cd13 "_law_pick" = true) (k13 : PySem.W.keepIn K (.ref f13) = true)
    (a14 : PySem.W.nsIn K mainGlobals "_law_turns" = some (some (.ref f14))) (l14 : K.lookup f14 = some ⟨oc14, od14, .func (PySem.W.fnOf "_law_turns" "_law_turns" (defArgs s__law_turns) (defBody s__law_turns) (defScope s__law_turns) .none kV14 dc14 pm14 an14 cd14 ct14), sl14⟩) (c14 : PySem.W.codeIn K cd14 "_law_turns" = true) (k14 : PySem.W.keepIn K (.ref f14) = true)
    (a15 : PySem.W.nsIn K mainGlobals "_law_bare" = some (some (.ref f15))) (l15 : K.lookup f15 = some ⟨oc15, od15, .func (PySem.W.fnOf "_law_bare" "_law_bare" (defArgs s__law_bare) (defBody s__law_bare) (defScope s__law_bare) .none kV15 dc15 pm15 an15 cd15 ct15), sl15⟩) (c15 : PySem.W.codeIn K cd15 "_law_bare" = true) (k15 : PySem.W.keepIn K (.ref f15) = true)
    (a16 : PySem.W.nsIn K mainGlobals "law" = some (some (.ref f16))) (l16 : K.lookup f16 = some ⟨oc16, od16, .func (PySem.W.fnOf "law" "law" (defArgs s_law) (defBody s_law) (defScope s_law) .none kV16 dc16 pm16 an16 cd16 ct16), sl16⟩) (c16 : PySem.W.codeIn K cd16 "law" = true) (k16 : PySem.W.keepIn K (.ref f16) = true)
    (z_any : PySem.W.nsIn K mainGlobals "any" = some none)
    (z_enumerate : PySem.W.nsIn K mainGlobals "enumerate" = some none)
    (z_int : PySem.W.nsIn K mainGlobals "int" = some none)
    (z_len : PySem.W.nsIn K mainGlobals "len" = some none)
    (z_list : PySem.W.nsIn K mainGlobals "list" = some none)
    (z_max : PySem.W.nsIn K mainGlobals "max" = some none)
    (z_min : PySem.W.nsIn K mainGlobals "min" = some none)
    (z_range : PySem.W.nsIn K mainGlobals "range" = some none)
    (z_sorted : PySem.W.nsIn K mainGlobals "sorted" = some none)
    (z_tuple : PySem.W.nsIn K mainGlobals "tuple" = some none) :
    ∃ fd : FuncData, (∀ (s : Shared) (v : Value), BindsTo s fd ⟨[v], []⟩ [("_law_script", v)]) ∧ ∀ base : Heap, K.In base → base.Ns mainGlobals mg → CallS l.prog w K mg base CX0 fa fd "_law_script" (spS K 63) := by
  have e := hfa.symm.trans (PySem.W.mg_of X G a16)
  cases e
  have F0 := fun_mk (st := s_words_with) l0 c0 k0
  have F1 := fun_mk (st := s_all_turns) l1 c1 k1
  have F2 := fun_mk (st := s_least_turn) l2 c2 k2
  have F3 := fun_mk (st := s_is_repeated) l3 c3 k3
  have F4 := fun_mk (st := s_is_comma_free) l4 c4 k4
  have F5 := fun_mk (st := s_dip_end) l5 c5 k5
  have F6 := fun_mk (st := s_dips_of) l6 c6 k6
  have F7 := fun_mk (st := s_joined) l7 c7 k7
  have F8 := fun_mk (st := s_greater_items) l8 c8 k8
  have F9 := fun_mk (st := s_marked_turn) l9 c9 k9
  have F10 := fun_mk (st := s_comma_free_book) l10 c10 k10
  have F11 := fun_mk (st := s__law_deck) l11 c11 k11
  have F12 := fun_mk (st := s__law_draw) l12 c12 k12
  have F13 := fun_mk (st := s__law_pick) l13 c13 k13
  have F14 := fun_mk (st := s__law_turns) l14 c14 k14
  have F15 := fun_mk (st := s__law_bare) l15 c15 k15
  have F16 := fun_mk (st := s_law) l16 c16 k16
  let W : Wd := ⟨K, l.prog, w, fun x => none, dkD "heap" "mixed" "lap"⟩
  refine ⟨_, fun s v => ?_, fun base _ _ => ok_law (W := W) (P := l.prog) (w := w) (mg := mg) (base := base) {
    dk := ⟨rfl, by decide, by decide, by decide⟩,
    a_words_with := _, d_words_with := _, F_words_with := F0, b_words_with := F0.binds fun _ _ _ _ _ _ us hl => match us, hl with | [_, _], _ => rfl, m_words_with := PySem.W.mg_of X G a0,
    a_all_turns := _, d_all_turns := _, F_all_turns := F1, b_all_turns := F1.binds fun _ _ _ _ _ _ us hl => match us, hl with | [_], _ => rfl, m_all_turns := PySem.W.mg_of X G a1,
    a_least_turn := _, d_least_turn := _, F_least_turn := F2, b_least_turn := F2.binds fun _ _ _ _ _ _ us hl => match us, hl with | [_], _ => rfl, m_least_turn := PySem.W.mg_of X G a2,
    a_is_repeated := _, d_is_repeated := _, F_is_repeated := F3, b_is_repeated := F3.binds fun _ _ _ _ _ _ us hl => match us, hl with | [_], _ => rfl, m_is_repeated := PySem.W.mg_of X G a3,
    a_is_comma_free := _, d_is_comma_free := _, F_is_comma_free := F4, b_is_comma_free := F4.binds fun _ _ _ _ _ _ us hl => match us, hl with | [_], _ => rfl, m_is_comma_free := PySem.W.mg_of X G a4,
    a_dip_end := _, d_dip_end := _, F_dip_end := F5, b_dip_end := F5.binds fun _ _ _ _ _ _ us hl => match us, hl with | [_], _ => rfl, m_dip_end := PySem.W.mg_of X G a5,
    a_dips_of := _, d_dips_of := _, F_dips_of := F6, b_dips_of := F6.binds fun _ _ _ _ _ _ us hl => match us, hl with | [_], _ => rfl, m_dips_of := PySem.W.mg_of X G a6,
    a_joined := _, d_joined := _, F_joined := F7, b_joined := F7.binds fun _ _ _ _ _ _ us hl => match us, hl with | [_], _ => rfl, m_joined := PySem.W.mg_of X G a7,
    a_greater_items := _, d_greater_items := _, F_greater_items := F8, b_greater_items := F8.binds fun _ _ _ _ _ _ us hl => match us, hl with | [_], _ => rfl, m_greater_items := PySem.W.mg_of X G a8,
    a_marked_turn := _, d_marked_turn := _, F_marked_turn := F9, b_marked_turn := F9.binds fun _ _ _ _ _ _ us hl => match us, hl with | [_, _], _ => rfl, m_marked_turn := PySem.W.mg_of X G a9,
    a_comma_free_book := _, d_comma_free_book := _, F_comma_free_book := F10, b_comma_free_book := F10.binds fun _ _ _ _ _ _ us hl => match us, hl with | [_, _], _ => rfl, m_comma_free_book := PySem.W.mg_of X G a10,
    a__law_deck := _, d__law_deck := _, F__law_deck := F11, b__law_deck := F11.binds fun _ _ _ _ _ _ us hl => match us, hl with | [_], _ => rfl, m__law_deck := PySem.W.mg_of X G a11,
    a__law_draw := _, d__law_draw := _, F__law_draw := F12, b__law_draw := F12.binds fun _ _ _ _ _ _ us hl => match us, hl with | [_, _], _ => rfl, m__law_draw := PySem.W.mg_of X G a12,
    a__law_pick := _, d__law_pick := _, F__law_pick := F13, b__law_pick := F13.binds fun _ _ _ _ _ _ us hl => match us, hl with | [_, _], _ => rfl, m__law_pick := PySem.W.mg_of X G a13,
    a__law_turns := _, d__law_turns := _, F__law_turns := F14, b__law_turns := F14.binds fun _ _ _ _ _ _ us hl => match us, hl with | [_], _ => rfl, m__law_turns := PySem.W.mg_of X G a14,
    a__law_bare := _, d__law_bare := _, F__law_bare := F15, b__law_bare := F15.binds fun _ _ _ _ _ _ us hl => match us, hl with | [_], _ => rfl, m__law_bare := PySem.W.mg_of X G a15,
    a_law := _, d_law := _, F_law := F16, b_law := F16.binds fun _ _ _ _ _ _ us hl => match us, hl with | [_], _ => rfl, m_law := PySem.W.mg_of X G a16,
    z_any := PySem.W.mg_none_of X G z_any,
    z_enumerate := PySem.W.mg_none_of X G z_enumerate,
    z_int := PySem.W.mg_none_of X G z_int,
    z_len := PySem.W.mg_none_of X G z_len,
    z_list := PySem.W.mg_none_of X G z_list,
    z_max := PySem.W.mg_none_of X G z_max,
    z_min := PySem.W.mg_none_of X G z_min,
    z_range := PySem.W.mg_none_of X G z_range,
    z_sorted := PySem.W.mg_none_of X G z_sorted,
    z_tuple := PySem.W.mg_none_of X G z_tuple }⟩
  exact .of_eq rfl
end K_k50
open PySem PySem.W PyProof.Rows
set_option maxHeartbeats 0 in
theorem PySem.Challenge.cw_amidread_k50_the_turn_of_a_ring_holds : PySem.Challenge.rw_amidread_k50_the_turn_of_a_ring.Holds := by
  w_on; o_law; k_head; (case hw => w_witness2)
  k_fill
  refine TL.law_walk (l := PySem.Challenge.rw_amidread_k50_the_turn_of_a_ring) (n := 63) (x := "_law_script") (CX := fun _ => L2.CX0) rfl (by decide) rfl (fun w h Y => PySem.W.kIn_of Y) ?F (fun _ _ _ _ _ h => h)
  case F =>
    intro w mg fa h KX G hmg
    refine' K_k50.all_mk KX G hmg ?a0 ?l0 ?c0 ?k0 ?a1 ?l1 ?c1 ?k1 ?a2 ?l2 ?c2 ?k2 ?a3 ?l3 ?c3 ?k3 ?a4 ?l4 ?c4 ?k4 ?a5 ?l5 ?c5 ?k5 ?a6 ?l6 ?c6 ?k6 ?a7 ?l7 ?c7 ?k7 ?a8 ?l8 ?c8 ?k8 ?a9 ?l9 ?c9 ?k9 ?a10 ?l10 ?c10 ?k10 ?a11 ?l11 ?c11 ?k11 ?a12 ?l12 ?c12 ?k12 ?a13 ?l13 ?c13 ?k13 ?a14 ?l14 ?c14 ?k14 ?a15 ?l15 ?c15 ?k15 ?a16 ?l16 ?c16 ?k16 ?z_any ?z_enumerate ?z_int ?z_len ?z_list ?z_max ?z_min ?z_range ?z_sorted ?z_tuple
    (case a0 => k_is); (case l0 => k_is); (case c0 => k_is); (case k0 => k_is); (case a1 => k_is); (case l1 => k_is); (case c1 => k_is); (case k1 => k_is); (case a2 => k_is); (case l2 => k_is); (case c2 => k_is); (case k2 => k_is); (case a3 => k_is); (case l3 => k_is); (case c3 => k_is); (case k3 => k_is); (case a4 => k_is); (case l4 => k_is); (case c4 => k_is); (case k4 => k_is); (case a5 => k_is); (case l5 => k_is); (case c5 => k_is); (case k5 => k_is); (case a6 => k_is); (case l6 => k_is); (case c6 => k_is); (case k6 => k_is); (case a7 => k_is); (case l7 => k_is); (case c7 => k_is); (case k7 => k_is); (case a8 => k_is); (case l8 => k_is); (case c8 => k_is); (case k8 => k_is); (case a9 => k_is); (case l9 => k_is); (case c9 => k_is); (case k9 => k_is); (case a10 => k_is); (case l10 => k_is); (case c10 => k_is); (case k10 => k_is); (case a11 => k_is); (case l11 => k_is); (case c11 => k_is); (case k11 => k_is); (case a12 => k_is); (case l12 => k_is); (case c12 => k_is); (case k12 => k_is); (case a13 => k_is); (case l13 => k_is); (case c13 => k_is); (case k13 => k_is); (case a14 => k_is); (case l14 => k_is); (case c14 => k_is); (case k14 => k_is); (case a15 => k_is); (case l15 => k_is); (case c15 => k_is); (case k15 => k_is); (case a16 => k_is); (case l16 => k_is); (case c16 => k_is); (case k16 => k_is); (case z_any => k_is); (case z_enumerate => k_is); (case z_int => k_is); (case z_len => k_is); (case z_list => k_is); (case z_max => k_is); (case z_min => k_is); (case z_range => k_is); (case z_sorted => k_is); (case z_tuple => k_is)
