import PyProof.Rows.All
import Wide.All
import OpenK.AllK
import Wide.FinOn
import HandS.TupSets
import KE.KeyNested
import KE.SortData
import HandS.ForMost
import HandS.Deep
import HandS.Evl
import KE.KDictKeyed
import KE.KDictDisplayH
import HandS.DictComp
import HandS.Walk
import KE.KDictSum
import KE.KDictCopyH
import HandS.SetBool
import HandS.Strs
import HandS.IsInst
import HandS.Conv
import HandS.Wide
import HandS.TupAny
import HandS.Style
import HandS.Flow
import PySem.Challenge.RW_selfhold_k58_papers_of_long_rows
set_option Elab.async false
set_option linter.all false
set_option maxRecDepth 100000
/-! ShMask: the round of a set's table for masks up to 2047; tables by a mask whose slots all are met. -/
namespace SH
open PySem PySem.Spec PyProof.Rows L2

/-! ### the orbit as a bit mask -/
def orbit (m : Nat) : Nat → Nat → Nat → Nat
  | 0, _, acc => acc
  | n + 1, x, acc => orbit m n ((x * 5 + 1) % (m + 1)) (acc ||| (1 <<< x))
theorem orbit_bit (m : Nat) : ∀ (n x acc j a : Nat), lcgN m a = x → (orbit m n x acc).testBit j = true → acc.testBit j = true ∨ ∃ b, a ≤ b ∧ b < a + n ∧ lcgN m b = j
  | 0, _, _, _, _, _, h => .inl h
  | n + 1, x, acc, j, a, hx, h => by
    have hs : lcgN m (a + 1) = (x * 5 + 1) % (m + 1) := by rw [← hx]; rfl
    rcases orbit_bit m n _ _ j (a + 1) hs h with g | ⟨b, h1, h2, h3⟩
    · rw [Nat.testBit_or, Bool.or_eq_true] at g
      rcases g with g | g
      · exact .inl g
      · rw [Nat.one_shiftLeft, Nat.testBit_two_pow, decide_eq_true_eq] at g
        exact .inr ⟨a, Nat.le_refl _, by omega, hx.trans g⟩
    · exact .inr ⟨b, by omega, by omega, h3⟩
structure Cyc (m : Nat) : Prop where
  all : ∀ j, j ≤ m → ∃ b, b ≤ m ∧ lcgN m b = j
  back : lcgN m (m + 1) = 0
def endOf (m : Nat) : Nat → Nat → Nat
  | 0, x => x
  | n + 1, x => endOf m n ((x * 5 + 1) % (m + 1))
theorem endOf_eq (m : Nat) : ∀ (n a x : Nat), lcgN m a = x → endOf m n x = lcgN m (a + n)
  | 0, _, _, h => h.symm
  | n + 1, a, x, h => by
    have hs : lcgN m (a + 1) = (x * 5 + 1) % (m + 1) := by rw [← h]; rfl
    show endOf m n ((x * 5 + 1) % (m + 1)) = _
    rw [endOf_eq m n (a + 1) _ hs, Nat.add_assoc, Nat.add_comm 1 n]
theorem cyc_of {m : Nat} (h : orbit m (m + 1) 0 0 = 2 ^ (m + 1) - 1) (h2 : endOf m (m + 1) 0 = 0) : Cyc m := by
  refine ⟨fun j hj => ?_, ?_⟩
  · have hb : (orbit m (m + 1) 0 0).testBit j = true := by
      rw [h, Nat.testBit_two_pow_sub_one]
      exact decide_eq_true (Nat.lt_succ_of_le hj)
    rcases orbit_bit m (m + 1) 0 0 j 0 rfl hb with g | ⟨b, _, h2, h3⟩
    · rw [Nat.zero_testBit] at g
      cases g
    · exact ⟨b, by omega, h3⟩
  · rw [endOf_eq m (m + 1) 0 0 rfl, Nat.zero_add] at h2
    exact h2
theorem cyc7 : Cyc 7 := cyc_of (by decide +kernel) (by decide +kernel)
theorem cyc31 : Cyc 31 := cyc_of (by decide +kernel) (by decide +kernel)
theorem cyc127 : Cyc 127 := cyc_of (by decide +kernel) (by decide +kernel)
theorem cyc511 : Cyc 511 := cyc_of (by decide +kernel) (by decide +kernel)
theorem cyc2047 : Cyc 2047 := cyc_of (by decide +kernel) (by decide +kernel)
/-- the masks that come up to some twelve hundred things -/
def Msk (m : Nat) : Prop := m = 7 ∨ m = 31 ∨ m = 127 ∨ m = 511 ∨ m = 2047
theorem Msk.cyc {m : Nat} (h : Msk m) : Cyc m := by
  rcases h with e | e | e | e | e <;> subst e
  · exact cyc7
  · exact cyc31
  · exact cyc127
  · exact cyc511
  · exact cyc2047
theorem Msk.odd {m : Nat} (h : Msk m) : m % 2 = 1 := by
  rcases h with e | e | e | e | e <;> subst e <;> rfl
theorem Msk.le {m : Nat} (h : Msk m) : m ≤ 2047 := by
  rcases h with e | e | e | e | e <;> omega
theorem Cyc.mod {m : Nat} (c : Cyc m) : ∀ k, lcgN m (m + 1 + k) = lcgN m k
  | 0 => c.back
  | k + 1 => by
    show (lcgN m (m + 1 + k) * 5 + 1) % (m + 1) = (lcgN m k * 5 + 1) % (m + 1)
    rw [c.mod k]
theorem Cyc.meet {m : Nat} (c : Cyc m) {i j : Nat} (hi : i ≤ m) (hj : j ≤ m) : ∃ k, k ≤ m ∧ lcgI m i k = j := by
  obtain ⟨a, ha, ea⟩ := c.all i hi
  obtain ⟨b, hb, eb⟩ := c.all j hj
  rcases Nat.lt_or_ge b a with d | d
  · refine ⟨b + (m + 1) - a, by omega, ?_⟩
    rw [← ea, lcgN_add, show a + (b + (m + 1) - a) = m + 1 + b by omega, c.mod, eb]
  · refine ⟨b - a, by omega, ?_⟩
    rw [← ea, lcgN_add, show a + (b - a) = b by omega, eb]
theorem Cyc.runs {m : Nat} (c : Cyc m) (h : Int) {j : Nat} (hj : j ≤ m) : ∃ n, n ≤ m + 12 ∧ runI m (SetTable.bits h) n = j := by
  obtain ⟨k, hk, e⟩ := c.meet (runI_le m (SetTable.bits h) 12) hj
  exact ⟨12 + k, by omega, (runI_tail (bits_lt h) k).trans e⟩

/-! ### the way -/
theorem way_in (m : Nat) (h : Int) (k : Nat) : way m h k ≤ m := by
  have hi : SetTable.bits h % (m + 1) ≤ m := Nat.le_of_lt_succ (Nat.mod_lt _ (Nat.succ_pos _))
  have hb := runEnd_bd hi
  have q := nth_in (m := m) k (runAt m (SetTable.bits h % (m + 1)) (SetTable.bits h)) (by
    show SetTable.bits h % (m + 1) + (SetTable.runEnd m (SetTable.bits h % (m + 1)) - SetTable.bits h % (m + 1)) ≤ m
    omega)
  exact Nat.le_trans (Nat.le_add_right _ _) q
theorem Cyc.wayTo {m : Nat} (c : Cyc m) (h : Int) {j : Nat} (hj : j ≤ m) : ∃ k, k < 10 * SetTable.turns m ∧ way m h k = j := by
  obtain ⟨n, hn, e⟩ := c.runs h hj
  obtain ⟨k, hk, e2⟩ := run_nth m (SetTable.bits h) n
  exact ⟨k, by unfold SetTable.turns; omega, (congrArg SetTable.Probe.j e2).trans e⟩

/-! ### a table in which each hash is found -/
structure Tab (t : SetTable) (hs : List Int) : Prop where
  ris : Ris t.place.toList
  dm : t.dummies = #[]
  sz : t.place.size = hs.length
  msk : Msk t.mask
  bd : ∀ x ∈ t.place.toList, x ≤ t.mask
  via : ∀ (i : Nat) (h : Int) (j : Nat), hs[i]? = some h → t.place.toList[i]? = some j → ∃ k, L2.way t.mask h k = j ∧ ∀ k', k' < k → L2.way t.mask h k' ∈ t.place.toList
/-- k is the first empty step on h's way -/
def FirstOn (t : SetTable) (h : Int) (k : Nat) : Prop := way t.mask h k ∉ t.place.toList ∧ ∀ k', k' < k → way t.mask h k' ∈ t.place.toList
theorem Tab.first {t : SetTable} {hs : List Int} (T : Tab t hs) (hl : hs.length ≤ t.mask) (h : Int) : ∃ k, k < 10 * SetTable.turns t.mask ∧ FirstOn t h k := by
  obtain ⟨j, hj, hn⟩ := st_missing t.place.toList (t.mask + 1) (by rw [Array.length_toList, T.sz]; omega)
  obtain ⟨k, hk, e⟩ := T.msk.cyc.wayTo h (Nat.le_of_lt_succ hj)
  obtain ⟨k0, a1, a2, a3⟩ := st_least (p := fun k => L2.way t.mask h k ∉ t.place.toList) k (by rw [e]; exact hn)
  exact ⟨k0, Nat.lt_of_le_of_lt a1 hk, a2, fun k' hk' => Classical.not_not.mp (a3 k' hk')⟩
theorem Tab.ahead {t : SetTable} {hs : List Int} (T : Tab t hs) {h : Int} {k i j : Nat} (hf : FirstOn t h k) (hi : hs[i]? = some h) (hj : t.place.toList[i]? = some j) : ∃ k', k' < k ∧ L2.way t.mask h k' = j := by
  obtain ⟨c, e, hb⟩ := T.via i h j hi hj
  refine ⟨c, Nat.lt_of_not_le fun hle => ?_, e⟩
  rcases Nat.lt_or_eq_of_le hle with q | q
  · exact hf.1 (hb k q)
  · subst q
    exact hf.1 (by rw [e]; exact List.mem_of_getElem? hj)
theorem Tab.putIn {t : SetTable} {hs : List Int} (T : Tab t hs) {h : Int} {k : Nat} (hf : FirstOn t h k) {j : Nat} (ej : j = L2.way t.mask h k) :
    SetTable.below t.place j ≤ hs.length ∧ Tab (t.put j).1 (hs.take (SetTable.below t.place j) ++ h :: hs.drop (SetTable.below t.place j)) ∧ (t.put j).1.fill = hs.length + 1 := by
  obtain ⟨c1, _, _⟩ := below_cut T.ris j
  have hj : j ∉ t.place.toList := by rw [ej]; exact hf.1
  have hp1 : SetTable.below t.place j ≤ t.place.toList.length := by rw [Array.length_toList]; exact c1
  have hp2 : SetTable.below t.place j ≤ hs.length := by rw [← T.sz]; exact c1
  have pp := put_place t j
  have up : ∀ {x : Nat}, x ∈ t.place.toList → x ∈ (t.put j).1.place.toList := fun hx => by rw [pp]; exact mem_ins.2 (.inr hx)
  have hsz : (t.put j).1.place.size = hs.length + 1 := by rw [← Array.length_toList, pp, len_ins _ hp1, Array.length_toList, T.sz]
  refine ⟨hp2, ⟨ris_insert T.ris fun e => hj (List.mem_of_getElem? (by rw [Array.getElem?_toList]; exact e)), put_dm T.dm j, by rw [len_ins _ hp2]; exact hsz, T.msk, fun x hx => ?_, fun i h' j' h1 h2 => ?_⟩, ?_⟩
  · rw [pp] at hx
    rcases mem_ins.1 hx with q | q
    · rw [q, ej]; exact way_in _ _ _
    · exact T.bd x q
  · rw [tins_get hs hp2] at h1
    rw [pp, tins_get _ hp1] at h2
    have old : ∀ i0, hs[i0]? = some h' → t.place.toList[i0]? = some j' → ∃ k, L2.way (t.put j).1.mask h' k = j' ∧ ∀ k', k' < k → L2.way (t.put j).1.mask h' k' ∈ (t.put j).1.place.toList := fun i0 a b => by
      obtain ⟨c, e, q⟩ := T.via i0 h' j' a b
      exact ⟨c, e, fun k' hk => up (q k' hk)⟩
    by_cases c : i < SetTable.below t.place j
    · rw [if_pos c] at h1 h2
      exact old i h1 h2
    · rw [if_neg c] at h1 h2
      by_cases d : i = SetTable.below t.place j
      · rw [if_pos d] at h1 h2
        cases h1
        cases h2
        exact ⟨k, ej.symm, fun k' hk => up (hf.2 k' hk)⟩
      · rw [if_neg d] at h1 h2
        exact old (i - 1) h1 h2
  · show (t.put j).1.place.size + (t.put j).1.dummies.size = hs.length + 1
    rw [hsz, put_dm T.dm j]
    rfl

/-! ### laid anew -/
theorem Cyc.freeAt {m : Nat} (c : Cyc m) (ow : Array (Option Nat)) (h : Int) {j : Nat} (hj : j ≤ m) (hf : oAt ow j = none) :
    ∃ k, SetTable.layClean.free m ow (SetTable.turns m) (SetTable.bits h % (m + 1)) (SetTable.bits h) = some (way m h k) ∧ oAt ow (way m h k) = none ∧ ∀ k', k' < k → oAt ow (way m h k') ≠ none := by
  obtain ⟨n, hn, e⟩ := c.runs h hj
  have hw : way m h (off m (SetTable.bits h % (m + 1)) (SetTable.bits h) n) = j := by
    have q := congrArg SetTable.Probe.j (nth_off m n (SetTable.bits h % (m + 1)) (SetTable.bits h))
    rw [itL_run] at q
    exact q.trans e
  obtain ⟨k, k1, k2, k3⟩ := st_least (p := fun k => oAt ow (way m h k) = none) _ (by rw [hw]; exact hf)
  refine ⟨k, free_spec m ow _ n _ _ k (by unfold SetTable.turns; omega) k1 (fun k' hk' => ?_) (by
    have q : oAt ow (nth m (runAt m (SetTable.bits h % (m + 1)) (SetTable.bits h)) k).j = none := k2
    rw [q]; rfl), k2, k3⟩
  have q := k3 k' hk'
  cases z : oAt ow (nth m (runAt m (SetTable.bits h % (m + 1)) (SetTable.bits h)) k').j with
  | none => exact absurd z q
  | some _ => rfl
/-- who sits where behind the hashes done -/
structure Seats (m : Nat) (done : List Int) (ow : Array (Option Nat)) : Prop where
  sz : ow.size = m + 1
  own : ∀ j k, j ≤ m → oAt ow j = some k → ∃ h c, done[k]? = some h ∧ way m h c = j ∧ ∀ c', c' < c → oAt ow (way m h c') ≠ none
  all : ∀ k, k < done.length → ∃ j, j ≤ m ∧ oAt ow j = some k
  few : ∃ ps : List Nat, ps.length = done.length ∧ ∀ j, j ≤ m → oAt ow j ≠ none → j ∈ ps
theorem Seats.nil (m : Nat) : Seats m [] (Array.replicate (m + 1) none) :=
  ⟨by simp, fun j k hj e => (by rw [oAt_init hj] at e; cases e), fun k hk => absurd hk (Nat.not_lt_zero _), ⟨[], rfl, fun j hj e => absurd (oAt_init hj) e⟩⟩
theorem Seats.more {m : Nat} (c : Cyc m) {done : List Int} {ow : Array (Option Nat)} (W : Seats m done ow) (hl : done.length ≤ m) (h : Int) :
    ∃ j, SetTable.layClean.free m ow (SetTable.turns m) (SetTable.bits h % (m + 1)) (SetTable.bits h) = some j ∧ Seats m (done ++ [h]) (ow.setIfInBounds j (some done.length)) := by
  obtain ⟨ps, p1, p2⟩ := W.few
  obtain ⟨j0, b0, n0⟩ := st_missing ps (m + 1) (by omega)
  have f0 : oAt ow j0 = none := Classical.byContradiction fun q => n0 (p2 j0 (Nat.le_of_lt_succ b0) q)
  obtain ⟨k, e1, e2, e3⟩ := c.freeAt ow h (Nat.le_of_lt_succ b0) f0
  have hself : oAt (ow.setIfInBounds (way m h k) (some done.length)) (way m h k) = some done.length := oAt_set_self _ (by rw [W.sz]; exact Nat.lt_succ_of_le (way_in m h k))
  have grow : ∀ {i : Nat}, oAt ow i ≠ none → oAt (ow.setIfInBounds (way m h k) (some done.length)) i ≠ none := fun {i} hi => by
    by_cases q : i = way m h k
    · rw [q, hself]; exact fun z => nomatch z
    · rw [oAt_set_ne _ q]; exact hi
  refine ⟨way m h k, e1, by rw [Array.size_setIfInBounds]; exact W.sz, fun j k' hj e => ?_, fun k' hk => ?_, way m h k :: ps, by rw [List.length_cons, List.length_append, p1]; rfl, fun j hj e => ?_⟩
  · by_cases q : j = way m h k
    · rw [q, hself] at e
      cases e
      exact ⟨h, k, by rw [List.getElem?_append_right (Nat.le_refl _), Nat.sub_self]; rfl, q.symm, fun c' hc => grow (e3 c' hc)⟩
    · rw [oAt_set_ne _ q] at e
      obtain ⟨h', c', a1, a2, a3⟩ := W.own j k' hj e
      exact ⟨h', c', by rw [List.getElem?_append_left (List.getElem?_eq_some_iff.mp a1).1]; exact a1, a2, fun d hd => grow (a3 d hd)⟩
  · rw [List.length_append, List.length_singleton] at hk
    by_cases q : k' < done.length
    · obtain ⟨j, hj, e⟩ := W.all k' q
      refine ⟨j, hj, ?_⟩
      rw [oAt_set_ne _ fun z => (by rw [z, e2] at e; cases e)]
      exact e
    · exact ⟨way m h k, way_in m h k, by rw [hself, show k' = done.length by omega]⟩
  · by_cases q : j = way m h k
    · rw [q]; exact List.mem_cons_self
    · rw [oAt_set_ne _ q] at e
      exact List.mem_cons_of_mem _ (p2 j hj e)
theorem Seats.fold {m : Nat} (c : Cyc m) : ∀ (rest done : List Int) (ow : Array (Option Nat)), Seats m done ow → done.length + rest.length ≤ m →
    ∃ ow', rest.foldl (stepF m) (some (ow, done.length)) = some (ow', (done ++ rest).length) ∧ Seats m (done ++ rest) ow'
  | [], done, ow, W, _ => ⟨ow, by rw [List.append_nil]; rfl, by rw [List.append_nil]; exact W⟩
  | h :: rest, done, ow, W, hl => by
    rw [List.length_cons] at hl
    obtain ⟨j, e, W1⟩ := W.more c (by omega) h
    obtain ⟨ow', f, W2⟩ := Seats.fold c rest (done ++ [h]) _ W1 (by rw [List.length_append, List.length_singleton]; omega)
    rw [List.length_append, List.length_singleton, List.append_assoc] at f
    rw [List.append_assoc] at W2
    exact ⟨ow', by rw [List.foldl_cons, stepF_some e]; exact f, W2⟩
theorem lay_seats {m : Nat} (c : Cyc m) {hs : Array Int} (hn : hs.size ≤ m) : ∃ ow, SetTable.layClean m hs = some ow ∧ Seats m hs.toList ow := by
  obtain ⟨ow, f, W⟩ := Seats.fold c hs.toList [] _ (Seats.nil m) (by rw [Array.length_toList]; show 0 + hs.size ≤ m; omega)
  refine ⟨ow, ?_, W⟩
  have f' : hs.toList.foldl (stepF m) (some (Array.replicate (m + 1) none, 0)) = some (ow, ([] ++ hs.toList).length) := f
  rw [layClean_eq, f']
  rfl
theorem lay_tab (t : SetTable) {hs : Array Int} {wanted M : Nat} (hw : SetTable.sizeAbove wanted - 1 = M) (hM : Msk M) (hn : hs.size ≤ M) :
    ∃ t' order, t.relaid hs wanted = some (t', order) ∧ order.toList.Perm (List.range hs.size) ∧ Tab t' (order.toList.map fun i => hs.getD i 0) ∧ t'.mask = M ∧ t'.led = t.led ∧ t'.plain = t.plain := by
  obtain ⟨ow, e, W⟩ := lay_seats hM.cyc hn
  have hr : t.relaid hs wanted = some (tabOf t M ow, ((liveOf M ow).map (·.2)).toArray) := by rw [relaid_eq, hw, e]; rfl
  have ris := ris_live (fun j => ow.getD j none) (List.range (M + 1)) (by unfold Ris; exact List.pairwise_lt_range)
  have r1 : Ris ((liveOf M ow).map (·.1)) := ris.1
  have r2 : ∀ x ∈ (liveOf M ow).map (·.1), x ∈ List.range (M + 1) := ris.2
  have nd : ((liveOf M ow).map (·.1)).Nodup := List.Pairwise.imp (fun {_ _} q => Nat.ne_of_lt q) r1
  have hlen : (liveOf M ow).length = hs.size := by
    obtain ⟨ps, p1, p2⟩ := W.few
    have a := nat_nodup_len ((liveOf M ow).map (·.1)) ps nd fun x hx => by
      obtain ⟨⟨y, k⟩, hq, rfl⟩ := List.mem_map.mp hx
      obtain ⟨b1, b2⟩ := (mem_live W.sz).1 hq
      exact p2 y b1 (by rw [b2]; exact fun z => nomatch z)
    have b := nat_nodup_len (List.range hs.size) ((liveOf M ow).map (·.2)) List.nodup_range fun k hk => by
      obtain ⟨j, b1, b2⟩ := W.all k (by rw [Array.length_toList]; exact List.mem_range.mp hk)
      exact List.mem_map.mpr ⟨(j, k), (mem_live W.sz).2 ⟨b1, b2⟩, rfl⟩
    have z : hs.toList.length = hs.size := rfl
    rw [List.length_map, p1] at a
    rw [List.length_map, List.length_range] at b
    omega
  refine ⟨tabOf t M ow, ((liveOf M ow).map (·.2)).toArray, hr, ?_, ⟨r1, rfl, ?_, hM, fun x hx => Nat.le_of_lt_succ (List.mem_range.mp (r2 x hx)), fun i h j h1 h2 => ?_⟩, rfl, rfl, rfl⟩
  · refine perm_range hs.size _ (by show ((liveOf M ow).map (·.2)).length = hs.size; rw [List.length_map]; exact hlen) fun k hk => ?_
    obtain ⟨j, b1, b2⟩ := W.all k (by rw [Array.length_toList]; exact hk)
    exact List.mem_map.mpr ⟨(j, k), (mem_live W.sz).2 ⟨b1, b2⟩, rfl⟩
  · show ((liveOf M ow).map (·.1)).toArray.size = (((liveOf M ow).map (·.2)).map fun i => hs.getD i 0).length
    simp
  · have h1' : (((liveOf M ow).map (·.2)).map fun i => hs.getD i 0)[i]? = some h := h1
    have h2' : ((liveOf M ow).map (·.1))[i]? = some j := h2
    rw [List.map_map, List.getElem?_map] at h1'
    rw [List.getElem?_map] at h2'
    cases hq : (liveOf M ow)[i]? with
    | none => rw [hq] at h2'; cases h2'
    | some q =>
      obtain ⟨y, k⟩ := q
      rw [hq] at h1' h2'
      cases h2'
      have eh : hs.getD k 0 = h := Option.some.inj h1'
      obtain ⟨b1, b2⟩ := (mem_live W.sz).1 (List.mem_of_getElem? hq)
      obtain ⟨h0, c, a1, a2, a3⟩ := W.own y k b1 b2
      have e0 : hs.getD k 0 = h0 := by rw [Array.getD_eq_getD_getElem?, ← Array.getElem?_toList, a1]; rfl
      have e1 : h0 = h := e0.symm.trans eh
      subst e1
      refine ⟨c, a2, fun c' hc => ?_⟩
      show way M h0 c' ∈ (liveOf M ow).map (·.1)
      cases z : oAt ow (way M h0 c') with
      | none => exact absurd z (a3 c' hc)
      | some k2 => exact List.mem_map.mpr ⟨(way M h0 c', k2), (mem_live W.sz).2 ⟨way_in _ _ _, z⟩, rfl⟩
end SH

set_option Elab.async false
set_option linter.all false
set_option maxRecDepth 100000
set_option maxHeartbeats 1600000
/-! ShSet: sets of nested tuples of numbers at the heap's level: add, the set of a list. -/
namespace SH
open PySem PySem.Spec PyProof.Rows L2

/-! ### keys without texts -/
mutual
def pureK : NestedKey → Bool
  | .none => true
  | .num _ => true
  | .text _ => false
  | .tup ks => pureKs ks
def pureKs : List NestedKey → Bool
  | [] => true
  | k :: ks => pureK k && pureKs ks
end
section
variable {P : Program} {w : World} {E : Value → Shared → Prop}
mutual
theorem noClass : ∀ (k : NestedKey) (v : Value) (n : Nat) (A : Around) (s : Shared) (Q : Bool → Shared → Prop), NestedIs s.heap k v → k.depth ≤ n → Q false s → wpAny (model P w) A (ofAClassStatement n v) Q E s
  | .none, _, n, A, s, Q, x, _, h => by cases x; cases n <;> exact wpAny_pure h
  | .num _, _, n, A, s, Q, x, _, h => by cases x <;> cases n <;> exact wpAny_pure h
  | .text _, _, n, A, s, Q, x, _, h => by cases x; cases n <;> exact wpAny_pure h
  | .tup ks, _, 0, A, s, Q, x, hn, h => by simp [NestedKey.depth] at hn
  | .tup ks, _, n + 1, A, s, Q, x, hn, h => by
    cases x with
    | @tup a o vs m _ ho hc hd hk =>
      unfold ofAClassStatement
      refine wpAny_bind (wpAny_typeOf ⟨o, ho, hc⟩ ?_)
      dsimp only
      have e : (("tuple" : String) == "tuple") = true := by decide
      simp only [e, if_true, Bool.not_true, Bool.false_eq_true, if_false]
      try refine wpAny_bind (wpAny_pure ?_)
      try simp only [Bool.not_true, Bool.false_eq_true, if_false]
      show wpAny _ _ (seqItems? (.ref a) >>= _) _ _ s
      refine wpAny_bind (wpAny_seqItems ho hd ?_)
      dsimp only
      refine wpAny_bind ?_
      rw [← Array.forIn_toList]
      refine noClasses ks vs.toList n A s _ hk (by simpa [NestedKey.depth] using hn) ?_
      exact wpAny_pure h
theorem noClasses : ∀ (ks : List NestedKey) (vs : List Value) (n : Nat) (A : Around) (s : Shared) (Q : Option Bool × Unit → Shared → Prop), NestedAll s.heap ks vs → NestedKey.depthAll ks ≤ n → Q (none, ()) s →
    wpAny (model P w) A (forIn vs ((none, ()) : Option Bool × Unit) fun y _ => do if ← ofAClassStatement n y then pure (ForInStep.done (some true, ())) else pure (ForInStep.yield (none, ()))) Q E s
  | [], _, n, A, s, Q, x, _, h => by cases x; exact wpAny_pure h
  | k :: ks, _, n, A, s, Q, x, hn, h => by
    cases x with
    | @cons _ v _ vs x1 x2 =>
      simp only [NestedKey.depthAll] at hn
      rw [List.forIn_cons]
      refine wpAny_bind (wpAny_bind (noClass k v n A s _ x1 (by omega) ?_))
      simp only [Bool.false_eq_true, if_false]
      exact wpAny_pure (noClasses ks vs n A s Q x2 (by omega) h)
end
mutual
theorem hashPure : ∀ (k : NestedKey) (v : Value) (n : Nat) (A : Around) (s : Shared) (Q : Bool → Shared → Prop), NestedIs s.heap k v → pureK k = true → k.depth ≤ n → Q true s → wpAny (model P w) A (hashByValue n v) Q E s
  | .none, _, n, A, s, Q, x, _, _, h => by cases x; cases n <;> exact wpAny_pure h
  | .num _, _, n, A, s, Q, x, _, _, h => by cases x <;> cases n <;> exact wpAny_pure h
  | .text _, _, n, A, s, Q, x, hp, _, h => by simp [pureK] at hp
  | .tup ks, _, 0, A, s, Q, x, _, hn, h => by simp [NestedKey.depth] at hn
  | .tup ks, _, n + 1, A, s, Q, x, hp, hn, h => by
    cases x with
    | @tup a o vs m _ ho hc hd hk =>
      unfold hashByValue
      refine wpAny_bind (wpAny_specialOf ⟨o, ho, hc⟩ F.slot_tuple_hash.lookup ?_)
      show wpAny _ _ (seqItems? (.ref a) >>= _) _ _ s
      refine wpAny_bind (wpAny_seqItems ho hd ?_)
      refine wpAny_bind ?_
      show wpAny _ _ (forIn vs _ _) _ _ s
      rw [← Array.forIn_toList]
      refine hashPures ks vs.toList n A s _ hk (by simpa [pureK] using hp) (by simpa [NestedKey.depth] using hn) ?_
      exact wpAny_pure h
theorem hashPures : ∀ (ks : List NestedKey) (vs : List Value) (n : Nat) (A : Around) (s : Shared) (Q : Option Bool × Unit → Shared → Prop), NestedAll s.heap ks vs → pureKs ks = true → NestedKey.depthAll ks ≤ n → Q (none, ()) s →
    wpAny (model P w) A (forIn vs ((none, ()) : Option Bool × Unit) fun y _ => do let b ← hashByValue n y; if (!b) = true then pure (ForInStep.done (some false, ())) else pure (ForInStep.yield (none, ()))) Q E s
  | [], _, n, A, s, Q, x, _, _, h => by cases x; exact wpAny_pure h
  | k :: ks, _, n, A, s, Q, x, hp, hn, h => by
    cases x with
    | @cons _ v _ vs x1 x2 =>
      simp only [NestedKey.depthAll] at hn
      simp only [pureKs, Bool.and_eq_true] at hp
      rw [List.forIn_cons]
      refine wpAny_bind (wpAny_bind (hashPure k v n A s _ x1 hp.1 (by omega) ?_))
      simp only [Bool.not_true, Bool.false_eq_true, if_false]
      exact wpAny_pure (hashPures ks vs n A s Q x2 hp.2 (by omega) h)
end
end

/-! ### what stands for a key -/
structure IsN (h : Heap) (k : NestedKey) (a : Addr) : Prop where
  is : NestedIs h k (.ref a)
  deep : k.depth ≤ 8
  pure : pureK k = true
theorem IsN.at {h h' : Heap} {k : NestedKey} {a : Addr} (x : IsN h k a) (hk : ∀ b o vs n, h.get? b = some o → o.data = .seq vs n → h'.get? b = some o) : IsN h' k a := ⟨x.is.at hk, x.deep, x.pure⟩
theorem IsN.keep {h h' : Heap} {k : NestedKey} {a : Addr} (x : IsN h k a) (hk : ∀ b o, h.get? b = some o → h'.get? b = some o) : IsN h' k a := x.at fun b o _ _ e _ => hk b o e
theorem IsN.set {h h' : Heap} {k : NestedKey} {a b : Addr} {o : Obj} {es : Array (Int × Value)} {ep : Nat} {t : SetTable} (x : IsN h k b) (ho : h.get? a = some o) (hd : o.data = .set es ep t) (hs : Heap.SameBut a h h') : IsN h' k b :=
  x.at fun c q vs n e d => (hs.2 c fun z => by
    subst z
    rw [ho] at e
    cases e
    rw [hd] at d
    cases d).trans e
section
variable {P : Program} {w : World} {A : Around} {E : Value → Shared → Prop} {s : Shared}
theorem unseen {k : NestedKey} {b : Addr} {Q : Bool → Shared → Prop} (hk : IsN s.heap k b) : ∀ {ys : List Value}, (∀ y ∈ ys, ∃ k' c, y = Value.ref c ∧ IsN s.heap k' c) → Q false s → wpAny (model P w) A (searchCouldBeSeen (.ref b) ys) Q E s := by
  intro ys hy h
  unfold searchCouldBeSeen
  refine wpAny_bind ?_
  have step : ∀ c k', IsN s.heap k' c → ∀ (Q' : ForInStep (Option Bool × Unit) → Shared → Prop), Q' (.yield (none, ())) s → wpAny (model P w) A (do
      let very := match (Value.ref b), (Value.ref c) with
        | .ref a, .ref b => a == b
        | _, _ => false
      if very || (carriedByValue (.ref b) && carriedByValue (.ref c)) then pure (ForInStep.yield ((none, ()) : Option Bool × Unit)) else do
      if !(← eqIsQuiet 8 (.ref b)) then pure (.done (some true, ())) else do
      if !(← eqIsQuiet 8 (.ref c)) then pure (.done (some true, ())) else do
      if ← ofAClassStatement 8 (.ref b) then pure (.done (some true, ())) else do
      if ← ofAClassStatement 8 (.ref c) then pure (.done (some true, ())) else pure (.yield (none, ()))) Q' E s := fun c k' hc Q' q => by
    dsimp only
    by_cases hv : (b == c || (carriedByValue (.ref b) && carriedByValue (.ref c))) = true
    · exact wp_if_pos hv (wpAny_pure q)
    · refine wp_if_neg hv (wpAny_bind (quiet_key k _ 8 s hk.is hk.deep A E _ ?_))
      simp only [Bool.not_true, Bool.false_eq_true, if_false]
      refine wpAny_bind (quiet_key k' _ 8 s hc.is hc.deep A E _ ?_)
      simp only [Bool.not_true, Bool.false_eq_true, if_false]
      refine wpAny_bind (noClass k _ 8 A s _ hk.is hk.deep ?_)
      simp only [Bool.false_eq_true, if_false]
      refine wpAny_bind (noClass k' _ 8 A s _ hc.is hc.deep ?_)
      simp only [Bool.false_eq_true, if_false]
      exact wpAny_pure q
  induction ys with
  | nil => exact wpAny_pure (wpAny_pure h)
  | cons y ys ih =>
    obtain ⟨k', c, rfl, hc⟩ := hy y List.mem_cons_self
    rw [List.forIn_cons]
    refine wpAny_bind (step c k' hc _ ?_)
    exact ih fun z hz => hy z (List.mem_cons_of_mem _ hz)
end

/-! ### the set at a: its things in the table's order -/
abbrev Th := Addr × NestedKey
def rowN (w : World) (L : List Th) : List (Int × Value) := L.map fun p => (p.2.hash w, Value.ref p.1)
structure SetN (w : World) (h : Heap) (a : Addr) (L : List Th) (es : Array (Int × Value)) (ep : Nat) (t : SetTable) : Prop where
  ob : ∃ o, h.get? a = some o ∧ o.ExactSet ∧ o.data = .set es ep t
  rows : es.toList = rowN w L
  tab : Tab t (L.map fun p => p.2.hash w)
  nd : (L.map (·.2)).Nodup
  plain : t.plain = true
  led : w.params.followText "set-order" = true ∨ t.led = true
  room : L.length * 5 < t.mask * 3
section
variable {P : Program} {w : World} {A : Around} {E : Value → Shared → Prop} {s : Shared} {a : Addr} {L : List Th} {es : Array (Int × Value)} {ep : Nat} {t : SetTable}
theorem rowN_size (h : es.toList = rowN w L) : es.size = L.length := by
  have q := congrArg List.length h
  unfold rowN at q
  rw [Array.length_toList, List.length_map] at q
  exact q
theorem fits_of {n : Nat} (h1 : t.place.size = n) (h2 : t.dummies = #[]) (h3 : n ≤ t.mask) : t.fits n = true := by
  unfold SetTable.fits SetTable.fill
  rw [h2, Bool.and_eq_true, beq_iff_eq, decide_eq_true_eq]
  exact ⟨h1, by show t.place.size + 0 ≤ t.mask; omega⟩
theorem SetN.fits (R : SetN w s.heap a L es ep t) : t.fits es.size = true := by
  have h1 := R.tab.sz
  have h2 := R.room
  rw [List.length_map] at h1
  exact fits_of (by rw [rowN_size R.rows]; exact h1) R.tab.dm (by rw [rowN_size R.rows]; omega)
theorem SetN.row (R : SetN w s.heap a L es ep t) {i : Nat} {p : Th} (h : L[i]? = some p) : es[i]? = some (p.2.hash w, Value.ref p.1) := by
  rw [← Array.getElem?_toList, R.rows]
  unfold rowN
  rw [List.getElem?_map, h]
  rfl
theorem SetN.here (R : SetN w s.heap a L es ep t) {i j : Nat} (h : t.place.toList[i]? = some j) : ∃ p, L[i]? = some p := by
  have h1 := (List.getElem?_eq_some_iff.mp h).1
  have h2 := R.tab.sz
  rw [List.length_map] at h2
  rw [Array.length_toList] at h1
  exact ⟨L[i], List.getElem?_eq_getElem (by omega)⟩
/-- the c-th state of the search for a hash -/
abbrev st (m : Nat) (h : Int) (c : Nat) : SetTable.Probe := nth m (runAt m (SetTable.bits h % (m + 1)) (SetTable.bits h)) c
theorem st_dummy (m : Nat) (h : Int) (c : Nat) : (st m h c).dummy = none := by
  have key : ∀ (n : Nat) (p : SetTable.Probe), p.dummy = none → (nth m p n).dummy = none := by
    intro n
    induction n with
    | zero => intro p h; exact h
    | succ n ih =>
      intro p h
      refine ih (adv m p) ?_
      unfold adv
      split <;> exact h
  exact key c _ rfl
theorem st_add (m : Nat) (h : Int) (c q : Nat) : nth m (st m h c) q = st m h (c + q) := (nth_add m c _ q).symm
theorem odd_stays (hM : Msk t.mask) : ¬ t.gaveWay = true := by
  unfold SetTable.gaveWay
  rw [hM.odd]
  decide

theorem find_from (R : SetN w s.heap a L es ep t) (hk : ∀ p ∈ L, IsN s.heap p.2 p.1) {x : Addr} {k : NestedKey} (hx : IsN s.heap k x) (hu : A.units + 8 < cLine) {K : Nat} (hKf : K < 10 * SetTable.turns t.mask) (hF : FirstOn t (k.hash w) K) {Q : SetFound → Shared → Prop}
    (yes : k ∈ L.map (·.2) → Q (.there none) s) (no : k ∉ L.map (·.2) → Q (.free (way t.mask (k.hash w) K) false) s) :
    ∀ (f c : Nat) (stand : Option SetTable.Probe), stand.getD (t.probeStart (k.hash w)) = st t.mask (k.hash w) c → c ≤ K → K - c < f →
      (∀ (i : Nat) p, L[i]? = some p → p.2 = k → ∃ c', c ≤ c' ∧ c' < K ∧ t.place.toList[i]? = some (way t.mask (k.hash w) c')) →
      wpAny (model P w) A (setSearchFrom a (.ref x) (k.hash w) true f stand) Q E s
  | 0, c, stand, _, _, hf, _ => absurd hf (Nat.not_lt_zero _)
  | f + 1, c, stand, hst, hc, hf, ahead => by
    obtain ⟨o, ho, hex, hd⟩ := R.ob
    rw [setSearchFrom_succ]
    refine wpAny_bind (wpAny_setState_of ho hd R.fits ?_)
    dsimp only
    refine wp_if_neg (odd_stays R.tab.msk) ?_
    try refine wpAny_bind (wpAny_pure ?_)
    have wj : ∀ q, (nth t.mask (st t.mask (k.hash w) c) q).j = way t.mask (k.hash w) (c + q) := fun q => congrArg SetTable.Probe.j (st_add t.mask (k.hash w) c q)
    have hashAt : ∀ (i : Nat) p, L[i]? = some p → (fun i => (es[i]?.map (·.1)).getD 0) i = p.2.hash w := fun i p hp => by
      show (es[i]?.map (·.1)).getD 0 = _
      rw [R.row hp]
      rfl
    rcases go_spec t R.tab.ris R.tab.dm (fun i => (es[i]?.map (·.1)).getD 0) (k.hash w) (10 * SetTable.turns t.mask) (K - c) _ (st_dummy t.mask (k.hash w) c) (by omega)
      (fun q hq => by rw [wj]; exact hF.2 (c + q) (by omega)) (by rw [wj, show c + (K - c) = K by omega]; exact hF.1) with ⟨q, i, hq, hi, hh, none_, pr⟩ | ⟨none_, pr⟩
    · have pr' : t.probe (fun i => (es[i]?.map (·.1)).getD 0) (k.hash w) (stand.getD (t.probeStart (k.hash w))) = some (.candidate (way t.mask (k.hash w) (c + q)) i (st t.mask (k.hash w) (c + (q + 1)))) := by
        rw [hst, ← wj, ← st_add]
        exact pr
      rw [pr']
      dsimp only
      rw [wj] at hi
      obtain ⟨p, hp⟩ := R.here hi
      have hm : p ∈ L := List.mem_of_getElem? hp
      have rest : wpAny (model P w) A (searchRest a (.ref x) (k.hash w) true f es t (way t.mask (k.hash w) (c + q)) i (st t.mask (k.hash w) (c + (q + 1)))) Q E s := by
        unfold searchRest
        rw [R.row hp]
        dsimp only
        have hp8 := (hk p hm).deep
        refine wpAny_bind (wpAny_holding (eqAt_key p.2 k A s _ _ (hk p hm).is hx.is (by omega) _ _ _ _ ?_))
        rw [← NestedKey.decide_eq]
        refine wpAny_bind (wpAny_setState_of ho hd R.fits ?_)
        dsimp only
        by_cases hkk : p.2 = k
        · exact wp_if_pos (by simp [hkk]) (wpAny_pure (yes (List.mem_map.mpr ⟨p, hm, hkk⟩)))
        · refine wp_if_neg (by simp [hkk]) ?_
          try refine wpAny_bind (wpAny_pure ?_)
          rw [sameMem]
          dsimp only
          have hsl : t.slot (way t.mask (k.hash w) (c + q)) = .live i := slot_live R.tab.ris hi
          simp only [if_true, hsl, R.row hp]
          refine wpAny_bind (wpAny_isSame_ref_self (wpAny_bind (wpAny_pure ?_)))
          simp only [if_true]
          refine wp_if_neg (by simp [hkk]) ?_
          refine find_from R hk hx hu hKf hF yes no f (c + (q + 1)) _ rfl (by omega) (by omega) fun i0 p0 h0 e0 => ?_
          obtain ⟨c', a1, a2, a3⟩ := ahead i0 p0 h0 e0
          refine ⟨c', ?_, a2, a3⟩
          rcases Nat.lt_trichotomy c' (c + q) with z | z | z
          · exact absurd ((hashAt i0 p0 h0).trans (congrArg (NestedKey.hash w) e0)) (none_ (c' - c) i0 (by omega) (by rw [wj, show c + (c' - c) = c' by omega]; exact a3))
          · rw [z] at a3
            have s0 := slot_live R.tab.ris a3
            rw [hsl] at s0
            injection s0 with s0
            rw [← s0, hp] at h0
            exact absurd ((congrArg Prod.snd (Option.some.inj h0)).trans e0) hkk
          · omega
      by_cases hl : t.led = true
      · refine wp_if_neg (by simp [hl]) ?_
        try refine wpAny_bind (wpAny_pure ?_)
        exact rest
      · refine wp_if_pos (by simp [hl]) ?_
        refine wpAny_bind (unseen hx (fun y hy => ?_) ?_)
        · obtain ⟨e, he, ee⟩ := List.mem_map.mp hy
          have he1 : e ∈ es ∧ e.1 = k.hash w := by simpa using he
          have he2 : e ∈ es.toList := by simpa using he1.1
          rw [R.rows] at he2
          obtain ⟨p2, hp2, e2⟩ := List.mem_map.mp he2
          exact ⟨p2.2, p2.1, by rw [← ee, ← e2], hk p2 hp2⟩
        · refine wp_if_neg (by decide) ?_
          try refine wpAny_bind (wpAny_pure ?_)
          exact rest
    · have pr' : t.probe (fun i => (es[i]?.map (·.1)).getD 0) (k.hash w) (stand.getD (t.probeStart (k.hash w))) = some (.empty (way t.mask (k.hash w) K) none) := by
        have e2 : way t.mask (k.hash w) K = (nth t.mask (st t.mask (k.hash w) c) (K - c)).j := by rw [wj, show c + (K - c) = K by omega]
        rw [hst, e2]
        exact pr
      rw [pr']
      dsimp only
      refine wpAny_pure (no fun hm => ?_)
      obtain ⟨p0, h0, e0⟩ := List.mem_map.mp hm
      obtain ⟨i0, hi0, e1⟩ := List.getElem_of_mem h0
      have h00 : L[i0]? = some p0 := by rw [List.getElem?_eq_getElem hi0, e1]
      obtain ⟨c', a1, a2, a3⟩ := ahead i0 p0 h00 e0
      exact none_ (c' - c) i0 (by omega) (by rw [wj, show c + (c' - c) = c' by omega]; exact a3) ((hashAt i0 p0 h00).trans (congrArg (NestedKey.hash w) e0))
theorem find_in (R : SetN w s.heap a L es ep t) (hk : ∀ p ∈ L, IsN s.heap p.2 p.1) {x : Addr} {k : NestedKey} (hx : IsN s.heap k x) (hu : A.units + 8 < cLine) {Q : SetFound → Shared → Prop}
    (yes : k ∈ L.map (·.2) → Q (.there none) s) (no : ∀ K, k ∉ L.map (·.2) → FirstOn t (k.hash w) K → Q (.free (way t.mask (k.hash w) K) false) s) :
    wpAny (model P w) A (setSearch a (.ref x) (k.hash w) true) Q E s := by
  have hr := R.room
  obtain ⟨K, hKf, hF⟩ := R.tab.first (by rw [List.length_map]; omega) (k.hash w)
  have hbig : 10 * SetTable.turns t.mask ≤ 20620 := by
    have := R.tab.msk.le
    unfold SetTable.turns
    omega
  unfold setSearch
  refine find_from R hk hx hu hKf hF yes (fun hn => no K hn hF) 100000 0 none rfl (Nat.zero_le _) (by omega) fun i p hp e => ?_
  have hi : (L.map fun p => p.2.hash w)[i]? = some (k.hash w) := by rw [List.getElem?_map, hp, ← e]; rfl
  have hil : i < t.place.toList.length := by
    have h1 : i < L.length := (List.getElem?_eq_some_iff.mp hp).1
    have h2 := R.tab.sz
    rw [List.length_map] at h2
    rw [Array.length_toList]
    omega
  obtain ⟨c, hc, e2⟩ := R.tab.ahead hF hi (List.getElem?_eq_getElem hil)
  exact ⟨c, Nat.zero_le _, hc, by rw [e2]; exact List.getElem?_eq_getElem hil⟩
end

theorem grow5 : SetTable.sizeAbove (SetTable.grown 5) = 32 := by decide +kernel
theorem grow19 : SetTable.sizeAbove (SetTable.grown 19) = 128 := by decide +kernel
theorem grow77 : SetTable.sizeAbove (SetTable.grown 77) = 512 := by decide +kernel
theorem grow307 : SetTable.sizeAbove (SetTable.grown 307) = 2048 := by decide +kernel
section
variable {P : Program} {w : World} {A : Around} {E : Value → Shared → Prop} {s : Shared}
theorem rowN_put (L : List Th) (p : Nat) (x : Addr) (k : NestedKey) : rowN w (L.take p ++ (x, k) :: L.drop p) = (rowN w L).take p ++ (k.hash w, Value.ref x) :: (rowN w L).drop p := by
  unfold rowN
  rw [List.map_append, List.map_cons, List.map_take, List.map_drop]
/-- the rows taken in another order -/
theorem rows_in {L : List Th} {es : Array (Int × Value)} {order : Array Nat} (hr : es.toList = rowN w L) (hp : order.toList.Perm (List.range L.length)) :
    ∃ L2, (order.filterMap (es[·]?)).toList = rowN w L2 ∧ L2.Perm L ∧ (L2.map fun p => p.2.hash w) = order.toList.map fun i => (es.map (·.1)).getD i 0 := by
  have hsz := rowN_size hr
  have at_ : ∀ i (h : i < L.length), es[i]? = some ((L[i]).2.hash w, Value.ref (L[i]).1) := fun i h => by
    rw [← Array.getElem?_toList, hr]
    unfold rowN
    rw [List.getElem?_map, List.getElem?_eq_getElem h]
    rfl
  have key : ∀ l : List Nat, (∀ i ∈ l, i < L.length) → l.filterMap (fun i => es[i]?) = rowN w (l.filterMap fun i => L[i]?) ∧ ((l.filterMap fun i => L[i]?).map fun p => p.2.hash w) = l.map fun i => (es.map (·.1)).getD i 0 := by
    intro l
    induction l with
    | nil => exact fun _ => ⟨rfl, rfl⟩
    | cons i l ih =>
      intro hl
      have hi := hl i List.mem_cons_self
      obtain ⟨e1, e2⟩ := ih fun j hj => hl j (List.mem_cons_of_mem _ hj)
      rw [List.filterMap_cons_some (at_ i hi), List.filterMap_cons_some (List.getElem?_eq_getElem hi), e1, List.map_cons, List.map_cons, e2]
      refine ⟨rfl, ?_⟩
      have e5 : (es.map (·.1))[i]? = some ((L[i]).2.hash w) := by rw [Array.getElem?_map, at_ i hi]; rfl
      rw [Array.getD_eq_getD_getElem?, e5]
      rfl
  obtain ⟨e1, e2⟩ := key order.toList fun i hi => List.mem_range.mp (hp.mem_iff.mp hi)
  refine ⟨_, by rw [Array.toList_filterMap]; exact e1, ?_, e2⟩
  have all : ∀ n, n ≤ L.length → (List.range n).filterMap (fun i => L[i]?) = L.take n := by
    intro n
    induction n with
    | zero => exact fun _ => rfl
    | succ n ih =>
      intro hn
      rw [List.range_succ, List.filterMap_append, ih (Nat.le_of_lt hn), List.take_succ, List.getElem?_eq_getElem hn, List.filterMap_cons_some (List.getElem?_eq_getElem hn)]
      rfl
  have q := hp.filterMap fun i => L[i]?
  rw [all L.length (Nat.le_refl _), List.take_length] at q
  exact q
variable {a : Addr} {L : List Th} {es : Array (Int × Value)} {ep : Nat} {t : SetTable}
theorem relayN {o : Obj} (ho : s.heap.get? a = some o) (hex : o.ExactSet) (hd : o.data = .set es ep t) (hr : es.toList = rowN w L) (hsz : t.place.size = es.size) (hdm : t.dummies = #[]) (hfl : es.size ≤ t.mask)
    (nd : (L.map (·.2)).Nodup) (pl : t.plain = true) (ld : w.params.followText "set-order" = true ∨ t.led = true) {wanted M : Nat}
    (hw : SetTable.sizeAbove wanted - 1 = M) (hM : Msk M) (hw2 : SetTable.sizeAbove wanted ≤ 4096) (hn : L.length * 5 < M * 3) {Q : Unit → Shared → Prop}
    (hQ : ∀ h' L' es' ep' t', Heap.SameBut a s.heap h' → SetN w h' a L' es' ep' t' → L'.Perm L → Q () { s with heap := h' }) : wpAny (model P w) A (setRelay a wanted) Q E s := by
  have hsl := rowN_size hr
  have hMl := hM.le
  obtain ⟨t', order, e, hp, T, em, el, epl⟩ := lay_tab t (hs := es.map (·.1)) (wanted := wanted) hw hM (by rw [Array.size_map, hsl]; omega)
  rw [Array.size_map, hsl] at hp
  obtain ⟨L2, r1, r2, r3⟩ := rows_in hr hp
  rw [← r3] at T
  have hs2 : (order.filterMap (es[·]?)).size = es.size := by rw [rowN_size r1, r2.length_eq, hsl]
  rw [setRelay_eq]
  refine wpAny_bind (wpAny_setState_of ho hd (fits_of hsz hdm hfl) ?_)
  dsimp only
  refine wp_if_neg (by rw [sizeLine_eq]; omega) ?_
  try refine wpAny_bind (wpAny_pure ?_)
  rw [e]
  dsimp only
  refine wpAny_bind (wp_if_neg (by rw [hs2]; simp) ?_)
  try refine wpAny_bind (wpAny_pure ?_)
  refine wpAny_pure ?_
  dsimp only
  refine wpAny_storeSet_of ho hd ?_ (by rw [hs2, hsl, sizeLine_eq]; omega)
  have sb : Heap.SameBut a s.heap (s.heap.update a (Obj.putSet (order.filterMap (es[·]?)) t')) := Heap.SameBut.update ..
  refine hQ _ L2 (order.filterMap (es[·]?)) (ep + 1) t' sb ⟨⟨_, store_at ho hd, ⟨hex.1, hex.2.1, hex.2.2⟩, rfl⟩, r1, T, (r2.map (·.2)).nodup_iff.mpr nd, by rw [epl]; exact pl, by rw [el]; exact ld, ?_⟩ r2
  rw [r2.length_eq, em]
  exact hn
theorem addN (R : SetN w s.heap a L es ep t) (hk : ∀ p ∈ L, IsN s.heap p.2 p.1) {x : Addr} {k : NestedKey} (hx : IsN s.heap k x) (hu : A.units + 8 < cLine) (hfew : L.length + 1 ≤ 1228) {Q : Bool → Shared → Prop}
    (hQ : ∀ b h' L' es' ep' t', Heap.SameBut a s.heap h' → SetN w h' a L' es' ep' t' → (k ∈ L.map (·.2) → L' = L) → (k ∉ L.map (·.2) → L'.Perm ((x, k) :: L)) → Q b { s with heap := h' }) :
    wpAny (model P w) A (setAddHashed a (.ref x) (k.hash w)) Q E s := by
  obtain ⟨o, ho, hex, hd⟩ := R.ob
  have hsl := rowN_size R.rows
  have hroom := R.room
  have hml := R.tab.msk.le
  unfold setAddHashed
  refine wpAny_holding ?_
  rw [show (100000 : Nat) = 99999 + 1 from rfl, setAddHashedIn_succ]
  refine wpAny_bind (wpAny_setState_of ho hd R.fits ?_)
  dsimp only
  refine wp_if_neg (by simp [byScan, Value.scannable]) ?_
  try refine wpAny_bind (wpAny_pure ?_)
  refine wpAny_bind (find_in R hk hx hu (fun hm => wpAny_pure (hQ false s.heap L es ep t (Heap.SameBut.refl a s.heap) R (fun _ => rfl) fun z => absurd hm z)) fun K hm hF => ?_)
  refine wpAny_bind (wpAny_setState_of ho hd R.fits ?_)
  dsimp only
  obtain ⟨j, ej⟩ : ∃ j, j = way t.mask (k.hash w) K := ⟨_, rfl⟩
  obtain ⟨q2, q3, q9⟩ := R.tab.putIn hF ej
  rw [← ej]
  have q1 : (t.put j).2 = SetTable.below t.place j := rfl
  have q4 : (t.put j).1.mask = t.mask := rfl
  have q5 : (t.put j).1.led = t.led := rfl
  have hp1 : (t.put j).1.plain = true := R.plain
  generalize t.put j = pt at q1 q3 q4 q5 q9 hp1 ⊢
  obtain ⟨t1, p⟩ := pt
  dsimp only at q1 q3 q4 q5 q9 hp1 ⊢
  rw [← q1] at q2 q3
  first
    | (refine wpAny_bind ?_; refine wp_if_pos hp1 ?_; refine hashPure k _ 8 A s _ hx.is hx.pure hx.deep ?_)
    | refine wp_if_pos hp1 (wpAny_bind (hashPure k _ 8 A s _ hx.is hx.pure hx.deep ?_))
  simp only [if_true]
  have hin : (SetTable.insertAt es p (k.hash w, Value.ref x)).toList = rowN w (L.take p ++ (x, k) :: L.drop p) := by
    rw [SetTable.toList_insertAt, rowN_put, R.rows]
  have pm := put_perm L p (x, k)
  have hlen : (L.take p ++ (x, k) :: L.drop p).length = L.length + 1 := pm.length_eq
  have hhs : (L.take p ++ (x, k) :: L.drop p).map (fun p => p.2.hash w) = (L.map fun p => p.2.hash w).take p ++ k.hash w :: (L.map fun p => p.2.hash w).drop p := by
    rw [List.map_append, List.map_cons, List.map_take, List.map_drop]
  rw [← hhs] at q3
  have nd1 : ((L.take p ++ (x, k) :: L.drop p).map (·.2)).Nodup := (pm.map (·.2)).nodup_iff.mpr (List.nodup_cons.mpr ⟨hm, R.nd⟩)
  have hes : (SetTable.insertAt es p (k.hash w, Value.ref x)).size = L.length + 1 := by rw [rowN_size hin, hlen]
  generalize SetTable.insertAt es p (k.hash w, Value.ref x) = es1 at hin hes ⊢
  generalize L.take p ++ (x, k) :: L.drop p = L1 at pm hlen q3 nd1 hin
  refine wpAny_bind (wpAny_storeSet_of ho hd ?_ (by rw [hes, sizeLine_eq]; omega))
  have sb : Heap.SameBut a s.heap (s.heap.update a (Obj.putSet es1 t1)) := Heap.SameBut.update ..
  have ho1 := store_at (es' := es1) (t' := t1) ho hd
  generalize s.heap.update a (Obj.putSet es1 t1) = h1 at sb ho1 ⊢
  have ld1 : w.params.followText "set-order" = true ∨ t1.led = true := by rw [q5]; exact R.led
  rw [List.length_map] at q9
  have full : t1.tooFull = decide ((L.length + 1) * 5 ≥ t.mask * 3) := by unfold SetTable.tooFull; rw [q9, q4]
  by_cases hf : t1.tooFull = true
  · first
      | (refine wpAny_bind ?_; refine wp_if_pos (by simp [hf]) ?_)
      | (refine wp_if_pos (by simp [hf]) ?_; refine wpAny_bind ?_)
    rw [full, decide_eq_true_eq] at hf
    rw [hsl]
    have hsz1 : t1.place.size = es1.size := by
      have h := q3.sz
      rw [List.length_map, hlen] at h
      rw [h, hes]
    have go : ∀ M, SetTable.sizeAbove (SetTable.grown (L.length + 1)) = M + 1 → Msk M → (L.length + 1) * 5 < M * 3 →
        wpAny (model P w) A (setRelay a (SetTable.grown (L.length + 1))) (fun _ s' => wpAny (model P w) A (pure true) Q E s') E { s with heap := h1 } := fun M e1 e2 e3 => by
      have := e2.le
      refine relayN (s := { s with heap := h1 }) ho1 ⟨hex.1, hex.2.1, hex.2.2⟩ rfl hin hsz1 q3.dm (by rw [hes, q4]; omega) nd1 hp1 ld1 (by rw [e1]; rfl) e2 (by omega) (by rw [hlen]; exact e3) ?_
      intro h2 L2 es2 ep2 t2 sb2 R2 pm2
      exact wpAny_pure (hQ true h2 L2 es2 ep2 t2 (sb.trans sb2) R2 (fun z => absurd z hm) fun _ => pm2.trans pm)
    rcases R.tab.msk with e | e | e | e | e
    · have el : L.length + 1 = 5 := by rw [e] at hf hroom; omega
      exact go 31 (by rw [el, grow5]) (.inr (.inl rfl)) (by omega)
    · have el : L.length + 1 = 19 := by rw [e] at hf hroom; omega
      exact go 127 (by rw [el, grow19]) (.inr (.inr (.inl rfl))) (by omega)
    · have el : L.length + 1 = 77 := by rw [e] at hf hroom; omega
      exact go 511 (by rw [el, grow77]) (.inr (.inr (.inr (.inl rfl)))) (by omega)
    · have el : L.length + 1 = 307 := by rw [e] at hf hroom; omega
      exact go 2047 (by rw [el, grow307]) (.inr (.inr (.inr (.inr rfl)))) (by omega)
    · exfalso
      rw [e] at hf
      omega
  · first
      | refine wp_if_neg (by simp [hf]) ?_
      | (refine wpAny_bind ?_; refine wp_if_neg (by simp [hf]) ?_; refine wpAny_pure ?_)
    refine wpAny_pure (hQ true h1 L1 es1 (ep + 1) t1 sb ⟨⟨_, ho1, ⟨hex.1, hex.2.1, hex.2.2⟩, rfl⟩, hin, q3, nd1, hp1, ld1, ?_⟩ (fun z => absurd z hm) fun _ => pm)
    rw [full, decide_eq_true_eq] at hf
    rw [hlen, q4]
    omega

/-! ### the set of a list -/
/-- L holds each of the first i items' keys once -/
structure Took (ks : List Th) (i : Nat) (L : List Th) : Prop where
  sub : ∀ p ∈ L, p ∈ ks.take i
  all : ∀ p ∈ ks.take i, p.2 ∈ L.map (·.2)
theorem Took.nil (ks : List Th) : Took ks 0 [] := ⟨fun p h => (nomatch h), fun p h => (by simp at h)⟩
theorem Took.one {ks L L' : List Th} {i : Nat} {x : Th} (g : Took ks i L) (h : ks[i]? = some x) (c1 : x.2 ∈ L.map (·.2) → L' = L) (c2 : x.2 ∉ L.map (·.2) → L'.Perm (x :: L)) : Took ks (i + 1) L' := by
  have e : ks.take (i + 1) = ks.take i ++ [x] := by rw [List.take_succ, h]; rfl
  by_cases c : x.2 ∈ L.map (·.2)
  · rw [c1 c]
    refine ⟨fun p hp => by rw [e]; exact List.mem_append_left _ (g.sub p hp), fun p hp => ?_⟩
    rw [e] at hp
    rcases List.mem_append.mp hp with z | z
    · exact g.all p z
    · rw [List.mem_singleton.mp z]; exact c
  · have pm := c2 c
    refine ⟨fun p hp => ?_, fun p hp => ?_⟩
    · rw [e]
      rcases List.mem_cons.mp (pm.mem_iff.mp hp) with z | z
      · rw [z]; exact List.mem_append_right _ (List.mem_singleton.mpr rfl)
      · exact List.mem_append_left _ (g.sub p z)
    · rw [(pm.map (·.2)).mem_iff, List.map_cons]
      rw [e] at hp
      rcases List.mem_append.mp hp with z | z
      · exact List.mem_cons_of_mem _ (g.all p z)
      · rw [List.mem_singleton.mp z]; exact List.mem_cons_self
end

section
variable {P : Program} {w : World} {A : Around} {E : Value → Shared → Prop} {s : Shared}
abbrev newSetObj (w : World) : Obj := { cls := .type "set", dict := none, data := .set #[] 0 (.fresh 0 0 (!w.params.followText "set-order")) }
theorem SetN.new {h : Heap} {a : Addr} (ho : h.get? a = some (newSetObj w)) : SetN w h a [] #[] 0 (.fresh 0 0 (!w.params.followText "set-order")) := by
  refine ⟨⟨_, ho, ⟨rfl, rfl, rfl⟩, rfl⟩, rfl, ⟨List.Pairwise.nil, rfl, rfl, .inl rfl, fun x hx => (nomatch hx), fun i h j hi => (by simp at hi)⟩, List.nodup_nil, rfl, ?_, by show 0 * 5 < 7 * 3; decide⟩
  show _ ∨ (!w.params.followText "set-order") = true
  cases w.params.followText "set-order"
  · exact .inr rfl
  · exact .inl rfl
theorem SetN.kept {h h' : Heap} {a : Addr} {L : List Th} {es : Array (Int × Value)} {ep : Nat} {t : SetTable} (R : SetN w h a L es ep t) (ha : ∀ o, h.get? a = some o → h'.get? a = some o) : SetN w h' a L es ep t := by
  obtain ⟨o, ho, r⟩ := R.ob
  exact ⟨⟨o, ha o ho, r⟩, R.rows, R.tab, R.nd, R.plain, R.led, R.room⟩
/-- at most so many unlike keys -/
def Few (n : Nat) (ks : List Th) : Prop := ∀ l : List NestedKey, l.Nodup → (∀ k ∈ l, k ∈ ks.map (·.2)) → l.length ≤ n
theorem Few.of {n : Nat} {ks : List Th} (h : ks.length ≤ n) : Few n ks := fun l hn hs => by
  have key : ∀ (l m : List NestedKey), l.Nodup → (∀ k ∈ l, k ∈ m) → l.length ≤ m.length := by
    intro l
    induction l with
    | nil => exact fun _ _ _ => Nat.zero_le _
    | cons x l ih =>
      intro m hn hs
      obtain ⟨h1, h2⟩ := List.nodup_cons.mp hn
      have hx := hs x List.mem_cons_self
      have q := ih (m.erase x) h2 fun y hy => (List.mem_erase_of_ne (fun e : y = x => h1 (by rw [← e]; exact hy))).2 (hs y (List.mem_cons_of_mem _ hy))
      have e := List.length_erase_of_mem hx
      have hp := List.length_pos_of_mem hx
      rw [List.length_cons]
      omega
  have q := key l _ hn hs
  rw [List.length_map] at q
  omega

theorem fillN {I : Addr} {fp wr : List Addr} {G : Array GenState → Array GenState → Prop} {n : Nat} {Pv : Nat → Value → Prop} {St : Nat → Shared → Prop} {R : Result → Shared → Prop}
    (W : WalksS P w A.in1 I fp wr G n Pv St) (S : Addr) (hSf : S ∉ fp) (ks : List Th) (hn : n = ks.length) (few : Few 1227 ks) (val : ∀ i v, Pv i v → ∃ p, ks[i]? = some p ∧ v = .ref p.1)
    (h0 : Heap) (hk : ∀ p ∈ ks, IsN h0 p.2 p.1) (hS0 : h0.get? S = none) (hw0 : ∀ b ∈ wr, h0.get? b = none) (hu : A.in1.units + 8 < cLine) :
    ∀ (m i : Nat) (s : Shared), n - i = m → i ≤ n → St i s → (∀ b o, h0.get? b = some o → s.heap.get? b = some o) → (∃ L es ep t, SetN w s.heap S L es ep t ∧ Took ks i L) →
      (∀ s' L es ep t, Moved (S :: wr) G s s' → SetN w s'.heap S L es ep t → Took ks n L → (∀ b o, h0.get? b = some o → s'.heap.get? b = some o) → R (.ok (.ret .none)) s') →
      codeAny (model P w) A (.builtin "set.update.loop" ⟨[.ref S, .ref I], []⟩) R s := by
  have hSw : S ∉ wr := fun h => hSf (W.sub _ h)
  have up : ∀ b ∈ wr, b ∈ S :: wr := fun b hb => List.mem_cons_of_mem _ hb
  have keeps : ∀ {s s' : Shared}, Moved wr G s s' → (∀ b o, h0.get? b = some o → s.heap.get? b = some o) → ∀ b o, h0.get? b = some o → s'.heap.get? b = some o := fun hm hp b o e =>
    hm.heap b o (fun hb => by rw [hw0 b hb] at e; cases e) (hp b o e)
  intro m
  induction m with
  | zero =>
    intro i s hm hi hst hp ⟨L, es, ep, t, hS, g⟩ hR
    have e : i = n := by omega
    subst e
    refine codeAny_builtin F.entry_set_update_loop ?_
    rw [Around.under_plainId F.plain_set_update_loop _]
    show wpAny _ A.in1 (pyNext (.ref I) >>= _) _ _ s
    refine wpAny_bind (W.done s _ _ hst fun s' hm => ?_)
    show wpAny _ A.in1 (ret Value.none) _ _ s'
    exact wpAny_pure (hR s' L es ep t (hm.mono up) (hS.kept fun o e => hm.heap S o hSw e) g (keeps hm hp))
  | succ m ih =>
    intro i s hm hi hst hp ⟨L, es, ep, t, hS, g⟩ hR
    have hlt : i < n := by omega
    refine codeAny_builtin F.entry_set_update_loop ?_
    rw [Around.under_plainId F.plain_set_update_loop _]
    show wpAny _ A.in1 (pyNext (.ref I) >>= _) _ _ s
    refine wpAny_bind (W.item i s _ _ hlt hst fun v s' hP hst' hm => ?_)
    obtain ⟨p, hpi, rfl⟩ := val i v hP
    have hp' := keeps hm hp
    have inks : ∀ q ∈ L, q ∈ ks := fun q hq => List.mem_of_mem_take (g.sub q hq)
    have hS' : SetN w s'.heap S L es ep t := hS.kept fun o e => hm.heap S o hSw e
    have hx : IsN s'.heap p.2 p.1 := (hk p (List.mem_of_getElem? hpi)).keep hp'
    show wpAny _ A.in1 (holding [Value.ref p.1] (setAdd S (.ref p.1)) >>= _) _ _ s'
    refine wpAny_bind (wpAny_holding ?_)
    unfold setAdd
    refine wpAny_holding ?_
    have hd := hx.deep
    refine wpAny_bind (pyHash_key p.2 _ A.in1 s' _ hx.is (by omega) ?_)
    have hL : L.length ≤ 1227 := by
      have q := few (L.map (·.2)) hS.nd fun k hk' => by
        obtain ⟨q, hq, rfl⟩ := List.mem_map.mp hk'
        exact List.mem_map.mpr ⟨q, inks q hq, rfl⟩
      rw [List.length_map] at q
      exact q
    refine addN (s := { s' with toks := s'.toks + p.2.draws }) hS' (fun q hq => (hk q (inks q hq)).keep hp') hx hu (by omega) fun b h' L' es' ep' t' sb hS2 c1 c2 => ?_
    have hp2 : ∀ b o, h0.get? b = some o → h'.get? b = some o := fun b o e => (sb.2 b (fun z => by rw [z, hS0] at e; cases e)).trans (hp' b o e)
    refine wpAny_pure ⟨plainId_quiet F.plain_set_update_loop _, ih (i + 1) _ (by omega) hlt (W.frame _ s' _ _ hst' (Nat.le_add_right _ _) fun b hb o e => ?_) hp2 ⟨L', es', ep', t', hS2, g.one hpi c1 c2⟩ fun s'' L2 es2 ep2 t2 hm2 hS3 g2 hp3 => ?_⟩
    · rw [sb.2 b (fun h : b = S => hSf (by rw [← h]; exact hb))]; exact e
    · refine hR s'' L2 es2 ep2 t2 (Moved.trans W.gtrans ((hm.mono up).then_heap (Nat.le_add_right _ _) fun b o hb e => ?_) hm2) hS3 g2 hp3
      rw [sb.2 b (fun h : b = S => hb (by rw [h]; exact List.mem_cons_self))]; exact e

set_option maxHeartbeats 3200000 in
/-- set(xs), xs a list of such tuples -/
theorem set_of_list {l : Addr} {items : Array Value} (ks : List Th) {Q : Value → Shared → Prop} (hh : A.handled = none) (hl : s.heap.IsList l items) (hit : items.toList = ks.map fun p => Value.ref p.1)
    (hk : ∀ p ∈ ks, IsN s.heap p.2 p.1) (few : Few 1227 ks) (hu : A.units + 12 < cLine)
    (h : ∀ (h' : Heap) (tk : Nat) L es ep t, SetN w h' s.heap.objs.size L es ep t → Took ks ks.length L → (∀ b o, s.heap.get? b = some o → h'.get? b = some o) → Q (.ref s.heap.objs.size) { s with heap := h', toks := tk }) :
    wpAny (model P w) A (call (.type "set") [.ref l]) Q E s := by
  have isz : items.size = ks.length := by
    have q := congrArg List.length hit
    rw [Array.length_toList, List.length_map] at q
    exact q
  obtain ⟨c, tl, hmro⟩ := F.called_set.mro
  have hmade := F.called_set.made
  have hsub := F.called_set.sub
  refine wpAny_call (codeAny_of_tree ?_)
  show wpAny _ _ (callAny (.type "set") _) _ _ _
  refine wpAny_pure ⟨Code.quiet_builtin _ (by decide +kernel), codeAny_builtin F.entry_type_call ?_⟩
  rw [Around.under_plain (weight_type_call_type "set" [.ref l] []) rfl]
  have h1 := F.called_set.notType
  have h2 := F.called_set.canCreate
  have hct := F.typeCall_set_1 (.ref l)
  repeat (any_goals (first | assumption | wp_step))
  refine codeAny_mono (code_set_led1 (.ref l) (E := E) (Q₁ := fun obj s₁ => obj = .ref s.heap.objs.size ∧ s₁ = { s with heap := s.heap.push (newSetObj w) }) ⟨rfl, rfl⟩) fun r s₁ hr => ?_
  cases r with
  | error e => exact hr
  | ok fl =>
    cases fl with
    | ret obj =>
      obtain ⟨rfl, rfl⟩ := hr
      have hS : (s.heap.push (newSetObj w)).get? s.heap.objs.size = some (newSetObj w) := Heap.get?_push_size _ rfl
      have hT : Shared.TypeIs { s with heap := s.heap.push (newSetObj w) } (.ref s.heap.objs.size) "set" := ⟨_, hS, rfl⟩
      have hli := F.called_set.init.lookup
      have hbi := F.called_set.init.bind (.ref s.heap.objs.size)
      repeat (any_goals (first | assumption | wp_step))
      refine codeAny_mono (codeAny_call_builtin (R := wants (fun r s₂ => r = .none ∧ ∃ h' tk L es ep t, s₂ = { s with heap := h', toks := tk } ∧ SetN w h' s.heap.objs.size L es ep t ∧ Took ks ks.length L ∧
          (∀ b o, s.heap.get? b = some o → h'.get? b = some o)) E) F.called_set.init.plain F.entry_set_init (check_set_init_1 hT ?_)) fun r₂ s₂ hr₂ => ?_
      · obtain ⟨⟨ocls, odict, odata, oslots⟩, hol, hcl, nl, hdl⟩ := hl
        simp only at hcl hdl
        subst hcl; subst hdl
        have hol' : (s.heap.push (newSetObj w)).get? l = some { cls := .type "list", dict := odict, data := .seq items nl, slots := oslots } := Heap.get?_push_of_some _ hol
        have hsls := F.sub_list_set
        have hslf := F.sub_list_frozenset
        have hne : (Value.type "list" == Value.type "dict") = false := by decide
        have hl1 : (s.heap.push (newSetObj w)).IsList l items := ⟨_, hol', rfl, nl, rfl⟩
        unfold Builtin.«set.__init__» noKeywords Builtin.Frozenset.updateFrom
        generalize hPI : pyIter = PI
        wp_walk
        subst hPI
        refine wpAny_pyIter_list hl1 ?_
        refine wpAny_bind (wpAny_runValue ?_)
        have hlS : l < s.heap.objs.size := Heap.lt_size hol
        have hh3 : A.in1.in1.in1.handled = none := by simp [hh]
        have hz : (s.heap.push (newSetObj w)).objs.size = s.heap.objs.size + 1 := Heap.size_push ..
        have neI : l ≠ (s.heap.push (newSetObj w)).objs.size := by rw [hz]; exact Nat.ne_of_lt (Nat.lt_succ_of_lt hlS)
        have hSf : s.heap.objs.size ∉ [(s.heap.push (newSetObj w)).objs.size, l] := by
          rw [hz]
          simp only [List.mem_cons, List.not_mem_nil, or_false, not_or]
          exact ⟨Nat.ne_of_lt (Nat.lt_succ_self _), Nat.ne_of_gt hlS⟩
        have val : ∀ (i : Nat) (v : Value), items[i]? = some v → ∃ p, ks[i]? = some p ∧ v = .ref p.1 := fun i v hv => by
          have q : items.toList[i]? = some v := by rw [Array.getElem?_toList]; exact hv
          rw [hit, List.getElem?_map] at q
          obtain ⟨p, e1, e2⟩ := Option.map_eq_some_iff.mp q
          exact ⟨p, e1, e2.symm⟩
        have beyond : ∀ b, s.heap.objs.size ≤ b → s.heap.get? b = none := fun b hb => by
          cases q : s.heap.get? b with
          | none => rfl
          | some o => exact absurd (Nat.lt_of_lt_of_le (Heap.lt_size q) hb) (Nat.lt_irrefl _)
        refine fillN ((Walks.list hh3 _ l neI items).toS) s.heap.objs.size hSf ks isz few val s.heap hk (beyond _ (Nat.le_refl _)) (fun b hb => beyond b (by
            rw [List.mem_singleton.mp hb, hz]
            exact Nat.le_succ _)) (by show A.units + 1 + 1 + 1 + 8 < cLine; omega) (items.size - 0) 0 _ (by omega) (Nat.zero_le _)
          ⟨⟨_, Heap.get?_push_size _ rfl, rfl, rfl⟩, (hl1.push _)⟩ (fun b o e => Heap.get?_push_of_some _ (Heap.get?_push_of_some _ e)) ⟨[], #[], 0, _, SetN.new (Heap.get?_push_of_some _ hS), Took.nil ks⟩ fun s' L es ep t hm hS' g' hkp => ?_
        obtain ⟨h', g2, d', tk', os'⟩ := s'
        have eg : g2 = s.gens := hm.gens
        have ed : d' = s.drawn := hm.drawn
        have eo : os' = s.os := hm.os
        subst eg; subst ed; subst eo
        show wpAny _ _ _ _ _ _
        refine wpAny_pure ?_
        show wpAny _ _ (ret Value.none) _ _ _
        rw [isz] at g'
        exact wpAny_pure ⟨rfl, h', tk', L, es, ep, t, rfl, hS', g', hkp⟩
      · cases r₂ with
        | error e => exact hr₂
        | ok fl₂ =>
          cases fl₂ with
          | ret r =>
            obtain ⟨rfl, h', tk, L, es, ep, t, rfl, hS', g', hk'⟩ := hr₂
            repeat (any_goals (first | assumption | wp_step))
            exact h _ _ _ _ _ _ hS' g' hk'
          | _ => exact hr₂.elim
    | _ => exact hr.elim
end
end SH

set_option Elab.async false
set_option linter.all false
set_option maxRecDepth 100000
set_option maxHeartbeats 1600000
/-! ShSort: sorted of a set of nested tuples: any length. -/
namespace SH
open PySem PySem.Spec PyProof.Rows L2 PySem.W

mutual
/-- what data reads off stands in the heap -/
theorem reads_there {h : Heap} : ∀ (d : PyData) (v : Value) (as : List Addr), alike d d = true → Reads h v d as → ∀ a ∈ as, ∃ o, h.get? a = some o
  | .none, _, _, _, r, a, ha => by cases r; cases ha
  | .bool _, _, _, _, r, a, ha => by cases r; cases ha
  | .int _, _, _, _, r, a, ha => by cases r; cases ha
  | .str _, _, _, _, r, a, ha => by cases r; cases ha
  | .list ds, _, _, hl, r, a, ha => by
    cases r with
    | list h1 h2 h3 h4 =>
      rcases List.mem_cons.mp ha with e | ha
      · rw [e]; exact ⟨_, h1⟩
      · exact reads_theres ds _ _ (by simpa [alike] using hl) h4 a ha
  | .tuple ds, _, _, hl, r, a, ha => by
    cases r with
    | tuple h1 h2 h3 h4 => exact reads_theres ds _ _ (by simpa [alike] using hl) h4 a ha
  | .dict _, _, _, hl, _, _, _ => by simp [alike] at hl
theorem reads_theres {h : Heap} : ∀ (ds : List PyData) (vs : List Value) (as : List Addr), alikeAll ds ds = true → ReadsAll h vs ds as → ∀ a ∈ as, ∃ o, h.get? a = some o
  | [], _, _, _, r, a, ha => by cases r; cases ha
  | d :: ds, _, _, hl, r, a, ha => by
    cases r with
    | cons h1 h2 =>
      have q := alike_all_cons hl
      rcases List.mem_append.mp ha with z | z
      · exact reads_there d _ _ q.1 h1 a z
      · exact reads_theres ds _ _ q.2 h2 a z
end
/-- a list of references is known by the addresses -/
theorem refs_out {L : List Th} : ∀ {vs : List Value}, (∀ v ∈ vs, ∃ q ∈ L, v = Value.ref q.1) → ∃ L1 : List Th, vs = L1.map (fun q => Value.ref q.1) ∧ ∀ q ∈ L1, q ∈ L := by
  intro vs
  induction vs with
  | nil => exact fun _ => ⟨[], rfl, fun q hq => nomatch hq⟩
  | cons v vs ih =>
    intro hv
    obtain ⟨q, hq, e⟩ := hv v List.mem_cons_self
    obtain ⟨L1, e1, hs⟩ := ih fun u hu => hv u (List.mem_cons_of_mem _ hu)
    refine ⟨q :: L1, by rw [List.map_cons, e, e1], fun r hr => ?_⟩
    rcases List.mem_cons.mp hr with z | z
    · rw [z]; exact hq
    · exact hs r z
theorem map_perm_back {α β : Type} {f : α → β} : ∀ {l1 l2 : List α}, (∀ a ∈ l1, ∀ b ∈ l2, f a = f b → a = b) → (l1.map f).Perm (l2.map f) → l1.Perm l2
  | [], l2, _, p => by
    have q := p.length_eq
    cases l2 with
    | nil => exact .refl _
    | cons _ _ => simp at q
  | a :: l1, l2, hi, p => by
    have hm : f a ∈ l2.map f := p.mem_iff.mp List.mem_cons_self
    obtain ⟨b, hb, e⟩ := List.mem_map.mp hm
    have e2 := hi a List.mem_cons_self b hb e.symm
    subst e2
    obtain ⟨s, t, rfl⟩ := List.append_of_mem hb
    have p2 : (f a :: l1.map f).Perm (f a :: (s ++ t).map f) := by
      refine p.trans ?_
      rw [List.map_append, List.map_cons, List.map_append]
      exact List.perm_middle
    have q := map_perm_back (l1 := l1) (l2 := s ++ t) (fun x hx y hy => hi x (List.mem_cons_of_mem _ hx) y (by
      rcases List.mem_append.mp hy with z | z
      · exact List.mem_append_left _ z
      · exact List.mem_append_right _ (List.mem_cons_of_mem _ z))) p2.cons_inv
    exact (q.cons a).trans List.perm_middle.symm
section
variable {P : Program} {w : World} {A : Around} {E : Value → Shared → Prop} {s : Shared}
/-- sorted(the set at a) -/
theorem sorted_setN {a : Addr} {L : List Th} {es : Array (Int × Value)} {ep : Nat} {t : SetTable} {Q : Value → Shared → Prop} (R : SetN w s.heap a L es ep t) (hh : A.handled = none)
    (hk : ∀ p ∈ L, IsN s.heap p.2 p.1) (hr : ∀ p ∈ L, ∃ as, Reads s.heap (.ref p.1) p.2.data as) (hal : AllAlike (L.map fun p => p.2.data)) (hs : Sortable (L.map fun p => p.2.data)) (hu : ∀ p ∈ L, A.units + 2 + p.2.data.depth < cLine)
    (hQ : ∀ s' p (out : Array Value) (c : Nat) (L1 : List Th), (∀ b o, s.heap.get? b = some o → s'.heap.get? b = some o) → s'.gens = s.gens → s'.os = s.os → s.heap.objs.size ≤ p →
      s'.heap.get? p = some (seqObj "list" out c) → L1.Perm L → out.toList = (L1.mergeSort (dataLe false fun q => q.2.data)).map (fun q => Value.ref q.1) → Q (.ref p) s') :
    wpAny (model P w) A (call (.builtin "sorted") [.ref a]) Q E s := by
  obtain ⟨o, ho, hex, hd⟩ := R.ob
  have hsz := rowN_size R.rows
  have hroom := R.room
  have hml := R.tab.msk.le
  refine Calls.call_function_entry kind_sorted plain_sorted entry_sorted (args_sorted1 _) ?_
  unfold Builtin.«sorted»
  refine wpAny_bind (m := checkCount "sorted" 1 1 _) (wpAny_pure ?_)
  refine wpAny_bind (collect_set (A := A.in1) hh ⟨o, ho, hex.1, hd⟩ R.fits (by unfold scanBound; omega) R.tab.ris R.led fun s1 vs k1 hz g1 o1 pm => ?_)
  have hes : es.toList.map (·.2) = L.map fun q => Value.ref q.1 := by
    rw [R.rows]
    unfold rowN
    rw [List.map_map]
    rfl
  rw [hes] at pm
  obtain ⟨L1, e1, in1⟩ := refs_out (L := L) (vs := vs) fun v hv => by
    obtain ⟨q, hq, e⟩ := List.mem_map.mp (pm.mem_iff.mp hv)
    exact ⟨q, hq, e.symm⟩
  have one : ∀ q ∈ L, ∀ r ∈ L, q.1 = r.1 → q = r := fun q hq r hr e => by
    have a1 := (hk q hq).is
    have a2 := (hk r hr).is
    rw [e] at a1
    exact Prod.ext e (NestedIs.inj _ _ _ a1 a2)
  have pL : L1.Perm L := by
    refine map_perm_back (f := fun q => Value.ref q.1) (fun q hq r hr e => ?_) (by rw [← e1]; exact pm)
    injection e with e
    exact one q (in1 q hq) r hr e
  have hvl : vs.length ≤ 4000 := by
    rw [pm.length_eq, List.length_map]
    omega
  refine wpAny_bind (wpAny_newList ?_ (by rw [sizeLine_eq]; omega))
  have hoL : (s1.heap.push (seqObj "list" vs.toArray 0)).get? s1.heap.objs.size = some (seqObj "list" vs.toArray 0) := Heap.get?_push_size _ rfl
  have kp : ∀ b u, s.heap.get? b = some u → (s1.heap.push (seqObj "list" vs.toArray 0)).get? b = some u := fun b u e => Heap.get?_push_of_some _ (k1 b u e)
  have zipd : ∀ (M : List Th), EachIs (fun (v : Value) (q : Th) => v = Value.ref q.1 ∧ q ∈ M) (M.map fun q => Value.ref q.1) M := by
    intro M
    have key : ∀ N : List Th, (∀ q ∈ N, q ∈ M) → EachIs (fun (v : Value) (q : Th) => v = Value.ref q.1 ∧ q ∈ M) (N.map fun q => Value.ref q.1) N := by
      intro N
      induction N with
      | nil => exact fun _ => .nil
      | cons q N ih => exact fun hN => .cons ⟨rfl, hN q List.mem_cons_self⟩ (ih fun r hr => hN r (List.mem_cons_of_mem _ hr))
    exact key M fun q hq => hq
  have al1 : AllAlike (L1.map fun p => p.2.data) := fun d hd d' hd' => by
    refine hal d ?_ d' ?_
    · obtain ⟨q, hq, e⟩ := List.mem_map.mp hd
      exact List.mem_map.mpr ⟨q, in1 q hq, e⟩
    · obtain ⟨q, hq, e⟩ := List.mem_map.mp hd'
      exact List.mem_map.mpr ⟨q, in1 q hq, e⟩
  have st1 : Sortable (L1.map fun p => p.2.data) := by
    rcases hs with z | z
    · refine .inl fun d hd => z d ?_
      obtain ⟨q, hq, e⟩ := List.mem_map.mp hd
      exact List.mem_map.mpr ⟨q, in1 q hq, e⟩
    · refine .inr fun d hd => z d ?_
      obtain ⟨q, hq, e⟩ := List.mem_map.mp hd
      exact List.mem_map.mpr ⟨q, in1 q hq, e⟩
  refine wpAny_bind (wpAny_holding (list_sort_data (s := { s1 with heap := s1.heap.push (seqObj "list" vs.toArray 0) }) (bs := L1) (enc := fun q => q.2.data) (R := fun v q => v = Value.ref q.1 ∧ q ∈ L1) hoL (by rw [e1]; exact zipd L1) ?_ al1 st1 (by rw [pL.length_eq, sizeLine_eq]; omega)
    (fun q hq => by
      have := hu q (in1 q hq)
      show A.units + 1 + 1 + _ < cLine
      omega) fun out hl hE => ?_))
  · have z := zipd L1
    rw [← e1] at z
    refine z.mono fun v q hq => ?_
    obtain ⟨rfl, hq⟩ := hq
    obtain ⟨as, r⟩ := hr q (in1 q hq)
    refine ⟨as, PyProof.Rows.Reads.keeps kp r, fun hm => ?_⟩
    obtain ⟨ob, eo⟩ := reads_there _ _ _ (hal _ (List.mem_map.mpr ⟨q, in1 q hq, rfl⟩) _ (List.mem_map.mpr ⟨q, in1 q hq, rfl⟩)) r _ hm
    have := Heap.lt_size (k1 _ _ eo)
    exact absurd this (Nat.lt_irrefl _)
  · obtain ⟨c, hc⟩ := sortedHeap_at (vs := vs) (out := out.toArray) hoL
    refine wpAny_pure ⟨_, rfl, hQ _ s1.heap.objs.size out.toArray c L1 (fun b u e => ?_) g1 o1 hz hc pL ?_⟩
    · have q := k1 b u e
      have hlt := Heap.lt_size q
      show (sortedHeap (s1.heap.push (seqObj "list" vs.toArray 0)) s1.heap.objs.size vs out.toArray).get? b = some u
      rw [sortedHeap_old (Nat.ne_of_lt hlt) (by rw [size_push']; exact Nat.lt_succ_of_lt hlt)]
      exact Heap.get?_push_of_some _ q
    · have key : ∀ (as : List Value) (bs : List Th), EachIs (fun v q => v = Value.ref q.1 ∧ q ∈ L1) as bs → as = bs.map fun q => Value.ref q.1 := by
        intro as bs x
        induction x with
        | nil => rfl
        | cons h1 _ ih => rw [List.map_cons, h1.1, ih]
      show out = _
      exact key _ _ hE
end
end SH

set_option Elab.async false
set_option linter.all false
set_option maxRecDepth 100000
set_option maxHeartbeats 1600000
/-! ShKey: rules over the layer for data (Dp), sets and dicts of nested tuples, sorted of data. -/
namespace SH
open PySem PySem.Spec PyProof.Rows L2 PySem.W Evl

/-! ### data stays -/
mutual
theorem dp_ex {K : PySem.W.Frag} {H H' : Hp} (e : Ex H H') : ∀ (d : PyData) (v : V), Dp K H v d → Dp K H' v d
  | .none, _, h => by cases h; exact .non
  | .bool b, _, h => by cases h; exact .bl b
  | .int i, _, h => by cases h; exact .int i
  | .str x, _, h => by cases h; exact .str x
  | .list ds, _, h => by
    cases h with
    | lst h1 h2 => exact .lst (ex_l e h1) (dps_ex e ds _ h2)
  | .tuple ds, _, h => by
    cases h with
    | tup h1 h2 => exact .tup (ex_t e h1) (dps_ex e ds _ h2)
  | .dict _, _, h => by cases h
theorem dps_ex {K : PySem.W.Frag} {H H' : Hp} (e : Ex H H') : ∀ (ds : List PyData) (vs : List V), DpAll K H vs ds → DpAll K H' vs ds
  | [], _, h => by cases h; exact .nil
  | d :: ds, _, h => by
    cases h with
    | cons h1 h2 => exact .cons (dp_ex e d _ h1) (dps_ex e ds _ h2)
end
theorem dps_get {K : PySem.W.Frag} {H : Hp} : ∀ {vs : List V} {ds : List PyData} {i : Nat} {v : V}, DpAll K H vs ds → vs[i]? = some v → ∃ d, ds[i]? = some d ∧ Dp K H v d
  | _, _, i, _, .nil, e => by simp at e
  | _, _, 0, _, .cons h _, e => by simp at e; subst e; exact ⟨_, rfl, h⟩
  | _, _, i + 1, v, .cons _ t, e => by
    obtain ⟨d, h1, h2⟩ := dps_get (i := i) (v := v) t (by simpa using e)
    exact ⟨d, by simpa using h1, h2⟩
theorem dps_len {K : PySem.W.Frag} {H : Hp} : ∀ {vs : List V} {ds : List PyData}, DpAll K H vs ds → vs.length = ds.length
  | _, _, .nil => rfl
  | _, _, .cons _ t => by rw [List.length_cons, List.length_cons, dps_len t]
theorem dps_app {K : PySem.W.Frag} {H : Hp} : ∀ {vs us : List V} {ds es : List PyData}, DpAll K H vs ds → DpAll K H us es → DpAll K H (vs ++ us) (ds ++ es)
  | _, _, _, _, .nil, h => h
  | _, _, _, _, .cons h t, q => .cons h (dps_app t q)

/-! ### keys -/
mutual
theorem key_is {X : Cx} {pins : List (Addr × Obj)} {σ : L2.St} {H : Hp} {s : Shared} (I : L2.Inv X pins σ H s) : ∀ (k : NestedKey) (v : V) (u : Value), Dp X.K H v k.data → RelV v u → NestedIs s.heap k u
  | .none, _, _, h, r => by cases h; cases r; exact .none
  | .num i, _, _, h, r => by cases h; obtain ⟨t, rfl⟩ := r; exact .int i t
  | .text x, _, _, h, r => by cases h; obtain ⟨t, rfl⟩ := r; exact .text x t
  | .tup ks, _, _, h, r => by
    cases h with
    | tup h1 h2 =>
      cases r
      obtain ⟨its, rv, ⟨o, ho, hc, n, hd⟩, _⟩ := I.tuple h1
      exact .tup ho hc hd (by simpa using keys_are I ks _ its h2 rv)
theorem keys_are {X : Cx} {pins : List (Addr × Obj)} {σ : L2.St} {H : Hp} {s : Shared} (I : L2.Inv X pins σ H s) : ∀ (ks : List NestedKey) (vs : List V) (us : List Value), DpAll X.K H vs (NestedKey.datas ks) → Vals vs us → NestedAll s.heap ks us
  | [], _, _, h, r => by cases h; cases r; exact .nil
  | k :: ks, _, _, h, r => by
    cases h with
    | cons h1 h2 =>
      cases r with
      | cons r1 r2 => exact .cons (key_is I k _ _ h1 r1) (keys_are I ks _ _ h2 r2)
end
/-- at a stands the key k -/
structure KeyAt (K : PySem.W.Frag) (H : Hp) (a : Addr) (k : NestedKey) : Prop where
  dp : Dp K H (.ref a) k.data
  deep : k.depth ≤ 8
  pure : pureK k = true
theorem KeyAt.ex {K : PySem.W.Frag} {H H' : Hp} {a : Addr} {k : NestedKey} (x : KeyAt K H a k) (e : Ex H H') : KeyAt K H' a k := ⟨dp_ex e _ _ x.dp, x.deep, x.pure⟩
section
variable {X : Cx} {pins : List (Addr × Obj)} {σ : L2.St} {H : Hp} {s : Shared}
theorem KeyAt.isN (I : L2.Inv X pins σ H s) {a : Addr} {k : NestedKey} (x : KeyAt X.K H a k) : IsN s.heap k a := ⟨key_is I k _ _ x.dp rfl, x.deep, x.pure⟩
theorem refs_vals : ∀ {L : List Th} {us : List Value}, Vals (L.map fun p => V.ref p.1) us → us = L.map fun p => Value.ref p.1
  | [], _, .nil => rfl
  | p :: L, _, .cons r t => by cases r; rw [refs_vals t]; rfl
theorem vals_refs : ∀ (L : List Th), Vals (L.map fun p => V.ref p.1) (L.map fun p => Value.ref p.1)
  | [] => .nil
  | p :: L => .cons rfl (vals_refs L)

/-! ### sets -/
def SetNO (w : World) (a : Addr) (L : List Th) : HO := .ext fun h => ∃ es ep t, SetN w h a L es ep t
theorem setNO_new {P : Program} {w : World} {H : Hp} {h : Heap} {a : Addr} {L : List Th} {es : Array (Int × Value)} {ep : Nat} {t : SetTable} (R : SetN w h a L es ep t) : ObjOk P w H h a (SetNO w a L) := by
  obtain ⟨o, ho, r⟩ := R.ob
  refine ⟨⟨es, ep, t, R⟩, ⟨o, ho⟩, fun h1 h2 p k => ?_⟩
  obtain ⟨es', ep', t', R'⟩ := p
  exact ⟨es', ep', t', R'.kept k⟩
/-- set(xs), xs a list of keys -/
def rSetN (K : PySem.W.Frag) (w : World) : List V → Hp → VK → Prop := fun xs H Q => ∃ (l : Addr) (ks : List Th), xs = [V.ref l] ∧ SqL K H l (ks.map fun p => V.ref p.1) ∧ (∀ p ∈ ks, KeyAt K H p.1 p.2) ∧ Few 1227 ks ∧
  ∀ a L, H a = none → (∀ p ∈ L, p ∈ ks) → (∀ p ∈ ks, p.2 ∈ L.map (·.2)) → (L.map (·.2)).Nodup → Q (.ref a) (upd H a (SetNO w a L))
theorem cr_setN (hc : X.calm = true) (hu : X.A.units + 64 < cLine) : CallR X (.type "set") (rSetN X.K X.w) := by
  intro pins s σ H xs us Q I r h
  obtain ⟨l, ks, rfl, hl, hk, hf, q⟩ := h
  rw [Vals.ref1 r]
  obtain ⟨its, rv, pl, hz⟩ := I.list hl
  have hn : H s.heap.objs.size = none := I.hok.fresh (Nat.le_refl _)
  refine set_of_list (P := X.prog) (w := X.w) ks (I.ok.hd hc) pl.isList (by simpa using refs_vals rv) (fun p hp => (hk p hp).isN I) hf (by omega) fun h' tk L es ep t R g k => ?_
  refine ⟨.ref s.heap.objs.size, upd H s.heap.objs.size (SetNO X.w s.heap.objs.size L), I.laid (t' := tk) k (Nat.le_refl _) (setNO_new R), rfl, q _ L hn (fun p hp => ?_) (fun p hp => ?_) R.nd⟩
  · exact List.mem_of_mem_take (g.sub p hp)
  · exact g.all p (by rw [List.take_length]; exact hp)
/-- keys that Python can put in order -/
structure Orders (ks : List PyData) : Prop where
  al : AllAlike ks
  so : Sortable ks
abbrev leK : Th → Th → Bool := dataLe false fun q => q.2.data
def rSortedN (K : PySem.W.Frag) (w : World) : List V → Hp → VK → Prop := fun vs H Q => ∃ (a : Addr) (L : List Th), vs = [V.ref a] ∧ H a = some (SetNO w a L) ∧ (∀ p ∈ L, KeyAt K H p.1 p.2) ∧ Orders (L.map fun p => p.2.data) ∧ (∀ p ∈ L, p.2.data.depth ≤ 8) ∧
  ∀ (L1 : List Th) (p : Addr), L1.Perm L → H p = none → Q (.ref p) (upd H p (.lst ((L1.mergeSort leK).map fun q => V.ref q.1)))
theorem cr_sortedN (hc : X.calm = true) (hu : X.A.units + 64 < cLine) : CallR X (.builtin "sorted") (rSortedN X.K X.w) := by
  intro pins s σ H vs us Q I r h
  obtain ⟨a, L, rfl, ha, hk, ho, hd, q⟩ := h
  obtain ⟨es, ep, t, R⟩ : ∃ es ep t, SetN X.w s.heap a L es ep t := (I.hok a _ ha).1
  rw [Vals.ref1 r]
  refine sorted_setN R (I.ok.hd hc) (fun p hp => (hk p hp).isN I) (fun p hp => Dp.reads I _ _ _ (hk p hp).dp rfl) ho.al ho.so (fun p hp => by have := hd p hp; omega) fun s' p out c L1 k g o hp hg pm hout => ?_
  have hn : H p = none := I.hok.fresh hp
  have hml := R.tab.msk.le
  have hro := R.room
  have hlen : ((L1.mergeSort leK).map fun q => V.ref q.1).length ≤ sizeLine := by
    rw [List.length_map, List.length_mergeSort, pm.length_eq, sizeLine_eq]
    omega
  have hv : Vals ((L1.mergeSort leK).map fun q => V.ref q.1) out.toList := by rw [hout]; exact vals_refs _
  have J : L2.Inv X pins σ (upd H p (.lst ((L1.mergeSort leK).map fun q => V.ref q.1))) { s with heap := s'.heap, gens := s'.gens, drawn := s'.drawn, toks := s'.toks } :=
    I.call (ch := []) (Un.laid k hp hn) (I.hok.laid k hp ⟨hlen, out.toList, c, hv, hg⟩) (by rw [g]; exact I.bare) (fun _ z => nomatch z)
  have e : s' = { s with heap := s'.heap, gens := s'.gens, drawn := s'.drawn, toks := s'.toks } := by
    cases s'
    cases s
    cases o
    rfl
  rw [e]
  exact ⟨.ref p, _, J, rfl, q L1 p pm hn⟩
/-- sorted(xs), a list of data -/
abbrev leD : V × PyData → V × PyData → Bool := dataLe false fun q => q.2
def rSortedD (K : PySem.W.Frag) : List V → Hp → VK → Prop := fun vs H Q => ∃ (a : Addr) (bs : List (V × PyData)), vs = [V.ref a] ∧ SqL K H a (bs.map (·.1)) ∧ (∀ b ∈ bs, Dp K H b.1 b.2) ∧ Orders (bs.map (·.2)) ∧ (∀ b ∈ bs, b.2.depth ≤ 8) ∧
  ∀ p, H p = none → Q (.ref p) (upd H p (.lst ((bs.mergeSort leD).map (·.1))))
theorem cr_sortedD (hu : X.A.units + 64 < cLine) : CallR X (.builtin "sorted") (rSortedD X.K) := by
  intro pins s σ H vs us Q I r h
  obtain ⟨a, bs, rfl, ha, hk, ho, hd, q⟩ := h
  rw [Vals.ref1 r]
  obtain ⟨its, rv, pl, hz⟩ := I.list ha
  have each : ∀ (bs : List (V × PyData)) (its : List Value), Vals (bs.map (·.1)) its → EachIs (fun (v : Value) (b : V × PyData) => RelV b.1 v) its bs := by
    intro bs
    induction bs with
    | nil => intro its r; cases r; exact .nil
    | cons b bs ih => intro its r; cases r with | cons r1 r2 => exact .cons r1 (ih _ r2)
  have reads : ∀ (bs : List (V × PyData)) (its : List Value), Vals (bs.map (·.1)) its → (∀ b ∈ bs, Dp X.K H b.1 b.2) → EachIs (fun (v : Value) (b : V × PyData) => ∃ as, Reads s.heap v b.2 as) its bs := by
    intro bs
    induction bs with
    | nil => intro its r _; cases r; exact .nil
    | cons b bs ih =>
      intro its r hb
      cases r with
      | cons r1 r2 => exact .cons (Dp.reads I _ _ _ (hb b List.mem_cons_self) r1) (ih _ r2 fun c hc => hb c (List.mem_cons_of_mem _ hc))
  refine sorted_data (bs := bs) (enc := fun b => b.2) (R := fun v b => RelV b.1 v) pl.isList (each bs its rv) (reads bs its rv hk) ho.al ho.so (by rw [List.length_map] at hz; exact hz) (fun b hb => by have := hd b hb; omega) fun out hl hE => ?_
  obtain ⟨c, hc⟩ := sortedAll_at s.heap its out.toArray
  have hn : H (s.heap.objs.size + 1) = none := I.hok.fresh (Nat.le_succ _)
  have back : ∀ (us : List Value) (bs : List (V × PyData)), EachIs (fun (v : Value) (b : V × PyData) => RelV b.1 v) us bs → Vals (bs.map (·.1)) us := by
    intro us bs x
    induction x with
    | nil => exact .nil
    | cons h1 _ ih => exact .cons h1 ih
  have hl : ((bs.mergeSort leD).map (·.1)).length ≤ sizeLine := by
    rw [List.length_map, List.length_mergeSort]
    rw [List.length_map] at hz
    exact hz
  have ok : ObjOk X.prog X.w (upd H (s.heap.objs.size + 1) (.lst ((bs.mergeSort leD).map (·.1)))) (sortedAll s.heap its out.toArray) (s.heap.objs.size + 1) (.lst ((bs.mergeSort leD).map (·.1))) := ⟨hl, out, c, back _ _ hE, hc⟩
  exact ⟨.ref (s.heap.objs.size + 1), _, I.laid (t' := s.toks) (fun b u e => sortedAll_old e) (Nat.le_succ _) ok, rfl, q _ hn⟩

/-! ### dicts -/
abbrev Ent := NestedKey × Addr × V
def EntR (p : Ent) (q : NestedKey × Addr × Value) : Prop := p.1 = q.1 ∧ p.2.1 = q.2.1 ∧ RelV p.2.2 q.2.2
def atN (xs : List Ent) (k : NestedKey) : Option (Addr × V) := (xs.find? fun x => decide (x.1 = k)).map (·.2)
def storeN (xs : List Ent) (k : NestedKey) (a : Addr) (v : V) : List Ent := if (atN xs k).isSome then xs.map fun x => if x.1 = k then (x.1, x.2.1, v) else x else xs ++ [(k, a, v)]
theorem entR_at : ∀ {xs : List Ent} {vs : List (NestedKey × Addr × Value)} (k : NestedKey), Paired EntR xs vs → (∀ p, atN xs k = some p → ∃ q, atKey vs k = some q ∧ p.1 = q.1 ∧ RelV p.2 q.2) ∧ (atN xs k = none → atKey vs k = none)
  | _, _, k, .nil => ⟨fun p e => (by cases e), fun _ => rfl⟩
  | _, _, k, .cons (a := x) (b := y) r t => by
    obtain ⟨i1, i2⟩ := entR_at k t
    have e0 := r.1
    unfold atN atKey
    rw [List.find?_cons, List.find?_cons]
    by_cases c : x.1 = k
    · rw [show decide (x.1 = k) = true from decide_eq_true c, show decide (y.1 = k) = true from decide_eq_true (e0 ▸ c)]
      refine ⟨fun p e => ?_, fun e => by cases e⟩
      cases e
      exact ⟨y.2, rfl, r.2.1, r.2.2⟩
    · rw [show decide (x.1 = k) = false from decide_eq_false c, show decide (y.1 = k) = false from decide_eq_false (e0 ▸ c)]
      exact ⟨i1, i2⟩
theorem entR_some {xs : List Ent} {vs : List (NestedKey × Addr × Value)} (r : Paired EntR xs vs) (k : NestedKey) : (atKey vs k).isSome = (atN xs k).isSome := by
  obtain ⟨i1, i2⟩ := entR_at k r
  cases e : atN xs k with
  | none => rw [i2 e]; rfl
  | some p => obtain ⟨q, e2, _⟩ := i1 p e; rw [e2]; rfl
theorem entR_app : ∀ {xs ys : List Ent} {vs us : List (NestedKey × Addr × Value)}, Paired EntR xs vs → Paired EntR ys us → Paired EntR (xs ++ ys) (vs ++ us)
  | _, _, _, _, .nil, q => q
  | _, _, _, _, .cons r t, q => .cons r (entR_app t q)
theorem entR_store {xs : List Ent} {vs : List (NestedKey × Addr × Value)} (r : Paired EntR xs vs) (k : NestedKey) (a : Addr) {v : V} {u : Value} (rv : RelV v u) : Paired EntR (storeN xs k a v) (storedH vs k a u) := by
  have hs := entR_some r k
  unfold storeN storedH
  rw [hs]
  have key : ∀ {l : List Ent} {m : List (NestedKey × Addr × Value)}, Paired EntR l m → Paired EntR (l.map fun x => if x.1 = k then (x.1, x.2.1, v) else x) (m.map (putAt k u)) := by
    intro l m q
    induction q with
    | nil => exact .nil
    | @cons x y l m r t ih =>
      refine .cons ?_ ih
      have e0 := r.1
      unfold putAt
      show EntR (if x.1 = k then (x.1, x.2.1, v) else x) (if y.1 = k then (y.1, y.2.1, u) else y)
      by_cases c : x.1 = k
      · rw [if_pos c, if_pos (e0 ▸ c)]
        exact ⟨r.1, r.2.1, rv⟩
      · rw [if_neg c, if_neg (e0 ▸ c)]
        exact r
  split
  · exact key r
  · exact entR_app r (.cons ⟨rfl, rfl, rv⟩ .nil)
def DictNO (P : Program) (w : World) (a : Addr) (xs : List Ent) : HO := .ext fun h => (a == sysModules) = false ∧ xs.length ≤ sizeLine ∧ ∃ vs : List (NestedKey × Addr × Value), Paired EntR xs vs ∧
  ∃ o es ep, h.get? a = some o ∧ o.ExactDict ∧ o.data = .dict es ep ∧ es.toList = vs.map (entryOfKey (nestedKind P w)) ∧ (vs.map (·.1)).Nodup
def KeysAt (K : PySem.W.Frag) (H : Hp) (xs : List Ent) : Prop := ∀ x ∈ xs, KeyAt K H x.2.1 x.1
theorem KeysAt.ex {K : PySem.W.Frag} {H H' : Hp} {xs : List Ent} (x : KeysAt K H xs) (e : Ex H H') : KeysAt K H' xs := fun y hy => (x y hy).ex e
theorem KeysAt.store {K : PySem.W.Frag} {H : Hp} {xs : List Ent} (x : KeysAt K H xs) {k : NestedKey} {a : Addr} {v : V} (h : KeyAt K H a k) : KeysAt K H (storeN xs k a v) := by
  intro y hy
  unfold storeN at hy
  split at hy
  · obtain ⟨z, hz, e⟩ := List.mem_map.mp hy
    have q := x z hz
    split at e <;> (rw [← e]; exact q)
  · rcases List.mem_append.mp hy with z | z
    · exact x y z
    · rw [List.mem_singleton.mp z]; exact h
theorem storeN_len (xs : List Ent) (k : NestedKey) (a : Addr) (v : V) : (storeN xs k a v).length ≤ xs.length + 1 := by
  unfold storeN
  split
  · rw [List.length_map]; exact Nat.le_succ _
  · rw [List.length_append]; exact Nat.le_refl _
theorem paired_len {α β : Type} {R : α → β → Prop} : ∀ {xs : List α} {ys : List β}, Paired R xs ys → xs.length = ys.length := fun r => Paired.length r
theorem dn_of (I : L2.Inv X pins σ H s) {a : Addr} {xs : List Ent} (h : Rd H a (DictNO X.prog X.w a xs)) (hk : KeysAt X.K H xs) :
    (a == sysModules) = false ∧ xs.length ≤ sizeLine ∧ ∃ vs, Paired EntR xs vs ∧ s.heap.DictOfH (nestedKind X.prog X.w) a vs := by
  obtain ⟨h1, hz, vs, r, o, es, ep, e1, e2, e3, e4, e5⟩ := (h.ok I.hok).1
  refine ⟨h1, hz, vs, r, o, es, ep, e1, e2, e3, e4, ?_, e5⟩
  have all : ∀ {l : List Ent} {m : List (NestedKey × Addr × Value)}, Paired EntR l m → KeysAt X.K H l → ∀ x ∈ m, (nestedKind X.prog X.w).is s.heap x.1 x.2.1 := by
    intro l m q
    induction q with
    | nil => exact fun _ x hx => nomatch hx
    | @cons p q l m r t ih =>
      intro hl x hx
      rcases List.mem_cons.mp hx with e | hx
      · have z := (hl p List.mem_cons_self).isN I
        rw [e, ← r.1, ← r.2.1]
        exact ⟨z.is, z.deep⟩
      · exact ih (fun y hy => hl y (List.mem_cons_of_mem _ hy)) x hx
  exact all r hk
theorem dn_new {P : Program} {w : World} {H : Hp} {h : Heap} {a : Addr} {xs : List Ent} {vs : List (NestedKey × Addr × Value)} (h1 : (a == sysModules) = false) (hz : xs.length ≤ sizeLine) (r : Paired EntR xs vs) (hd : h.DictOfH (nestedKind P w) a vs) : ObjOk P w H h a (DictNO P w a xs) := by
  obtain ⟨o, es, ep, e1, e2, e3, e4, _, e5⟩ := hd
  refine ⟨⟨h1, hz, vs, r, o, es, ep, e1, e2, e3, e4, e5⟩, ⟨o, e1⟩, fun ha hb p k => ?_⟩
  obtain ⟨h1', hz', vs', r', o', es', ep', f1, f2, f3, f4, f5⟩ := p
  exact ⟨h1', hz', vs', r', o', es', ep', k _ f1, f2, f3, f4, f5⟩
/-- d[k] = v at the heap's level -/
theorem dn_write (I : L2.Inv X pins σ H s) {a b : Addr} {xs : List Ent} {k : NestedKey} {v : V} {u : Value} (h : H a = some (DictNO X.prog X.w a xs)) (hk : KeysAt X.K H xs) (rv : RelV v u) {vs : List (NestedKey × Addr × Value)} (r : Paired EntR xs vs)
    (hz : xs.length < sizeLine) (h1 : (a == sysModules) = false) {h' : Heap} (hd : h'.DictOfH (nestedKind X.prog X.w) a (storedH vs k b u)) (hs : Heap.SameBut a s.heap h') (t : Nat) :
    L2.Inv X pins σ (upd H a (DictNO X.prog X.w a (storeN xs k b v))) { s with heap := h', toks := t } := by
  have he : ∃ q, h'.get? a = some q := let ⟨q, _, _, hq, _⟩ := hd; ⟨q, hq⟩
  refine I.write (x := a) (e := a) (by rw [h]; exact True.intro) (.inl rfl) (fun b u hb q => (hs.2 b hb).trans q) he (dn_new h1 ?_ (entR_store r k b rv) hd)
  have := storeN_len xs k b v
  omega
def rInN (K : PySem.W.Frag) (P : Program) (w : World) : R2 := fun x y H Q => ∃ (b a : Addr) (k : NestedKey) (xs : List Ent), x = .ref b ∧ y = .ref a ∧ Rd H a (DictNO P w a xs) ∧ KeysAt K H xs ∧ KeyAt K H b k ∧ Q (.bl (atN xs k).isSome) H
def rNotInN (K : PySem.W.Frag) (P : Program) (w : World) : R2 := fun x y H Q => ∃ (b a : Addr) (k : NestedKey) (xs : List Ent), x = .ref b ∧ y = .ref a ∧ Rd H a (DictNO P w a xs) ∧ KeysAt K H xs ∧ KeyAt K H b k ∧ Q (.bl (!(atN xs k).isSome)) H
theorem op_inN (hu : X.A.units + 64 < cLine) : OpR X (compareOp .In) (rInN X.K X.prog X.w) := by
  intro pins s σ H x y v u Q I rx ry h
  obtain ⟨b, a, k, xs, rfl, rfl, ha, hk, hb, q⟩ := h
  cases rx
  cases ry
  obtain ⟨h1, hz, vs, r, hd⟩ := dn_of I ha hk
  have z := hb.isN I
  refine wpAny_in_heap (knd := nestedKind X.prog X.w) (by show X.A.units + 1 + 8 < cLine; omega) ⟨z.is, z.deep⟩ h1 hd ⟨.bl _, H, I.tok _, rfl, ?_⟩
  rw [entR_some r k]
  exact q
theorem op_notInN (hu : X.A.units + 64 < cLine) : OpR X (compareOp .NotIn) (rNotInN X.K X.prog X.w) := by
  intro pins s σ H x y v u Q I rx ry h
  obtain ⟨b, a, k, xs, rfl, rfl, ha, hk, hb, q⟩ := h
  cases rx
  cases ry
  obtain ⟨h1, hz, vs, r, hd⟩ := dn_of I ha hk
  have z := hb.isN I
  refine wpAny_notIn_heap (knd := nestedKind X.prog X.w) (by show X.A.units + 1 + 8 < cLine; omega) ⟨z.is, z.deep⟩ h1 hd ⟨.bl _, H, I.tok _, rfl, ?_⟩
  rw [entR_some r k]
  exact q
def rGetN (K : PySem.W.Frag) (P : Program) (w : World) : R2 := fun y x H Q => ∃ (b a : Addr) (k : NestedKey) (xs : List Ent) (p : Addr × V), x = .ref b ∧ y = .ref a ∧ Rd H a (DictNO P w a xs) ∧ KeysAt K H xs ∧ KeyAt K H b k ∧ atN xs k = some p ∧ Q p.2 H
theorem getN (hu : X.A.units + 64 < cLine) {x y : V} {v u : Value} {Q : VK} (I : L2.Inv X pins σ H s) (ry : RelV y u) (rx : RelV x v) (h : rGetN X.K X.prog X.w y x H Q) : wpAny (model X.prog X.w) X.A (getItem u v) (EP X pins σ Q) X.xe s := by
  obtain ⟨b, a, k, xs, p, rfl, rfl, ha, hk, hb, hp, q⟩ := h
  cases rx
  cases ry
  obtain ⟨h1, hz, vs, r, hd⟩ := dn_of I ha hk
  have z := hb.isN I
  obtain ⟨p', e', _, rp⟩ := (entR_at k r).1 p hp
  exact wpAny_getItem_heap (knd := nestedKind X.prog X.w) (by show X.A.units + 1 + 8 < cLine; omega) ⟨z.is, z.deep⟩ hd e' ⟨p.2, H, I.tok _, rp, q⟩
def rPutN (K : PySem.W.Frag) (P : Program) (w : World) : TSet := fun o i v H Q => ∃ (b a : Addr) (k : NestedKey) (xs : List Ent), i = .ref b ∧ o = .ref a ∧ H a = some (DictNO P w a xs) ∧ KeysAt K H xs ∧ KeyAt K H b k ∧ xs.length < sizeLine ∧ Q (upd H a (DictNO P w a (storeN xs k b v)))
theorem set_dictN (hu : X.A.units + 64 < cLine) : PSet X (rPutN X.K X.prog X.w) := by
  intro pins s σ H o i v ov iv u Q I ro ri rv h
  obtain ⟨b, a, k, xs, rfl, rfl, ha, hk, hb, hl, q⟩ := h
  cases ro
  cases ri
  obtain ⟨h1, hz, vs, r, hd⟩ := dn_of I (Rd.of ha) hk
  have z := hb.isN I
  refine wpAny_setItem_heap (knd := nestedKind X.prog X.w) (hsz := by rw [← r.length]; exact hz) (by show X.A.units + 1 + 8 < cLine; omega) ⟨z.is, z.deep⟩ hd fun h' hd' hs => ⟨_, dn_write I ha hk rv r hl h1 hd' hs _, q⟩
end
end SH

set_option Elab.async false
set_option linter.all false
set_option maxRecDepth 100000
set_option maxHeartbeats 1600000
/-! ShKey2: dicts of nested tuples further: {}, sorted(d), for k in d, dict(pairs). -/
namespace SH
open PySem PySem.Spec PyProof.Rows L2 PySem.W Evl
section
variable {X : Cx} {pins : List (Addr × Obj)} {σ : L2.St} {H : Hp} {s : Shared}
theorem dn_empty (I : L2.Inv X pins σ H s) : ObjOk X.prog X.w (upd H s.heap.objs.size (DictNO X.prog X.w s.heap.objs.size [])) (s.heap.push { cls := .type "dict", data := .dict #[] }) s.heap.objs.size (DictNO X.prog X.w s.heap.objs.size []) := by
  have h := I.big
  refine dn_new (vs := []) ?_ (Nat.zero_le _) .nil (Heap.DictOfH.new s.heap)
  have := (dk_empty (P := X.prog) (w := X.w) (H := upd H s.heap.objs.size (.dK [])) s.heap I.big)
  exact this.2.1
/-- {} -/
def tDNewN (X : Cx) : TE := fun _ H Q => ∀ p, H p = none → Q (.ref p) (upd H p (DictNO X.prog X.w p []))
theorem pe_dnewN {pos : Pos} : PE X (.Dict [] [] pos) (tDNewN X) := ⟨fun pins s σ H Q I h =>
  wpAny_Dict_empty ⟨.ref s.heap.objs.size, _, I.laid (a := s.heap.objs.size) (o := DictNO X.prog X.w s.heap.objs.size []) (t' := s.toks) (fun _ _ q => Heap.get?_push_of_some _ q) (Nat.le_refl _) (dn_empty I), rfl, h _ (I.hok.fresh (Nat.le_refl _))⟩⟩
/-- the keys of a dict, with their tuples -/
abbrev thOf (xs : List Ent) : List Th := xs.map fun x => (x.2.1, x.1)
def rSortedDN (K : PySem.W.Frag) (P : Program) (w : World) : List V → Hp → VK → Prop := fun vs H Q => ∃ (a : Addr) (xs : List Ent), vs = [V.ref a] ∧ Rd H a (DictNO P w a xs) ∧ KeysAt K H xs ∧ Orders (xs.map fun p => p.1.data) ∧ (∀ p ∈ xs, p.1.data.depth ≤ 8) ∧
  ∀ (p : Addr), H p = none → Q (.ref p) (upd H p (.lst (((thOf xs).mergeSort leK).map fun q => V.ref q.1)))
theorem th_each : ∀ (M : List Th), EachIs (fun (v : Value) (q : Th) => v = Value.ref q.1 ∧ q ∈ M) (M.map fun q => Value.ref q.1) M := by
  intro M
  have key : ∀ N : List Th, (∀ q ∈ N, q ∈ M) → EachIs (fun (v : Value) (q : Th) => v = Value.ref q.1 ∧ q ∈ M) (N.map fun q => Value.ref q.1) N := by
    intro N
    induction N with
    | nil => exact fun _ => .nil
    | cons q N ih => exact fun hN => .cons ⟨rfl, hN q List.mem_cons_self⟩ (ih fun r hr => hN r (List.mem_cons_of_mem _ hr))
  exact key M fun q hq => hq
theorem th_back {M : List Th} : ∀ {as : List Value} {bs : List Th}, EachIs (fun v q => v = Value.ref q.1 ∧ q ∈ M) as bs → as = bs.map fun q => Value.ref q.1 := by
  intro as bs x
  induction x with
  | nil => rfl
  | cons h1 _ ih => rw [List.map_cons, h1.1, ih]
theorem cr_sortedDN (hc : X.calm = true) (hu : X.A.units + 64 < cLine) : CallR X (.builtin "sorted") (rSortedDN X.K X.prog X.w) := by
  intro pins s σ H vs us Q I r h
  obtain ⟨a, xs, rfl, ha, hk, ho, hd, q⟩ := h
  obtain ⟨lo, hz, ws, rel, dd⟩ := dn_of I ha hk
  rw [Vals.ref1 r]
  obtain ⟨o, es, ep, e1, e2, e3, e4, e5, e6⟩ := id dd
  have hsz : es.size = xs.length := by
    have z := congrArg List.length e4
    rw [Array.length_toList, List.length_map, ← rel.length] at z
    exact z
  refine Calls.call_function_entry kind_sorted plain_sorted entry_sorted (args_sorted1 _) ?_
  unfold Builtin.«sorted»
  refine wpAny_bind (m := checkCount "sorted" 1 1 _) (wpAny_pure ?_)
  refine wpAny_bind (kdu_collect (A := X.A.in1) (KdlSrc.rawDict (es := es) (ep := ep) lo) (I.ok.hd hc) ⟨o, e1, e2, e3⟩ (by rw [hsz]; exact hz) fun h' tk acc hkp hacc => ?_)
  have hL : acc.toList = (thOf xs).map fun q => Value.ref q.1 := by
    apply List.ext_getElem?
    intro j
    by_cases hj : j < xs.length
    · obtain ⟨v, hv⟩ : ∃ v, acc.toList[j]? = some v := ⟨acc.toList[j]'(by rw [Array.length_toList, hacc.1, hsz]; exact hj), List.getElem?_eq_getElem _⟩
      obtain ⟨hi, e⟩ := hacc.2 j v (by rw [← Array.getElem?_toList]; exact hv)
      obtain ⟨y, hy, f1, f2, f3⟩ := paired_get rel (List.getElem?_eq_getElem hj)
      have q1 : es.toList[j]? = some (entryOfKey (nestedKind X.prog X.w) y) := by rw [e4, List.getElem?_map, hy]; rfl
      have q2 : es.toList[j]? = some es[j] := by rw [Array.getElem?_toList]; exact Array.getElem?_eq_getElem hi
      rw [q2] at q1
      have q3 : es[j] = entryOfKey (nestedKind X.prog X.w) y := Option.some.inj q1
      rw [hv, e, q3, List.getElem?_map, List.getElem?_map, List.getElem?_eq_getElem hj]
      show some (Value.ref y.2.1) = some (Value.ref (xs[j]).2.1)
      rw [f2]
    · rw [List.getElem?_eq_none (by rw [Array.length_toList, hacc.1, hsz]; omega), List.getElem?_eq_none (by rw [List.length_map, List.length_map]; omega)]
  have I1 : L2.Inv X pins σ H { s with heap := h', toks := tk } := I.kept hkp
  have hlen : acc.toList.length = xs.length := by rw [Array.length_toList, hacc.1, hsz]
  refine wpAny_bind (wpAny_newList ?_ (by rw [hlen]; exact hz))
  have hoL : (h'.push (seqObj "list" acc.toList.toArray 0)).get? h'.objs.size = some (seqObj "list" acc.toList.toArray 0) := Heap.get?_push_size _ rfl
  show wpAny _ _ _ _ _ { s with heap := h'.push (seqObj "list" acc.toList.toArray 0), toks := tk }
  have kp : ∀ b u, s.heap.get? b = some u → (h'.push (seqObj "list" acc.toList.toArray 0)).get? b = some u := fun b u e => Heap.get?_push_of_some _ (hkp b u e)
  have emap : (thOf xs).map (fun q => q.2.data) = xs.map fun p => p.1.data := by rw [List.map_map]; rfl
  have hkt : ∀ q ∈ thOf xs, KeyAt X.K H q.1 q.2 ∧ q.2.data.depth ≤ 8 := fun q hq => by
    obtain ⟨x, hx, rfl⟩ := List.mem_map.mp hq
    exact ⟨hk x hx, hd x hx⟩
  have al : AllAlike ((thOf xs).map fun q => q.2.data) := by rw [emap]; exact ho.al
  refine wpAny_bind (wpAny_holding (list_sort_data (s := { s with heap := h'.push (seqObj "list" acc.toList.toArray 0), toks := tk }) (bs := thOf xs) (enc := fun q => q.2.data) (R := fun v q => v = Value.ref q.1 ∧ q ∈ thOf xs) hoL (by rw [hL]; exact th_each _) ?_ al (by rw [emap]; exact ho.so) (by rw [List.length_map]; exact hz)
    (fun p hp => by
      have := (hkt p hp).2
      show X.A.units + 1 + 1 + _ < cLine
      omega) fun out hl hE => ?_))
  · have z := th_each (thOf xs)
    rw [← hL] at z
    refine z.mono fun v p hp => ?_
    obtain ⟨rfl, hp⟩ := hp
    obtain ⟨as, rr⟩ := Dp.reads I _ _ _ (hkt p hp).1.dp rfl
    refine ⟨as, PyProof.Rows.Reads.keeps kp rr, fun hm => ?_⟩
    obtain ⟨ob, eo⟩ := reads_there _ _ _ (al _ (List.mem_map.mpr ⟨p, hp, rfl⟩) _ (List.mem_map.mpr ⟨p, hp, rfl⟩)) rr _ hm
    exact absurd (Heap.lt_size (hkp _ _ eo)) (Nat.lt_irrefl _)
  · obtain ⟨c, hc'⟩ := sortedHeap_at (vs := acc.toList) (out := out.toArray) hoL
    have hn : H h'.objs.size = none := I1.hok.fresh (Nat.le_refl _)
    have hv : Vals (((thOf xs).mergeSort leK).map fun q => V.ref q.1) out := by rw [th_back hE]; exact vals_refs _
    have ok : ObjOk X.prog X.w (upd H h'.objs.size (.lst (((thOf xs).mergeSort leK).map fun q => V.ref q.1))) (sortedHeap (h'.push (seqObj "list" acc.toList.toArray 0)) h'.objs.size acc.toList out.toArray) h'.objs.size (.lst (((thOf xs).mergeSort leK).map fun q => V.ref q.1)) :=
      ⟨by rw [List.length_map, List.length_mergeSort, List.length_map]; exact hz, out, c, hv, hc'⟩
    refine wpAny_pure ⟨_, rfl, .ref h'.objs.size, _, I1.laid (t' := tk) (fun b u e => ?_) (Nat.le_refl _) ok, rfl, q _ hn⟩
    have hlt := Heap.lt_size e
    show (sortedHeap (h'.push (seqObj "list" acc.toList.toArray 0)) h'.objs.size acc.toList out.toArray).get? b = some u
    rw [sortedHeap_old (Nat.ne_of_lt hlt) (by rw [size_push']; exact Nat.lt_succ_of_lt hlt)]
    exact Heap.get?_push_of_some _ e

/-! ### for k in d, d locked -/
theorem dn_frz {o : Obj} {xs : List Ent} {d : Addr} (I : L2.Inv X pins σ H s) (h : H d = some (.frz o (DictNO X.prog X.w d xs))) :
    (d == sysModules) = false ∧ s.heap.get? d = some o ∧ o.ExactDict ∧ ∃ (es : Array DictEntry) (ep : Nat), o.data = .dict es ep ∧ es.size = xs.length ∧
      ∀ (i : Nat) (x : Ent), xs[i]? = some x → ∃ en : DictEntry, es[i]? = some en ∧ en.key = .ref x.2.1 := by
  obtain ⟨hd, ⟨hs, z, vs, pr, o', es, ep, ho, hx, hdt, he, _⟩, _⟩ := I.hok d _ h
  rw [hd] at ho
  cases ho
  refine ⟨hs, hd, hx, es, ep, hdt, ?_, fun i x e => ?_⟩
  · have q := congrArg List.length he
    rw [Array.length_toList, List.length_map, ← pr.length] at q
    exact q
  · obtain ⟨y, hy, f1, f2, f3⟩ := paired_get pr e
    refine ⟨entryOfKey (nestedKind X.prog X.w) y, ?_, ?_⟩
    · rw [← Array.getElem?_toList, he, List.getElem?_map, hy]
      rfl
    · show Value.ref y.2.1 = _
      rw [f2]
def Itkn (P : Program) (w : World) (d : Addr) (o : Obj) (xs : List Ent) : It :=
  ⟨fun i H => H d = some (.frz o (DictNO P w d xs)) ∧ i < xs.length, fun i H x H' => H' = H ∧ ∃ e, xs[i]? = some e ∧ x = .ref e.2.1, fun i H => H d = some (.frz o (DictNO P w d xs)) ∧ xs.length ≤ i⟩
theorem turn_keysN {P : Program} {w : World} {K : PySem.W.Frag} {tg : Expr} {d : Addr} {o : Obj} {es : Array DictEntry} {ep : Nat} {xs : List Ent} (it : Addr) (hod : o.data = .dict es ep) : Turn P w K tg (Itkn P w d o xs) [it] it (fun i h => h.IsKeyIter it d i xs.length ep) where
  mem := by simp
  obj := fun i h st b hb => by
    have e : b = it := by simpa using hb
    subst e
    obtain ⟨oi, e, c, dd⟩ := st
    exact ⟨oi, e, fun v z => by rw [dd] at z; cases z⟩
  keep := fun i h h' st k => st.at fun oi e => k it (by simp) oi e
  item := by
    intro X hP hw hK hc i pins s σ H E I hf st hg
    subst hP hw hK
    obtain ⟨hd, hi⟩ := hg
    obtain ⟨f0, f1, f2, f3, f4, f5⟩ := hf it (by simp)
    obtain ⟨hs, hgd, hx, es', ep', hdt, hsz, ent⟩ := dn_frz I hd
    obtain ⟨rfl, rfl⟩ := dict_ep hod hdt
    obtain ⟨x, hkv⟩ : ∃ p, xs[i]? = some p := ⟨xs[i], List.getElem?_eq_getElem hi⟩
    obtain ⟨en, hen, hkey⟩ := ent i x hkv
    refine next_key_item st hgd hdt hsz hen fun h' st' sb => ?_
    have I1 : L2.Inv X pins σ H { s with heap := h' } := I.turned (t' := s.toks) (fun b ob hb e => (sb.2 b hb).trans e) f0 f1 f3 f4 f5
    obtain ⟨oi, e, c, dd⟩ := id st'
    exact ⟨en.key, rfl, go_of (s := { s with heap := h' }) e c dd (by decide) ⟨.ref x.2.1, H, I1, hkey, ⟨rfl, x, hkv, rfl⟩, st', fun b hb => (hf b hb).1⟩⟩
  done := by
    intro X hP hw hK hc i pins s σ H E I hf st hg
    subst hP hw hK
    obtain ⟨hd, hi⟩ := hg
    obtain ⟨f0, f1, f2, f3, f4, f5⟩ := hf it (by simp)
    obtain ⟨hs, hgd, hx, es', ep', hdt, hsz, ent⟩ := dn_frz I hd
    obtain ⟨rfl, rfl⟩ := dict_ep hod hdt
    exact next_key_end (I.ok.hd hc) st hgd hdt hsz hi fun h' eb => ⟨rfl, I.turned (t' := s.toks) (fun b ob hb e => eb b ob hb e) f0 f1 f3 f4 f5⟩
  self := fun A i s Q E st h => by
    refine wpAny_pyIter_slot st.typeIs F.slot_dict_keyiterator_iter (wpAny_call_entry F.slot_dict_keyiterator_iter st.typeIs F.entry_dict_keyiterator_iter ?_ (F.args_dict_keyiterator_iter_1 _))
    show wpAny _ _ (ret (.ref it)) _ _ s
    exact wpAny_pure ⟨_, rfl, "dict_keyiterator", _, st.typeIs, F.slot_dict_keyiterator_next.lookup, h⟩
def iKeysN (X : Cx) (td : TE) : TI := fun σ H R => td σ H fun x H1 => ∃ d o xs, x = .ref d ∧ H1 d = some (.frz o (DictNO X.prog X.w d xs)) ∧ R (Itkn X.prog X.w d o xs) H1
theorem pi_keysN {tg e : Expr} {td : TE} (he : PE X e td) : PI X tg e (iKeysN X td) := by
  refine ⟨fun pins s σ H R I h => ?_⟩
  refine thn (he.run pins s σ H _ I h) fun u s1 ⟨x, H1, I1, rx, d, o, xs, ex, hd, q⟩ => ?_
  subst ex
  obtain rfl : u = Value.ref d := rx
  obtain ⟨hs, hgd, hx, es, ep, hdt, hsz, ent⟩ := dn_frz I1 hd
  refine iter_keys hs hgd hx hdt (pi_one (tk := s1.toks) I1 _ (turn_keysN _ hdt) ⟨_, Heap.get?_push_size _ rfl, rfl, ?_⟩ q)
  rw [hsz]
  rfl
theorem walk_keysN {P : Program} {w : World} {d : Addr} {o : Obj} {xs : List Ent} : Walk (Itkn P w d o xs) xs.length (fun H => H d = some (.frz o (DictNO P w d xs))) (fun i H x H' => H' = H ∧ ∃ e, xs[i]? = some e ∧ x = .ref e.2.1) :=
  ⟨fun _ _ hi q => ⟨q, hi⟩, fun _ q => ⟨q, Nat.le_refl _⟩, fun _ _ _ _ _ _ y => y⟩
end
end SH

set_option Elab.async false
set_option linter.all false
set_option maxRecDepth 100000
set_option maxHeartbeats 1600000
/-! ShComp: comprehensions that fill an object by steps of one's own: sets of ints, dicts of nested tuples. -/
namespace SH
open PySem PySem.Spec PyProof.Rows L2 PySem.W Evl
section
variable {X : Cx}
/-- what holds in each block that a comprehension of X with this scope may open -/
abbrev InBlocks (X : Cx) (scope : Scope) (p : Cx → Prop) : Prop := ∀ (s : Shared) (H : Hp) (C : Addr) (cl : List (Str × Addr)) (fp : List Addr), p (X.blk s H scope (compEnvC scope cl C X.env) fp)
/-- a filling: D the new object, each turn what rest asks -/
def tFill (O : Addr → HO) (wi : TI) (g : TG) (rest : Addr → L2.St → Hp → (Hp → Prop) → Prop) (vs : List Nat) : TE := fun σ H Q => wi σ H fun J H1 => ∀ D, H1 D = none → ∃ W : Nat → Nat → Hp → Prop, (∃ m, W 0 m (upd H1 D (O D))) ∧ ∀ i m H, W i m H →
  (J.stop i H ∧ Q (.ref D) H) ∨ (J.go i H ∧ ∃ Nx : Hp → Prop, (∀ H', Nx H' → ∃ m', m' < m ∧ W (i + 1) m' H') ∧ ∀ x H', J.yld i H x H' → g x (wipe σ vs) H' fun σ2 H2 => wipe σ2 vs = wipe σ vs ∧ rest D σ2 H2 Nx)
/-- how a kind of comprehension runs: its object, one turn's work behind the target, its loop -/
structure Filler (X : Cx) (ce tg iter : Expr) (ifs : List Expr) (scope : Scope) (O : Addr → HO) (rest : Addr → L2.St → Hp → (Hp → Prop) → Prop) where
  new : Sem Value
  ob : Obj
  work : Env → Addr → (Shared → Prop) → Shared → Prop
  cls : clausesOf ce = [⟨tg, iter, ifs, 0⟩]
  made : ∀ (s : Shared) (Q : Value → Shared → Prop), Q (.ref s.heap.objs.size) { s with heap := s.heap.push ob } → wpAny (model X.prog X.w) X.A new Q X.xe s
  fits : ∀ (pins : List (Addr × Obj)) (σ : L2.St) (H : Hp) (s : Shared), L2.Inv X pins σ H s → ObjOk X.prog X.w (upd H s.heap.objs.size (O s.heap.objs.size)) (s.heap.push ob) s.heap.objs.size (O s.heap.objs.size)
  does : InBlocks X scope fun X' => ∀ (pins : List (Addr × Obj)) (D : Addr) (σ : L2.St) (H : Hp) (s : Shared) (Nx : Hp → Prop) (Post : Shared → Prop), L2.Inv X' pins σ H s → rest D σ H Nx → (∀ s' H', L2.Inv X' pins σ H' s' → Nx H' → Post s') → work X'.env D Post s
  loop : ∀ (it D : Addr) (env : Env) (R : Result → Shared → Prop) (I : Nat → Shared → Prop),
    (∀ n s, I n s → wpAny (model X.prog X.w) X.A (pyNext (.ref it)) (fun r s₁ => match r with
      | none => R (.ok .next) s₁
      | some v => wpAny (model X.prog X.w) X.A (letOwnedTupleGo tg (.ref it) v) (fun _ s₂ => wpAny (model X.prog X.w) X.A (assign tg env v) (fun _ s₃ => work env D (fun s' => ∃ m, m < n ∧ I m s') s₃) (fun _ _ => False) s₂) (fun _ _ => False) s₁) (fun _ _ => False) s) →
    ∀ n s, I n s → codeAny (model X.prog X.w) X.A (.compLoop ce 0 (.ref it) (.ref D) env) R s
  start : ∀ (it D : Addr) (env : Env) (R : Result → Shared → Prop) (s : Shared), codeAny (model X.prog X.w) X.A (.compLoop ce 0 (.ref it) (.ref D) env) R s →
    wpAny (model X.prog X.w) X.A (pyIter (.ref it)) (fun it' s' => codeAny (model X.prog X.w) X.A (.compLoop ce 0 it' (.ref D) env) R s') (notedBy (model X.prog X.w) X.A env fun x s' => R (.error x) s') s →
    codeAny (model X.prog X.w) X.A (.compStart ce 0 (.ref it) (.ref D) env) R s
theorem fill_core {ce tg iter : Expr} {ifs : List Expr} {scope : Scope} {O : Addr → HO} {rest : Addr → L2.St → Hp → (Hp → Prop) → Prop} (M : Filler X ce tg iter ifs scope O rest)
    {pins : List (Addr × Obj)} {s : Shared} {σ : L2.St} {H : Hp} {Q : VK} {own : List (Str × Nat)} {pos' : Pos} {wi : TI} {g : TG}
    (hc : X.calm = true) (hN : X.N.Nodup) (I : L2.Inv X pins σ H s) (hi : PI X tg iter wi) (ok : BlkOk X.N X.env.scope scope own) (hg : InBlocks X scope fun X' => PG X' tg g) (hs : ∀ x, foldedSetIterable iter X.env x = pure x)
    (h : tFill O wi g rest (own.map (·.2)) σ H Q) : wpAny (model X.prog X.w) X.A (comprehension ce scope X.env pos' M.new false (eval iter X.env)) (EP X pins σ Q) X.xe s := by
  have hfree : ∀ y ∈ scope.names, y.2 = .free → ∃ c, X.env.cells.lookup y.1 = some c := fun y hy e => (ok.free y hy e).elim (fun k => I.ok.has _ (.inl k)) fun k => I.ok.has _ (.inr k)
  refine wpAny_comprehension_free M.cls hs (closure_ok hfree) ok.kind (fun y hy e => by rw [ok.uniq y hy, e]) (thn (hi.run pins s σ H _ I h) fun xv s1 hx => thn hx fun itv s2 h2 => ?_)
  obtain ⟨it, fp, tn, J, H2, e, I2, T, st2, f2, q⟩ := h2
  subst e
  refine M.made s2 _ (newEnv_comp ?_)
  generalize hD : s2.heap.objs.size = D
  obtain ⟨W, ⟨m0, w0⟩, turn⟩ := q D (I2.hok.fresh (Nat.le_of_eq hD))
  generalize hs3 : ({ s2 with heap := s2.heap.push M.ob } : Shared) = s3
  have I3 : L2.Inv X pins σ (upd H2 D (O D)) s3 := by
    rw [← hs3]
    refine I2.laid (t' := s2.toks) (fun b o e => Heap.get?_push_of_some _ e) (Nat.le_of_eq hD) ?_
    rw [← hD]
    exact M.fits pins σ H2 s2 I2
  have h3 : s3.heap = s2.heap.push M.ob := by rw [← hs3]
  have f3 : ∀ b ∈ fp, FpOk X pins (upd H2 D (O D)) b ∧ b < s3.heap.objs.size := fun b hb => by
    obtain ⟨o, e, _⟩ := T.obj _ _ st2 b hb
    have hlt := Heap.lt_size e
    refine ⟨⟨?_, (f2 b hb).2⟩, by rw [h3, Heap.size_push]; exact Nat.lt_succ_of_lt hlt⟩
    rw [upd_ne (by rw [← hD]; exact Nat.ne_of_lt hlt)]
    exact (f2 b hb).1
  have st3 : tn 0 s3.heap := T.keep _ _ _ st2 fun b _ o e => by rw [h3]; exact Heap.get?_push_of_some _ e
  have I4 := block_start I3 ok hN f3
  have pg := hg s3 (upd H2 D (O D)) s3.heap.objs.size (cellsFrom (s3.heap.objs.size + 1) scope.names (cloFrom X.env.cells scope.names [])) fp
  have pr := M.does s3 (upd H2 D (O D)) s3.heap.objs.size (cellsFrom (s3.heap.objs.size + 1) scope.names (cloFrom X.env.cells scope.names [])) fp
  show codeAny _ _ (.compStart ce 0 (.ref it) (.ref D) (compEnvC scope (cellsFrom (s3.heap.objs.size + 1) scope.names (cloFrom X.env.cells scope.names [])) s3.heap.objs.size X.env)) (compPost (model X.prog X.w) X.A X.xe none (EP X pins σ Q) (.ref D) s3.heap.objs.size) { s3 with heap := pushCells (s3.heap.push { cls := .type "dict", data := .dict #[] }) scope.names }
  have nfp : ∀ b ∈ fp, (upd H2 D (O D)) b = none := fun b hb => (f3 b hb).1.1
  generalize hce : compEnvC scope (cellsFrom (s3.heap.objs.size + 1) scope.names (cloFrom X.env.cells scope.names [])) s3.heap.objs.size X.env = be at I4 pg pr ⊢
  have bL : be.locals = s3.heap.objs.size := by subst hce; rfl
  generalize hH3 : upd H2 D (O D) = H3 at I3 I4 pg pr w0 nfp f3
  generalize hs4 : ({ s3 with heap := pushCells (s3.heap.push { cls := .type "dict", data := .dict #[] }) scope.names } : Shared) = s4 at I4 ⊢
  have st4 : tn 0 s4.heap := T.keep _ _ _ st3 fun b _ o e => by rw [← hs4]; exact pushCells_keeps _ _ _ _ (Heap.get?_push_of_some _ e)
  have stat : ∀ {σ' : L2.St} {H' : Hp} {s' : Shared}, L2.Inv (X.blk s3 H3 scope be fp) [] σ' H' s' → (∀ b ∈ fp, H' b = none) → ∀ b ∈ fp, FpOk (X.blk s3 H3 scope be fp) [] H' b := fun {σ' H' s'} I' hn b hb =>
    ⟨hn b hb, (I'.ok.exf b hb).1, I'.ok.exfs b hb, .inl hb, fun x c e => (I'.ok.exf b hb).2 x c e, fun p hp => absurd (show p ∈ ([] : List (Addr × Obj)) ++ [] from hp) (by simp)⟩
  have loop : codeAny (model X.prog X.w) X.A (.compLoop ce 0 (.ref it) (.ref D) be) (compPost (model X.prog X.w) X.A X.xe none (EP X pins σ Q) (.ref D) s3.heap.objs.size) s4 := by
    refine M.loop it D be _ (fun n s' => ∃ i H', L2.Inv (X.blk s3 H3 scope be fp) [] (wipe σ (own.map (·.2))) H' s' ∧ tn i s'.heap ∧ (∀ b ∈ fp, H' b = none) ∧ W i n H') ?_ m0 s4 ⟨0, H3, I4, st4, nfp, w0⟩
    rintro n s5 ⟨i, H5, I5, st5, n5, w5⟩
    rcases turn i n H5 w5 with ⟨stop, qq⟩ | ⟨go, Nx, hNx, step⟩
    · refine thnF (T.done (X.blk s3 H3 scope be fp) rfl rfl rfl hc i [] s5 _ H5 (fun _ _ => False) I5 (stat I5 n5) st5 stop) fun r s6 ⟨hr, I6⟩ => ?_
      subst hr
      have I7 : L2.Inv X pins σ H5 s6 := I3.call' (ch := fp) I6.os I6.base I6.hok I6.bare fun b hb => ⟨(f3 b hb).1.2.2.2.1, (f3 b hb).1.2.1, (f3 b hb).1.2.2.2.2.1, (f3 b hb).1.2.2.2.2.2⟩
      have nC : H5 s3.heap.objs.size = none := by
        have z : H5 be.locals = none := I6.free
        rw [bL] at z
        exact z
      obtain ⟨m, hn, _⟩ := I6.loc
      have hn : s6.heap.Ns be.locals m := hn
      rw [bL] at hn
      obtain ⟨f0, f1, f2', f4, f5, f6⟩ := I3.fpOk (Nat.le_refl _) nC
      exact ⟨m, hn, fun h'' sb => ⟨.ref D, H5, I7.turned (t' := s6.toks) (fun b o hb e => (sb.2 b hb).trans e) f0 f1 f4 f5 f6, rfl, qq⟩⟩
    · refine thnF (T.item (X.blk s3 H3 scope be fp) rfl rfl rfl hc i [] s5 _ H5 (fun _ _ => False) I5 (stat I5 n5) st5 go) fun r s6 ⟨u, hr, h6⟩ => ?_
      subst hr
      refine thnF h6 fun _ s7 ⟨x, H7, I7, r7, y7, st7, n7⟩ => ?_
      have I7' := I7.pinned (stat I7 n7) (T.obj _ _ st7)
      refine thnF (pg.run _ s7 _ H7 x u _ I7' r7 (step x H7 y7)) fun _ s8 ⟨σ8, H8, I8, hw8, q8⟩ => ?_
      refine pr _ D σ8 H8 s8 Nx _ I8 q8 fun s' H' I' nx => ?_
      obtain ⟨m', hm, w'⟩ := hNx H' nx
      have pin' : ∀ b ∈ fp, ∀ o, s7.heap.get? b = some o → s'.heap.get? b = some o ∧ H' b = none := fun b hb o e =>
        let z := I'.pin (b, o) (List.mem_append_right _ (List.mem_append_right _ (mem_pinsAt hb e)))
        ⟨z.1, z.2.1⟩
      refine ⟨m', hm, i + 1, H', (I'.unpinned (pins := [])).weak (by rw [← hw8, wipe_length]) (fun j v e => ?_), T.keep _ _ _ st7 fun b hb o e => (pin' b hb o e).1, fun b hb => ?_, w'⟩
      · rw [← hw8] at e
        exact (wipe_some e).1
      · obtain ⟨o, e, _⟩ := T.obj _ _ st7 b hb
        exact (pin' b hb o e).2
  exact M.start it D be _ s4 loop (T.self X.A 0 _ _ _ st4 loop)

/-! ### sets of ints -/
def restS (w : World) (tt : TT) (te : TE) : Addr → L2.St → Hp → (Hp → Prop) → Prop := fun D σ H Nx => tt σ H fun b H1 => if b = true then te σ H1 fun y H2 => ∃ (k : Int) (S : Int → Bool) (n : Nat), y = .int k ∧ H2 D = some (SetO w D S n) ∧ n + 1 < scanBound ∧
  Nx (upd H2 D (SetO w D (fun j => S j || decide (j = k)) (if S k = true then n else n + 1))) else Nx H1
abbrev SetI0 (w : World) (D : Addr) : HO := SetO w D (fun _ => false) 0
theorem pe_scI {elt tg iter : Expr} {ifs : List Expr} {scope : Scope} {own : List (Str × Nat)} {pos : Pos} {wi : TI} {g : TG} {tt : TT} {te : TE} (hc : X.calm = true) (hN : X.N.Nodup) (hi : PI X tg iter wi) (ok : BlkOk X.N X.env.scope scope own)
    (hg : InBlocks X scope fun X' => PG X' tg g) (ht : InBlocks X scope fun X' => PTs X' ifs tt) (he : InBlocks X scope fun X' => PE X' elt te) (hs : ∀ x, foldedSetIterable iter X.env x = pure x := by intro _; rfl) :
    PE X (.SetComp elt [⟨tg, iter, ifs, 0⟩] scope pos) (tFill (SetI0 X.w) wi g (restS X.w tt te) (own.map (·.2))) := by
  refine ⟨fun pins s σ H Q I h => ?_⟩
  rw [PpSet.eval_SetComp]
  have main : ∀ M : Filler X (.SetComp elt [⟨tg, iter, ifs, 0⟩] scope pos) tg iter ifs scope (SetI0 X.w) (restS X.w tt te), M.new = newSet (.type "set") →
      wpAny (model X.prog X.w) X.A (comprehension (.SetComp elt [⟨tg, iter, ifs, 0⟩] scope pos) scope X.env (firstIterPos [⟨tg, iter, ifs, 0⟩] pos) (newSet (.type "set")) false (eval iter X.env)) (EP X pins σ Q) X.xe s :=
    fun M e => by rw [← e]; exact fill_core M hc hN I hi ok hg hs h
  refine main
    { new := newSet (.type "set")
      ob := newSetObj X.w
      work := fun env D Post s => wpAny (model X.prog X.w) X.A (forIn ifs true fun c r => if r = true then do let ok ← isTrue c env (eval c env); pure (ForInStep.yield ok) else pure (ForInStep.yield r)) (fun ok s₃ =>
        if ok = true then wpAny (model X.prog X.w) X.A (eval elt env) (fun x s₄ => wpAny (model X.prog X.w) X.A (call (.builtin "set.add") [.ref D, x]) (fun _ s₅ => Post s₅) (fun _ _ => False) s₄) (fun _ _ => False) s₃ else Post s₃) (fun _ _ => False) s
      cls := rfl
      made := fun s Q h => PpSet.newSet_ok h
      fits := fun pins σ H s I => setO_new (setR_fresh X.w)
      does := fun s0 H0 C cl fp pins D σ H s Nx Post I q fin => ?_
      loop := fun it D env R I turn n s h => PpSet.compLoopS_any I (fun n s hI => thnF (turn n s hI) fun r s1 h1 => ?_) n h
      start := fun it D env R s h0 h => PpSet.codeAny_compStart_set h0 h } rfl
  · refine thn ((ht s0 H0 C cl fp).run pins s σ H _ I q) fun b s1 ⟨H1, I1, q1⟩ => ?_
    cases b with
    | false =>
      simp only [Bool.false_eq_true, if_false] at q1 ⊢
      exact fin s1 H1 I1 q1
    | true =>
      simp only [if_true] at q1 ⊢
      refine thn ((he s0 H0 C cl fp).run pins s1 σ H1 _ I1 q1) fun z s2 ⟨y, H2, I2, r2, k, S, n, ey, hD, hn, nx⟩ => ?_
      subst ey
      exact thn (mt_sadd pins s2 σ H2 (.ref D) [.int k] (.ref D) [z] (fun v H' => Nx H') I2 rfl (.cons r2 .nil) ⟨D, k, S, n, rfl, rfl, hD, hn, nx⟩) fun v s3 ⟨_, H3, I3, _, q3⟩ => fin s3 H3 I3 q3
  · cases r with
    | none => exact h1
    | some v =>
      refine thnF h1 fun _ s2 h2 => thnF h2 fun _ s3 h3 => thnF h3 fun ok s4 h4 => ?_
      cases ok with
      | false => exact h4
      | true =>
        simp only [if_true] at h4 ⊢
        exact thnF h4 fun x s5 h5 => thnF h5 fun _ s6 h6 => h6

/-! ### dicts of nested tuples -/
def restD (P : Program) (w : World) (K : PySem.W.Frag) (tt : TT) (tk tv : TE) : Addr → L2.St → Hp → (Hp → Prop) → Prop := fun D σ H Nx => tt σ H fun b H1 => if b = true then tk σ H1 fun y H2 => tv σ H2 fun z H3 => ∃ (a : Addr) (k : NestedKey) (xs : List Ent),
  y = .ref a ∧ H3 D = some (DictNO P w D xs) ∧ KeysAt K H3 xs ∧ KeyAt K H3 a k ∧ xs.length < sizeLine ∧ Nx (upd H3 D (DictNO P w D (storeN xs k a z))) else Nx H1
theorem dictSetN {pins : List (Addr × Obj)} {σ : L2.St} {H : Hp} {s : Shared} {E : Value → Shared → Prop} (hu : X.A.units + 64 < cLine) (I : L2.Inv X pins σ H s) {D a : Addr} {k : NestedKey} {xs : List Ent} {z : V} {u : Value} {Q : Unit → Shared → Prop} (hD : H D = some (DictNO X.prog X.w D xs)) (hk : KeysAt X.K H xs) (ha : KeyAt X.K H a k) (hz : xs.length < sizeLine) (r : RelV z u)
    (h : ∀ s', L2.Inv X pins σ (upd H D (DictNO X.prog X.w D (storeN xs k a z))) s' → Q () s') : wpAny (model X.prog X.w) X.A (dictSet D (.ref a) u) Q E s := by
  obtain ⟨h1, hzl, vs, rel, hd⟩ := dn_of I (Rd.of hD) hk
  have q := ha.isN I
  exact wpAny_dictSet_heap (knd := nestedKind X.prog X.w) (hsz := by rw [← rel.length]; exact hzl) (by show X.A.units + 8 < cLine; omega) ⟨q.is, q.deep⟩ hd fun h' hd' hs => h _ (dn_write I hD hk r rel hz h1 hd' hs _)
theorem pe_dcN {kx vx tg iter : Expr} {ifs : List Expr} {scope : Scope} {own : List (Str × Nat)} {pos : Pos} {wi : TI} {g : TG} {tt : TT} {tk tv : TE} (hu : X.A.units + 64 < cLine) (hc : X.calm = true) (hN : X.N.Nodup) (hi : PI X tg iter wi) (ok : BlkOk X.N X.env.scope scope own)
    (hg : InBlocks X scope fun X' => PG X' tg g) (ht : InBlocks X scope fun X' => PTs X' ifs tt) (hk : InBlocks X scope fun X' => PE X' kx tk) (hv : InBlocks X scope fun X' => PE X' vx tv) (hs : ∀ x, foldedSetIterable iter X.env x = pure x := by intro _; rfl) :
    PE X (.DictComp kx vx [⟨tg, iter, ifs, 0⟩] scope pos) (tFill (fun D => DictNO X.prog X.w D []) wi g (restD X.prog X.w X.K tt tk tv) (own.map (·.2))) := by
  refine ⟨fun pins s σ H Q I h => ?_⟩
  rw [arm_eval_DictComp]
  have main : ∀ M : Filler X (.DictComp kx vx [⟨tg, iter, ifs, 0⟩] scope pos) tg iter ifs scope (fun D => DictNO X.prog X.w D []) (restD X.prog X.w X.K tt tk tv), M.new = newDict →
      wpAny (model X.prog X.w) X.A (comprehension (.DictComp kx vx [⟨tg, iter, ifs, 0⟩] scope pos) scope X.env (firstIterPos [⟨tg, iter, ifs, 0⟩] pos) newDict false (eval iter X.env)) (EP X pins σ Q) X.xe s :=
    fun M e => by rw [← e]; exact fill_core M hc hN I hi ok hg hs h
  refine main
    { new := newDict
      ob := { cls := .type "dict", data := .dict #[] }
      work := fun env D Post s => wpAny (model X.prog X.w) X.A (forIn ifs true fun c r => if r = true then do let ok ← isTrue c env (eval c env); pure (ForInStep.yield ok) else pure (ForInStep.yield r)) (fun ok s₃ =>
        if ok = true then wpAny (model X.prog X.w) X.A (eval kx env) (fun kv s₄ => wpAny (model X.prog X.w) X.A (eval vx env) (fun vv s₅ => wpAny (model X.prog X.w) X.A (dictSet D kv vv) (fun _ s₆ => Post s₆) (fun _ _ => False) s₅) (fun _ _ => False) s₄) (fun _ _ => False) s₃ else Post s₃) (fun _ _ => False) s
      cls := rfl
      made := fun s Q h => wpAny_newObj_type h
      fits := fun pins σ H s I => dn_empty I
      does := fun s0 H0 C cl fp pins D σ H s Nx Post I q fin => ?_
      loop := fun it D env R I turn n s h => compLoop_anyD I (fun n s hI => thnF (turn n s hI) fun r s1 h1 => ?_) n h
      start := fun it D env R s h0 h => codeAny_compStart_dict h0 h } rfl
  · refine thn ((ht s0 H0 C cl fp).run pins s σ H _ I q) fun b s1 ⟨H1, I1, q1⟩ => ?_
    cases b with
    | false =>
      simp only [Bool.false_eq_true, if_false] at q1 ⊢
      exact fin s1 H1 I1 q1
    | true =>
      simp only [if_true] at q1 ⊢
      refine thn ((hk s0 H0 C cl fp).run pins s1 σ H1 _ I1 q1) fun z s2 ⟨y, H2, I2, r2, q2⟩ => ?_
      refine thn ((hv s0 H0 C cl fp).run pins s2 σ H2 _ I2 q2) fun z2 s3 ⟨y2, H3, I3, r3, a, k, xs, ey, hD, hks, ha, hl, nx⟩ => ?_
      subst ey
      cases r2
      exact dictSetN (X := X.blk s0 H0 scope (compEnvC scope cl C X.env) fp) hu I3 hD hks ha hl r3 fun s4 I4 => fin s4 _ I4 nx
  · cases r with
    | none => exact h1
    | some v =>
      refine thnF h1 fun _ s2 h2 => thnF h2 fun _ s3 h3 => thnF h3 fun ok s4 h4 => ?_
      cases ok with
      | false => exact h4
      | true =>
        simp only [if_true] at h4 ⊢
        exact thnF h4 fun x s5 h5 => thnF h5 fun _ s6 h6 => thnF h6 fun _ s7 h7 => h7
/-- a filling over what is walked -/
theorem fill_it {J : It} {n : Nat} {G : Hp → Prop} {Y : Nat → Hp → V → Hp → Prop} (wk : Walk J n G Y) {O : HO} {g : TG} {rest : Addr → L2.St → Hp → (Hp → Prop) → Prop} {vs : List Nat} {σ : L2.St} {H1 : Hp} {D : Addr} {Qd : Hp → Prop} (Pv : Nat → Hp → Prop) (h0 : Pv 0 (upd H1 D O)) (hG : ∀ i H, i ≤ n → Pv i H → G H)
    (hs : ∀ i x H H', i < n → Pv i H → Y i H x H' → g x (wipe σ vs) H' fun σ2 H2 => wipe σ2 vs = wipe σ vs ∧ rest D σ2 H2 (Pv (i + 1))) (hd : ∀ H, Pv n H → Qd H) :
    ∃ W : Nat → Nat → Hp → Prop, (∃ m, W 0 m (upd H1 D O)) ∧ ∀ i m H, W i m H →
      (J.stop i H ∧ Qd H) ∨ (J.go i H ∧ ∃ Nx : Hp → Prop, (∀ H', Nx H' → ∃ m', m' < m ∧ W (i + 1) m' H') ∧ ∀ x H', J.yld i H x H' → g x (wipe σ vs) H' fun σ2 H2 => wipe σ2 vs = wipe σ vs ∧ rest D σ2 H2 Nx) := by
  refine ⟨fun i m H => m = n - i ∧ i ≤ n ∧ Pv i H, ⟨n, by simp, Nat.zero_le _, h0⟩, ?_⟩
  rintro i m H ⟨rfl, hi, p⟩
  have q := hG i H hi p
  by_cases hlt : i < n
  · exact .inr ⟨wk.goes i H hlt q, Pv (i + 1), fun H' p' => ⟨n - (i + 1), by omega, rfl, hlt, p'⟩, fun x H' y => hs i x H H' hlt p (wk.yields i H x H' hlt q y)⟩
  · have e : i = n := by omega
    subst e
    exact .inl ⟨wk.stops H q, hd H p⟩
end

/-! ### sorted of a set of ints, any size below scanBound -/
section
variable {P : Program} {w : World} {A : Around} {E : Value → Shared → Prop} {s : Shared}
theorem sorted_setI {a : Addr} {S : Int → Bool} {n : Nat} {Q : Value → Shared → Prop} (R : SetR w s.heap a S n) (hh : A.handled = none) (hu : A.units + 64 < cLine)
    (hQ : ∀ s' p (out : Array Value) (c : Nat) (ns : List Int), (∀ b o, s.heap.get? b = some o → s'.heap.get? b = some o) → s'.gens = s.gens → s'.os = s.os → s.heap.objs.size ≤ p →
      s'.heap.get? p = some (seqObj "list" out c) → Vals (ns.map V.int) out.toList → ns.Pairwise (· < ·) → (∀ k, k ∈ ns ↔ S k = true) → ns.length = n → Q (.ref p) s') :
    wpAny (model P w) A (call (.builtin "sorted") [.ref a]) Q E s := by
  obtain ⟨o, es, ep, t, ho, hex, hd, g, nd, hm, hb, hf, hn, hr, hl⟩ := R
  refine Calls.call_function_entry kind_sorted plain_sorted entry_sorted (args_sorted1 _) ?_
  unfold Builtin.«sorted»
  refine wpAny_bind (m := checkCount "sorted" 1 1 _) (wpAny_pure ?_)
  refine wpAny_bind (collect_set (A := A.in1) hh ⟨o, ho, hex.1, hd⟩ hf hb hr hl fun s1 vs k1 hz g1 o1 pm => ?_)
  have hvl : vs.length = n := by rw [pm.length_eq, List.length_map, Array.length_toList]; exact hn
  have pk : (vs.map Builtin.Re.reRawOf).Perm (es.toList.map keyOf) := by
    have q := pm.map Builtin.Re.reRawOf
    rw [List.map_map] at q
    exact q
  have each : ∀ us : List Value, (∀ u ∈ us, u ∈ vs) → EachIs (fun (v : Value) (k : Int) => ∃ t, v = .int k t) us (us.map Builtin.Re.reRawOf) := by
    intro us
    induction us with
    | nil => exact fun _ => .nil
    | cons u us ih =>
      intro hu'
      obtain ⟨e, he, q⟩ := List.mem_map.mp (pm.mem_iff.mp (hu' u List.mem_cons_self))
      obtain ⟨k, tk, h1, _⟩ := g e he
      refine .cons ⟨tk, ?_⟩ (ih fun v hv => hu' v (List.mem_cons_of_mem _ hv))
      rw [← q, h1]
      rfl
  have al : AllAlike ((vs.map Builtin.Re.reRawOf).map PyData.int) := fun d hd' d' hd'' => by
    obtain ⟨k, _, rfl⟩ := List.mem_map.mp hd'
    obtain ⟨k', _, rfl⟩ := List.mem_map.mp hd''
    rfl
  have so : Sortable ((vs.map Builtin.Re.reRawOf).map PyData.int) := .inr fun d hd' => by
    obtain ⟨k, _, rfl⟩ := List.mem_map.mp hd'
    exact ⟨fun z => (by cases z), fun xs z => (by cases z)⟩
  have hnb : n ≤ sizeLine := by
    have h1 : n < scanBound := by omega
    have h2 : scanBound ≤ sizeLine := by rw [sizeLine_eq]; decide
    omega
  refine wpAny_bind (wpAny_newList ?_ (by rw [hvl]; exact hnb))
  have hoL : (s1.heap.push (seqObj "list" vs.toArray 0)).get? s1.heap.objs.size = some (seqObj "list" vs.toArray 0) := Heap.get?_push_size _ rfl
  refine wpAny_bind (wpAny_holding (list_sort_data (s := { s1 with heap := s1.heap.push (seqObj "list" vs.toArray 0) }) (bs := vs.map Builtin.Re.reRawOf) (enc := PyData.int) (R := fun v k => ∃ t, v = .int k t) hoL (each vs fun _ h => h) ((each vs fun _ h => h).mono fun v k ⟨t, e⟩ => ⟨[], by rw [e]; exact .int k t, List.not_mem_nil⟩) al so
    (by rw [List.length_map, hvl]; exact hnb) (fun k _ => by show A.units + 1 + 1 + 0 < cLine; omega) fun out hlo hE => ?_))
  obtain ⟨c, hc⟩ := sortedHeap_at (vs := vs) (out := out.toArray) hoL
  have e0 : (vs.map Builtin.Re.reRawOf).mergeSort (dataLe false PyData.int) = (vs.map Builtin.Re.reRawOf).mergeSort fun a b => decide (a ≤ b) := by
    rw [show dataLe false PyData.int = fun a b => decide (a ≤ b) from dataLe_int (fun k : Int => k)]
  rw [e0] at hE
  have pp := (List.mergeSort_perm (vs.map Builtin.Re.reRawOf) fun a b => decide (a ≤ b)).trans pk
  have srt : ((vs.map Builtin.Re.reRawOf).mergeSort fun a b => decide (a ≤ b)).Pairwise (· ≤ ·) := by
    refine List.Pairwise.imp (fun h => of_decide_eq_true h) (List.pairwise_mergeSort (le := fun a b : Int => decide (a ≤ b)) (fun a b c h1 h2 => decide_eq_true (Int.le_trans (of_decide_eq_true h1) (of_decide_eq_true h2))) (fun a b => ?_) _)
    rcases Int.le_total a b with z | z <;> simp [z]
  generalize (vs.map Builtin.Re.reRawOf).mergeSort (fun a b => decide (a ≤ b)) = ns at hE pp srt
  refine wpAny_pure ⟨_, rfl, hQ _ s1.heap.objs.size out.toArray c ns (fun b u e => ?_) g1 o1 hz hc ?_ (lt_of_le_nodup ns srt (pp.nodup_iff.mpr nd)) (fun k => by rw [pp.mem_iff, ← hm k]) ?_⟩
  · have q := k1 b u e
    have hlt := Heap.lt_size q
    show (sortedHeap (s1.heap.push (seqObj "list" vs.toArray 0)) s1.heap.objs.size vs out.toArray).get? b = some u
    rw [sortedHeap_old (Nat.ne_of_lt hlt) (by rw [size_push']; exact Nat.lt_succ_of_lt hlt)]
    exact Heap.get?_push_of_some _ q
  · have key : ∀ (us : List Value) (ks : List Int), EachIs (fun v k => ∃ t, v = Value.int k t) us ks → Vals (ks.map V.int) us := by
      intro us ks x
      induction x with
      | nil => exact .nil
      | cons h1 _ ih => exact .cons h1 ih
    exact key _ _ hE
  · rw [pp.length_eq, List.length_map, Array.length_toList]; exact hn
end
section
variable {X : Cx}
def rSortedSI (w : World) : List V → Hp → VK → Prop := fun vs H Q => ∃ (a : Addr) (S : Int → Bool) (n : Nat), vs = [V.ref a] ∧ H a = some (SetO w a S n) ∧
  ∀ (ns : List Int) (p : Addr), ns.Pairwise (· < ·) → (∀ k : Int, k ∈ ns ↔ S k = true) → ns.length = n → H p = none → Q (.ref p) (upd H p (.lst (ns.map V.int)))
theorem cr_sortedSI (hc : X.calm = true) (hu : X.A.units + 64 < cLine) : CallR X (.builtin "sorted") (rSortedSI X.w) := by
  intro pins s σ H vs us Q I r h
  obtain ⟨a, S, n, rfl, ha, q⟩ := h
  have R := setO_get I ha
  rw [Vals.ref1 r]
  refine sorted_setI R (I.ok.hd hc) hu fun s' p out c ns k g o hp hg hi hs hm hl => ?_
  have hlen : (ns.map V.int).length ≤ sizeLine := by
    obtain ⟨_, es, _, _, _, _, _, _, _, _, hb, _, hn, _⟩ := R
    have h2 : scanBound ≤ sizeLine := by rw [sizeLine_eq]; decide
    rw [List.length_map, hl]
    omega
  have hn : H p = none := I.hok.fresh hp
  have J : L2.Inv X pins σ (upd H p (.lst (ns.map V.int))) { s with heap := s'.heap, gens := s'.gens, drawn := s'.drawn, toks := s'.toks } :=
    I.call (ch := []) (Un.laid k hp hn) (I.hok.laid k hp ⟨hlen, out.toList, c, hi, hg⟩) (by rw [g]; exact I.bare) (fun _ z => nomatch z)
  have e : s' = { s with heap := s'.heap, gens := s'.gens, drawn := s'.drawn, toks := s'.toks } := by
    cases s'
    cases s
    cases o
    rfl
  rw [e]
  exact ⟨.ref p, _, J, rfl, q ns p hs hm hl hn⟩
end
end SH

set_option Elab.async false
set_option linter.all false
set_option maxRecDepth 100000
set_option maxHeartbeats 1600000
/-! ShW: weakest readings over the layer; what an expression tells, from a base heap that grows. -/
namespace SH
open PySem PySem.Spec PyProof.Rows L2 PySem.W Evl

/-! ### weakest readings -/
section
variable {X : Cx}
def wE (X : Cx) (e : Expr) : TE := fun σ H Q => ∀ (pins : List (Addr × Obj)) (s : Shared), L2.Inv X pins σ H s → wpAny (model X.prog X.w) X.A (eval e X.env) (EP X pins σ Q) X.xe s
def wT (X : Cx) (e : Expr) : TT := fun σ H Q => ∀ (pins : List (Addr × Obj)) (s : Shared), L2.Inv X pins σ H s → wpAny (model X.prog X.w) X.A (isTrue e X.env (eval e X.env)) (TP X pins σ Q) X.xe s
def wW (X : Cx) (e : Expr) : TT := fun σ H Q => ∀ (whole : Sem Value) (pins : List (Addr × Obj)) (s : Shared), L2.Inv X pins σ H s → wpAny (model X.prog X.w) X.A (isTrue e X.env whole) (TP X pins σ Q) X.xe s
def wA (X : Cx) (es : List Expr) : TA := fun σ H Q => ∀ (pos : Pos) (pins : List (Addr × Obj)) (s : Shared), L2.Inv X pins σ H s → wpAny (model X.prog X.w) X.A (spliced (backTo pos (starEach es X.env))) (AP X pins σ Q) X.xe s
def wSs (X : Cx) (sts : List Stmt) : TS := fun D σ H => ∀ (pins : List (Addr × Obj)) (s : Shared), L2.Inv X pins σ H s → wpAny (model X.prog X.w) X.A (execs sts X.env) (SP X pins D) X.xe s
theorem pE {e : Expr} : PE X e (wE X e) := ⟨fun pins s σ H Q I h => h pins s I⟩
theorem pT {e : Expr} : PT X e (wT X e) := ⟨fun pins s σ H Q I h => h pins s I⟩
theorem pW {e : Expr} : PW X e (wW X e) := ⟨fun wh pins s σ H Q I h => h wh pins s I⟩
theorem pA {es : List Expr} : PA X es (wA X es) := ⟨fun pos pins s σ H Q I h => h pos pins s I⟩
theorem pSs {sts : List Stmt} : PSs X sts (wSs X sts) := ⟨fun pins s σ H D I h => h pins s I⟩
variable {σ : L2.St} {H : Hp}
theorem wE.of {e : Expr} {t : TE} {Q : VK} (h : PE X e t) (q : t σ H Q) : wE X e σ H Q := fun pins s I => h.run pins s σ H Q I q
theorem wT.of {e : Expr} {t : TT} {Q : Bool → Hp → Prop} (h : PT X e t) (q : t σ H Q) : wT X e σ H Q := fun pins s I => h.run pins s σ H Q I q
theorem wW.of {e : Expr} {t : TT} {Q : Bool → Hp → Prop} (h : PW X e t) (q : t σ H Q) : wW X e σ H Q := fun wh pins s I => h.run wh pins s σ H Q I q
theorem wA.of {es : List Expr} {t : TA} {Q : List V → Hp → Prop} (h : PA X es t) (q : t σ H Q) : wA X es σ H Q := fun pos pins s I => h.run pos pins s σ H Q I q
theorem wSs.of {sts : List Stmt} {t : TS} {D : Ends} (h : PSs X sts t) (q : t D σ H) : wSs X sts D σ H := fun pins s I => h.run pins s σ H D I q
/-- in whatever block of this scope -/
def wEb (X : Cx) (scope : Scope) (e : Expr) : TE := fun σ H Q => InBlocks X scope fun X' => wE X' e σ H Q
def wTb (X : Cx) (scope : Scope) (e : Expr) : TT := fun σ H Q => InBlocks X scope fun X' => wT X' e σ H Q
theorem pEb {scope : Scope} {e : Expr} : InBlocks X scope fun X' => PE X' e (wEb X scope e) := fun s H C cl fp => ⟨fun pins s' σ H' Q I h => h s H C cl fp pins s' I⟩
theorem pTb {scope : Scope} {e : Expr} : InBlocks X scope fun X' => PT X' e (wTb X scope e) := fun s H C cl fp => ⟨fun pins s' σ H' Q I h => h s H C cl fp pins s' I⟩
end

/-! ### the base grows -/
structure Gr (B H G H' : Hp) : Prop where
  up : Ex B G
  sub : Ex G H'
  keep : Ex H H'
  new : ∀ a o, G a = some o → B a = some o ∨ H a = none
theorem Gr.refl {B H : Hp} (h : Ex B H) : Gr B H B H := ⟨Ex.refl B, h, Ex.refl H, fun _ _ e => .inl e⟩
theorem Gr.same {B H H' : Hp} (h : Ex B H) (k : Ex H H') : Gr B H B H' := ⟨Ex.refl B, h.trans k, k, fun _ _ e => .inl e⟩
theorem Gr.trans {B H G H1 G2 H2 : Hp} (a : Gr B H G H1) (b : Gr G H1 G2 H2) : Gr B H G2 H2 :=
  ⟨a.up.trans b.up, b.sub, a.keep.trans b.keep, fun p o e => (b.new p o e).elim (a.new p o) fun z => .inr (by
    cases q : H p with
    | none => rfl
    | some u => rw [a.keep p u q] at z; cases z)⟩
theorem Gr.one {B H : Hp} {p : Addr} (o : HO) (h : Ex B H) (hp : H p = none) : Gr B H (upd B p o) (upd H p o) := by
  have hb : B p = none := fresh_back h hp
  refine ⟨Ex.new hb, fun a u e => ?_, Ex.new hp, fun a u e => ?_⟩
  · by_cases c : a = p
    · subst c; rw [upd_same] at e ⊢; exact e
    · rw [upd_ne c] at e ⊢; exact h a u e
  · by_cases c : a = p
    · subst c; exact .inr hp
    · rw [upd_ne c] at e; exact .inl e
/-- an object of the heap that the base does not know: the base does not come to know it -/
theorem Gr.off {B H G H' : Hp} (g : Gr B H G H') {p : Addr} {o : HO} (hp : H p = some o) (hb : B p = none) : G p = none := by
  cases q : G p with
  | none => rfl
  | some u =>
    rcases g.new p u q with z | z
    · rw [hb] at z; cases z
    · rw [hp] at z; cases z
theorem Gr.mut {B H G H' : Hp} (g : Gr B H G H') {p : Addr} {o : HO} (hp : G p = none) : Ex G (upd H' p o) := g.sub.mut hp

/-! ### what is told, from a base: data, fresh lists, arguments, things walked -/
def EvG (te : TE) (σ : L2.St) (B : Hp) (P : V → Hp → Prop) : Prop := ∀ B', Ex B B' → ∀ H, Ex B' H → ∀ Q : VK, (∀ v G H', Gr B' H G H' → P v G → Q v H') → te σ H Q
def EvL (te : TE) (σ : L2.St) (B : Hp) (P : List V → Hp → Prop) : Prop := ∀ B', Ex B B' → ∀ H, Ex B' H → ∀ Q : VK, (∀ p xs G H', Gr B' H G H' → H p = none → G p = none → H' p = some (.lst xs) → P xs G → Q (.ref p) H') → te σ H Q
def EvAs (ta : TA) (σ : L2.St) (B : Hp) (P : List V → Hp → Prop) : Prop := ∀ B', Ex B B' → ∀ H, Ex B' H → ∀ Q : List V → Hp → Prop, (∀ vs G H', Gr B' H G H' → P vs G → Q vs H') → ta σ H Q
/-- n things, the i-th one as P tells -/
def EvW (wi : TI) (σ : L2.St) (B : Hp) (n : Nat) (P : Nat → V → Hp → Prop) : Prop := ∀ B', Ex B B' → ∀ H, Ex B' H → ∀ R : It → Hp → Prop,
  (∀ J G H', Gr B' H G H' → Walk J n (fun H => Ex G H) (fun i H x H' => ∀ G2, Ex G G2 → Ex G2 H → ∃ G3, Gr G2 H G3 H' ∧ P i x G3) → R J H') → wi σ H R
abbrev EvD (K : PySem.W.Frag) (te : TE) (σ : L2.St) (B : Hp) (d : PyData) : Prop := EvG te σ B fun v G => Dp K G v d
section
variable {K : PySem.W.Frag} {σ : L2.St} {B B' : Hp} {te ta tb : TE} {P : V → Hp → Prop}
theorem EvG.mono (h : EvG te σ B P) (e : Ex B B') : EvG te σ B' P := fun C a => h C (e.trans a)
theorem EvG.weak {P' : V → Hp → Prop} (h : EvG te σ B P) (w : ∀ v G, P v G → P' v G) : EvG te σ B P' := fun C a H b Q q => h C a H b Q fun v G H' g p => q v G H' g (w v G p)
theorem EvL.mono' {P : List V → Hp → Prop} (h : EvL te σ B P) (e : Ex B B') : EvL te σ B' P := fun C a => h C (e.trans a)
theorem EvL.weak {P P' : List V → Hp → Prop} (h : EvL te σ B P) (w : ∀ v G, P v G → P' v G) : EvL te σ B P' := fun C a H b Q q => h C a H b Q fun p xs G H' g f1 f2 f3 r => q p xs G H' g f1 f2 f3 (w xs G r)
theorem g_ev {v : V} (h : Ev te σ B v) : EvG te σ B fun u _ => u = v := fun C a H b Q q => h H (a.trans b) Q fun H' k => q v C H' (Gr.same b k) rfl
theorem d_ev {v : V} {d : PyData} (h : Ev te σ B v) (hd : Dp K B v d) : EvD K te σ B d := fun C a H b Q q => h H (a.trans b) Q fun H' k => q v C H' (Gr.same b k) (dp_ex a _ _ hd)
theorem ev_g {v : V} (h : EvG te σ B fun u _ => u = v) : Ev te σ B v := fun H a Q q => h B (Ex.refl B) H a Q fun u G H' g p => by
  cases p
  exact q H' g.keep
theorem ev_d {v : V} {d : PyData} (h : EvD K te σ B d) (hv : ∀ u G, Dp K G u d → u = v) : Ev te σ B v := ev_g (h.weak hv)
theorem ev_int {i : Int} (h : EvD K te σ B (.int i)) : Ev te σ B (.int i) := ev_d h fun u G d => by cases d; rfl
theorem ev_bl {b : Bool} (h : EvD K te σ B (.bool b)) : Ev te σ B (.bl b) := ev_d h fun u G d => by cases d; rfl
theorem d_int {i : Int} (h : Ev te σ B (.int i)) : EvD K te σ B (.int i) := d_ev h (.int i)
theorem d_bl {b : Bool} (h : Ev te σ B (.bl b)) : EvD K te σ B (.bool b) := d_ev h (.bl b)
theorem d_str {x : Str} (h : Ev te σ B (.str x)) : EvD K te σ B (.str x) := d_ev h (.str x)
theorem d_non (h : Ev te σ B .non) : EvD K te σ B .none := d_ev h .non
theorem d_is {d d' : PyData} (h : EvD K te σ B d) (e : d = d') : EvD K te σ B d' := e ▸ h
/-- a fresh list as data -/
theorem d_l {ds : List PyData} (h : EvL te σ B fun xs G => DpAll K G xs ds) : EvD K te σ B (.list ds) := fun C a H b Q q => h C a H b Q fun p xs G H' g h1 h2 h3 h4 =>
  q (.ref p) (upd G p (.lst xs)) H' ⟨g.up.trans (Ex.new h2), fun c o e => by
      by_cases z : c = p
      · subst z; rw [upd_same] at e; rw [← e]; exact h3
      · rw [upd_ne z] at e; exact g.sub c o e, g.keep, fun c o e => by
      by_cases z : c = p
      · subst z; exact .inr h1
      · rw [upd_ne z] at e; exact g.new c o e⟩ (.lst (sq_of upd_same) (dps_ex (Ex.new h2) _ _ h4))
/-! arguments -/
variable {tr : TA}
theorem as_nil : EvAs tNil σ B fun vs _ => vs = [] := fun C a H b Q q => q [] C H (Gr.refl b) rfl
theorem as_cons {Ps : List V → Hp → Prop} (hP : ∀ v G G', Ex G G' → P v G → P v G') (h : EvG te σ B P) (hr : EvAs tr σ B Ps) : EvAs (tCons te tr) σ B fun vs G => ∃ v r, vs = v :: r ∧ P v G ∧ Ps r G := fun C a H b Q q =>
  h C a H b _ fun v G H1 g p => hr G (a.trans g.up) H1 g.sub _ fun r G2 H2 g2 p2 => q (v :: r) G2 H2 (g.trans g2) ⟨v, r, rfl, hP v G G2 g2.up p, p2⟩
theorem asd_nil : EvAs tNil σ B fun vs G => DpAll K G vs [] := fun C a H b Q q => q [] C H (Gr.refl b) .nil
theorem asd_cons {d : PyData} {ds : List PyData} (h : EvD K te σ B d) (hr : EvAs tr σ B fun vs G => DpAll K G vs ds) : EvAs (tCons te tr) σ B fun vs G => DpAll K G vs (d :: ds) := fun C a H b Q q =>
  h C a H b _ fun v G H1 g p => hr G (a.trans g.up) H1 g.sub _ fun r G2 H2 g2 p2 => q (v :: r) G2 H2 (g.trans g2) (.cons (dp_ex g2.up _ _ p) p2)
theorem d_tup {ds : List PyData} (h : EvAs tr σ B fun vs G => DpAll K G vs ds) (hl : ds.length ≤ 100000) : EvD K (tTup tr) σ B (.tuple ds) := fun C a H b Q q =>
  h C a H b _ fun vs G H1 g p => ⟨sz_of (by rw [dps_len p]; exact hl), fun r hr => q (.ref r) _ _ (g.trans (Gr.one (.tup vs) g.sub hr)) (.tup (st_of upd_same) (dps_ex (Ex.new (fresh_back g.sub hr)) _ _ p))⟩
theorem l_lst {ds : List PyData} (h : EvAs tr σ B fun vs G => DpAll K G vs ds) (hl : ds.length ≤ 100000) : EvL (tLst tr) σ B fun xs G => DpAll K G xs ds := fun C a H b Q q =>
  h C a H b _ fun vs G H1 g p => ⟨sz_of (by rw [dps_len p]; exact hl), fun r hr => by
    refine q r vs G _ (g.trans (Gr.same g.sub (Ex.new hr))) (fresh_back g.keep hr) (fresh_back g.sub hr) upd_same p⟩
theorem as_of {vs : List V} (h : EvA tr σ B vs) : EvAs tr σ B fun us _ => us = vs := fun C a H b Q q => h H (a.trans b) Q fun H' k => q vs C H' (Gr.same b k) rfl
/-! things walked -/
theorem w_list {ds : List PyData} {tl : TE} (h : EvD K tl σ B (.list ds)) : EvW (iList K tl) σ B ds.length fun i x G => ∃ d, ds[i]? = some d ∧ Dp K G x d := fun C a H b R r =>
  h C a H b _ fun v G H' g p => by
    cases p with
    | @lst p xs _ h1 h2 =>
      refine ⟨p, rfl, ⟨xs, ex_l g.sub h1⟩, r _ G H' g ?_⟩
      have w0 := walk_list (K := K) (a := p) (xs := xs)
      rw [dps_len h2] at w0
      refine w0.mono (fun H e => ex_l e h1) fun i H x H'' hi e y G2 e1 e2 => ?_
      obtain ⟨rfl, hx⟩ := y
      obtain ⟨d, hd, q⟩ := dps_get h2 hx
      exact ⟨G2, Gr.refl e2, d, hd, dp_ex e1 _ _ q⟩
theorem w_tup {ds : List PyData} {tl : TE} (h : EvD K tl σ B (.tuple ds)) : EvW (iTup K tl) σ B ds.length fun i x G => ∃ d, ds[i]? = some d ∧ Dp K G x d := fun C a H b R r =>
  h C a H b _ fun v G H' g p => by
    cases p with
    | @tup p xs _ h1 h2 =>
      refine ⟨p, rfl, ⟨xs, ex_t g.sub h1⟩, r _ G H' g ?_⟩
      have w0 := walk_tup (K := K) (a := p) (xs := xs)
      rw [dps_len h2] at w0
      refine w0.mono (fun H e => ex_t e h1) fun i H x H'' hi e y G2 e1 e2 => ?_
      obtain ⟨rfl, hx⟩ := y
      obtain ⟨d, hd, q⟩ := dps_get h2 hx
      exact ⟨G2, Gr.refl e2, d, hd, dp_ex e1 _ _ q⟩
theorem w_enum {ds : List PyData} {tl : TE} (h : EvD K tl σ B (.list ds)) : EvW (iEnum K (tCons tl tNil)) σ B ds.length fun i x G => ∃ d, ds[i]? = some d ∧ Dp K G x (.tuple [.int i, d]) := fun C a H b R r =>
  h C a H b _ fun v G H' g p => by
    cases p with
    | @lst p xs _ h1 h2 =>
      refine ⟨p, xs, rfl, ex_l g.sub h1, r _ G H' g ?_⟩
      have w0 := walk_enum (K := K) (a := p) (xs := xs)
      rw [dps_len h2] at w0
      refine w0.mono (fun H e => ex_l e h1) fun i H x H'' hi e y G2 e1 e2 => ?_
      obtain ⟨T, x1, x2, rfl, hT, rfl, f1, f2⟩ := y
      cases f1
      obtain ⟨d, hd, q⟩ := dps_get h2 f2
      refine ⟨_, Gr.one (.tup [.int (i : Nat), x2]) e2 hT, d, hd, .tup (st_of upd_same) (.cons (.int _) (.cons ?_ .nil))⟩
      exact dp_ex (e1.trans (Ex.new (fresh_back e2 hT))) _ _ q
theorem w_range {n : Int} {tn : TE} (h : Ev tn σ B (.int n)) (hn : 0 ≤ n ∧ n ≤ 100000) : EvW (iRng1 (tCons tn tNil)) σ B n.toNat fun i x G => x = .int (i : Nat) := fun C a H b R r =>
  h H (a.trans b) _ fun H' k => ⟨n, rfl, by omega, by omega, r _ C H' (Gr.same b k) ((walk_range (lo := 0)).mono (fun _ _ => trivial) fun i H x H'' hi e y G2 e1 e2 => by
    obtain ⟨rfl, hx⟩ := y
    refine ⟨G2, Gr.refl e2, ?_⟩
    show x = V.int (i : Nat)
    have e0 : (0 : Int) + ((i : Nat) : Int) = ((i : Nat) : Int) := Int.zero_add _
    rw [← e0]
    exact hx)⟩
end

/-! ### a list comprehension -/
section
variable {K : PySem.W.Frag} {σ : L2.St} {B : Hp} {te : TE} {tt : TT} {wi : TI} {g : TG} {vs : List Nat} {n : Nat} {P : Nat → V → Hp → Prop}
/-- behind the target: the slots -/
def Lays (g : TG) (σ : L2.St) (vs : List Nat) (x : V) (G : Hp) (σ2 : L2.St) : Prop := wipe σ2 vs = wipe σ vs ∧ ∀ H, Ex G H → ∀ Q : L2.St → Hp → Prop, Q σ2 H → g x (wipe σ vs) H Q
theorem lays_name {j : Nat} {x : V} {G : Hp} (hw : wipe ((wipe σ vs).set j (some x)) vs = wipe σ vs) : Lays (gName j) σ vs x G ((wipe σ vs).set j (some x)) := ⟨hw, fun H _ Q q => q⟩
theorem lays_pair {i j : Nat} {p : Addr} {x y : V} {G : Hp} (hp : SqT K G p [x, y]) (hw : wipe (((wipe σ vs).set i (some x)).set j (some y)) vs = wipe σ vs) :
    Lays (gTup K 2 (gCons (gName i) (gCons (gName j) gNil))) σ vs (.ref p) G (((wipe σ vs).set i (some x)).set j (some y)) :=
  ⟨hw, fun H e Q q => ⟨p, [x, y], rfl, ex_t e hp, rfl, x, [y], rfl, y, [], rfl, rfl, q⟩⟩
/-- [elt for target in .. if ..]: f i where p i -/
theorem l_lc (p : Nat → Bool) (f : Nat → PyData) (hs : EvW wi σ B n P) (hn : n ≤ 4000000)
    (ht : ∀ (i : Nat) (x : V) (G : Hp), i < n → Ex B G → P i x G → ∃ σ2, Lays g σ vs x G σ2 ∧ EvT tt σ2 G (p i) ∧ (p i = true → EvD K te σ2 G (f i))) :
    EvL (tLc wi g tt te vs) σ B fun xs G => DpAll K G xs (((List.range n).filter p).map f) := fun C a H b Q q =>
  hs C a H b _ fun J G H1 gr wk Dl hD => by
    refine lc_it wk (fun i H' => ∃ G' xs, Ex G G' ∧ Gr C H G' H' ∧ H Dl = none ∧ G' Dl = none ∧ H' Dl = some (.lst xs) ∧ DpAll K G' xs (((List.range i).filter p).map f) ∧ xs.length ≤ i) ?_ ?_ ?_ ?_
    · exact ⟨G, [], Ex.refl G, gr.trans (Gr.same gr.sub (Ex.new hD)), fresh_back gr.keep hD, fresh_back gr.sub hD, upd_same, .nil, Nat.le_refl _⟩
    · rintro i H' _ ⟨G', xs, e, g1, _⟩
      exact e.trans g1.sub
    · rintro i x H2 H3 hi ⟨G', xs, e, g1, f1, f2, f3, f4, f5⟩ y
      obtain ⟨G3, g3, hp⟩ := y G' e g1.sub
      obtain ⟨σ2, ⟨l1, l2⟩, h1, h2⟩ := ht i x G3 hi ((a.trans gr.up).trans (e.trans g3.up)) hp
      refine l2 H3 g3.sub _ ⟨l1, h1 H3 g3.sub _ fun H4 k4 => ?_⟩
      have g4 : Gr C H G3 H4 := (g1.trans g3).trans (Gr.same g3.sub k4)
      have o3 : G3 Dl = none := g3.off f3 f2
      have d4 : H4 Dl = some (.lst xs) := k4 _ _ (g3.keep _ _ f3)
      cases hpi : p i with
      | false =>
        show ∃ G' xs, _
        refine ⟨G3, xs, e.trans g3.up, g4, f1, o3, d4, ?_, Nat.le_succ_of_le f5⟩
        rw [List.range_succ, List.filter_append, List.filter_cons, if_neg (by rw [hpi]; decide)]
        simpa using dps_ex g3.up _ _ f4
      | true =>
        show te σ2 H4 _
        refine h2 hpi G3 (Ex.refl _) H4 (g3.sub.trans k4) _ fun v G5 H5 g5 hv => ?_
        have d5 : H5 Dl = some (.lst xs) := g5.keep _ _ d4
        have o5 : G5 Dl = none := g5.off d4 o3
        refine ⟨xs, d5, Nat.lt_of_le_of_lt f5 (by rw [sizeLine_eq]; omega), G5, xs ++ [v], (e.trans g3.up).trans g5.up, ?_, f1, o5, upd_same, ?_, ?_⟩
        · have g6 := g4.trans g5
          exact ⟨g6.up, g6.sub.mut o5, g6.keep.mut f1, g6.new⟩
        · rw [List.range_succ, List.filter_append, List.filter_cons, if_pos hpi, List.map_append]
          exact dps_app (dps_ex (g3.up.trans g5.up) _ _ f4) (.cons hv .nil)
        · rw [List.length_append, List.length_singleton]
          omega
    · rintro H' ⟨G', xs, e, g1, f1, f2, f3, f4, f5⟩
      exact q Dl xs G' H' g1 f1 f2 f3 f4
end
end SH

set_option Elab.async false
set_option linter.all false
set_option maxRecDepth 100000
set_option maxHeartbeats 1600000
/-! ShT: what expressions tell, over slots told as data: the base grows, lists and dicts may be owned, one jar may turn. -/
namespace SH
open PySem PySem.Spec PyProof.Rows L2 PySem.W Evl

/-! ### the jar that turns -/
structure Jar where
  spot : Addr
  cells : Addr
  ns : List Int
def JarAt (J : Option Jar) (a : Addr) : Prop := ∃ j, J = some j ∧ a = j.spot
abbrev seedTop : Int := 2147483629
def JarOK (K : PySem.W.Frag) (J : Option Jar) (B H : Hp) : Prop := ∀ j, J = some j → B j.spot = none ∧ SqL K B j.cells (j.ns.map V.int) ∧
  ∃ i g s c : Int, H j.spot = some (.lst [.ref j.cells, .int i, .int g, .int s, .int c]) ∧ 0 ≤ i ∧ 0 ≤ g ∧ 0 ≤ s ∧ s < seedTop
theorem jar_none {K : PySem.W.Frag} {B H : Hp} : JarOK K none B H := fun j e => nomatch e

/-! ### a step: the base grows -/
structure Gs (K : PySem.W.Frag) (J : Option Jar) (B H G H' : Hp) : Prop where
  up : Ex B G
  sub : Ex G H'
  keep : ∀ a o, ¬ JarAt J a → H a = some o → H' a = some o
  live : ∀ a, H' a = none → H a = none
  new : ∀ a o, G a = some o → B a = some o ∨ H a = none
  jar : JarOK K J G H'
section
variable {K : PySem.W.Frag} {J : Option Jar} {B H G H' G1 G2 H1 H2 : Hp}
theorem JarOK.ne (j : JarOK K J B H) {p : Addr} (h : H p = none) : ¬ JarAt J p := by
  rintro ⟨x, e, rfl⟩
  obtain ⟨_, _, _, _, _, _, q, _⟩ := j x e
  rw [q] at h; cases h
theorem JarOK.same (j : JarOK K J B H) (k : Ex H H') : JarOK K J B H' := fun x e => by
  obtain ⟨h1, h2, a, b, c, d, q, r⟩ := j x e
  exact ⟨h1, h2, a, b, c, d, k _ _ q, r⟩
theorem Gs.refl (h : Ex B H) (j : JarOK K J B H) : Gs K J B H B H := ⟨Ex.refl B, h, fun _ _ _ e => e, fun _ e => e, fun _ _ e => .inl e, j⟩
theorem ex_live (k : Ex H H') : ∀ a, H' a = none → H a = none := fun a e => by
  cases q : H a with
  | none => rfl
  | some o => rw [k a o q] at e; cases e
theorem Gs.same (h : Ex B H) (k : Ex H H') (j : JarOK K J B H) : Gs K J B H B H' := ⟨Ex.refl B, h.trans k, fun a o _ e => k a o e, ex_live k, fun _ _ e => .inl e, j.same k⟩
theorem Gs.trans (a : Gs K J B H G1 H1) (b : Gs K J G1 H1 G2 H2) : Gs K J B H G2 H2 :=
  ⟨a.up.trans b.up, b.sub, fun p o n e => b.keep p o n (a.keep p o n e), fun p e => a.live p (b.live p e), fun p o e => (b.new p o e).elim (a.new p o) fun z => .inr (a.live p z), b.jar⟩
theorem Gs.one {p : Addr} (o : HO) (h : Ex B H) (hp : H p = none) (j : JarOK K J B H) : Gs K J B H (upd B p o) (upd H p o) := by
  have hb : B p = none := fresh_back h hp
  refine ⟨Ex.new hb, fun a u e => ?_, fun a u _ e => Ex.new hp a u e, ex_live (Ex.new hp), fun a u e => ?_, fun x e => ?_⟩
  · by_cases c : a = p
    · subst c; rw [upd_same] at e ⊢; exact e
    · rw [upd_ne c] at e ⊢; exact h a u e
  · by_cases c : a = p
    · subst c; exact .inr hp
    · rw [upd_ne c] at e; exact .inl e
  · have ne : x.spot ≠ p := fun z => j.ne hp ⟨x, e, z.symm⟩
    obtain ⟨h1, h2, a, b, c, d, q, r⟩ := j x e
    exact ⟨by rw [upd_ne ne]; exact h1, ex_l (Ex.new hb) h2, a, b, c, d, by rw [upd_ne ne]; exact q, r⟩
theorem Gs.off (g : Gs K J B H G H') {p : Addr} {o : HO} (hp : H p = some o) (hb : B p = none) : G p = none := by
  cases q : G p with
  | none => rfl
  | some u =>
    rcases g.new p u q with z | z
    · rw [hb] at z; cases z
    · rw [hp] at z; cases z
theorem Gs.base (g : Gs K J B H G H') (h : Ex B H) (j : JarOK K J B H) : Gs K J B H B H' :=
  ⟨Ex.refl B, g.up.trans g.sub, g.keep, g.live, fun _ _ e => .inl e, fun x e => by
    obtain ⟨h1, h2, _⟩ := j x e
    obtain ⟨_, _, q⟩ := g.jar x e
    exact ⟨h1, h2, q⟩⟩
/-- an own object changes -/
theorem Gs.put (g : Gs K J B H G H') {p : Addr} (o : HO) (h0 : H p = none) (hg : G p = none) (nj : ¬ JarAt J p) : Gs K J B H G (upd H' p o) := by
  refine ⟨g.up, g.sub.mut hg, fun a u n e => ?_, fun a e => ?_, g.new, fun x e => ?_⟩
  · have ne : a ≠ p := fun z => by rw [z, h0] at e; cases e
    rw [upd_ne ne]
    exact g.keep a u n e
  · by_cases c : a = p
    · rw [c]; exact h0
    · rw [upd_ne c] at e; exact g.live a e
  · obtain ⟨h1, h2, a, b, c, d, q, r⟩ := g.jar x e
    have ne : x.spot ≠ p := fun z => nj ⟨x, e, z.symm⟩
    exact ⟨h1, h2, a, b, c, d, by rw [upd_ne ne]; exact q, r⟩
/-- an own object joins the base -/
theorem Gs.join (g : Gs K J B H G H') {p : Addr} {o : HO} (h0 : H p = none) (hg : G p = none) (hp : H' p = some o) (nj : ¬ JarAt J p) : Gs K J B H (upd G p o) H' :=
  ⟨g.up.trans (Ex.new hg), fun c u e => by
      by_cases z : c = p
      · subst z; rw [upd_same] at e; rw [← e]; exact hp
      · rw [upd_ne z] at e; exact g.sub c u e, g.keep, g.live, fun c u e => by
      by_cases z : c = p
      · subst z; exact .inr h0
      · rw [upd_ne z] at e; exact g.new c u e, fun x e => by
      obtain ⟨h1, h2, q⟩ := g.jar x e
      have ne : x.spot ≠ p := fun z => nj ⟨x, e, z.symm⟩
      exact ⟨by rw [upd_ne ne]; exact h1, ex_l (Ex.new hg) h2, q⟩⟩
end

/-! ### data at the top: also a dict of nested tuples, also the jar -/
abbrev KD := NestedKey × PyData
inductive Dd where
  | d (x : PyData) | n (xs : List KD) | jar | l (xs : List PyData)
def EntD (K : PySem.W.Frag) (H : Hp) : List Ent → List KD → Prop := Paired fun e y => e.1 = y.1 ∧ Dp K H e.2.2 y.2
theorem entD_ex {K : PySem.W.Frag} {H H' : Hp} (e : Ex H H') {xs : List Ent} {ys : List KD} (h : EntD K H xs ys) : EntD K H' xs ys := Paired.mapP h fun a b q => ⟨q.1, dp_ex e _ _ q.2⟩
def Dq (X : Cx) (J : Option Jar) (H : Hp) (v : V) : Dd → Prop
  | .d x => Dp X.K H v x
  | .n xs => ∃ a es, v = .ref a ∧ H a = some (DictNO X.prog X.w a es) ∧ KeysAt X.K H es ∧ EntD X.K H es xs
  | .jar => ∃ j, J = some j ∧ v = .ref j.spot
  | .l xs => ∃ a vs, v = .ref a ∧ H a = some (.lst vs) ∧ DpAll X.K H vs xs
theorem dq_ex {X : Cx} {J : Option Jar} {H H' : Hp} (e : Ex H H') {v : V} : ∀ {x : Dd}, Dq X J H v x → Dq X J H' v x
  | .d x, h => dp_ex e x v h
  | .n xs, ⟨a, es, h1, h2, h3, h4⟩ => ⟨a, es, h1, e _ _ h2, h3.ex e, entD_ex e h4⟩
  | .jar, h => h
  | .l xs, ⟨a, vs, h1, h2, h3⟩ => ⟨a, vs, h1, e _ _ h2, dps_ex e _ _ h3⟩
abbrev DqAll (X : Cx) (J : Option Jar) (H : Hp) : List V → List Dd → Prop := Paired (Dq X J H)
theorem dqs_ex {X : Cx} {J : Option Jar} {H H' : Hp} (e : Ex H H') {vs : List V} {xs : List Dd} (h : DqAll X J H vs xs) : DqAll X J H' vs xs := Paired.mapP h fun _ _ q => dq_ex e q
theorem dqs_d {X : Cx} {J : Option Jar} {H : Hp} : ∀ {vs : List V} {ds : List PyData}, DqAll X J H vs (ds.map .d) → DpAll X.K H vs ds
  | [], [], _ => .nil
  | _ :: _, [], h => nomatch h
  | [], _ :: _, h => nomatch h
  | v :: vs, d :: ds, h => by cases h with | cons h1 h2 => exact .cons h1 (dqs_d h2)

/-! ### slots -/
inductive Sd where
  | no | d (x : Dd) | ol (xs : List PyData) | od (xs : List KD) | fd (xs : List KD) | oj (p c : Addr) (ns : List Int) (xs : List PyData)
def Sd.own : Sd → Bool
  | .ol _ => true
  | .od _ => true
  | .fd _ => true
  | .oj _ _ _ _ => true
  | _ => false
/-- owned and not locked -/
def Sd.free : Sd → Bool
  | .ol _ => true
  | .od _ => true
  | _ => false
theorem Sd.free_own : ∀ {s : Sd}, s.free = true → s.own = true
  | .ol _, _ => rfl
  | .od _, _ => rfl
  | .fd _, h => nomatch h
  | .oj _ _ _ _, h => nomatch h
  | .no, h => nomatch h
  | .d _, h => nomatch h
def AtS (X : Cx) (J : Option Jar) (B H : Hp) (u : Option V) : Sd → Prop
  | .no => True
  | .d x => ∃ v, u = some v ∧ Dq X J B v x
  | .ol xs => ∃ p vs, u = some (.ref p) ∧ B p = none ∧ ¬ JarAt J p ∧ H p = some (.lst vs) ∧ DpAll X.K B vs xs
  | .od xs => ∃ p es, u = some (.ref p) ∧ B p = none ∧ ¬ JarAt J p ∧ H p = some (DictNO X.prog X.w p es) ∧ KeysAt X.K B es ∧ EntD X.K B es xs
  | .fd xs => ∃ p es, u = some (.ref p) ∧ B p = none ∧ ¬ JarAt J p ∧ (∃ o, H p = some (.frz o (DictNO X.prog X.w p es))) ∧ KeysAt X.K B es ∧ EntD X.K B es xs
  | .oj p c ns xs => ∃ vs, u = some (.ref p) ∧ B p = none ∧ ¬ JarAt J p ∧ H p = some (.lst (.ref c :: vs)) ∧ SqL X.K B c (ns.map V.int) ∧ DpAll X.K B vs xs
structure Holds (X : Cx) (J : Option Jar) (B H : Hp) (σ : L2.St) (sl : List Sd) : Prop where
  ex : Ex B H
  len : σ.length = sl.length
  here : ∀ j s, sl[j]? = some s → AtS X J B H (σ.getD j none) s
  apart : ∀ i j s t p, i ≠ j → sl[i]? = some s → sl[j]? = some t → s.own = true → t.own = true → σ.getD i none = some (.ref p) → σ.getD j none = some (.ref p) → False
  jar : JarOK X.K J B H
structure Fit (X : Cx) : Prop where
  calm : X.calm = true
  nd : X.N.Nodup
  un : X.A.units + 128 < cLine
theorem Fit.un64 {X : Cx} (f : Fit X) : X.A.units + 64 < cLine := by have := f.un; omega
theorem getD_some {σ : L2.St} {j : Nat} {v : V} (h : σ.getD j none = some v) : σ[j]? = some (some v) := by
  rw [List.getD_eq_getElem?_getD] at h
  cases q : σ[j]? with
  | none => rw [q] at h; cases h
  | some u => rw [q] at h; exact congrArg some h
theorem some_getD {σ : L2.St} {j : Nat} {v : V} (h : σ[j]? = some (some v)) : σ.getD j none = some v := by
  rw [List.getD_eq_getElem?_getD, h]; rfl
section
variable {X : Cx} {J : Option Jar} {B H G H' : Hp} {σ : L2.St} {sl : List Sd}
theorem Holds.step (h : Holds X J B H σ sl) (g : Gs X.K J B H G H') : Holds X J G H' σ sl := by
  refine ⟨g.sub, h.len, fun j s e => ?_, h.apart, g.jar⟩
  have q := h.here j s e
  cases s with
  | no => trivial
  | d x => obtain ⟨v, e1, d⟩ := q; exact ⟨v, e1, dq_ex g.up d⟩
  | ol xs => obtain ⟨p, vs, e1, e2, n, e3, d⟩ := q; exact ⟨p, vs, e1, g.off e3 e2, n, g.keep _ _ n e3, dps_ex g.up _ _ d⟩
  | od xs => obtain ⟨p, es, e1, e2, n, e3, k, d⟩ := q; exact ⟨p, es, e1, g.off e3 e2, n, g.keep _ _ n e3, k.ex g.up, entD_ex g.up d⟩
  | fd xs => obtain ⟨p, es, e1, e2, n, ⟨o, e3⟩, k, d⟩ := q; exact ⟨p, es, e1, g.off e3 e2, n, ⟨o, g.keep _ _ n e3⟩, k.ex g.up, entD_ex g.up d⟩
  | oj p c ns xs => obtain ⟨vs, e1, e2, n, e3, d0, d⟩ := q; exact ⟨vs, e1, g.off e3 e2, n, g.keep _ _ n e3, ex_l g.up d0, dps_ex g.up _ _ d⟩

/-! ### the judgements -/
def TeP (X : Cx) (J : Option Jar) (e : Expr) (sl : List Sd) (P : Dd → Prop) : Prop := Fit X → ∀ σ B H, Holds X J B H σ sl → ∀ Q : VK, (∀ v G H' x, Gs X.K J B H G H' → Dq X J G v x → P x → Q v H') → wE X e σ H Q
abbrev Te (X : Cx) (J : Option Jar) (e : Expr) (sl : List Sd) (x : Dd) : Prop := TeP X J e sl (· = x)
def TtP (X : Cx) (J : Option Jar) (e : Expr) (sl : List Sd) (P : Bool → Prop) : Prop := Fit X → ∀ σ B H, Holds X J B H σ sl → ∀ Q : Bool → Hp → Prop, (∀ b H', Gs X.K J B H B H' → P b → Q b H') → wT X e σ H Q
abbrev Tt (X : Cx) (J : Option Jar) (e : Expr) (sl : List Sd) (b : Bool) : Prop := TtP X J e sl (· = b)
def TwP (X : Cx) (J : Option Jar) (e : Expr) (sl : List Sd) (P : Bool → Prop) : Prop := Fit X → ∀ σ B H, Holds X J B H σ sl → ∀ Q : Bool → Hp → Prop, (∀ b H', Gs X.K J B H B H' → P b → Q b H') → wW X e σ H Q
def TasP (X : Cx) (J : Option Jar) (es : List Expr) (sl : List Sd) (P : List Dd → Prop) : Prop := Fit X → ∀ σ B H, Holds X J B H σ sl → ∀ Q : List V → Hp → Prop, (∀ vs G H' xs, Gs X.K J B H G H' → DqAll X J G vs xs → P xs → Q vs H') → wA X es σ H Q
abbrev Tas (X : Cx) (J : Option Jar) (es : List Expr) (sl : List Sd) (xs : List Dd) : Prop := TasP X J es sl (· = xs)
/-- a fresh list that nothing else holds -/
def TlP (X : Cx) (J : Option Jar) (e : Expr) (sl : List Sd) (P : List PyData → Prop) : Prop := Fit X → ∀ σ B H, Holds X J B H σ sl → ∀ Q : VK, (∀ p vs xs G H', Gs X.K J B H G H' → H p = none → G p = none → ¬ JarAt J p → H' p = some (.lst vs) → DpAll X.K G vs xs → P xs → Q (.ref p) H') → wE X e σ H Q
abbrev Tl (X : Cx) (J : Option Jar) (e : Expr) (sl : List Sd) (xs : List PyData) : Prop := TlP X J e sl (· = xs)
variable {e a b c : Expr} {es : List Expr} {P P' : Dd → Prop}
theorem TeP.weak (h : TeP X J e sl P) (w : ∀ x, P x → P' x) : TeP X J e sl P' := fun F σ B H k Q q => h F σ B H k Q fun v G H' x g d p => q v G H' x g d (w x p)
theorem te_is {x y : Dd} (h : Te X J e sl x) (w : x = y) : Te X J e sl y := h.weak fun z hz => hz.trans w
theorem TtP.weak {P P' : Bool → Prop} (h : TtP X J e sl P) (w : ∀ x, P x → P' x) : TtP X J e sl P' := fun F σ B H k Q q => h F σ B H k Q fun v H' g p => q v H' g (w v p)
theorem tt_is {x y : Bool} (h : Tt X J e sl x) (w : x = y) : Tt X J e sl y := h.weak fun z hz => hz.trans w
theorem tl_is {x y : List PyData} (h : Tl X J e sl x) (w : x = y) : Tl X J e sl y := w ▸ h
/-- a fresh list as data -/
theorem te_lP {P : List PyData → Prop} (h : TlP X J e sl P) : TeP X J e sl fun x => ∃ xs, x = .l xs ∧ P xs := fun F σ B H k Q q =>
  h F σ B H k Q fun p vs xs G H' g h1 h2 nj h3 h4 hp => q (.ref p) (upd G p (.lst vs)) H' (.l xs) (g.join h1 h2 h3 nj) ⟨p, vs, rfl, upd_same, dps_ex (Ex.new h2) _ _ h4⟩ ⟨xs, rfl, hp⟩
theorem dq_ld {B : Hp} {v : V} {xs : List PyData} (h : Dq X J B v (.l xs)) : Dq X J B v (.d (.list xs)) := by
  obtain ⟨a, vs, rfl, h1, h2⟩ := h
  exact Dp.lst (sq_of h1) h2
theorem te_ll {xs : List PyData} (h : Tl X J e sl xs) : Te X J e sl (.l xs) := (te_lP h).weak fun x ⟨ys, e1, e2⟩ => by rw [e1, e2]
theorem te_ld {xs : List PyData} (h : Te X J e sl (.l xs)) : Te X J e sl (.d (.list xs)) := fun F σ B H k Q q => h F σ B H k Q fun v G H' x g d e => by
  subst e
  exact q v G H' _ g (dq_ld d) rfl
theorem te_l {xs : List PyData} (h : Tl X J e sl xs) : Te X J e sl (.d (.list xs)) := te_ld (te_ll h)

/-! ### names, constants -/
theorem te_name {i : Nat} {nm : Str} {pos : Pos} {x : Dd} (hs : sl[i]? = some (.d x)) (hN : X.N[i]? = some nm := by rfl) (hv : Vis X.env.scope nm := by first | exact Or.inl rfl | exact Or.inr (Or.inl rfl) | exact Or.inr (Or.inr rfl))
    (hd : (nm == ("__debug__" : Str)) = false := by decide) (hcd : (nm == ("__classdict__" : Str)) = false := by decide) : Te X J (.Name nm pos) sl x := fun F σ B H k Q q => by
  obtain ⟨v, e1, d⟩ := k.here i _ hs
  exact wE.of (pv i hN hv hd hcd) ⟨v, getD_some e1, q v B H x (Gs.refl k.ex k.jar) d rfl⟩
theorem te_tC {v : V} {x : Dd} (h : PE X e (tC v)) (hd : ∀ B, Dq X J B v x) : Te X J e sl x := fun F σ B H k Q q => wE.of h (q v B H x (Gs.refl k.ex k.jar) (hd B) rfl)
theorem te_int {i : Int} {j pos} : Te X J (.Constant (.int i) j pos) sl (.d (.int i)) := te_tC pe_int fun _ => .int i
theorem te_str {x : Str} {j pos} : Te X J (.Constant (.str x) j pos) sl (.d (.str x)) := te_tC pe_str fun _ => .str x
theorem te_bl {b : Bool} {j pos} : Te X J (.Constant (.bool b) j pos) sl (.d (.bool b)) := te_tC pe_bl fun _ => .bl b
theorem te_non {j pos} : Te X J (.Constant .none j pos) sl (.d .none) := te_tC pe_non fun _ => .non

/-! ### operators -/
/-- the weakest reading of a function of two values -/
def wO (X : Cx) (f : Value → Value → Sem Value) : R2 := fun x y H Q => ∀ (pins : List (Addr × Obj)) (s : Shared) (σ : L2.St) (v u : Value), L2.Inv X pins σ H s → RelV x v → RelV y u → wpAny (model X.prog X.w) X.A (f v u) (EP X pins σ Q) X.xe s
theorem wO_ok {f : Value → Value → Sem Value} : OpR X f (wO X f) := fun pins s σ H x y v u Q I rx ry h => h pins s σ v u I rx ry
theorem wO.of {f : Value → Value → Sem Value} {r : R2} (h : OpR X f r) {x y : V} {Q : VK} (q : r x y H Q) : wO X f x y H Q := fun pins s σ v u I rx ry => h pins s σ H x y v u Q I rx ry q
def wI (X : Cx) : R2 := fun x y H Q => ∀ (value slice : Expr) (pins : List (Addr × Obj)) (s : Shared) (σ : L2.St) (v u : Value), L2.Inv X pins σ H s → RelV x v → RelV y u →
  subscripted slice false v u = operate [v, u] (getItem v u) → wpAny (model X.prog X.w) X.A (subscriptTail value slice v u) (EP X pins σ Q) X.xe s
theorem wI_ok : IxR X (wI X) := fun value slice pins s σ H x y v u Q I rx ry h hs => h value slice pins s σ v u I rx ry hs
theorem wI.of {r : R2} (h : IxR X r) {x y : V} {Q : VK} (q : r x y H Q) : wI X x y H Q := fun value slice pins s σ v u I rx ry hs => h value slice pins s σ H x y v u Q I rx ry q hs
def wC (X : Cx) (f : Value) : List V → Hp → VK → Prop := fun vs H Q => ∀ (pins : List (Addr × Obj)) (s : Shared) (σ : L2.St) (us : List Value), L2.Inv X pins σ H s → Vals vs us → wpAny (model X.prog X.w) X.A (call f us) (EP X pins σ Q) X.xe s
theorem wC_ok {f : Value} : CallR X f (wC X f) := fun pins s σ H vs us Q I r h => h pins s σ us I r
theorem wC.of {f : Value} {r : List V → Hp → VK → Prop} (h : CallR X f r) {vs : List V} {Q : VK} (q : r vs H Q) : wC X f vs H Q := fun pins s σ us I rs => h pins s σ H vs us Q I rs q
/-- what two data give -/
def D2 (X : Cx) (J : Option Jar) (r : R2) (x y : Dd) (R : Dd → Prop) : Prop := Fit X → ∀ B H u v, Ex B H → JarOK X.K J B H → Dq X J B u x → Dq X J B v y → ∀ Q : VK, (∀ z G H' w, Gs X.K J B H G H' → Dq X J G z w → R w → Q z H') → r u v H Q
/-- what a call gives -/
def DC (X : Cx) (J : Option Jar) (r : List V → Hp → VK → Prop) (xs : List Dd) (R : Dd → Prop) : Prop := Fit X → ∀ B H vs, Ex B H → JarOK X.K J B H → DqAll X J B vs xs → ∀ Q : VK, (∀ z G H' w, Gs X.K J B H G H' → Dq X J G z w → R w → Q z H') → r vs H Q
variable {R : Dd → Prop} {pos : Pos}
theorem te_tOp {r : R2} {P2 : Dd → Dd → Prop} (hr : PE X e (tOp r (wE X a) (wE X b))) (ha : TeP X J a sl P) (hb : ∀ x, P x → TeP X J b sl (P2 x)) (h : ∀ x y, P x → P2 x y → D2 X J r x y R) : TeP X J e sl R := fun F σ B H k Q q =>
  wE.of hr (ha F σ B H k _ fun u G H1 x g1 d1 p1 => hb x p1 F σ G H1 (k.step g1) _ fun v G2 H2 y g2 d2 p2 => h x y p1 p2 F G2 H2 u v g2.sub g2.jar (dq_ex g2.up d1) d2 Q fun z G3 H3 w g3 d3 p3 => q z G3 H3 w ((g1.trans g2).trans g3) d3 p3)
theorem te_opP {op : Operator} {P2 : Dd → Dd → Prop} (ha : TeP X J a sl P) (hb : ∀ x, P x → TeP X J b sl (P2 x)) (h : ∀ x y, P x → P2 x y → D2 X J (wO X (binaryOp op)) x y R) : TeP X J (.BinOp a op b pos) sl R :=
  te_tOp (pe_op wO_ok pE pE) ha hb h
theorem te_op {op : Operator} {x y : Dd} (ha : Te X J a sl x) (hb : Te X J b sl y) (h : D2 X J (wO X (binaryOp op)) x y R) : TeP X J (.BinOp a op b pos) sl R :=
  te_opP ha (fun _ _ => hb) fun _ _ e1 e2 => by rw [e1, e2]; exact h
theorem te_cmpP {op : CmpOp} {P2 : Dd → Dd → Prop} (ha : TeP X J a sl P) (hb : ∀ x, P x → TeP X J b sl (P2 x)) (h : ∀ x y, P x → P2 x y → D2 X J (wO X (compareOp op)) x y R) (hm : behindInMarks op b = false := by rfl) : TeP X J (.Compare a [op] [b] pos) sl R :=
  te_tOp (pe_cmpR wO_ok pE pE hm) ha hb h
theorem te_cmp {op : CmpOp} {x y : Dd} (ha : Te X J a sl x) (hb : Te X J b sl y) (h : D2 X J (wO X (compareOp op)) x y R) (hm : behindInMarks op b = false := by rfl) : TeP X J (.Compare a [op] [b] pos) sl R :=
  te_cmpP ha (fun _ _ => hb) (fun _ _ e1 e2 => by rw [e1, e2]; exact h) hm
theorem te_ixP {P2 : Dd → Dd → Prop} (ha : TeP X J a sl P) (hb : ∀ x, P x → TeP X J b sl (P2 x)) (h : ∀ x y, P x → P2 x y → D2 X J (wI X) x y R) (hs : PlainIx b := by exact fun _ _ => rfl) : TeP X J (.Subscript a b pos) sl R :=
  te_tOp (pe_ix wI_ok pE pE hs) ha hb h
theorem te_ix {x y : Dd} (ha : Te X J a sl x) (hb : Te X J b sl y) (h : D2 X J (wI X) x y R) (hs : PlainIx b := by exact fun _ _ => rfl) : TeP X J (.Subscript a b pos) sl R :=
  te_ixP ha (fun _ _ => hb) (fun _ _ e1 e2 => by rw [e1, e2]; exact h) hs
theorem te_neg {i : Int} (ha : Te X J a sl (.d (.int i))) : Te X J (.UnaryOp .USub a pos) sl (.d (.int (-i))) := fun F σ B H k Q q =>
  wE.of (pe_un un_neg pE) (ha F σ B H k _ fun v G H1 x g d p => by
    subst p
    cases d
    exact ⟨i, rfl, q _ G H1 (.d (.int (-i))) g (Dp.int _) rfl⟩)

/-! ### tests -/
theorem tt_cmpP {op : CmpOp} {P2 : Dd → Dd → Prop} {Pb : Bool → Prop} (ha : TeP X J a sl P) (hb : ∀ x, P x → TeP X J b sl (P2 x)) (h : ∀ x y, P x → P2 x y → D2 X J (wO X (compareOp op)) x y fun z => ∃ p, z = .d (.bool p) ∧ Pb p)
    (hm : behindInMarks op b = false := by rfl) : TtP X J (.Compare a [op] [b] pos) sl Pb := fun F σ B H k Q q =>
  wT.of (pt_cmpR wO_ok pE pE hm) (ha F σ B H k _ fun u G H1 x g1 d1 p1 => hb x p1 F σ G H1 (k.step g1) _ fun v G2 H2 y g2 d2 p2 => h x y p1 p2 F G2 H2 u v g2.sub g2.jar (dq_ex g2.up d1) d2 _ fun z G3 H3 w g3 d3 ⟨p, e, p3⟩ => by
    subst e
    cases d3
    exact ⟨p, rfl, q p H3 (((g1.trans g2).trans g3).base k.ex k.jar) p3⟩)
theorem tt_cmp {op : CmpOp} {x y : Dd} {p : Bool} (ha : Te X J a sl x) (hb : Te X J b sl y) (h : D2 X J (wO X (compareOp op)) x y (· = .d (.bool p))) (hm : behindInMarks op b = false := by rfl) : Tt X J (.Compare a [op] [b] pos) sl p :=
  tt_cmpP ha (fun _ _ => hb) (fun _ _ e1 e2 => by
    rw [e1, e2]
    exact fun F B H u v e j d1 d2 Q q => h F B H u v e j d1 d2 Q fun z G H' w g d r => q z G H' w g d ⟨p, r, rfl⟩) hm
theorem tt_valP {Pb : Bool → Prop} (h : TeP X J e sl fun z => ∃ p, z = .d (.bool p) ∧ Pb p) (he : ∀ whole, isTrue e X.env whole = (do let v ← whole; standAt e.pos; holding [v] (truthy v)) := by intro _; rfl) : TtP X J e sl Pb := fun F σ B H k Q q =>
  wT.of (pt_val pE he) (h F σ B H k _ fun v G H1 x g d ⟨p, e, r⟩ => by
    subst e
    cases d
    exact ⟨p, rfl, q p H1 (g.base k.ex k.jar) r⟩)
theorem tt_val {p : Bool} (h : Te X J e sl (.d (.bool p))) (he : ∀ whole, isTrue e X.env whole = (do let v ← whole; standAt e.pos; holding [v] (truthy v)) := by intro _; rfl) : Tt X J e sl p :=
  tt_valP (h.weak fun x e => ⟨p, e, rfl⟩) he
theorem tt_w {Pb : Bool → Prop} (h : TwP X J e sl Pb) : TtP X J e sl Pb := fun F σ B H k Q q => fun pins s I => h F σ B H k Q q _ pins s I
theorem tt_not {p : Bool} (h : Tt X J a sl p) : Tt X J (.UnaryOp .Not a pos) sl (!p) := fun F σ B H k Q q => wT.of (pt_not pT) (h F σ B H k _ fun b H' g e => by
  show Q (!b) H'
  exact q _ H' g (by rw [e]))
variable {rest : List Expr} {p q : Bool}
theorem tw_and1 (h : Tt X J a sl p) : TwP X J (.BoolOp .And [a] pos) sl (· = p) := fun F σ B H k Q q => wW.of (pw_and1 pT) (h F σ B H k Q q)
theorem tw_or1 (h : Tt X J a sl p) : TwP X J (.BoolOp .Or [a] pos) sl (· = p) := fun F σ B H k Q q => wW.of (pw_or1 pT) (h F σ B H k Q q)
theorem tw_and (ha : Tt X J a sl p) (hb : p = true → TwP X J (.BoolOp .And (b :: rest) pos) sl (· = q)) : TwP X J (.BoolOp .And (a :: b :: rest) pos) sl (· = (p && q)) := fun F σ B H k Q hq =>
  wW.of (pw_and pT pW) (ha F σ B H k _ fun x H1 g e => by
    subst e
    cases x with
    | true => exact hb rfl F σ B H1 (k.step g) Q fun y H2 g2 e2 => hq y H2 (g.trans g2) (by rw [e2]; rfl)
    | false => exact hq false H1 g rfl)
theorem tw_or (ha : Tt X J a sl p) (hb : p = false → TwP X J (.BoolOp .Or (b :: rest) pos) sl (· = q)) : TwP X J (.BoolOp .Or (a :: b :: rest) pos) sl (· = (p || q)) := fun F σ B H k Q hq =>
  wW.of (pw_or pT pW) (ha F σ B H k _ fun x H1 g e => by
    subst e
    cases x with
    | true => exact hq true H1 g rfl
    | false => exact hb rfl F σ B H1 (k.step g) Q fun y H2 g2 e2 => hq y H2 (g.trans g2) (by rw [e2]; rfl))
/-! the same as values -/
theorem te_one {op : BoolOp} (h : TeP X J a sl P) : TeP X J (.BoolOp op [a] pos) sl P := fun F σ B H k Q q => wE.of (pe_one pE) (h F σ B H k Q q)
theorem te_and (ha : Te X J a sl (.d (.bool p))) (hb : p = true → Te X J (.BoolOp .And (b :: rest) pos) sl (.d (.bool q))) : Te X J (.BoolOp .And (a :: b :: rest) pos) sl (.d (.bool (p && q))) := fun F σ B H k Q hq =>
  wE.of (pe_and pE pE) (ha F σ B H k _ fun v G H1 x g d e => by
    subst e
    cases d
    refine ⟨p, rfl, ?_⟩
    cases p with
    | true => exact hb rfl F σ G H1 (k.step g) Q fun y G2 H2 z g2 d2 e2 => hq y G2 H2 z (g.trans g2) d2 e2
    | false => exact hq _ G H1 (.d (.bool false)) g (Dp.bl false) rfl)
theorem te_or (ha : Te X J a sl (.d (.bool p))) (hb : p = false → Te X J (.BoolOp .Or (b :: rest) pos) sl (.d (.bool q))) : Te X J (.BoolOp .Or (a :: b :: rest) pos) sl (.d (.bool (p || q))) := fun F σ B H k Q hq =>
  wE.of (pe_or pE pE) (ha F σ B H k _ fun v G H1 x g d e => by
    subst e
    cases d
    refine ⟨p, rfl, ?_⟩
    cases p with
    | true => exact hq _ G H1 (.d (.bool true)) g (Dp.bl true) rfl
    | false => exact hb rfl F σ G H1 (k.step g) Q fun y G2 H2 z g2 d2 e2 => hq y G2 H2 z (g.trans g2) d2 e2)
theorem te_not (ha : Te X J a sl (.d (.bool p))) : Te X J (.UnaryOp .Not a pos) sl (.d (.bool (!p))) := fun F σ B H k Q hq =>
  wE.of (pe_not pE) (ha F σ B H k _ fun v G H1 x g d e => by
    subst e
    cases d
    exact ⟨p, rfl, hq _ G H1 (.d (.bool (!p))) g (Dp.bl _) rfl⟩)
theorem te_ifP {Pb : Bool → Prop} (hc : TtP X J c sl Pb) (ha : Pb true → TeP X J a sl P) (hb : Pb false → TeP X J b sl P) : TeP X J (.IfExp c a b pos) sl P := fun F σ B H k Q hq =>
  wE.of (pe_ifExp pT pE pE) (hc F σ B H k _ fun x H1 g e => by
    cases x with
    | true => exact ha e F σ B H1 (k.step g) Q fun y G2 H2 z g2 d2 e2 => hq y G2 H2 z (g.trans g2) d2 e2
    | false => exact hb e F σ B H1 (k.step g) Q fun y G2 H2 z g2 d2 e2 => hq y G2 H2 z (g.trans g2) d2 e2)
theorem te_if {x y : Dd} (hc : Tt X J c sl p) (ha : p = true → Te X J a sl x) (hb : p = false → Te X J b sl y) : Te X J (.IfExp c a b pos) sl (bif p then x else y) :=
  te_ifP hc (fun e => by subst e; exact ha rfl) fun e => by subst e; exact hb rfl
/-- a op b op' c, over bools -/
theorem te_chain {op op' : CmpOp} {x y z : Dd} (ha : Te X J a sl x) (hb : Te X J b sl y) (h1 : D2 X J (wO X (compareOp op)) x y (· = .d (.bool p))) (hc : p = true → Te X J c sl z) (h2 : p = true → D2 X J (wO X (compareOp op')) y z (· = .d (.bool q)))
    (hm : lastMarks [op, op'] [b, c] = false := by with_unfolding_all rfl) : Te X J (.Compare a [op, op'] [b, c] pos) sl (.d (.bool (p && q))) := fun F σ B H k Q hq =>
  wE.of (pe_chain (r := wO X (compareOp op)) (r' := wO X (compareOp op')) wO_ok wO_ok pE pE pE hm) (ha F σ B H k _ fun u G H1 x' g1 d1 e1 => hb F σ G H1 (k.step g1) _ fun v G2 H2 y' g2 d2 e2 => by
    subst e1 e2
    refine h1 F G2 H2 u v g2.sub g2.jar (dq_ex g2.up d1) d2 _ fun w G3 H3 t g3 d3 e3 => ?_
    subst e3
    cases d3
    refine ⟨p, rfl, ?_⟩
    cases p with
    | false => exact hq _ G3 H3 (.d (.bool false)) ((g1.trans g2).trans g3) (Dp.bl false) rfl
    | true =>
      refine hc rfl F σ G3 H3 (k.step ((g1.trans g2).trans g3)) _ fun w2 G4 H4 z' g4 d4 e4 => ?_
      subst e4
      exact h2 rfl F G4 H4 v w2 g4.sub g4.jar (dq_ex (g3.up.trans g4.up) d2) d4 Q fun w3 G5 H5 t g5 d5 e5 => hq w3 G5 H5 t ((((g1.trans g2).trans g3).trans g4).trans g5) d5 e5)
theorem tt_chain {op op' : CmpOp} {x y z : Dd} (ha : Te X J a sl x) (hb : Te X J b sl y) (h1 : D2 X J (wO X (compareOp op)) x y (· = .d (.bool p))) (hc : p = true → Te X J c sl z) (h2 : p = true → D2 X J (wO X (compareOp op')) y z (· = .d (.bool q)))
    (hm : lastMarks [op, op'] [b, c] = false := by with_unfolding_all rfl) : Tt X J (.Compare a [op, op'] [b, c] pos) sl (p && q) := fun F σ B H k Q hq =>
  wT.of (pt_chain (r := wO X (compareOp op)) (r' := wO X (compareOp op')) wO_ok wO_ok pE pE pE hm) (ha F σ B H k _ fun u G H1 x' g1 d1 e1 => hb F σ G H1 (k.step g1) _ fun v G2 H2 y' g2 d2 e2 => by
    subst e1 e2
    refine h1 F G2 H2 u v g2.sub g2.jar (dq_ex g2.up d1) d2 _ fun w G3 H3 t g3 d3 e3 => ?_
    subst e3
    cases d3
    refine ⟨p, rfl, ?_⟩
    cases p with
    | false => exact ⟨false, rfl, hq _ H3 (((g1.trans g2).trans g3).base k.ex k.jar) rfl⟩
    | true =>
      refine hc rfl F σ G3 H3 (k.step ((g1.trans g2).trans g3)) _ fun w2 G4 H4 z' g4 d4 e4 => ?_
      subst e4
      exact h2 rfl F G4 H4 v w2 g4.sub g4.jar (dq_ex (g3.up.trans g4.up) d2) d4 _ fun w3 G5 H5 t g5 d5 e5 => (by
        subst e5
        cases d5
        exact ⟨q, rfl, hq _ H5 (((((g1.trans g2).trans g3).trans g4).trans g5).base k.ex k.jar) rfl⟩))

/-! ### displays and argument lists -/
theorem tas_nil : Tas X J [] sl [] := fun F σ B H k Q q => wA.of pa_nil (q [] B H [] (Gs.refl k.ex k.jar) .nil rfl)
theorem tas_consP {Ps : List Dd → Prop} (h : TeP X J e sl P) (hr : ∀ x, P x → TasP X J es sl fun xs => Ps (x :: xs)) (hs : starEach (e :: es) X.env = (false, eval e X.env) :: starEach es X.env := by rfl) : TasP X J (e :: es) sl Ps := fun F σ B H k Q q =>
  wA.of (pa_cons pE pA hs) (h F σ B H k _ fun v G H1 x g1 d1 p1 => hr x p1 F σ G H1 (k.step g1) _ fun vs G2 H2 xs g2 d2 p2 => q (v :: vs) G2 H2 (x :: xs) (g1.trans g2) (.cons (dq_ex g2.up d1) d2) p2)
theorem tas_cons {x : Dd} {xs : List Dd} (h : Te X J e sl x) (hr : Tas X J es sl xs) (hs : starEach (e :: es) X.env = (false, eval e X.env) :: starEach es X.env := by rfl) : Tas X J (e :: es) sl (x :: xs) :=
  tas_consP h (fun y e1 F σ B H k Q q => hr F σ B H k Q fun vs G H' zs g d e2 => q vs G H' zs g d (by rw [e1, e2])) hs
/-- written items as data -/
abbrev Tds (X : Cx) (J : Option Jar) (es : List Expr) (sl : List Sd) (ds : List PyData) : Prop := Tas X J es sl (ds.map .d)
theorem tds_nil : Tds X J [] sl [] := tas_nil
theorem tds_cons {d : PyData} {ds : List PyData} (h : Te X J e sl (.d d)) (hr : Tds X J es sl ds) (hs : starEach (e :: es) X.env = (false, eval e X.env) :: starEach es X.env := by rfl) : Tds X J (e :: es) sl (d :: ds) := tas_cons h hr hs
theorem dps_length {K : PySem.W.Frag} {H : Hp} {vs : List V} {ds : List PyData} (h : DpAll K H vs ds) : vs.length = ds.length := dps_len h
theorem te_tup {ds : List PyData} {x1 : Nat} (h : Tds X J es sl ds) (hl : ds.length ≤ 100000) : Te X J (.Tuple es x1 pos) sl (.d (.tuple ds)) := fun F σ B H k Q q =>
  wE.of (pe_tup pA) (h F σ B H k _ fun vs G H1 xs g d e => by
    subst e
    have dd := dqs_d d
    exact ⟨sz_of (by rw [dps_len dd]; exact hl), fun r hr => q (.ref r) _ _ (.d (.tuple ds)) (g.trans (Gs.one (.tup vs) g.sub hr g.jar)) (Dp.tup (st_of upd_same) (dps_ex (Ex.new (fresh_back g.sub hr)) _ _ dd)) rfl⟩)
theorem tl_lstP {Pl : List PyData → Prop} (h : TasP X J es sl fun xs => ∃ ds : List PyData, xs = ds.map .d ∧ ds.length ≤ 100000 ∧ Pl ds) : TlP X J (.List es pos) sl Pl := fun F σ B H k Q q =>
  wE.of (pe_lst pA) (h F σ B H k _ fun vs G H1 xs g d ⟨ds, e, hl, hp⟩ => by
    subst e
    have dd := dqs_d d
    refine ⟨sz_of (by rw [dps_len dd]; exact hl), fun r hr => q r vs ds G _ (g.trans (Gs.same g.sub (Ex.new hr) g.jar)) (g.live _ hr) (fresh_back g.sub hr) (g.jar.ne hr) upd_same dd hp⟩)
theorem tl_lst {ds : List PyData} (h : Tds X J es sl ds) (hl : ds.length ≤ 100000) : Tl X J (.List es pos) sl ds :=
  tl_lstP fun F σ B H k Q q => h F σ B H k Q fun vs G H' xs g d e => q vs G H' xs g d ⟨ds, e, hl, rfl⟩

/-! ### calls of built-ins -/
variable {nm : Str} {pp : Pos}
theorem te_callBP {id : String} {Ps : List Dd → Prop} (ha : TasP X J (e :: es) sl Ps) (hc : ∀ xs, Ps xs → DC X J (wC X (.builtin id)) xs R) (hm : X.mg nm = none) (hv : bootBuiltins nm = some (.builtin id)) (hg : Gl X nm := by rfl)
    (hn : nm ≠ "__name__" := by decide) (hdb : (nm == ("__debug__" : Str)) = false := by decide) (he : starEach (e :: es) X.env = (false, eval e X.env) :: starEach es X.env := by rfl) (hpl : (backTo pos (starEach es X.env)).any (·.1) = false := by rfl) :
    TeP X J (.Call (.Name nm pp) (e :: es) [] pos) sl R := fun F σ B H k Q q =>
  wE.of (pe_callB wC_ok hg hm hv pA hn hdb he hpl) (ha F σ B H k _ fun vs G H1 xs g d p => hc xs p F G H1 vs g.sub g.jar d Q fun z G2 H2 w g2 d2 r => q z G2 H2 w (g.trans g2) d2 r)
theorem te_callB {id : String} {xs : List Dd} (ha : Tas X J (e :: es) sl xs) (hc : DC X J (wC X (.builtin id)) xs R) (hm : X.mg nm = none) (hv : bootBuiltins nm = some (.builtin id)) (hg : Gl X nm := by rfl)
    (hn : nm ≠ "__name__" := by decide) (hdb : (nm == ("__debug__" : Str)) = false := by decide) (he : starEach (e :: es) X.env = (false, eval e X.env) :: starEach es X.env := by rfl) (hpl : (backTo pos (starEach es X.env)).any (·.1) = false := by rfl) :
    TeP X J (.Call (.Name nm pp) (e :: es) [] pos) sl R := te_callBP ha (fun _ e1 => by rw [e1]; exact hc) hm hv hg hn hdb he hpl
theorem te_callTyP {T : String} {Ps : List Dd → Prop} (ha : TasP X J (e :: es) sl Ps) (hc : ∀ xs, Ps xs → DC X J (wC X (.type T)) xs R) (hm : X.mg nm = none) (hv : bootBuiltins nm = some (.type T)) (hg : Gl X nm := by rfl)
    (hn : nm ≠ "__name__" := by decide) (hdb : (nm == ("__debug__" : Str)) = false := by decide) (he : starEach (e :: es) X.env = (false, eval e X.env) :: starEach es X.env := by rfl) (hpl : (backTo pos (starEach es X.env)).any (·.1) = false := by rfl) :
    TeP X J (.Call (.Name nm pp) (e :: es) [] pos) sl R := fun F σ B H k Q q =>
  wE.of (pe_callTy wC_ok hg hm hv pA hn hdb he hpl) (ha F σ B H k _ fun vs G H1 xs g d p => hc xs p F G H1 vs g.sub g.jar d Q fun z G2 H2 w g2 d2 r => q z G2 H2 w (g.trans g2) d2 r)
theorem te_callTy {T : String} {xs : List Dd} (ha : Tas X J (e :: es) sl xs) (hc : DC X J (wC X (.type T)) xs R) (hm : X.mg nm = none) (hv : bootBuiltins nm = some (.type T)) (hg : Gl X nm := by rfl)
    (hn : nm ≠ "__name__" := by decide) (hdb : (nm == ("__debug__" : Str)) = false := by decide) (he : starEach (e :: es) X.env = (false, eval e X.env) :: starEach es X.env := by rfl) (hpl : (backTo pos (starEach es X.env)).any (·.1) = false := by rfl) :
    TeP X J (.Call (.Name nm pp) (e :: es) [] pos) sl R := te_callTyP ha (fun _ e1 => by rw [e1]; exact hc) hm hv hg hn hdb he hpl

/-! ### calls of own defs -/
/-- a def's promise over data -/
def spD (P : Program) (w : World) (K : PySem.W.Frag) (pr : Option Jar → List Dd → (Dd → Prop) → Prop) : Sp := fun vs H Q _ => ∃ (X : Cx) (J : Option Jar) (B : Hp) (xs : List Dd) (R : Dd → Prop), X.prog = P ∧ X.w = w ∧ X.K = K ∧ Ex B H ∧ JarOK K J B H ∧ DqAll X J B vs xs ∧ pr J xs R ∧
  ∀ v G H' y, Gs K J B H G H' → Dq X J G v y → R y → Q v H'
/-- a def is known here -/
structure Kn (X : Cx) (nm : Str) (ps : List Str) (pr : Option Jar → List Dd → (Dd → Prop) → Prop) : Prop where
  ex : ∃ f fd k, FnOk X.prog X.w X.K X.mg X.base CX0 k f fd ps (spD X.prog X.w X.K pr) ∧ Room k X.A ∧ X.mg nm = some (.ref f) ∧ PySem.W.keepIn X.K (.ref f) = true ∧ Binds X.K fd ps []
theorem te_fnP {ps : List Str} {pr : Option Jar → List Dd → (Dd → Prop) → Prop} {Ps : List Dd → Prop} (F : Kn X nm ps pr) (ha : TasP X J (e :: es) sl Ps) (h : ∀ xs, Ps xs → pr J xs R) (hg : Gl X nm := by rfl)
    (hdb : (nm == ("__debug__" : Str)) = false := by decide) (he : starEach (e :: es) X.env = (false, eval e X.env) :: starEach es X.env := by rfl) (hpl : (backTo pos (starEach es X.env)).any (·.1) = false := by rfl) :
    TeP X J (.Call (.Name nm pp) (e :: es) [] pos) sl R := fun Ft σ B H k Q q => by
  obtain ⟨f, fd, n, F1, F2, F3, F4, F5⟩ := F.ex
  refine wE.of (pe_call (E := E0) F1 F2 hg F3 F4 F5 .nil pass0 pA hdb he hpl) (ha Ft σ B H k _ fun vs G H1 xs g d p => ?_)
  rw [List.append_nil]
  exact ⟨X, J, G, xs, R, rfl, rfl, rfl, g.sub, g.jar, d, h xs p, fun v G2 H2 y g2 d2 r => q v G2 H2 y (g.trans g2) d2 r⟩
theorem te_fn {ps : List Str} {pr : Option Jar → List Dd → (Dd → Prop) → Prop} {xs : List Dd} (F : Kn X nm ps pr) (ha : Tas X J (e :: es) sl xs) (h : pr J xs R) (hg : Gl X nm := by rfl)
    (hdb : (nm == ("__debug__" : Str)) = false := by decide) (he : starEach (e :: es) X.env = (false, eval e X.env) :: starEach es X.env := by rfl) (hpl : (backTo pos (starEach es X.env)).any (·.1) = false := by rfl) :
    TeP X J (.Call (.Name nm pp) (e :: es) [] pos) sl R := te_fnP F ha (fun _ e1 => by rw [e1]; exact h) hg hdb he hpl
end
end SH

set_option Elab.async false
set_option linter.all false
set_option maxRecDepth 100000
set_option maxHeartbeats 1600000
/-! ShT2: what operators, subscripts and built-in calls give over data. -/
namespace SH
open PySem PySem.Spec PyProof.Rows L2 PySem.W Evl
section
variable {X : Cx} {J : Option Jar} {sl : List Sd}
abbrev dI (i : Int) : Dd := .d (.int i)
abbrev dB (b : Bool) : Dd := .d (.bool b)
/-- where nothing is new -/
theorem D2.pure {f : Value → Value → Sem Value} {r : R2} (h : Fit X → OpR X f r) {x y z : Dd} {R : Dd → Prop} (hr : R z) (q : ∀ B H u v, Ex B H → Dq X J B u x → Dq X J B v y → ∀ Q : VK, (∀ t H', Ex H H' → Dq X J B t z → Q t H') → r u v H Q) : D2 X J (wO X f) x y R :=
  fun F B H u v e j d1 d2 Q k => wO.of (h F) (q B H u v e d1 d2 Q fun t H' n d3 => k t B H' z (Gs.same e n j) d3 hr)
variable {i j : Int}
theorem d2_I0 {f : Value → Value → Sem Value} {g : Int → Int → V} {z : Dd} (h : OpR X f (rI0 g)) (hz : ∀ B, Dq X J B (g i j) z) : D2 X J (wO X f) (dI i) (dI j) (· = z) :=
  D2.pure (fun _ => h) rfl fun B H u v e d1 d2 Q k => by
    cases d1
    cases d2
    exact ⟨i, j, rfl, rfl, k _ H (Ex.refl H) (hz B)⟩
theorem d2_IC {f : Value → Value → Sem Value} {C : Int → Int → Prop} {g : Int → Int → V} {z : Dd} (h : OpR X f (rI C g)) (c : C i j) (hz : ∀ B, Dq X J B (g i j) z) : D2 X J (wO X f) (dI i) (dI j) (· = z) :=
  D2.pure (fun _ => h) rfl fun B H u v e d1 d2 Q k => by
    cases d1
    cases d2
    exact ⟨i, j, rfl, rfl, c, k _ H (Ex.refl H) (hz B)⟩
theorem d2_add : D2 X J (wO X (binaryOp .Add)) (dI i) (dI j) (· = dI (i + j)) := d2_I0 op_add fun _ => Dp.int _
theorem d2_sub : D2 X J (wO X (binaryOp .Sub)) (dI i) (dI j) (· = dI (i - j)) := d2_I0 op_sub fun _ => Dp.int _
theorem d2_mul (h : CMulW i j) : D2 X J (wO X (binaryOp .Mult)) (dI i) (dI j) (· = dI (i * j)) := d2_IC op_mulW h fun _ => Dp.int _
theorem d2_mod (h : 0 < j) : D2 X J (wO X (binaryOp .Mod)) (dI i) (dI j) (· = dI (i % j)) := d2_IC op_mod h fun _ => Dp.int _
theorem d2_fdiv (h : CDivW i j) : D2 X J (wO X (binaryOp .FloorDiv)) (dI i) (dI j) (· = dI (i / j)) := d2_IC op_fdivW h fun _ => Dp.int _
theorem d2_pow (h : CPow i j) : D2 X J (wO X (binaryOp .Pow)) (dI i) (dI j) (· = dI (i ^ j.toNat)) := d2_IC op_pow h fun _ => Dp.int _
theorem d2_lt : D2 X J (wO X (compareOp .Lt)) (dI i) (dI j) (· = dB (decide (i < j))) := d2_I0 op_lt fun _ => Dp.bl _
theorem d2_le : D2 X J (wO X (compareOp .LtE)) (dI i) (dI j) (· = dB (decide (i ≤ j))) := d2_I0 op_le fun _ => Dp.bl _
theorem d2_gt : D2 X J (wO X (compareOp .Gt)) (dI i) (dI j) (· = dB (decide (j < i))) := d2_I0 op_gt fun _ => Dp.bl _
theorem d2_ge : D2 X J (wO X (compareOp .GtE)) (dI i) (dI j) (· = dB (decide (j ≤ i))) := d2_I0 op_ge fun _ => Dp.bl _
theorem d2_eqI : D2 X J (wO X (compareOp .Eq)) (dI i) (dI j) (· = dB (decide (i = j))) := D2.pure (fun _ => op_eq) rfl fun B H u v e d1 d2 Q k => by
  cases d1
  cases d2
  exact ⟨rfl, k _ H (Ex.refl H) (by
    show Dp X.K B (.bl (decide (V.int i = V.int j))) (.bool (decide (i = j)))
    rw [show decide (V.int i = V.int j) = decide (i = j) from by simp only [V.int.injEq]]
    exact Dp.bl _)⟩
theorem d2_neI : D2 X J (wO X (compareOp .NotEq)) (dI i) (dI j) (· = dB (!decide (i = j))) := D2.pure (fun _ => op_ne) rfl fun B H u v e d1 d2 Q k => by
  cases d1
  cases d2
  exact ⟨rfl, k _ H (Ex.refl H) (by
    show Dp X.K B (.bl (!decide (V.int i = V.int j))) (.bool (!decide (i = j)))
    rw [show decide (V.int i = V.int j) = decide (i = j) from by simp only [V.int.injEq]]
    exact Dp.bl _)⟩
theorem d2_eqS {x y : Str} : D2 X J (wO X (compareOp .Eq)) (.d (.str x)) (.d (.str y)) (· = dB (decide (x = y))) := D2.pure (fun _ => op_eq) rfl fun B H u v e d1 d2 Q k => by
  cases d1
  cases d2
  exact ⟨rfl, k _ H (Ex.refl H) (by
    show Dp X.K B (.bl (decide (V.str x = V.str y))) (.bool (decide (x = y)))
    rw [show decide (V.str x = V.str y) = decide (x = y) from by simp only [V.str.injEq]]
    exact Dp.bl _)⟩
theorem d2_neS {x y : Str} : D2 X J (wO X (compareOp .NotEq)) (.d (.str x)) (.d (.str y)) (· = dB (!decide (x = y))) := D2.pure (fun _ => op_ne) rfl fun B H u v e d1 d2 Q k => by
  cases d1
  cases d2
  exact ⟨rfl, k _ H (Ex.refl H) (by
    show Dp X.K B (.bl (!decide (V.str x = V.str y))) (.bool (!decide (x = y)))
    rw [show decide (V.str x = V.str y) = decide (x = y) from by simp only [V.str.injEq]]
    exact Dp.bl _)⟩
theorem d2_eqD {x y : PyData} (h1 : SeqAt.shaped x = true) (h2 : SeqAt.shaped y = true) : D2 X J (wO X (compareOp .Eq)) (.d x) (.d y) (· = dB (PyData.eqv x y)) :=
  D2.pure (fun F => op_eqD F.un64) rfl fun B H u v e d1 d2 Q k => ⟨x, y, dp_ex e _ _ d1, dp_ex e _ _ d2, h1, h2, k _ H (Ex.refl H) (Dp.bl _)⟩
theorem d2_neD {x y : PyData} (h1 : SeqAt.shaped x = true) (h2 : SeqAt.shaped y = true) : D2 X J (wO X (compareOp .NotEq)) (.d x) (.d y) (· = dB (!PyData.eqv x y)) :=
  D2.pure (fun F => op_neD F.un64) rfl fun B H u v e d1 d2 Q k => ⟨x, y, dp_ex e _ _ d1, dp_ex e _ _ d2, h1, h2, k _ H (Ex.refl H) (Dp.bl _)⟩
theorem d2_isB {p q : Bool} : D2 X J (wO X (compareOp .Is)) (dB p) (dB q) (· = dB (decide (p = q))) := D2.pure (fun _ => op_isBl) rfl fun B H u v e d1 d2 Q k => by
  cases d1
  cases d2
  exact ⟨p, q, rfl, rfl, k _ H (Ex.refl H) (Dp.bl _)⟩
theorem d2_notB {p q : Bool} : D2 X J (wO X (compareOp .IsNot)) (dB p) (dB q) (· = dB (!decide (p = q))) := D2.pure (fun _ => op_notBl) rfl fun B H u v e d1 d2 Q k => by
  cases d1
  cases d2
  exact ⟨p, q, rfl, rfl, k _ H (Ex.refl H) (Dp.bl _)⟩
/-! is None -/
def isNone : Dd → Bool
  | .d .none => true
  | _ => false
theorem dq_none {B : Hp} {v : V} {x : Dd} (h : Dq X J B v x) : decide (v = .non) = isNone x := by
  cases x with
  | d x =>
    cases x with
    | none => cases h; rfl
    | bool b => cases h; rfl
    | int b => cases h; rfl
    | str b => cases h; rfl
    | list b => cases h; rfl
    | tuple b => cases h; rfl
    | dict b => cases h
  | n xs => obtain ⟨a, es, e, _⟩ := h; rw [e]; rfl
  | jar => obtain ⟨j, _, e⟩ := h; rw [e]; rfl
  | l xs => obtain ⟨a, es, e, _⟩ := h; rw [e]; rfl
theorem te_isN {a : Expr} {x : Dd} {j : Nat} {pos pos' : Pos} (h : Te X J a sl x) : Te X J (.Compare a [.Is] [.Constant .none j pos'] pos) sl (dB (isNone x)) := fun F σ B H k Q q =>
  wE.of (pe_cmp (pc_isN pE)) (h F σ B H k _ fun v G H1 y g d e => by
    subst e
    have z := dq_none d
    exact q _ G H1 (dB (isNone y)) g (by rw [z]; exact Dp.bl _) rfl)
theorem te_notN {a : Expr} {x : Dd} {j : Nat} {pos pos' : Pos} (h : Te X J a sl x) : Te X J (.Compare a [.IsNot] [.Constant .none j pos'] pos) sl (dB (!isNone x)) := fun F σ B H k Q q =>
  wE.of (pe_cmp (pc_notN pE)) (h F σ B H k _ fun v G H1 y g d e => by
    subst e
    have z := dq_none d
    exact q _ G H1 (dB (!isNone y)) g (by rw [z]; exact Dp.bl _) rfl)
theorem tt_isN {a : Expr} {x : Dd} {j : Nat} {pos pos' : Pos} (h : Te X J a sl x) : Tt X J (.Compare a [.Is] [.Constant .none j pos'] pos) sl (isNone x) := fun F σ B H k Q q =>
  wT.of (pt_cmp (pc_isN pE)) (h F σ B H k _ fun v G H1 y g d e => by
    subst e
    have z := dq_none d
    exact ⟨_, rfl, q _ H1 (g.base k.ex k.jar) z⟩)
theorem tt_notN {a : Expr} {x : Dd} {j : Nat} {pos pos' : Pos} (h : Te X J a sl x) : Tt X J (.Compare a [.IsNot] [.Constant .none j pos'] pos) sl (!isNone x) := fun F σ B H k Q q =>
  wT.of (pt_cmp (pc_notN pE)) (h F σ B H k _ fun v G H1 y g d e => by
    subst e
    have z := dq_none d
    exact ⟨_, rfl, q _ H1 (g.base k.ex k.jar) (by rw [z])⟩)

/-! ### in -/
theorem dps_ints {K : PySem.W.Frag} {H : Hp} : ∀ {vs : List V} {ns : List Int}, DpAll K H vs (ns.map .int) → vs = ns.map V.int
  | [], [], _ => rfl
  | _ :: _, [], h => nomatch h
  | [], _ :: _, h => nomatch h
  | v :: vs, n :: ns, h => by
    cases h with
    | cons h1 h2 => cases h1; rw [dps_ints h2]; rfl
theorem dps_bools {K : PySem.W.Frag} {H : Hp} : ∀ {vs : List V} {ns : List Bool}, DpAll K H vs (ns.map .bool) → vs = ns.map V.bl
  | [], [], _ => rfl
  | _ :: _, [], h => nomatch h
  | [], _ :: _, h => nomatch h
  | v :: vs, n :: ns, h => by
    cases h with
    | cons h1 h2 => cases h1; rw [dps_bools h2]; rfl
theorem inV_ints {i : Int} {ns : List Int} : inV (.int i) (ns.map V.int) = decide (i ∈ ns) := by
  unfold inV
  rw [List.any_map]
  induction ns with
  | nil => rfl
  | cons n ns ih =>
    rw [List.any_cons, ih]
    show (eqV (.int n) (.int i) || _) = _
    have e : eqV (.int n) (.int i) = decide (i = n) := by
      show (decide (n = i) : Bool) = decide (i = n)
      simp only [eq_comm]
    rw [e]
    by_cases c : i = n <;> simp [c]
theorem flat_ints {ns : List Int} : (ns.map V.int).all flatV = true := by
  rw [List.all_map, List.all_eq_true]
  intro x _
  rfl
theorem seq_ints {H : Hp} {B : Hp} {v : V} {ns : List Int} (h : Dp X.K B v (.list (ns.map .int)) ∨ Dp X.K B v (.tuple (ns.map .int))) (e : Ex B H) : ∃ p, v = .ref p ∧ (SqL X.K H p (ns.map V.int) ∨ SqT X.K H p (ns.map V.int)) := by
  rcases h with h | h
  · cases h with
    | lst h1 h2 => rw [dps_ints h2] at h1; exact ⟨_, rfl, .inl (ex_l e h1)⟩
  · cases h with
    | tup h1 h2 => rw [dps_ints h2] at h1; exact ⟨_, rfl, .inr (ex_t e h1)⟩
theorem d2_inS {x : PyData} {ns : List Int} (hx : x = .list (ns.map .int) ∨ x = .tuple (ns.map .int)) : D2 X J (wO X (compareOp .In)) (dI i) (.d x) (· = dB (decide (i ∈ ns))) := D2.pure (fun _ => op_in_seq) rfl fun B H u v e d1 d2 Q k => by
  cases d1
  obtain ⟨p, rfl, h⟩ := seq_ints (X := X) (H := H) (B := B) (v := v) (ns := ns) (by rcases hx with rfl | rfl; exact .inl d2; exact .inr d2) e
  exact ⟨p, _, rfl, h, rfl, flat_ints, by rw [inV_ints]; exact k _ H (Ex.refl H) (Dp.bl _)⟩
theorem d2_ninS {x : PyData} {ns : List Int} (hx : x = .list (ns.map .int) ∨ x = .tuple (ns.map .int)) : D2 X J (wO X (compareOp .NotIn)) (dI i) (.d x) (· = dB (!decide (i ∈ ns))) := D2.pure (fun _ => op_notIn_seq) rfl fun B H u v e d1 d2 Q k => by
  cases d1
  obtain ⟨p, rfl, h⟩ := seq_ints (X := X) (H := H) (B := B) (v := v) (ns := ns) (by rcases hx with rfl | rfl; exact .inl d2; exact .inr d2) e
  exact ⟨p, _, rfl, h, rfl, flat_ints, by rw [inV_ints]; exact k _ H (Ex.refl H) (Dp.bl _)⟩
/-! dicts of nested tuples -/
structure KeyD (k : NestedKey) : Prop where
  deep : k.depth ≤ 8
  pure : pureK k = true
  tup : ∃ ks, k = .tup ks
theorem KeyD.at {B : Hp} {k : NestedKey} (h : KeyD k) {v : V} (d : Dp X.K B v k.data) : ∃ a, v = .ref a ∧ KeyAt X.K B a k := by
  obtain ⟨ks, rfl⟩ := h.tup
  cases d with
  | tup h1 h2 => exact ⟨_, rfl, .tup h1 h2, h.deep, h.pure⟩
def findK (xs : List KD) (k : NestedKey) : Option PyData := (xs.find? fun x => decide (x.1 = k)).map (·.2)
def storeK (xs : List KD) (k : NestedKey) (v : PyData) : List KD := if (findK xs k).isSome then xs.map fun x => if x.1 = k then (x.1, v) else x else xs ++ [(k, v)]
theorem entD_find {K : PySem.W.Frag} {B : Hp} {k : NestedKey} : ∀ {es : List Ent} {xs : List KD}, EntD K B es xs → (∀ d, findK xs k = some d → ∃ p, atN es k = some p ∧ Dp K B p.2 d) ∧ (findK xs k = none → atN es k = none)
  | _, _, .nil => ⟨fun d e => (by cases e), fun _ => rfl⟩
  | _, _, .cons (a := e) (b := y) r t => by
    obtain ⟨i1, i2⟩ := entD_find (k := k) t
    unfold findK atN
    rw [List.find?_cons, List.find?_cons]
    by_cases c : y.1 = k
    · rw [show decide (y.1 = k) = true from decide_eq_true c, show decide (e.1 = k) = true from decide_eq_true (r.1.trans c)]
      exact ⟨fun d z => by cases z; exact ⟨e.2, rfl, r.2⟩, fun z => by cases z⟩
    · rw [show decide (y.1 = k) = false from decide_eq_false c, show decide (e.1 = k) = false from decide_eq_false fun z => c (r.1.symm.trans z)]
      exact ⟨i1, i2⟩
theorem entD_some {K : PySem.W.Frag} {B : Hp} {es : List Ent} {xs : List KD} (h : EntD K B es xs) (k : NestedKey) : (atN es k).isSome = (findK xs k).isSome := by
  obtain ⟨i1, i2⟩ := entD_find (k := k) h
  cases e : findK xs k with
  | none => rw [i2 e]; rfl
  | some d => obtain ⟨p, e2, _⟩ := i1 d e; rw [e2]; rfl
theorem entD_app {K : PySem.W.Frag} {B : Hp} : ∀ {es fs : List Ent} {xs ys : List KD}, EntD K B es xs → EntD K B fs ys → EntD K B (es ++ fs) (xs ++ ys)
  | _, _, _, _, .nil, q => q
  | _, _, _, _, .cons r t, q => .cons r (entD_app t q)
theorem entD_store {K : PySem.W.Frag} {B : Hp} {es : List Ent} {xs : List KD} (h : EntD K B es xs) (k : NestedKey) (a : Addr) {v : V} {d : PyData} (hv : Dp K B v d) : EntD K B (storeN es k a v) (storeK xs k d) := by
  have hs := entD_some h k
  unfold storeN storeK
  rw [hs]
  have key : ∀ {l : List Ent} {m : List KD}, EntD K B l m → EntD K B (l.map fun x => if x.1 = k then (x.1, x.2.1, v) else x) (m.map fun x => if x.1 = k then (x.1, d) else x) := by
    intro l m q
    induction q with
    | nil => exact .nil
    | @cons x y l m r t ih =>
      refine .cons ?_ ih
      show (if x.1 = k then (x.1, x.2.1, v) else x).1 = (if y.1 = k then (y.1, d) else y).1 ∧ Dp K B (if x.1 = k then (x.1, x.2.1, v) else x).2.2 (if y.1 = k then (y.1, d) else y).2
      by_cases c : x.1 = k
      · rw [if_pos c, if_pos (r.1.symm.trans c)]
        exact ⟨r.1, hv⟩
      · rw [if_neg c, if_neg fun z => c (r.1.trans z)]
        exact r
  split
  · exact key h
  · exact entD_app h (.cons ⟨rfl, hv⟩ .nil)
theorem d2_inN {k : NestedKey} {xs : List KD} {dk : PyData} (hk : KeyD k) (e : dk = k.data) : D2 X J (wO X (compareOp .In)) (.d dk) (.n xs) (· = dB (findK xs k).isSome) := D2.pure (fun F => op_inN F.un64) rfl fun B H u v ex d1 d2 Q q => by
  subst e
  obtain ⟨b, rfl, kb⟩ := hk.at d1
  obtain ⟨a, es, rfl, h1, h2, h3⟩ := d2
  refine ⟨b, a, k, es, rfl, rfl, Rd.of (ex _ _ h1), h2.ex ex, kb.ex ex, ?_⟩
  rw [entD_some h3]
  exact q _ H (Ex.refl H) (Dp.bl _)
theorem d2_ninN {k : NestedKey} {xs : List KD} {dk : PyData} (hk : KeyD k) (e : dk = k.data) : D2 X J (wO X (compareOp .NotIn)) (.d dk) (.n xs) (· = dB (!(findK xs k).isSome)) := D2.pure (fun F => op_notInN F.un64) rfl fun B H u v ex d1 d2 Q q => by
  subst e
  obtain ⟨b, rfl, kb⟩ := hk.at d1
  obtain ⟨a, es, rfl, h1, h2, h3⟩ := d2
  refine ⟨b, a, k, es, rfl, rfl, Rd.of (ex _ _ h1), h2.ex ex, kb.ex ex, ?_⟩
  rw [entD_some h3]
  exact q _ H (Ex.refl H) (Dp.bl _)

/-! ### subscripts -/
theorem D2.pureI {r : R2} (h : Fit X → IxR X r) {x y z : Dd} {R : Dd → Prop} (hr : R z) (q : ∀ B H u v, Ex B H → Dq X J B u x → Dq X J B v y → ∀ Q : VK, (∀ t, Dq X J B t z → Q t H) → r u v H Q) : D2 X J (wI X) x y R :=
  fun F B H u v e j d1 d2 Q k => wI.of (h F) (q B H u v e d1 d2 Q fun t d3 => k t B H z (Gs.refl e j) d3 hr)
theorem dps_at {K : PySem.W.Frag} {B : Hp} {vs : List V} {ds : List PyData} {d : PyData} (h : DpAll K B vs ds) (e : atI ds i = some d) : ∃ v, atI vs i = some v ∧ Dp K B v d := by
  unfold atI at e ⊢
  rw [dps_len h]
  cases q : ixN ds.length i with
  | none => rw [q] at e; cases e
  | some j =>
    rw [q] at e
    obtain ⟨_, hj, _⟩ := ixN_seq q
    have hv : j < vs.length := by rw [dps_len h]; exact hj
    refine ⟨vs[j], List.getElem?_eq_getElem hv, ?_⟩
    obtain ⟨d', h1, h2⟩ := dps_get h (List.getElem?_eq_getElem hv)
    have : d' = d := Option.some.inj (h1.symm.trans e)
    rw [← this]
    exact h2
theorem dix_list {ds : List PyData} {d : PyData} (e : atI ds i = some d) : D2 X J (wI X) (.d (.list ds)) (dI i) (· = .d d) := D2.pureI (fun _ => ix_list) rfl fun B H u v ex d1 d2 Q q => by
  cases d1 with
  | lst h1 h2 =>
    cases d2
    obtain ⟨w, h3, h4⟩ := dps_at h2 e
    exact ⟨_, _, i, w, rfl, rfl, ex_l ex h1, h3, q w h4⟩
theorem dix_tup {ds : List PyData} {d : PyData} (e : atI ds i = some d) : D2 X J (wI X) (.d (.tuple ds)) (dI i) (· = .d d) := D2.pureI (fun _ => ix_tup) rfl fun B H u v ex d1 d2 Q q => by
  cases d1 with
  | tup h1 h2 =>
    cases d2
    obtain ⟨w, h3, h4⟩ := dps_at h2 e
    exact ⟨_, _, i, w, rfl, rfl, ex_t ex h1, h3, q w h4⟩
theorem ix_dictN (hu : X.A.units + 64 < cLine) : IxR X (rGetN X.K X.prog X.w) := by
  intro value slice pins s σ H x y v u Q I rx ry h hs
  have h' := h
  obtain ⟨b, a, k, xs, p, rfl, rfl, ha, hk, hb, hp, q⟩ := h'
  have rx0 := rx
  obtain rfl : v = Value.ref a := rx
  obtain ⟨h1, hz, vs, r, o, es, ep, e1, e2, e3, _⟩ := dn_of I ha hk
  exact tail_any ⟨o, e1, e2.1⟩ slot_dict_getitem.lookup (getN hu I rx0 ry h) hs
theorem dix_dict {k : NestedKey} {xs : List KD} {dk d : PyData} (hk : KeyD k) (e : dk = k.data) (hd : findK xs k = some d) : D2 X J (wI X) (.n xs) (.d dk) (· = .d d) := D2.pureI (fun F => ix_dictN F.un64) rfl fun B H u v ex d1 d2 Q q => by
  subst e
  obtain ⟨b, rfl, kb⟩ := hk.at d2
  obtain ⟨a, es, rfl, h1, h2, h3⟩ := d1
  obtain ⟨p, hp, dp⟩ := (entD_find h3).1 d hd
  exact ⟨b, a, k, es, p, rfl, rfl, Rd.of (ex _ _ h1), h2.ex ex, kb.ex ex, hp, q _ dp⟩

/-! ### lists and tuples put together -/
theorem d2_cat {xs ys : List PyData} (h : xs.length + ys.length ≤ 4000000) : D2 X J (wO X (binaryOp .Add)) (.l xs) (.l ys) (· = .l (xs ++ ys)) := fun F B H u v e j d1 d2 Q k => wO.of op_cat (by
  obtain ⟨a, vs, rfl, h1, h2⟩ := d1
  obtain ⟨b, us, rfl, h3, h4⟩ := d2
  refine ⟨_, _, _, _, rfl, rfl, e _ _ h1, e _ _ h3, ?_, fun p hp => ?_⟩
  · rw [dps_len h2, dps_len h4, sizeLine_eq]; omega
  · exact k (.ref p) _ _ (.l (xs ++ ys)) (Gs.one _ e hp j) ⟨p, _, rfl, upd_same, dps_ex (Ex.new (fresh_back e hp)) _ _ (dps_app h2 h4)⟩ rfl)
theorem d2_catT {xs ys : List PyData} (h : xs.length + ys.length ≤ 4000000) : D2 X J (wO X (binaryOp .Add)) (.d (.tuple xs)) (.d (.tuple ys)) (· = .d (.tuple (xs ++ ys))) := fun F B H u v e j d1 d2 Q k => wO.of op_catA (by
  cases d1 with
  | tup h1 h2 =>
    cases d2 with
    | tup h3 h4 =>
      refine ⟨_, _, _, _, rfl, rfl, ex_t e h1, ex_t e h3, ?_, fun e1 => ?_, fun e1 e2 => ?_, fun _ _ p hp => ?_⟩
      · rw [dps_len h2, dps_len h4, sizeLine_eq]; omega
      · have : xs = [] := by
          have z := dps_len h2
          rw [e1] at z
          exact List.length_eq_zero_iff.mp z.symm
        exact k _ B H (.d (.tuple ys)) (Gs.refl e j) (Dp.tup h3 h4) (by rw [this]; rfl)
      · have : ys = [] := by
          have z := dps_len h4
          rw [e2] at z
          exact List.length_eq_zero_iff.mp z.symm
        exact k _ B H (.d (.tuple xs)) (Gs.refl e j) (Dp.tup h1 h2) (by rw [this, List.append_nil])
      · exact k (.ref p) _ _ (.d (.tuple (xs ++ ys))) (Gs.one _ e hp j) (Dp.tup (st_of upd_same) (dps_ex (Ex.new (fresh_back e hp)) _ _ (dps_app h2 h4))) rfl)
theorem dps_rep {K : PySem.W.Frag} {B : Hp} {vs : List V} {ds : List PyData} (h : DpAll K B vs ds) : ∀ n : Nat, DpAll K B (List.replicate n vs).flatten (List.replicate n ds).flatten
  | 0 => .nil
  | n + 1 => by
    rw [List.replicate_succ, List.replicate_succ, List.flatten_cons, List.flatten_cons]
    exact dps_app h (dps_rep h n)
theorem d2_rep {xs : List PyData} {n : Nat} (h : xs.length * n ≤ 4000000) (hn : n ≤ 4000000) : D2 X J (wO X (binaryOp .Mult)) (.l xs) (dI n) (· = .l (List.replicate n xs).flatten) := fun F B H u v e j d1 d2 Q k => wO.of op_rep (by
  obtain ⟨a, vs, rfl, h1, h2⟩ := d1
  cases d2
  refine ⟨_, n, _, rfl, rfl, e _ _ h1, by omega, by omega, ?_, fun p hp => ?_⟩
  · rw [dps_len h2, sizeLine_eq, Int.toNat_natCast]; omega
  · rw [Int.toNat_natCast]
    exact k (.ref p) _ _ (.l (List.replicate n xs).flatten) (Gs.one _ e hp j) ⟨p, _, rfl, upd_same, dps_ex (Ex.new (fresh_back e hp)) _ _ (dps_rep h2 n)⟩ rfl)
end
end SH

set_option Elab.async false
set_option linter.all false
set_option maxRecDepth 100000
set_option maxHeartbeats 1600000
/-! ShT3: targets, things walked, list comprehensions. -/
namespace SH
open PySem PySem.Spec PyProof.Rows L2 PySem.W Evl
section
variable {X : Cx} {J : Option Jar} {B H : Hp} {σ : L2.St} {sl sl' sl1 sl2 : List Sd}

/-! ### slots are set -/
theorem getD_set_eq {σ : L2.St} {j : Nat} {u : Option V} (h : j < σ.length) : (σ.set j u).getD j none = u := by
  rw [List.getD_eq_getElem?_getD, List.getElem?_set_self h]; rfl
theorem getD_set_ne {σ : L2.St} {i j : Nat} {u : Option V} (h : j ≠ i) : (σ.set j u).getD i none = σ.getD i none := by
  rw [List.getD_eq_getElem?_getD, List.getD_eq_getElem?_getD, List.getElem?_set_ne h]
theorem getD_ge {σ : L2.St} {j : Nat} (h : ¬ j < σ.length) : σ.getD j none = none := by
  rw [List.getD_eq_getElem?_getD, List.getElem?_eq_none (Nat.le_of_not_lt h)]; rfl
/-- what holds of the slots, by what they show -/
theorem Holds.by {τ : L2.St} (h : Holds X J B H σ sl) (hl : τ.length = sl'.length) (h1 : ∀ j s, sl'[j]? = some s → AtS X J B H (τ.getD j none) s)
    (h2 : ∀ i j s t p, i ≠ j → sl'[i]? = some s → sl'[j]? = some t → s.own = true → t.own = true → τ.getD i none = some (.ref p) → τ.getD j none = some (.ref p) → False) : Holds X J B H τ sl' := ⟨h.ex, hl, h1, h2, h.jar⟩
theorem Holds.setG (h : Holds X J B H σ sl) (j : Nat) (u : Option V) {s : Sd} (hs : AtS X J B H u s) (hn : s.own = true → ∀ i t p, i ≠ j → sl[i]? = some t → t.own = true → σ.getD i none = some (.ref p) → u = some (.ref p) → False) : Holds X J B H (σ.set j u) (sl.set j s) := by
  refine h.by (by rw [List.length_set, List.length_set]; exact h.len) (fun i t e => ?_) (fun i k s1 t p ne e1 e2 o1 o2 q1 q2 => ?_)
  · by_cases c : j = i
    · subst c
      by_cases hj : j < sl.length
      · rw [List.getElem?_set_self hj] at e
        cases e
        rw [getD_set_eq (by rw [h.len]; exact hj)]
        exact hs
      · rw [List.getElem?_eq_none (by rw [List.length_set]; omega)] at e
        cases e
    · rw [List.getElem?_set_ne c] at e
      rw [getD_set_ne c]
      exact h.here i t e
  · by_cases c : j = i
    · subst c
      have ck : j ≠ k := ne
      rw [List.getElem?_set_ne ck] at e2
      rw [getD_set_ne ck] at q2
      by_cases hj : j < sl.length
      · rw [List.getElem?_set_self hj] at e1
        cases e1
        rw [getD_set_eq (by rw [h.len]; exact hj)] at q1
        exact hn o1 k t p (Ne.symm ne) e2 o2 q2 q1
      · rw [List.getElem?_eq_none (by rw [List.length_set]; omega)] at e1
        cases e1
    · rw [List.getElem?_set_ne c] at e1
      rw [getD_set_ne c] at q1
      by_cases ck : j = k
      · subst ck
        by_cases hj : j < sl.length
        · rw [List.getElem?_set_self hj] at e2
          cases e2
          rw [getD_set_eq (by rw [h.len]; exact hj)] at q2
          exact hn o2 i s1 p (fun z => c z.symm) e1 o1 q1 q2
        · rw [List.getElem?_eq_none (by rw [List.length_set]; omega)] at e2
          cases e2
      · rw [List.getElem?_set_ne ck] at e2
        rw [getD_set_ne ck] at q2
        exact h.apart i k s1 t p ne e1 e2 o1 o2 q1 q2
theorem Holds.set (h : Holds X J B H σ sl) (j : Nat) {v : V} {x : Dd} (d : Dq X J B v x) : Holds X J B H (σ.set j (some v)) (sl.set j (.d x)) :=
  h.setG j (some v) ⟨v, rfl, d⟩ fun z => nomatch z
theorem Holds.drop (h : Holds X J B H σ sl) (j : Nat) : Holds X J B H (σ.set j none) (sl.set j .no) := h.setG j none trivial fun z => nomatch z
/-- the block's own slots forgotten -/
def wipeS (sl : List Sd) : List Nat → List Sd
  | [] => sl
  | v :: vs => (wipeS sl vs).set v .no
theorem Holds.wipe (h : Holds X J B H σ sl) : ∀ vs : List Nat, Holds X J B H (L2.wipe σ vs) (wipeS sl vs)
  | [] => h
  | v :: vs => (h.wipe vs).drop v
/-- less is told -/
theorem Holds.less (h : Holds X J B H σ sl) (hl : sl'.length = sl.length) (hs : ∀ (j : Nat) (s : Sd), sl'[j]? = some s → s = Sd.no ∨ sl[j]? = some s) : Holds X J B H σ sl' :=
  h.by (by rw [hl]; exact h.len) (fun j s e => (hs j s e).elim (fun z => by rw [z]; trivial) fun z => h.here j s z) fun i j s t p ne e1 e2 o1 o2 q1 q2 => by
    rcases hs i s e1 with z | z
    · rw [z] at o1; cases o1
    · rcases hs j t e2 with y | y
      · rw [y] at o2; cases o2
      · exact h.apart i j s t p ne z y o1 o2 q1 q2

/-! ### targets -/
def Tg (X : Cx) (J : Option Jar) (g : TG) (d : PyData) (sl sl' : List Sd) (js : List Nat) : Prop := ∀ σ B H v, Holds X J B H σ sl → Dp X.K B v d → ∀ Q : L2.St → Hp → Prop,
  (∀ σ', Holds X J B H σ' sl' → σ'.length = σ.length → (∀ k, k ∉ js → σ'[k]? = σ[k]?) → Q σ' H) → g v σ H Q
def Tgs (X : Cx) (J : Option Jar) (g : TGs) (ds : List PyData) (sl sl' : List Sd) (js : List Nat) : Prop := ∀ σ B H vs, Holds X J B H σ sl → DpAll X.K B vs ds → ∀ Q : L2.St → Hp → Prop,
  (∀ σ', Holds X J B H σ' sl' → σ'.length = σ.length → (∀ k, k ∉ js → σ'[k]? = σ[k]?) → Q σ' H) → g vs σ H Q
variable {d : PyData} {ds : List PyData} {g : TG} {gs : TGs} {js ks : List Nat}
theorem tg_name {j : Nat} : Tg X J (gName j) d sl (sl.set j (.d (.d d))) [j] := fun σ B H v h dp Q q =>
  q _ (h.set j dp) List.length_set fun k hk => List.getElem?_set_ne fun z => hk (by rw [z]; exact List.mem_singleton.mpr rfl)
theorem tgs_nil : Tgs X J gNil [] sl sl [] := fun σ B H vs h dp Q q => by
  cases dp
  exact ⟨rfl, q σ h rfl fun _ _ => rfl⟩
theorem tgs_cons (h1 : Tg X J g d sl sl1 js) (h2 : Tgs X J gs ds sl1 sl2 ks) : Tgs X J (gCons g gs) (d :: ds) sl sl2 (js ++ ks) := fun σ B H vs h dp Q q => by
  cases dp with
  | @cons v r _ _ a b =>
    refine ⟨v, r, rfl, h1 σ B H v h a _ fun σ1 k1 l1 n1 => h2 σ1 B H r k1 b _ fun σ2 k2 l2 n2 => q σ2 k2 (l2.trans l1) fun k hk => ?_⟩
    rw [n2 k fun z => hk (List.mem_append_right _ z), n1 k fun z => hk (List.mem_append_left _ z)]
theorem tg_tup {n : Nat} (h : Tgs X J gs ds sl sl' js) (hn : ds.length = n := by rfl) : Tg X J (gTup X.K n gs) (.tuple ds) sl sl' js := fun σ B H v k dp Q q => by
  cases dp with
  | @tup a xs _ h1 h2 => exact ⟨a, xs, rfl, ex_t k.ex h1, by rw [dps_len h2]; exact hn, h σ B H xs k h2 Q q⟩
theorem wipe_same {σ τ : L2.St} {vs : List Nat} (hl : τ.length = σ.length) (h : ∀ k, k ∉ vs → τ[k]? = (L2.wipe σ vs)[k]?) : L2.wipe τ vs = L2.wipe σ vs := by
  apply List.ext_getElem?
  intro k
  by_cases hk : k ∈ vs
  · have none_at : ∀ (ρ : L2.St) (us : List Nat), k ∈ us → k < ρ.length → (L2.wipe ρ us)[k]? = some none := by
      intro ρ us
      induction us with
      | nil => intro z; exact absurd z (by simp)
      | cons u us ih =>
        intro z hlt
        show ((L2.wipe ρ us).set u none)[k]? = some none
        by_cases c : u = k
        · subst c
          rw [List.getElem?_set_self (by rw [wipe_length]; exact hlt)]
        · rw [List.getElem?_set_ne c]
          rcases List.mem_cons.mp z with e | e
          · exact absurd e.symm c
          · exact ih e hlt
    by_cases hlt : k < σ.length
    · rw [none_at σ vs hk hlt, none_at τ vs hk (by rw [hl]; exact hlt)]
    · rw [List.getElem?_eq_none (by rw [wipe_length]; omega), List.getElem?_eq_none (by rw [wipe_length]; omega)]
  · rw [wipe_out hk, h k hk]

/-! ### things walked -/
def YD (X : Cx) (J : Option Jar) (G : Hp) (items : List PyData) : Nat → Hp → V → Hp → Prop := fun i H x H' => ∀ G2, Ex G G2 → Ex G2 H → JarOK X.K J G2 H → ∃ G3 d, Gs X.K J G2 H G3 H' ∧ items[i]? = some d ∧ Dp X.K G3 x d
def Ti (X : Cx) (J : Option Jar) (tg iter : Expr) (sl : List Sd) (items : List PyData) : Prop := Fit X → ∃ wi, PI X tg iter wi ∧ ∀ σ B H, Holds X J B H σ sl → ∀ R : It → Hp → Prop,
  (∀ I G H', Gs X.K J B H G H' → Walk I items.length (fun H => Ex G H) (YD X J G items) → R I H') → wi σ H R
/-- .. while the own things stay, too (a comprehension's) -/
def TiK (X : Cx) (J : Option Jar) (tg iter : Expr) (sl : List Sd) (items : List PyData) : Prop := Fit X → ∃ wi, PI X tg iter wi ∧ ∀ σ B H, Holds X J B H σ sl → ∀ R : It → Hp → Prop,
  (∀ I G H', Gs X.K J B H G H' → Walk I items.length (fun H2 => Ex G H2 ∧ ∀ a o, ¬ JarAt J a → H a = some o → H2 a = some o) (YD X J G items) → R I H') → wi σ H R
variable {tg l : Expr}
theorem Ti.k {iter : Expr} {items : List PyData} (h : Ti X J tg iter sl items) : TiK X J tg iter sl items := fun F => by
  obtain ⟨wi, pi, w⟩ := h F
  exact ⟨wi, pi, fun σ B H k R r => w σ B H k R fun I G H' g wk => r I G H' g (wk.mono (fun _ q => q.1) fun _ _ _ _ _ _ y => y)⟩
theorem ti_list (h : Te X J l sl (.d (.list ds))) : Ti X J tg l sl ds := fun F => ⟨iList X.K (wE X l), pi_list pE, fun σ B H k R r => h F σ B H k _ fun v G H1 x g d e => by
  subst e
  cases d with
  | @lst p xs _ h1 h2 =>
    refine ⟨p, rfl, ⟨xs, ex_l g.sub h1⟩, r _ G H1 g ?_⟩
    have w0 := walk_list (K := X.K) (a := p) (xs := xs)
    rw [dps_len h2] at w0
    refine w0.mono (fun H e => ex_l e h1) fun i H x H'' hi e y G2 e1 e2 j => ?_
    obtain ⟨rfl, hx⟩ := y
    obtain ⟨d, hd, q⟩ := dps_get h2 hx
    exact ⟨G2, d, Gs.refl e2 j, hd, dp_ex e1 _ _ q⟩⟩
theorem ti_tup (h : Te X J l sl (.d (.tuple ds))) : Ti X J tg l sl ds := fun F => ⟨iTup X.K (wE X l), pi_tup pE, fun σ B H k R r => h F σ B H k _ fun v G H1 x g d e => by
  subst e
  cases d with
  | @tup p xs _ h1 h2 =>
    refine ⟨p, rfl, ⟨xs, ex_t g.sub h1⟩, r _ G H1 g ?_⟩
    have w0 := walk_tup (K := X.K) (a := p) (xs := xs)
    rw [dps_len h2] at w0
    refine w0.mono (fun H e => ex_t e h1) fun i H x H'' hi e y G2 e1 e2 j => ?_
    obtain ⟨rfl, hx⟩ := y
    obtain ⟨d, hd, q⟩ := dps_get h2 hx
    exact ⟨G2, d, Gs.refl e2 j, hd, dp_ex e1 _ _ q⟩⟩
theorem ti_enum {α : Type} {ts : List α} {enc : α → PyData} {elts : List Expr} {kk : Nat} {tpos pos p : Pos} (h : Te X J l sl (.d (.list (ts.map enc)))) (hm : X.mg "enumerate" = none) (hg : Gl X "enumerate" := by rfl) (hs : starEach [l] X.env = [(false, eval l X.env)] := by rfl) :
    Ti X J (.Tuple elts kk tpos) (.Call (.Name "enumerate" p) [l] [] pos) sl (ts.zipIdx.map fun q => .tuple [.int (q.2 : Nat), enc q.1]) := fun F =>
  ⟨iEnum X.K (wA X [l]), pi_enum hg hm pA hs, fun σ B H k R r => tas_cons h tas_nil (by rw [hs]; rfl) F σ B H k _ fun vs G H1 xs g d e => by
    subst e
    cases d with
    | cons d1 d2 =>
      cases d2
      cases d1 with
      | @lst p xs _ h1 h2 =>
        refine ⟨p, xs, rfl, ex_l g.sub h1, r _ G H1 g ?_⟩
        have w0 := walk_enum (K := X.K) (a := p) (xs := xs)
        rw [dps_len h2, List.length_map] at w0
        rw [List.length_map, List.length_zipIdx]
        refine w0.mono (fun H e => ex_l e h1) fun i H x H'' hi e y G2 e1 e2 j => ?_
        obtain ⟨T, x1, x2, rfl, hT, rfl, f1, f2⟩ := y
        cases f1
        obtain ⟨d, hd, q⟩ := dps_get h2 f2
        refine ⟨_, .tuple [.int (i : Nat), d], Gs.one (.tup [.int (i : Nat), x2]) e2 hT j, ?_, .tup (st_of upd_same) (.cons (.int _) (.cons ?_ .nil))⟩
        · rw [List.getElem?_map] at hd
          rw [List.getElem?_map, List.getElem?_zipIdx]
          cases q : ts[i]? with
          | none => rw [q] at hd; cases hd
          | some t =>
            rw [q] at hd
            cases hd
            simp
        · exact dp_ex (e1.trans (Ex.new (fresh_back e2 hT))) _ _ q⟩
theorem ti_range {n : Int} {pos p : Pos} (h : Te X J l sl (dI n)) (hn : 0 ≤ n ∧ n ≤ 1000000) (hm : X.mg "range" = none) (hg : Gl X "range" := by rfl) (hs : starEach [l] X.env = [(false, eval l X.env)] := by rfl) :
    Ti X J tg (.Call (.Name "range" p) [l] [] pos) sl ((List.range n.toNat).map fun i => .int (i : Nat)) := fun F =>
  ⟨iRng1 (wA X [l]), pi_range1 hg hm pA hs, fun σ B H k R r => tas_cons h tas_nil (by rw [hs]; rfl) F σ B H k _ fun vs G H1 xs g d e => by
    subst e
    cases d with
    | cons d1 d2 =>
      cases d2
      cases d1
      refine ⟨n, rfl, by omega, by omega, r _ G H1 g ?_⟩
      rw [List.length_map, List.length_range]
      refine (walk_range (lo := 0)).mono (fun _ _ => trivial) fun i H x H'' hi e y G2 e1 e2 j => ?_
      obtain ⟨rfl, hx⟩ := y
      refine ⟨G2, .int (i : Nat), Gs.refl e2 j, ?_, ?_⟩
      · rw [List.getElem?_map, List.getElem?_range hi]; rfl
      · have e0 : (0 : Int) + ((i : Nat) : Int) = ((i : Nat) : Int) := Int.zero_add _
        have hx' : x = V.int (i : Nat) := by rw [← e0]; exact hx
        rw [hx']
        exact .int _⟩

/-! ### list comprehensions -/
abbrev Blk (X : Cx) (scope : Scope) (p : Cx → Prop) : Prop := InBlocks X scope p
theorem fit_blk {X : Cx} (F : Fit X) {scope : Scope} (s : Shared) (H : Hp) (C : Addr) (cl : List (Str × Addr)) (fp : List Addr) : Fit (X.blk s H scope (compEnvC scope cl C X.env) fp) := ⟨F.calm, F.nd, F.un⟩
theorem holds_blk {X : Cx} {scope : Scope} {s : Shared} {H0 : Hp} {C : Addr} {cl : List (Str × Addr)} {fp : List Addr} (h : Holds X J B H σ sl) : Holds (X.blk s H0 scope (compEnvC scope cl C X.env) fp) J B H σ sl := by
  refine ⟨h.ex, h.len, fun j s e => ?_, h.apart, h.jar⟩
  have q := h.here j s e
  cases s with
  | no => trivial
  | d x => cases x <;> exact q
  | ol xs => exact q
  | od xs => exact q
  | fd xs => exact q
  | oj p c ns xs => exact q
theorem blk_te {scope : Scope} {e : Expr} {x : Dd} (F : Fit X) (h : Blk X scope fun X' => Te X' J e sl x) (hh : Holds X J B H σ sl) (Q : VK) (q : ∀ v G H', Gs X.K J B H G H' → Dq X J G v x → Q v H') : wEb X scope e σ H Q := fun s H0 C cl fp =>
  h s H0 C cl fp (fit_blk F s H0 C cl fp) σ B H (holds_blk hh) Q fun v G H' y g d e => q v G H' g (by subst e; cases y <;> exact d)
theorem blk_tt {scope : Scope} {e : Expr} {p : Bool} (F : Fit X) (h : Blk X scope fun X' => Tt X' J e sl p) (hh : Holds X J B H σ sl) (Q : Bool → Hp → Prop) (q : ∀ H', Gs X.K J B H B H' → Q p H') : wTb X scope e σ H Q := fun s H0 C cl fp =>
  h s H0 C cl fp (fit_blk F s H0 C cl fp) σ B H (holds_blk hh) Q fun b H' g e => by subst e; exact q H' g
variable {elt iter : Expr} {ifs : List Expr} {scope : Scope} {own : List (Str × Nat)} {pos : Pos}
/-- the common part: the tests' reading tt; how it runs -/
theorem lc_run {α : Type} {ts : List α} {enc : α → PyData} {keep : α → Bool} {f : α → PyData} {tt : TT} {wi : TI} (F : Fit X) (w : ∀ σ B H, Holds X J B H σ sl → ∀ R : It → Hp → Prop, (∀ I G H', Gs X.K J B H G H' → Walk I (ts.map enc).length (fun H2 => Ex G H2 ∧ ∀ a o, ¬ JarAt J a → H a = some o → H2 a = some o) (YD X J G (ts.map enc)) → R I H') → wi σ H R)
    (hl : ts.length ≤ 1000000)
    (hb : ∀ t ∈ ts, ∃ sl' js, Tg X J g (enc t) (wipeS sl (own.map (·.2))) sl' js ∧ js ⊆ own.map (·.2) ∧ (∀ σ B H, Fit X → Holds X J B H σ sl' → ∀ Q : Bool → Hp → Prop, (∀ H', Gs X.K J B H B H' → Q (keep t) H') → tt σ H Q) ∧
      (keep t = true → Blk X scope fun X' => Te X' J elt sl' (.d (f t)))) {σ : L2.St} {B H : Hp} (k : Holds X J B H σ sl) (Q : VK)
    (q : ∀ p vs G H', Gs X.K J B H G H' → H p = none → G p = none → ¬ JarAt J p → H' p = some (.lst vs) → DpAll X.K G vs ((ts.filter keep).map f) → Q (.ref p) H') : tLc wi g tt (wEb X scope elt) (own.map (·.2)) σ H Q := by
  refine w σ B H k _ fun I G H1 g1 wk Dl hD => ?_
  have hsz : ∀ n : Nat, n < 1000000 → n < sizeLine := fun n hn => by rw [sizeLine_eq]; omega
  refine lc_it wk (fun i H' => ∃ G' xs, Ex G G' ∧ Gs X.K J B H G' H' ∧ H Dl = none ∧ G' Dl = none ∧ ¬ JarAt J Dl ∧ H' Dl = some (.lst xs) ∧ DpAll X.K G' xs (((ts.take i).filter keep).map f) ∧ xs.length ≤ i) ?_ ?_ ?_ ?_
  · exact ⟨G, [], Ex.refl G, g1.trans (Gs.same g1.sub (Ex.new hD) g1.jar), g1.live _ hD, fresh_back g1.sub hD, g1.jar.ne hD, upd_same, .nil, Nat.le_refl _⟩
  · rintro i H' _ ⟨G', xs, e, g2, _⟩
    exact ⟨e.trans g2.sub, g2.keep⟩
  · rintro i x H2 H3 hi ⟨G', xs, e, g2, f1, f2, nj, f3, f4, f5⟩ y
    rw [List.length_map] at hi
    obtain ⟨G3, d, g3, hd, hp⟩ := y G' e g2.sub g2.jar
    have ht' : ts[i]? = some ts[i] := List.getElem?_eq_getElem hi
    obtain rfl : enc ts[i] = d := by
      rw [List.getElem?_map, ht'] at hd
      exact Option.some.inj hd
    have hm : ts[i] ∈ ts := List.getElem_mem hi
    have etk : ts.take (i + 1) = ts.take i ++ [ts[i]] := by rw [List.take_add_one, ht']; rfl
    obtain ⟨sl', js, t1, t2, t3, t4⟩ := hb ts[i] hm
    have g4 := g2.trans g3
    have hw : Holds X J G3 H3 (L2.wipe σ (own.map (·.2))) (wipeS sl (own.map (·.2))) := (k.wipe _).step g4
    refine t1 _ G3 H3 x hw hp _ fun σ2 k2 l2 n2 => ⟨wipe_same (by rw [l2, wipe_length]) fun c hc => n2 c fun z => hc (t2 z), ?_⟩
    have o3 : G3 Dl = none := g3.off f3 f2
    refine t3 σ2 G3 H3 F k2 _ fun H4 g5 => ?_
    have d4 : H4 Dl = some (.lst xs) := g5.keep _ _ nj (g3.keep _ _ nj f3)
    cases hpi : keep ts[i] with
    | false =>
      show ∃ G' xs, _
      refine ⟨G3, xs, e.trans g3.up, g4.trans g5, f1, o3, nj, d4, ?_, Nat.le_succ_of_le f5⟩
      rw [etk, List.filter_append, List.filter_cons, if_neg (by rw [hpi]; decide)]
      simpa using dps_ex g3.up _ _ f4
    | true =>
      show wEb X scope elt σ2 H4 _
      refine blk_te F (t4 hpi) (k2.step g5) _ fun v G5 H5 g6 hv => ?_
      have d5 : H5 Dl = some (.lst xs) := g6.keep _ _ nj d4
      have o5 : G5 Dl = none := g6.off d4 o3
      refine ⟨xs, d5, hsz _ (by omega), G5, xs ++ [v], (e.trans g3.up).trans g6.up, (((g4.trans g5).trans g6).put _ f1 o5 nj), f1, o5, nj, upd_same, ?_, ?_⟩
      · rw [etk, List.filter_append, List.filter_cons, if_pos hpi, List.map_append]
        exact dps_app (dps_ex (g3.up.trans g6.up) _ _ f4) (.cons hv .nil)
      · rw [List.length_append, List.length_singleton]
        omega
  · rintro H' ⟨G', xs, e, g2, f1, f2, nj, f3, f4, f5⟩
    rw [List.length_map, List.take_length] at f4
    exact q Dl xs G' H' g2 f1 f2 nj f3 f4
theorem tl_lc_core {α : Type} {ts : List α} {enc : α → PyData} {keep : α → Bool} {f : α → PyData} {tt : TT} (hi : TiK X J tg iter sl (ts.map enc)) (hl : ts.length ≤ 1000000) (ok : BlkOk X.N X.env.scope scope own) (hg : InBlocks X scope fun X' => PG X' tg g)
    (ht : InBlocks X scope fun X' => PTs X' ifs tt)
    (hb : ∀ t ∈ ts, ∃ sl' js, Tg X J g (enc t) (wipeS sl (own.map (·.2))) sl' js ∧ js ⊆ own.map (·.2) ∧ (∀ σ B H, Fit X → Holds X J B H σ sl' → ∀ Q : Bool → Hp → Prop, (∀ H', Gs X.K J B H B H' → Q (keep t) H') → tt σ H Q) ∧
      (keep t = true → Blk X scope fun X' => Te X' J elt sl' (.d (f t))))
    (hs : ∀ x, foldedSetIterable iter X.env x = pure x := by intro _; rfl) : Tl X J (.ListComp elt [⟨tg, iter, ifs, 0⟩] scope pos) sl ((ts.filter keep).map f) := fun F σ B H k Q q => by
  obtain ⟨wi, pi, w⟩ := hi F
  exact wE.of (pe_lc F.calm F.nd pi ok hg ht pEb hs) (lc_run F w hl hb k Q fun p vs G H' a1 a2 a3 a4 a5 a6 => q p vs _ G H' a1 a2 a3 a4 a5 a6 rfl)
/-- without tests -/
theorem tl_lcK {α : Type} {ts : List α} {enc f : α → PyData} (hi : TiK X J tg iter sl (ts.map enc)) (hl : ts.length ≤ 1000000) (ok : BlkOk X.N X.env.scope scope own) (hg : InBlocks X scope fun X' => PG X' tg g)
    (hb : ∀ t ∈ ts, ∃ sl' js, Tg X J g (enc t) (wipeS sl (own.map (·.2))) sl' js ∧ js ⊆ own.map (·.2) ∧ Blk X scope fun X' => Te X' J elt sl' (.d (f t)))
    (hs : ∀ x, foldedSetIterable iter X.env x = pure x := by intro _; rfl) : Tl X J (.ListComp elt [⟨tg, iter, [], 0⟩] scope pos) sl (ts.map f) := by
  have h := tl_lc_core (keep := fun _ => true) (f := f) (pos := pos) (elt := elt) hi hl ok hg (fun _ _ _ _ _ => pts_nil) (fun t ht => by
    obtain ⟨sl', js, a, b, c⟩ := hb t ht
    exact ⟨sl', js, a, b, fun σ B H F k Q q => q H (Gs.refl k.ex k.jar), fun _ => c⟩) hs
  rw [show ts.filter (fun _ => true) = ts from List.filter_eq_self.mpr fun _ _ => rfl] at h
  exact h
theorem tl_lc {α : Type} {ts : List α} {enc f : α → PyData} (hi : Ti X J tg iter sl (ts.map enc)) (hl : ts.length ≤ 1000000) (ok : BlkOk X.N X.env.scope scope own) (hg : InBlocks X scope fun X' => PG X' tg g)
    (hb : ∀ t ∈ ts, ∃ sl' js, Tg X J g (enc t) (wipeS sl (own.map (·.2))) sl' js ∧ js ⊆ own.map (·.2) ∧ Blk X scope fun X' => Te X' J elt sl' (.d (f t)))
    (hs : ∀ x, foldedSetIterable iter X.env x = pure x := by intro _; rfl) : Tl X J (.ListComp elt [⟨tg, iter, [], 0⟩] scope pos) sl (ts.map f) := tl_lcK hi.k hl ok hg hb hs
/-- with one test -/
theorem tl_lcf {α : Type} {ts : List α} {enc f : α → PyData} {keep : α → Bool} {c : Expr} (hi : Ti X J tg iter sl (ts.map enc)) (hl : ts.length ≤ 1000000) (ok : BlkOk X.N X.env.scope scope own) (hg : InBlocks X scope fun X' => PG X' tg g)
    (hb : ∀ t ∈ ts, ∃ sl' js, Tg X J g (enc t) (wipeS sl (own.map (·.2))) sl' js ∧ js ⊆ own.map (·.2) ∧ (Blk X scope fun X' => Tt X' J c sl' (keep t)) ∧ (keep t = true → Blk X scope fun X' => Te X' J elt sl' (.d (f t))))
    (hs : ∀ x, foldedSetIterable iter X.env x = pure x := by intro _; rfl) : Tl X J (.ListComp elt [⟨tg, iter, [c], 0⟩] scope pos) sl ((ts.filter keep).map f) :=
  tl_lc_core (keep := keep) (f := f) hi.k hl ok hg (tt := wTb X scope c) (fun s H C cl fp => pts_one (pTb s H C cl fp)) (fun t ht => by
    obtain ⟨sl', js, a, b, c1, c2⟩ := hb t ht
    exact ⟨sl', js, a, b, fun σ B H F k Q q => blk_tt F c1 k Q q, c2⟩) hs
end
end SH

set_option Elab.async false
set_option linter.all false
set_option maxRecDepth 100000
set_option maxHeartbeats 1600000
/-! ShT4: calls of built-ins over data; owned things read; isinstance; slices. -/
namespace SH
open PySem PySem.Spec PyProof.Rows L2 PySem.W Evl
section
variable {X : Cx} {J : Option Jar} {sl : List Sd} {e a b : Expr} {es : List Expr} {nm : Str} {pp pos : Pos} {R : Dd → Prop}
theorem DC.pure {f : Value} {r : List V → Hp → VK → Prop} (h : Fit X → CallR X f r) {xs : List Dd} {z : Dd} {R : Dd → Prop} (hr : R z) (q : ∀ B H vs, Ex B H → DqAll X J B vs xs → ∀ Q : VK, (∀ t, Dq X J B t z → Q t H) → r vs H Q) : DC X J (wC X f) xs R :=
  fun F B H vs e j d Q k => wC.of (h F) (q B H vs e d Q fun t d3 => k t B H z (Gs.refl e j) d3 hr)
theorem dq1 {B : Hp} {vs : List V} {x : Dd} (d : DqAll X J B vs [x]) : ∃ v, vs = [v] ∧ Dq X J B v x := by
  cases d with
  | cons d1 d2 => cases d2; exact ⟨_, rfl, d1⟩
theorem dc_lenL {ds : List PyData} : DC X J (wC X (.builtin "len")) [.d (.list ds)] (· = dI ds.length) := DC.pure (fun _ => call_len_seq) rfl fun B H vs e d Q k => by
  obtain ⟨v, rfl, dd⟩ := dq1 d
  cases dd with
  | lst h1 h2 => exact ⟨_, _, rfl, .inl (ex_l e h1), by rw [dps_len h2]; exact k _ (Dp.int _)⟩
theorem dc_lenT {ds : List PyData} : DC X J (wC X (.builtin "len")) [.d (.tuple ds)] (· = dI ds.length) := DC.pure (fun _ => call_len_seq) rfl fun B H vs e d Q k => by
  obtain ⟨v, rfl, dd⟩ := dq1 d
  cases dd with
  | tup h1 h2 => exact ⟨_, _, rfl, .inr (ex_t e h1), by rw [dps_len h2]; exact k _ (Dp.int _)⟩
theorem dc_all {bs : List Bool} : DC X J (wC X (.builtin "all")) [.d (.list (bs.map .bool))] (· = dB (bs.all id)) := DC.pure (fun F => cr_all F.calm) rfl fun B H vs e d Q k => by
  obtain ⟨v, rfl, dd⟩ := dq1 d
  cases dd with
  | lst h1 h2 => rw [dps_bools h2] at h1; exact ⟨_, bs, rfl, ex_l e h1, k _ (Dp.bl _)⟩
theorem dc_any {bs : List Bool} : DC X J (wC X (.builtin "any")) [.d (.list (bs.map .bool))] (· = dB (bs.any id)) := DC.pure (fun F => cr_any F.calm) rfl fun B H vs e d Q k => by
  obtain ⟨v, rfl, dd⟩ := dq1 d
  cases dd with
  | lst h1 h2 => rw [dps_bools h2] at h1; exact ⟨_, bs, rfl, ex_l e h1, k _ (Dp.bl _)⟩
theorem dc_max {ns : List Int} {m : Int} (hm : m ∈ ns) (hall : ∀ y ∈ ns, y ≤ m) : DC X J (wC X (.builtin "max")) [.d (.list (ns.map .int))] (· = dI m) := DC.pure (fun F => cr_max F.calm) rfl fun B H vs e d Q k => by
  obtain ⟨v, rfl, dd⟩ := dq1 d
  cases dd with
  | lst h1 h2 =>
    rw [dps_ints h2] at h1
    refine ⟨_, ns, rfl, ex_l e h1, List.length_pos_of_mem hm, fun m' h3 h4 => ?_⟩
    have : m' = m := Int.le_antisymm (hall _ h3) (h4 _ hm)
    rw [this]
    exact k _ (Dp.int _)
theorem dc_intI {i : Int} : DC X J (wC X (.type "int")) [dI i] (· = dI i) := DC.pure (fun _ => call_int1) rfl fun B H vs e d Q k => by
  obtain ⟨v, rfl, dd⟩ := dq1 d
  cases dd
  exact .inl ⟨i, rfl, k _ (Dp.int _)⟩
theorem dc_intB {p : Bool} : DC X J (wC X (.type "int")) [dB p] (· = dI (if p = true then 1 else 0)) := DC.pure (fun _ => call_int1) rfl fun B H vs e d Q k => by
  obtain ⟨v, rfl, dd⟩ := dq1 d
  cases dd
  exact .inr ⟨p, rfl, k _ (Dp.int _)⟩
theorem dc_tupL {ds : List PyData} : DC X J (wC X (.type "tuple")) [.d (.list ds)] (· = .d (.tuple ds)) := fun F B H vs e j d Q k => wC.of call_tuple_of (by
  obtain ⟨v, rfl, dd⟩ := dq1 d
  cases dd with
  | lst h1 h2 => exact ⟨_, _, rfl, .inl ⟨ex_l e h1, fun l hl => k _ _ _ (.d (.tuple ds)) (Gs.one _ e hl j) (Dp.tup (st_of upd_same) (dps_ex (Ex.new (fresh_back e hl)) _ _ h2)) rfl⟩⟩)
theorem dc_tupT {ds : List PyData} : DC X J (wC X (.type "tuple")) [.d (.tuple ds)] (· = .d (.tuple ds)) := DC.pure (fun _ => call_tuple_of) rfl fun B H vs e d Q k => by
  obtain ⟨v, rfl, dd⟩ := dq1 d
  cases dd with
  | tup h1 h2 => exact ⟨_, _, rfl, .inr ⟨ex_t e h1, k _ (Dp.tup h1 h2)⟩⟩
/-- list(x): a fresh list -/
theorem tl_list {ds : List PyData} {x : PyData} (h : Te X J e sl (.d x)) (hx : x = .list ds ∨ x = .tuple ds) (hm : X.mg "list" = none) (hg : Gl X "list" := by rfl)
    (he : starEach [e] X.env = (false, eval e X.env) :: starEach [] X.env := by rfl) (hpl : (backTo pos (starEach [] X.env)).any (·.1) = false := by rfl) : Tl X J (.Call (.Name "list" pp) [e] [] pos) sl ds := fun F σ B H k Q q =>
  wE.of (pe_callTy call_list_of hg hm boot_list pA (by decide) (by decide) he hpl) (tas_cons h tas_nil he F σ B H k _ fun vs G H1 xs g d e1 => by
    subst e1
    obtain ⟨v, rfl, dd⟩ := dq1 d
    obtain ⟨p, ys, rfl, hs, hd⟩ : ∃ p ys, v = .ref p ∧ (SqL X.K H1 p ys ∨ SqT X.K H1 p ys) ∧ DpAll X.K G ys ds := by
      rcases hx with rfl | rfl
      · cases dd with
        | lst h1 h2 => exact ⟨_, _, rfl, .inl (ex_l g.sub h1), h2⟩
      · cases dd with
        | tup h1 h2 => exact ⟨_, _, rfl, .inr (ex_t g.sub h1), h2⟩
    exact ⟨p, ys, rfl, hs, fun l hl => q l ys ds G _ (g.trans (Gs.same g.sub (Ex.new hl) g.jar)) (g.live _ hl) (fresh_back g.sub hl) (g.jar.ne hl) upd_same hd rfl⟩)

/-! ### isinstance -/
def tyName : PyData → String
  | .none => "NoneType"
  | .bool _ => "bool"
  | .int _ => "int"
  | .str _ => "str"
  | .list _ => "list"
  | .tuple _ => "tuple"
  | .dict _ => "dict"
theorem ty_of {B H : Hp} {v : V} {x : PyData} (d : Dp X.K B v x) (ex : Ex B H) : TyX X.K H v (.type (tyName x)) := by
  cases d with
  | non => exact .base .non
  | bl b => exact .base (.bl b)
  | int i => exact .base (.int i)
  | str s => exact .base (.str s)
  | lst h1 h2 =>
    rcases h1 with (h | ⟨o, h⟩) | ⟨o, its, n, h, c, _⟩
    · exact .base (.lst (ex _ _ h))
    · exact .base (.frz (ex _ _ h))
    · exact .kList h c
  | tup h1 h2 =>
    rcases h1 with (h | ⟨o, h⟩) | ⟨o, its, n, h, c, _⟩
    · exact .base (.tup (ex _ _ h))
    · exact .fTuple (ex _ _ h)
    · exact .kTuple h c
theorem te_isi {x : PyData} {T : String} {cn : Str} {cp : Pos} {r : Bool} (h : Te X J a sl (.d x)) (hk : kitB (tyName x) T = some r) (hm : X.mg "isinstance" = none) (hcm : X.mg cn = none) (hb : bootBuiltins cn = some (.type T)) (hg : Gl X "isinstance" := by rfl) (hcg : Gl X cn := by rfl)
    (hn : cn ≠ "__name__" := by decide) (hdb : (cn == ("__debug__" : Str)) = false := by decide) (he : starEach (a :: [.Name cn cp]) X.env = (false, eval a X.env) :: starEach [.Name cn cp] X.env := by rfl) (hpl : (backTo pos (starEach [.Name cn cp] X.env)).any (·.1) = false := by rfl) :
    Te X J (.Call (.Name "isinstance" pp) [a, .Name cn cp] [] pos) sl (dB r) := fun F σ B H k Q q =>
  wE.of (pe_callB call_isi hg hm boot_isinstance (pa_cons pE (pa_cons (pe_bltn hcg hcm hb (v := .ty T) rfl hn hdb) pa_nil) he) (by decide) (by decide) he hpl) (h F σ B H k _ fun v G H1 y g d e1 => by
    subst e1
    exact ⟨v, .ty T, _, _, r, rfl, .ty T, ty_of d g.sub, kit_ty hk, q _ G H1 (dB r) g (Dp.bl _) rfl⟩)
/-- isinstance(x, (T, U)) -/
theorem te_isi2 {x : PyData} {T U : String} {cn dn : Str} {cp dp tp : Pos} {kk : Nat} {r1 r2 : Bool} (h : Te X J a sl (.d x)) (hk : kitB (tyName x) T = some r1) (hk2 : kitB (tyName x) U = some r2) (hm : X.mg "isinstance" = none) (hcm : X.mg cn = none) (hdm : X.mg dn = none)
    (hb : bootBuiltins cn = some (.type T)) (hb2 : bootBuiltins dn = some (.type U)) (hg : Gl X "isinstance" := by rfl) (hcg : Gl X cn := by rfl) (hdg : Gl X dn := by rfl)
    (hn : cn ≠ "__name__" := by decide) (hdb : (cn == ("__debug__" : Str)) = false := by decide) (hn2 : dn ≠ "__name__" := by decide) (hdb2 : (dn == ("__debug__" : Str)) = false := by decide)
    (he : starEach (a :: [.Tuple [.Name cn cp, .Name dn dp] kk tp]) X.env = (false, eval a X.env) :: starEach [.Tuple [.Name cn cp, .Name dn dp] kk tp] X.env := by rfl)
    (hpl : (backTo pos (starEach [.Tuple [.Name cn cp, .Name dn dp] kk tp] X.env)).any (·.1) = false := by rfl) :
    Te X J (.Call (.Name "isinstance" pp) [a, .Tuple [.Name cn cp, .Name dn dp] kk tp] [] pos) sl (dB (r1 || r2)) := fun F σ B H k Q q =>
  wE.of (pe_callB call_isiT hg hm boot_isinstance (pa_cons pE (pa_cons (pe_tup (pa_cons (pe_bltn hcg hcm hb (v := .ty T) rfl hn hdb) (pa_cons (pe_bltn hdg hdm hb2 (v := .ty U) rfl hn2 hdb2) pa_nil))) pa_nil) he) (by decide) (by decide) he hpl) (h F σ B H k _ fun v G H1 y g d e1 => by
    subst e1
    refine ⟨(by decide : 2 ≤ sizeLine), fun p hp => ⟨v, p, _, _, _, r1 || r2, rfl, upd_same, .cons (.ty T) (.cons (.ty U) .nil), ty_of (x := x) d (g.sub.trans (Ex.new hp)), ?_, ?_⟩⟩
    · refine kitAny_cons (kit_ty hk) (fun e => ?_) fun e => by rw [e]; rfl
      rw [e, Bool.false_or]
      refine kitAny_cons (kit_ty hk2) (fun e2 => ?_) fun e2 => e2
      rw [e2]; rfl
    · exact q _ G _ (dB (r1 || r2)) (g.trans (Gs.same g.sub (Ex.new hp) g.jar)) (Dp.bl _) rfl)

/-! ### slices -/
theorem te_slT {ds : List PyData} {n : Nat} {j : Nat} {p2 p3 : Pos} (h : Te X J a sl (.d (.tuple ds))) (hn : n ≤ ds.length) : Te X J (.Subscript a (.Slice none (some (.Constant (.int n) j p3)) none p2) pos) sl (.d (.tuple (ds.take n))) := fun F σ B H k Q q =>
  wE.of (pe_slice sl_tupA pE po_none (po_some pe_int)) (h F σ B H k _ fun v G H1 y g d e1 => by
    subst e1
    cases d with
    | @tup p xs _ h1 h2 =>
      refine ⟨(n : Int), rfl, p, xs, rfl, ex_t g.sub h1, fun hw => ?_, fun hw r hr => ?_⟩
      · have e0 : HT.sIx xs.length xs.length (some (n : Int)) = n := by rw [HT.sIx_nat]; rw [dps_len h2]; omega
        rw [e0, dps_len h2] at hw
        rw [List.take_of_length_le (by omega)] at *
        exact q _ G H1 (.d (.tuple ds)) g (Dp.tup h1 h2) rfl
      · have e0 : HT.sIx xs.length xs.length (some (n : Int)) = n := by rw [HT.sIx_nat]; rw [dps_len h2]; omega
        have e1 : cutV xs none (some (n : Int)) = xs.take n := by
          unfold cutV
          rw [e0, HT.sIx_none]
          simp
        rw [e1]
        refine q _ _ _ (.d (.tuple (ds.take n))) (g.trans (Gs.one _ g.sub hr g.jar)) (Dp.tup (st_of upd_same) (dps_ex (Ex.new (fresh_back g.sub hr)) _ _ ?_)) rfl
        have key : ∀ (n : Nat) (xs : List V) (ds : List PyData), DpAll X.K G xs ds → DpAll X.K G (xs.take n) (ds.take n) := by
          intro n
          induction n with
          | zero => intro xs ds _; exact .nil
          | succ n ih =>
            intro xs ds h
            cases h with
            | nil => exact .nil
            | cons a b => exact .cons a (ih _ _ b)
        exact key n xs ds h2)

/-! ### what is owned, read -/
theorem own_ne {B H : Hp} {σ : L2.St} (k : Holds X J B H σ sl) {i : Nat} {s : Sd} (hi : sl[i]? = some s) (ho : s.own = true) {p : Addr} (hp : σ.getD i none = some (.ref p)) :
    ∀ j t q, j ≠ i → sl[j]? = some t → t.own = true → σ.getD j none = some (.ref q) → q ≠ p := fun j t q ne e o eq z => by
  subst z
  exact k.apart j i t s q ne e hi o ho eq hp
/-- an owned thing joins the base -/
theorem Holds.thaw {B H : Hp} {σ : L2.St} (k : Holds X J B H σ sl) {i : Nat} {s : Sd} (hi : sl[i]? = some s) (ho : s.own = true) {p : Addr} {o : HO} (hp : σ.getD i none = some (.ref p)) (hb : B p = none) (nj : ¬ JarAt J p) (hH : H p = some o) {x : Dd}
    (hx : Dq X J (upd B p o) (.ref p) x) : Holds X J (upd B p o) H σ (sl.set i (.d x)) := by
  have up : Ex B (upd B p o) := Ex.new hb
  have hi' : i < sl.length := (List.getElem?_eq_some_iff.mp hi).1
  refine ⟨fun c u e => ?_, by rw [List.length_set]; exact k.len, fun j t e => ?_, fun c j s1 t q ne e1 e2 o1 o2 q1 q2 => ?_, fun y e => ?_⟩
  · by_cases z : c = p
    · subst z; rw [upd_same] at e; rw [← e]; exact hH
    · rw [upd_ne z] at e; exact k.ex c u e
  · by_cases c : i = j
    · subst c
      rw [List.getElem?_set_self hi'] at e
      cases e
      exact ⟨_, hp, hx⟩
    · rw [List.getElem?_set_ne c] at e
      have z := k.here j t e
      cases t with
      | no => trivial
      | d x => obtain ⟨v, e1, d⟩ := z; exact ⟨v, e1, dq_ex up d⟩
      | ol xs => obtain ⟨q, vs, e1, e2, n, e3, d⟩ := z; exact ⟨q, vs, e1, by rw [upd_ne (own_ne k hi ho hp j _ q (fun z => c z.symm) e rfl e1)]; exact e2, n, e3, dps_ex up _ _ d⟩
      | od xs => obtain ⟨q, es, e1, e2, n, e3, d1, d⟩ := z; exact ⟨q, es, e1, by rw [upd_ne (own_ne k hi ho hp j _ q (fun z => c z.symm) e rfl e1)]; exact e2, n, e3, d1.ex up, entD_ex up d⟩
      | fd xs => obtain ⟨q, es, e1, e2, n, e3, d1, d⟩ := z; exact ⟨q, es, e1, by rw [upd_ne (own_ne k hi ho hp j _ q (fun z => c z.symm) e rfl e1)]; exact e2, n, e3, d1.ex up, entD_ex up d⟩
      | oj q c0 ns xs => obtain ⟨vs, e1, e2, n, e3, d0, d⟩ := z; exact ⟨vs, e1, by rw [upd_ne (own_ne k hi ho hp j _ q (fun z => c z.symm) e rfl e1)]; exact e2, n, e3, ex_l up d0, dps_ex up _ _ d⟩
  · by_cases c1 : i = c
    · subst c1
      rw [List.getElem?_set_self hi'] at e1
      cases e1
      cases o1
    · by_cases c2 : i = j
      · subst c2
        rw [List.getElem?_set_self hi'] at e2
        cases e2
        cases o2
      · rw [List.getElem?_set_ne c1] at e1
        rw [List.getElem?_set_ne c2] at e2
        exact k.apart c j s1 t q ne e1 e2 o1 o2 q1 q2
  · obtain ⟨h1, h2, r⟩ := k.jar y e
    exact ⟨by rw [upd_ne fun z => nj ⟨y, e, z.symm⟩]; exact h1, ex_l up h2, r⟩
/-- how an owned thing shows as data -/
def Sd.thawed : Sd → Dd
  | .ol xs => .l xs
  | .od xs => .n xs
  | .d x => x
  | .no => .d .none
  | .fd _ => .d .none
  | .oj _ _ _ _ => .d .none
theorem Holds.thaw' {B H : Hp} {σ : L2.St} (k : Holds X J B H σ sl) {i : Nat} {s : Sd} (hi : sl[i]? = some s) (ho : s.free = true) : ∃ p o, σ.getD i none = some (.ref p) ∧ B p = none ∧ ¬ JarAt J p ∧ H p = some o ∧ Holds X J (upd B p o) H σ (sl.set i (.d s.thawed)) := by
  have z := k.here i s hi
  cases s with
  | no => cases ho
  | d x => cases ho
  | fd x => cases ho
  | oj p c ns x => cases ho
  | ol xs =>
    obtain ⟨p, vs, e1, e2, n, e3, d⟩ := z
    exact ⟨p, _, e1, e2, n, e3, k.thaw hi rfl e1 e2 n e3 ⟨p, vs, rfl, upd_same, dps_ex (Ex.new e2) _ _ d⟩⟩
  | od xs =>
    obtain ⟨p, es, e1, e2, n, e3, d1, d⟩ := z
    exact ⟨p, _, e1, e2, n, e3, k.thaw hi rfl e1 e2 n e3 ⟨p, es, rfl, upd_same, d1.ex (Ex.new e2), entD_ex (Ex.new e2) d⟩⟩
theorem Gs.less {K : PySem.W.Frag} {B B' H G H' : Hp} (g : Gs K J B' H G H') (h : Ex B B') (hb : Ex B H) (j : JarOK K J B H) : Gs K J B H B H' :=
  ⟨Ex.refl B, h.trans (g.up.trans g.sub), g.keep, g.live, fun _ _ e => .inl e, fun x e => by
    obtain ⟨h1, h2, _⟩ := j x e
    obtain ⟨_, _, q⟩ := g.jar x e
    exact ⟨h1, h2, q⟩⟩
/-- data that no address stands in -/
def isScal : PyData → Bool
  | .none => true
  | .bool _ => true
  | .int _ => true
  | .str _ => true
  | _ => false
theorem scal_any {B B' : Hp} {v : V} {x : PyData} (h : isScal x = true) (d : Dp X.K B v x) : Dp X.K B' v x := by
  cases d with
  | non => exact .non
  | bl b => exact .bl b
  | int i => exact .int i
  | str s => exact .str s
  | lst _ _ => cases h
  | tup _ _ => cases h
theorem te_thaw {i : Nat} {s : Sd} {x : PyData} (hi : sl[i]? = some s) (h : Te X J e (sl.set i (.d s.thawed)) (.d x)) (ho : s.free = true := by rfl) (hx : isScal x = true := by rfl) : Te X J e sl (.d x) := fun F σ B H k Q q => by
  obtain ⟨p, o, e1, e2, n, e3, k2⟩ := k.thaw' hi ho
  exact h F σ (upd B p o) H k2 Q fun v G H' y g d e => by
    subst e
    exact q v B H' (.d x) (g.less (Ex.new e2) k.ex k.jar) (scal_any hx d) rfl
theorem tt_thaw {i : Nat} {s : Sd} {p : Bool} (hi : sl[i]? = some s) (h : Tt X J e (sl.set i (.d s.thawed)) p) (ho : s.free = true := by rfl) : Tt X J e sl p := fun F σ B H k Q q => by
  obtain ⟨r, o, e1, e2, n, e3, k2⟩ := k.thaw' hi ho
  exact h F σ (upd B r o) H k2 Q fun v H' g e => q v H' (g.less (Ex.new e2) k.ex k.jar) e
/-- an item of an owned list -/
theorem te_ixO {i : Nat} {ds : List PyData} {d : PyData} {j : Int} {np : Pos} (hi : sl[i]? = some (.ol ds)) (hb : Te X J b sl (dI j)) (hd : atI ds j = some d) (hN : X.N[i]? = some nm := by rfl) (hv : Vis X.env.scope nm := by first | exact Or.inl rfl | exact Or.inr (Or.inl rfl) | exact Or.inr (Or.inr rfl))
    (hdb : (nm == ("__debug__" : Str)) = false := by decide) (hcd : (nm == ("__classdict__" : Str)) = false := by decide) (hs : PlainIx b := by exact fun _ _ => rfl) : Te X J (.Subscript (.Name nm np) b pos) sl (.d d) := fun F σ B H k Q q => by
  obtain ⟨p, vs, e1, e2, n, e3, dd⟩ := k.here i _ hi
  refine wE.of (pe_ix ix_list (pv i hN hv hdb hcd) pE hs) ⟨.ref p, getD_some e1, hb F σ B H k _ fun v G H1 y g dj e => ?_⟩
  subst e
  cases dj
  obtain ⟨w, h3, h4⟩ := dps_at dd hd
  exact ⟨p, vs, j, w, rfl, rfl, sq_of (g.keep _ _ n e3), h3, q w G H1 (.d d) g (dp_ex g.up _ _ h4) rfl⟩
theorem dp_ints {K : PySem.W.Frag} {B : Hp} : ∀ ns : List Int, DpAll K B (ns.map V.int) (ns.map .int)
  | [] => .nil
  | n :: ns => .cons (.int n) (dp_ints ns)
theorem te_ixJ {i : Nat} {p c : Addr} {ns : List Int} {ds : List PyData} {d : PyData} {j : Int} {np : Pos} (hi : sl[i]? = some (.oj p c ns ds)) (hb : Te X J b sl (dI j)) (hd : atI (.list (ns.map .int) :: ds) j = some d) (hN : X.N[i]? = some nm := by rfl) (hv : Vis X.env.scope nm := by first | exact Or.inl rfl | exact Or.inr (Or.inl rfl) | exact Or.inr (Or.inr rfl))
    (hdb : (nm == ("__debug__" : Str)) = false := by decide) (hcd : (nm == ("__classdict__" : Str)) = false := by decide) (hs : PlainIx b := by exact fun _ _ => rfl) : Te X J (.Subscript (.Name nm np) b pos) sl (.d d) := fun F σ B H k Q q => by
  obtain ⟨vs, e1, e2, n, e3, d0, dd⟩ := k.here i _ hi
  refine wE.of (pe_ix ix_list (pv i hN hv hdb hcd) pE hs) ⟨.ref p, getD_some e1, hb F σ B H k _ fun v G H1 y g dj e => ?_⟩
  subst e
  cases dj
  have da : DpAll X.K B (.ref c :: vs) (.list (ns.map .int) :: ds) := .cons (.lst d0 (dp_ints ns)) dd
  obtain ⟨w, h3, h4⟩ := dps_at da hd
  exact ⟨p, _, j, w, rfl, rfl, sq_of (g.keep _ _ n e3), h3, q w G H1 (.d d) g (dp_ex g.up _ _ h4) rfl⟩
/-- a value of an owned dict -/
theorem te_ixD {i : Nat} {xs : List KD} {dk d : PyData} {kk : NestedKey} {np : Pos} (hi : sl[i]? = some (.od xs)) (hb : Te X J b sl (.d dk)) (hk : KeyD kk) (ek : dk = kk.data) (hd : findK xs kk = some d) (hN : X.N[i]? = some nm := by rfl)
    (hv : Vis X.env.scope nm := by first | exact Or.inl rfl | exact Or.inr (Or.inl rfl) | exact Or.inr (Or.inr rfl)) (hdb : (nm == ("__debug__" : Str)) = false := by decide) (hcd : (nm == ("__classdict__" : Str)) = false := by decide) (hs : PlainIx b := by exact fun _ _ => rfl) :
    Te X J (.Subscript (.Name nm np) b pos) sl (.d d) := fun F σ B H k Q q => by
  obtain ⟨p, es, e1, e2, n, e3, d1, dd⟩ := k.here i _ hi
  refine wE.of (pe_ix (ix_dictN F.un64) (pv i hN hv hdb hcd) pE hs) ⟨.ref p, getD_some e1, hb F σ B H k _ fun v G H1 y g dj e => ?_⟩
  subst e ek
  obtain ⟨c, rfl, kc⟩ := hk.at dj
  obtain ⟨w, h3, h4⟩ := (entD_find dd).1 d hd
  exact ⟨c, p, kk, es, w, rfl, rfl, Rd.of (g.keep _ _ n e3), (d1.ex g.up).ex g.sub, kc.ex g.sub, h3, q w.2 G H1 (.d d) g (dp_ex g.up _ _ h4) rfl⟩
end
end SH

set_option Elab.async false
set_option linter.all false
set_option maxRecDepth 100000
set_option maxHeartbeats 1600000
/-! ShT5: statements over slots told as data; a def's body keeps its promise. -/
namespace SH
open PySem PySem.Spec PyProof.Rows L2 PySem.W Evl
/-- in a def's body: its entry (B0, H0), a base below (U) -/
structure HoldF (X : Cx) (J : Option Jar) (B0 H0 U B H : Hp) (σ : L2.St) (sl : List Sd) : Prop where
  hold : Holds X J B H σ sl
  gs : Gs X.K J B0 H0 B H
  up : Ex U B
  fresh : ∀ j s p, sl[j]? = some s → s.own = true → σ.getD j none = some (.ref p) → H0 p = none
/-- what a block does from here -/
def St (X : Cx) (J : Option Jar) (B0 H0 U : Hp) (sl : List Sd) (sts : List Stmt) (D : Ends) : Prop := Fit X → ∀ σ B H, HoldF X J B0 H0 U B H σ sl → wSs X sts D σ H
section
variable {X : Cx} {J : Option Jar} {B0 H0 U B H G H' : Hp} {σ : L2.St} {sl sl' sl1 : List Sd} {D : Ends} {rest body : List Stmt} {e : Expr} {pos pp : Pos} {nm : Str} {i : Nat} {P : Dd → Prop}
theorem HoldF.step (h : HoldF X J B0 H0 U B H σ sl) (g : Gs X.K J B H G H') : HoldF X J B0 H0 U G H' σ sl := ⟨h.hold.step g, h.gs.trans g, h.up.trans g.up, h.fresh⟩
theorem HoldF.set (h : HoldF X J B0 H0 U B H σ sl) (j : Nat) {v : V} {x : Dd} (d : Dq X J B v x) : HoldF X J B0 H0 U B H (σ.set j (some v)) (sl.set j (.d x)) :=
  ⟨h.hold.set j d, h.gs, h.up, fun c s p e o q => by
    by_cases z : j = c
    · subst z
      by_cases hj : j < sl.length
      · rw [List.getElem?_set_self hj] at e; cases e; cases o
      · rw [List.getElem?_eq_none (by rw [List.length_set]; omega)] at e; cases e
    · rw [List.getElem?_set_ne z] at e
      rw [getD_set_ne z] at q
      exact h.fresh c s p e o q⟩
/-- a fresh own thing comes into a slot -/
theorem HoldF.setO (h : HoldF X J B0 H0 U B H σ sl) (j : Nat) {p : Addr} {s : Sd} (hs : AtS X J B H (some (.ref p)) s) (h0 : H0 p = none) (hn : ∀ c t q, c ≠ j → sl[c]? = some t → t.own = true → σ.getD c none = some (.ref q) → q ≠ p) : HoldF X J B0 H0 U B H (σ.set j (some (.ref p))) (sl.set j s) :=
  ⟨h.hold.setG j _ hs fun _ c t q ne e o e1 e2 => hn c t q ne e o e1 (by cases e2; rfl), h.gs, h.up, fun c t q e o e1 => by
    by_cases z : j = c
    · subst z
      by_cases hj : j < sl.length
      · rw [getD_set_eq (by rw [h.hold.len]; exact hj)] at e1
        cases e1
        exact h0
      · rw [List.getElem?_eq_none (by rw [List.length_set]; omega)] at e; cases e
    · rw [List.getElem?_set_ne z] at e
      rw [getD_set_ne z] at e1
      exact h.fresh c t q e o e1⟩
theorem Holds.own_at (h : Holds X J B H σ sl) {c : Nat} {t : Sd} {q : Addr} (e : sl[c]? = some t) (o : t.own = true) (e1 : σ.getD c none = some (.ref q)) : B q = none ∧ ¬ JarAt J q ∧ ∃ u, H q = some u := by
  have z := h.here c t e
  cases t with
  | no => cases o
  | d x => cases o
  | ol xs =>
    obtain ⟨p, vs, e2, e3, n, e4, _⟩ := z
    rw [e1] at e2
    cases e2
    exact ⟨e3, n, _, e4⟩
  | od xs =>
    obtain ⟨p, vs, e2, e3, n, e4, _⟩ := z
    rw [e1] at e2
    cases e2
    exact ⟨e3, n, _, e4⟩
  | fd xs =>
    obtain ⟨p, vs, e2, e3, n, ⟨o, e4⟩, _⟩ := z
    rw [e1] at e2
    cases e2
    exact ⟨e3, n, _, e4⟩
  | oj p c0 ns xs =>
    obtain ⟨vs, e2, e3, n, e4, _⟩ := z
    rw [e1] at e2
    cases e2
    exact ⟨e3, n, _, e4⟩
/-- the own thing of a slot is changed -/
theorem HoldF.put (h : HoldF X J B0 H0 U B H σ sl) {j : Nat} {p : Addr} {o : HO} {s t : Sd} (hj : sl[j]? = some t) (ho : t.own = true) (hp : σ.getD j none = some (.ref p)) (hs : AtS X J B (upd H p o) (some (.ref p)) s) : HoldF X J B0 H0 U B (upd H p o) σ (sl.set j s) := by
  obtain ⟨hb, nj, u, hu⟩ := h.hold.own_at hj ho hp
  have h0 := h.fresh j t p hj ho hp
  have g2 := h.gs.put o h0 hb nj
  have hj' : j < sl.length := (List.getElem?_eq_some_iff.mp hj).1
  refine ⟨⟨g2.sub, by rw [List.length_set]; exact h.hold.len, fun c r e => ?_, fun a c s1 s2 q ne e1 e2 o1 o2 q1 q2 => ?_, g2.jar⟩, g2, h.up, fun c s2 q e o2 e1 => ?_⟩
  · by_cases z : j = c
    · subst z
      rw [List.getElem?_set_self hj'] at e
      cases e
      rw [hp]
      exact hs
    · rw [List.getElem?_set_ne z] at e
      have y := h.hold.here c r e
      cases r with
      | no => trivial
      | d x => exact y
      | ol xs => obtain ⟨q, vs, e1, e2, n, e3, d⟩ := y; exact ⟨q, vs, e1, e2, n, by rw [upd_ne (own_ne h.hold hj ho hp c _ q (fun w => z w.symm) e rfl e1)]; exact e3, d⟩
      | od xs => obtain ⟨q, vs, e1, e2, n, e3, d⟩ := y; exact ⟨q, vs, e1, e2, n, by rw [upd_ne (own_ne h.hold hj ho hp c _ q (fun w => z w.symm) e rfl e1)]; exact e3, d⟩
      | fd xs => obtain ⟨q, vs, e1, e2, n, e3, d⟩ := y; exact ⟨q, vs, e1, e2, n, by rw [upd_ne (own_ne h.hold hj ho hp c _ q (fun w => z w.symm) e rfl e1)]; exact e3, d⟩
      | oj q c0 ns xs => obtain ⟨vs, e1, e2, n, e3, d⟩ := y; exact ⟨vs, e1, e2, n, by rw [upd_ne (own_ne h.hold hj ho hp c _ q (fun w => z w.symm) e rfl e1)]; exact e3, d⟩
  · have back : ∀ (c : Nat) (s1 : Sd), (sl.set j s)[c]? = some s1 → s1.own = true → ∃ s2 : Sd, sl[c]? = some s2 ∧ s2.own = true := fun c s1 e o => by
      by_cases z : j = c
      · subst z; exact ⟨t, hj, ho⟩
      · rw [List.getElem?_set_ne z] at e; exact ⟨s1, e, o⟩
    obtain ⟨t1, f1, f2⟩ := back a s1 e1 o1
    obtain ⟨t2, f3, f4⟩ := back c s2 e2 o2
    exact h.hold.apart a c t1 t2 q ne f1 f3 f2 f4 q1 q2
  · by_cases z : j = c
    · subst z
      exact h.fresh j t q hj ho e1
    · rw [List.getElem?_set_ne z] at e
      exact h.fresh c s2 q e o2 e1
theorem HoldF.thaw (h : HoldF X J B0 H0 U B H σ sl) {j : Nat} {s : Sd} (hj : sl[j]? = some s) (ho : s.free = true) : ∃ B', HoldF X J B0 H0 U B' H σ (sl.set j (.d s.thawed)) := by
  obtain ⟨p, o, e1, e2, n, e3, k2⟩ := h.hold.thaw' hj ho
  refine ⟨_, k2, h.gs.join (h.fresh j s p hj (Sd.free_own ho) e1) e2 e3 n, h.up.trans (Ex.new e2), fun c t q e o2 e4 => ?_⟩
  by_cases z : j = c
  · subst z
    rw [List.getElem?_set_self (List.getElem?_eq_some_iff.mp hj).1] at e
    cases e; cases o2
  · rw [List.getElem?_set_ne z] at e
    exact h.fresh c t q e o2 e4

/-! ### blocks -/
theorem wSs.cons {st : Stmt} {t : TS} (h : PS X st t) (q : t { D with nx := wSs X rest D } σ H) : wSs X (st :: rest) D σ H := wSs.of (pss_cons h pSs) q
theorem st_nil (h : ∀ σ B H, HoldF X J B0 H0 U B H σ sl → D.nx σ H) : St X J B0 H0 U sl [] D := fun F σ B H k => wSs.of pss_nil (h σ B H k)
theorem st_done (h : St X J B0 H0 U sl rest D) {D' : Ends} (hD : D'.nx = wSs X rest D) : St X J B0 H0 U sl [] D' := fun F σ B H k => wSs.of pss_nil (by
  show D'.nx σ H
  rw [hD]
  exact h F σ B H k)
/-- a thing that is owned is from now on only read -/
theorem st_frz {s : Sd} {sts : List Stmt} (j : Nat) (hj : sl[j]? = some s) (h : St X J B0 H0 U (sl.set j (.d s.thawed)) sts D) (ho : s.free = true := by rfl) : St X J B0 H0 U sl sts D := fun F σ B H k => by
  obtain ⟨B', k2⟩ := k.thaw hj ho
  exact h F σ B' H k2
theorem st_set (i : Nat) (h : TeP X J e sl P) (hr : ∀ x, P x → St X J B0 H0 U (sl.set i (.d x)) rest D) (hi : X.N[i]? = some nm := by rfl) (hx : Loc X.env.scope nm := by first | exact .inl rfl | exact .inr rfl)
    (hs : swapsWith e (some (.Name nm pp)) pos.line X.env = pure false := by rfl) (hf : X.fn nm = true ∨ X.env.scope.names.lookup nm = some .local := by first | exact .inl rfl | exact .inr rfl) :
    St X J B0 H0 U sl (.Assign [.Name nm pp] e pos :: rest) D := fun F σ B H k =>
  wSs.cons (ps_set F.nd hi hx pE hs hf) (h F σ B H k.hold _ fun v G H' x g d p => hr x p F _ G H' ((k.step g).set i d))
theorem HoldF.setL (k : HoldF X J B0 H0 U B H σ sl) (g : Gs X.K J B H G H') (i : Nat) {p : Addr} {s : Sd} (hH : H p = none) (hs : AtS X J G H' (some (.ref p)) s) : HoldF X J B0 H0 U G H' (σ.set i (some (.ref p))) (sl.set i s) := by
  refine (k.step g).setO i hs (k.gs.live _ hH) fun c t q ne e o e1 => ?_
  obtain ⟨_, _, u, hu⟩ := k.hold.own_at e o e1
  intro z
  rw [z, hH] at hu
  cases hu
/-- a fresh list, owned -/
theorem st_setL (i : Nat) {Pl : List PyData → Prop} (h : TlP X J e sl Pl) (hr : ∀ xs, Pl xs → St X J B0 H0 U (sl.set i (.ol xs)) rest D) (hi : X.N[i]? = some nm := by rfl) (hx : Loc X.env.scope nm := by first | exact .inl rfl | exact .inr rfl)
    (hs : swapsWith e (some (.Name nm pp)) pos.line X.env = pure false := by rfl) (hf : X.fn nm = true ∨ X.env.scope.names.lookup nm = some .local := by first | exact .inl rfl | exact .inr rfl) :
    St X J B0 H0 U sl (.Assign [.Name nm pp] e pos :: rest) D := fun F σ B H k =>
  wSs.cons (ps_set F.nd hi hx pE hs hf) (h F σ B H k.hold _ fun p vs xs G H' g h1 h2 nj h3 h4 hp => hr xs hp F _ G H' (k.setL g i h1 ⟨p, vs, rfl, h2, nj, h3, h4⟩))
/-- name = [.. for ..] on one line -/
theorem st_setLc {α : Type} {ts : List α} {enc f : α → PyData} {elt tg iter : Expr} {scope : Scope} {own : List (Str × Nat)} {g : TG} {cpos : Pos} (i : Nat) (hi : Ti X J tg iter sl (ts.map enc)) (hl : ts.length ≤ 1000000) (ok : BlkOk X.N X.env.scope scope own)
    (hg : InBlocks X scope fun X' => PG X' tg g) (hb : ∀ t ∈ ts, ∃ sl' js, Tg X J g (enc t) (wipeS sl (own.map (·.2))) sl' js ∧ js ⊆ own.map (·.2) ∧ Blk X scope fun X' => Te X' J elt sl' (.d (f t)))
    (hr : St X J B0 H0 U (sl.set i (.ol (ts.map f))) rest D) (hN : X.N[i]? = some nm := by rfl) (hyl : X.env.scope.names.lookup nm = some .local := by rfl)
    (hsw : swapsWith (.ListComp elt [⟨tg, iter, [], 0⟩] scope cpos) (some (.Name nm pp)) pos.line X.env = pure true := by exact sw_true rfl rfl rfl (by decide +kernel)) (hs : ∀ x, foldedSetIterable iter X.env x = pure x := by intro _; rfl) :
    St X J B0 H0 U sl (.Assign [.Name nm pp] (.ListComp elt [⟨tg, iter, [], 0⟩] scope cpos) pos :: rest) D := fun F σ B H k => by
  obtain ⟨wi, pi, w⟩ := hi.k F
  refine wSs.cons (ps_setLc F.calm F.nd hN hyl hsw pi ok hg (fun _ _ _ _ _ => pts_nil) pEb hs) ?_
  refine lc_run (keep := fun _ => true) (f := f) F w hl (fun t ht => ?_) k.hold _ fun p vs G H' g h1 h2 nj h3 h4 => ?_
  · obtain ⟨sl', js, a, b, c⟩ := hb t ht
    exact ⟨sl', js, a, b, fun σ B H F k Q q => q H (Gs.refl k.ex k.jar), fun _ => c⟩
  · rw [show ts.filter (fun _ => true) = ts from List.filter_eq_self.mpr fun _ _ => rfl] at h4
    exact hr F _ G H' (k.setL g i h1 ⟨p, vs, rfl, h2, nj, h3, h4⟩)
/-- a, b = .. -/
theorem st_asg {tg : Expr} {g : TG} (hg : PG X tg g) (h : TeP X J e sl P) (hr : ∀ x, P x → ∃ d sl' js, x = .d d ∧ Tg X J g d sl sl' js ∧ (∀ B H σ σ', HoldF X J B0 H0 U B H σ sl → Holds X J B H σ' sl' → (∀ k, k ∉ js → σ'[k]? = σ[k]?) → HoldF X J B0 H0 U B H σ' sl') ∧ St X J B0 H0 U sl' rest D)
    (hs : swapsWithSole [tg] e pos.line X.env = pure false := by rfl) (hw : swappedStores [tg] e X.env = pure none := by rfl) (h1 : (assignEach [tg] X.env).map (·.2) = [assign tg X.env] := by rfl) :
    St X J B0 H0 U sl (.Assign [tg] e pos :: rest) D := fun F σ B H k =>
  wSs.cons (ps_asg pE hg hs hw h1) (h F σ B H k.hold _ fun v G H' x g d p => by
    obtain ⟨dd, sl', js, rfl, t, kp, r⟩ := hr x p
    exact t σ G H' v (k.hold.step g) d _ fun σ' k2 l2 n2 => r F σ' G H' (kp G H' σ σ' (k.step g) k2 n2))
/-- what a target's slots leave: no slot of theirs is owned then, all others are as they were -/
theorem tg_keep {js : List Nat} (hl : ∀ j s, sl'[j]? = some s → s.own = true → j ∉ js ∧ sl[j]? = some s) : ∀ B H σ σ', HoldF X J B0 H0 U B H σ sl → Holds X J B H σ' sl' → (∀ k, k ∉ js → σ'[k]? = σ[k]?) → HoldF X J B0 H0 U B H σ' sl' := fun B H σ σ' k k2 n =>
  ⟨k2, k.gs, k.up, fun j s p e o q => by
    obtain ⟨a, b⟩ := hl j s e o
    refine k.fresh j s p b o ?_
    rw [List.getD_eq_getElem?_getD] at q ⊢
    rw [← n j a]
    exact q⟩
theorem st_if {c : Expr} {a b : List Stmt} {Pb : Bool → Prop} (hc : TtP X J c sl Pb) (ha : Pb true → St X J B0 H0 U sl a { D with nx := wSs X rest D }) (hb : Pb false → St X J B0 H0 U sl b { D with nx := wSs X rest D }) : St X J B0 H0 U sl (.If c a b pos :: rest) D := fun F σ B H k =>
  wSs.cons (ps_if pT pSs pSs) (hc F σ B H k.hold _ fun x H' g p => by
    cases x with
    | true => exact ha p F σ B H' (k.step g)
    | false => exact hb p F σ B H' (k.step g))
theorem st_ret (h : TeP X J e sl P) (hr : ∀ v G H' x, Gs X.K J B0 H0 G H' → Dq X J G v x → P x → D.rt v H') : St X J B0 H0 U sl (.Return (some e) pos :: rest) D := fun F σ B H k =>
  wSs.cons (ps_ret pE) (h F σ B H k.hold _ fun v G H' x g d p => hr v G H' x (k.gs.trans g) d p)
theorem st_retH (h : TeP X J e sl P) (hr : ∀ v G H' x σ, HoldF X J B0 H0 U G H' σ sl → Dq X J G v x → P x → D.rt v H') : St X J B0 H0 U sl (.Return (some e) pos :: rest) D := fun F σ B H k =>
  wSs.cons (ps_ret pE) (h F σ B H k.hold _ fun v G H' x g d p => hr v G H' x σ (k.step g) d p)
theorem st_retL {Pl : List PyData → Prop} (h : TlP X J e sl Pl) (hr : ∀ p vs xs G H', Gs X.K J B0 H0 G H' → H0 p = none → G p = none → ¬ JarAt J p → H' p = some (.lst vs) → DpAll X.K G vs xs → Pl xs → D.rt (.ref p) H') : St X J B0 H0 U sl (.Return (some e) pos :: rest) D := fun F σ B H k =>
  wSs.cons (ps_ret pE) (h F σ B H k.hold _ fun p vs xs G H' g h1 h2 nj h3 h4 hp => hr p vs xs G H' (k.gs.trans g) (k.gs.live _ h1) h2 nj h3 h4 hp)
theorem st_expr (h : TeP X J e sl P) (hr : St X J B0 H0 U sl rest D) (hs : swapsWith e none pos.line X.env = pure false := by rfl) : St X J B0 H0 U sl (.Expr e pos :: rest) D := fun F σ B H k =>
  wSs.cons (ps_expr pE hs) (h F σ B H k.hold _ fun v G H' x g d p => hr F σ G H' (k.step g))

/-! ### own lists change -/
theorem st_append {ds : List PyData} {d : PyData} {ap cp : Pos} (i : Nat) (hi : sl[i]? = some (.ol ds)) (h : Te X J e sl (.d d)) (hl : ds.length ≤ 4000000) (hr : St X J B0 H0 U (sl.set i (.ol (ds ++ [d]))) rest D) (hN : X.N[i]? = some nm := by rfl)
    (hv : Vis X.env.scope nm := by first | exact Or.inl rfl | exact Or.inr (Or.inl rfl) | exact Or.inr (Or.inr rfl)) (hdb : (nm == ("__debug__" : Str)) = false := by decide) (hcd : (nm == ("__classdict__" : Str)) = false := by decide)
    (hbase : attributeBase (.Name nm pp) "append" X.env (eval (.Name nm pp) X.env) = eval (.Name nm pp) X.env := by rfl)
    (hfew : ((backTo cp (starEach [e] X.env)).all (fun x => !x.1) && (backToKw cp (keywordEach [] X.env)).all (fun x => x.1.isSome) && decide ([e].length + ([] : List Keyword).length + (if ([] : List Keyword).isEmpty then 0 else 1) < 30)) = true := by rfl)
    (hline : (ap.endLine == cp.line) = true := by rfl) (hs : starEach [e] X.env = (false, eval e X.env) :: starEach [] X.env := by rfl) (hplain : (backTo cp (starEach [] X.env)).any (·.1) = false := by rfl) :
    St X J B0 H0 U sl (.Expr (.Call (.Attribute (.Name nm pp) "append" ap) [e] [] cp) pos :: rest) D := fun F σ B H k => by
  obtain ⟨p, vs, e1, e2, n, e3, dd⟩ := k.hold.here i _ hi
  refine wSs.cons (ps_expr (pe_bm PySem.F.plainAttrs_list PySem.F.slot_list_append PySem.F.type_list_append mt_append (pv i hN hv hdb hcd) (pa_cons pE pa_nil hs) hbase hfew hline hs hplain)) ?_
  refine ⟨.ref p, getD_some e1, .inl ⟨rfl, vs, sq_of e3⟩, h F σ B H k.hold _ fun v G H' x g d' ex => ?_⟩
  subst ex
  have e3' := g.keep _ _ n e3
  refine ⟨p, vs, v, rfl, rfl, e3', by rw [dps_len dd, sizeLine_eq]; omega, hr F σ G _ ((k.step g).put hi rfl e1 ⟨p, _, rfl, g.off e3 e2, n, upd_same, dps_app (dps_ex g.up _ _ dd) (.cons d' .nil)⟩)⟩
theorem st_extend {ds xs : List PyData} {ap cp : Pos} (i : Nat) (hi : sl[i]? = some (.ol ds)) (h : Te X J e sl (.l xs)) (hl : ds.length + xs.length ≤ 4000000) (hr : St X J B0 H0 U (sl.set i (.ol (ds ++ xs))) rest D) (hN : X.N[i]? = some nm := by rfl)
    (hv : Vis X.env.scope nm := by first | exact Or.inl rfl | exact Or.inr (Or.inl rfl) | exact Or.inr (Or.inr rfl)) (hdb : (nm == ("__debug__" : Str)) = false := by decide) (hcd : (nm == ("__classdict__" : Str)) = false := by decide)
    (hbase : attributeBase (.Name nm pp) "extend" X.env (eval (.Name nm pp) X.env) = eval (.Name nm pp) X.env := by rfl)
    (hfew : ((backTo cp (starEach [e] X.env)).all (fun x => !x.1) && (backToKw cp (keywordEach [] X.env)).all (fun x => x.1.isSome) && decide ([e].length + ([] : List Keyword).length + (if ([] : List Keyword).isEmpty then 0 else 1) < 30)) = true := by rfl)
    (hline : (ap.endLine == cp.line) = true := by rfl) (hs : starEach [e] X.env = (false, eval e X.env) :: starEach [] X.env := by rfl) (hplain : (backTo cp (starEach [] X.env)).any (·.1) = false := by rfl) :
    St X J B0 H0 U sl (.Expr (.Call (.Attribute (.Name nm pp) "extend" ap) [e] [] cp) pos :: rest) D := fun F σ B H k => by
  obtain ⟨p, vs, e1, e2, n, e3, dd⟩ := k.hold.here i _ hi
  refine wSs.cons (ps_expr (pe_bm PySem.F.plainAttrs_list PySem.F.slot_list_extend PySem.F.type_list_extend mt_extend (pv i hN hv hdb hcd) (pa_cons pE pa_nil hs) hbase hfew hline hs hplain)) ?_
  refine ⟨.ref p, getD_some e1, .inl ⟨rfl, vs, sq_of e3⟩, h F σ B H k.hold _ fun v G H' x g d' ex => ?_⟩
  subst ex
  obtain ⟨b, us, rfl, f1, f2⟩ := d'
  have e3' := g.keep _ _ n e3
  refine ⟨p, b, vs, us, rfl, rfl, e3', g.sub _ _ f1, by rw [dps_len dd, dps_len f2, sizeLine_eq]; omega, hr F σ G _ ((k.step g).put hi rfl e1 ⟨p, _, rfl, g.off e3 e2, n, upd_same, dps_app (dps_ex g.up _ _ dd) f2⟩)⟩
theorem st_augL {ds xs : List PyData} (i : Nat) (hi : sl[i]? = some (.ol ds)) (h : Te X J e sl (.l xs)) (hl : ds.length + xs.length ≤ 4000000) (hr : St X J B0 H0 U (sl.set i (.ol (ds ++ xs))) rest D) (hN : X.N[i]? = some nm := by rfl)
    (hx : Loc X.env.scope nm := by first | exact .inl rfl | exact .inr rfl) (hf : X.fn nm = true ∨ X.env.scope.names.lookup nm = some .local := by first | exact .inl rfl | exact .inr rfl) :
    St X J B0 H0 U sl (.AugAssign (.Name nm pp) .Add e pos :: rest) D := fun F σ B H k => by
  obtain ⟨p, vs, e1, e2, n, e3, dd⟩ := k.hold.here i _ hi
  refine wSs.cons (ps_aug F.nd hN hx pE iop_ext hf) ?_
  refine ⟨.ref p, getD_some e1, h F σ B H k.hold _ fun v G H' x g d' ex => ?_⟩
  subst ex
  obtain ⟨b, us, rfl, f1, f2⟩ := d'
  have e3' := g.keep _ _ n e3
  refine ⟨p, b, vs, us, rfl, rfl, e3', g.sub _ _ f1, by rw [dps_len dd, dps_len f2, sizeLine_eq]; omega, ?_⟩
  have z := (k.step g).put (o := .lst (vs ++ us)) hi rfl e1 (s := .ol (ds ++ xs)) ⟨p, _, rfl, g.off e3 e2, n, upd_same, dps_app (dps_ex g.up _ _ dd) f2⟩
  have es : σ.set i (some (.ref p)) = σ := by
    have hi' : i < σ.length := by rw [k.hold.len]; exact (List.getElem?_eq_some_iff.mp hi).1
    apply List.ext_getElem?
    intro c
    by_cases w : i = c
    · subst w; rw [List.getElem?_set_self hi', getD_some e1]
    · rw [List.getElem?_set_ne w]
  show wSs X rest D (σ.set i (some (.ref p))) _
  rw [es]
  exact hr F σ G _ z
/-- target = name.pop() -/
theorem st_pop {ds : List PyData} {d : PyData} {tg : Expr} {g : TG} {js : List Nat} {ap cp : Pos} (i : Nat) (hi : sl[i]? = some (.ol (ds ++ [d]))) (hg : PG X tg g) (ht : Tg X J g d (sl.set i (.ol ds)) sl' js)
    (hk : ∀ j s, sl'[j]? = some s → s.own = true → j ∉ js ∧ (sl.set i (.ol ds))[j]? = some s) (hr : St X J B0 H0 U sl' rest D) (hN : X.N[i]? = some nm := by rfl)
    (hv : Vis X.env.scope nm := by first | exact Or.inl rfl | exact Or.inr (Or.inl rfl) | exact Or.inr (Or.inr rfl)) (hdb : (nm == ("__debug__" : Str)) = false := by decide) (hcd : (nm == ("__classdict__" : Str)) = false := by decide)
    (hbase : attributeBase (.Name nm pp) "pop" X.env (eval (.Name nm pp) X.env) = eval (.Name nm pp) X.env := by rfl) (hline : (ap.endLine == cp.line) = true := by rfl)
    (hs : swapsWithSole [tg] (.Call (.Attribute (.Name nm pp) "pop" ap) [] [] cp) pos.line X.env = pure false := by rfl) (hw : swappedStores [tg] (.Call (.Attribute (.Name nm pp) "pop" ap) [] [] cp) X.env = pure none := by rfl) (h1 : (assignEach [tg] X.env).map (·.2) = [assign tg X.env] := by rfl) :
    St X J B0 H0 U sl (.Assign [tg] (.Call (.Attribute (.Name nm pp) "pop" ap) [] [] cp) pos :: rest) D := fun F σ B H k => by
  obtain ⟨p, vs, e1, e2, n, e3, dd⟩ := k.hold.here i _ hi
  refine wSs.cons (ps_asg (pe_bm0 PySem.F.plainAttrs_list PySem.F.slot_list_pop PySem.F.type_list_pop mt_pop (pv i hN hv hdb hcd) hbase hline) hg hs hw h1) ?_
  have hlen := dps_len dd
  rw [List.length_append, List.length_singleton] at hlen
  have hlt : vs.length - 1 < vs.length := by omega
  obtain ⟨d', f1, f2⟩ := dps_get dd (List.getElem?_eq_getElem hlt)
  have : d' = d := by
    rw [List.getElem?_append_right (by omega)] at f1
    have z : vs.length - 1 - ds.length = 0 := by omega
    rw [z] at f1
    exact (Option.some.inj f1).symm
  subst this
  refine ⟨.ref p, getD_some e1, .inl ⟨rfl, vs, sq_of e3⟩, p, vs, vs[vs.length - 1], rfl, rfl, e3, List.getElem?_eq_getElem hlt, ?_⟩
  have key : ∀ (vs : List V) (ds : List PyData), DpAll X.K B vs (ds ++ [d']) → DpAll X.K B vs.dropLast ds := by
    intro vs ds
    induction ds generalizing vs with
    | nil =>
      intro h
      cases h with
      | cons a b => cases b; exact .nil
    | cons x ds ih =>
      intro h
      cases h with
      | @cons v us _ _ a b =>
        have hne : us ≠ [] := fun z => by
          have w := dps_len b
          rw [z] at w
          change 0 = (ds ++ [d']).length at w
          rw [List.length_append, List.length_singleton] at w
          omega
        rw [List.dropLast_cons_of_ne_nil hne]
        exact .cons a (ih _ b)
  have z := k.put (o := .lst vs.dropLast) hi rfl e1 (s := .ol ds) ⟨p, _, rfl, e2, n, upd_same, key vs ds dd⟩
  exact ht σ B _ _ z.hold f2 _ fun σ' k2 l2 n2 => hr F σ' B _ (tg_keep hk B _ σ σ' z k2 n2)
/-- name[at] = e -/
theorem st_putL {ds : List PyData} {d : PyData} {ix : Expr} {j : Int} {c : Nat} {sp : Pos} (i : Nat) (hi : sl[i]? = some (.ol ds)) (h : Te X J e sl (.d d)) (hx : Te X J ix sl (dI j)) (hc : ixN ds.length j = some c) (hr : St X J B0 H0 U (sl.set i (.ol (ds.set c d))) rest D) (hN : X.N[i]? = some nm := by rfl)
    (hv : Vis X.env.scope nm := by first | exact Or.inl rfl | exact Or.inr (Or.inl rfl) | exact Or.inr (Or.inr rfl)) (hdb : (nm == ("__debug__" : Str)) = false := by decide) (hcd : (nm == ("__classdict__" : Str)) = false := by decide)
    (ha : ∀ v, assign (.Subscript (.Name nm pp) ix sp) X.env v = (do
      let ov ← holding [v] (eval (.Name nm pp) X.env)
      let iv ← holding [v, ov] (eval ix X.env)
      standAt sp
      holding [v, ov, iv] (setItem ov iv v)
      release [v, ov, iv] []) := by intro _; rfl)
    (hs : swapsWithSole [.Subscript (.Name nm pp) ix sp] e pos.line X.env = pure false := by rfl) (hw : swappedStores [.Subscript (.Name nm pp) ix sp] e X.env = pure none := by rfl) (h1 : (assignEach [.Subscript (.Name nm pp) ix sp] X.env).map (·.2) = [assign (.Subscript (.Name nm pp) ix sp) X.env] := by rfl) :
    St X J B0 H0 U sl (.Assign [.Subscript (.Name nm pp) ix sp] e pos :: rest) D := fun F σ B H k => by
  obtain ⟨p, vs, e1, e2, n, e3, dd⟩ := k.hold.here i _ hi
  refine wSs.cons (ps_asg pE (pg_sub (pv i hN hv hdb hcd) pE set_list ha) hs hw h1) ?_
  refine h F σ B H k.hold _ fun v G H' x g d1 ex => ⟨.ref p, getD_some e1, hx F σ G H' (k.hold.step g) _ fun w G2 H2 y g2 d2 ey => ?_⟩
  subst ex ey
  cases d2
  have g3 := g.trans g2
  have key : ∀ (c : Nat) (vs : List V) (ds : List PyData), DpAll X.K G2 vs ds → DpAll X.K G2 (vs.set c v) (ds.set c d) := by
    intro c
    induction c with
    | zero => intro vs ds h; cases h with
      | nil => exact .nil
      | cons a b => exact .cons (dq_ex (x := .d d) (J := J) g2.up d1) b
    | succ c ih => intro vs ds h; cases h with
      | nil => exact .nil
      | cons a b => exact .cons a (ih _ _ b)
  exact ⟨p, vs, j, c, rfl, rfl, g3.keep _ _ n e3, by rw [dps_len dd]; exact hc, hr F σ G2 _ ((k.step g3).put hi rfl e1 ⟨p, _, rfl, g3.off e3 e2, n, upd_same, key c vs ds (dps_ex g3.up _ _ dd)⟩)⟩
/-- .. of a jar's list -/
theorem st_putJ {q0 c0 : Addr} {ns : List Int} {ds : List PyData} {d : PyData} {ix : Expr} {j : Int} {c : Nat} {sp : Pos} (i : Nat) (hi : sl[i]? = some (.oj q0 c0 ns ds)) (h : Te X J e sl (.d d)) (hx : Te X J ix sl (dI j)) (hc : ixN (ds.length + 1) j = some (c + 1)) (hr : St X J B0 H0 U (sl.set i (.oj q0 c0 ns (ds.set c d))) rest D) (hN : X.N[i]? = some nm := by rfl)
    (hv : Vis X.env.scope nm := by first | exact Or.inl rfl | exact Or.inr (Or.inl rfl) | exact Or.inr (Or.inr rfl)) (hdb : (nm == ("__debug__" : Str)) = false := by decide) (hcd : (nm == ("__classdict__" : Str)) = false := by decide)
    (ha : ∀ v, assign (.Subscript (.Name nm pp) ix sp) X.env v = (do
      let ov ← holding [v] (eval (.Name nm pp) X.env)
      let iv ← holding [v, ov] (eval ix X.env)
      standAt sp
      holding [v, ov, iv] (setItem ov iv v)
      release [v, ov, iv] []) := by intro _; rfl)
    (hs : swapsWithSole [.Subscript (.Name nm pp) ix sp] e pos.line X.env = pure false := by rfl) (hw : swappedStores [.Subscript (.Name nm pp) ix sp] e X.env = pure none := by rfl) (h1 : (assignEach [.Subscript (.Name nm pp) ix sp] X.env).map (·.2) = [assign (.Subscript (.Name nm pp) ix sp) X.env] := by rfl) :
    St X J B0 H0 U sl (.Assign [.Subscript (.Name nm pp) ix sp] e pos :: rest) D := fun F σ B H k => by
  obtain ⟨vs, e1, e2, n, e3, d0, dd⟩ := k.hold.here i _ hi
  refine wSs.cons (ps_asg pE (pg_sub (pv i hN hv hdb hcd) pE set_list ha) hs hw h1) ?_
  refine h F σ B H k.hold _ fun v G H' x g d1 ex => ⟨.ref q0, getD_some e1, hx F σ G H' (k.hold.step g) _ fun w G2 H2 y g2 d2 ey => ?_⟩
  subst ex ey
  cases d2
  have g3 := g.trans g2
  have key : ∀ (c : Nat) (vs : List V) (ds : List PyData), DpAll X.K G2 vs ds → DpAll X.K G2 (vs.set c v) (ds.set c d) := by
    intro c
    induction c with
    | zero => intro vs ds h; cases h with
      | nil => exact .nil
      | cons a b => exact .cons (dq_ex (x := .d d) (J := J) g2.up d1) b
    | succ c ih => intro vs ds h; cases h with
      | nil => exact .nil
      | cons a b => exact .cons a (ih _ _ b)
  exact ⟨q0, _, j, c + 1, rfl, rfl, g3.keep _ _ n e3, by rw [List.length_cons, dps_len dd]; exact hc, hr F σ G2 _ ((k.step g3).put hi rfl e1 ⟨_, rfl, g3.off e3 e2, n, upd_same, ex_l g3.up d0, key c vs ds (dps_ex g3.up _ _ dd)⟩)⟩
/-- name[key] = e, an own dict -/
theorem st_putD {xs : List KD} {d dk : PyData} {kk : NestedKey} {ix : Expr} {sp : Pos} (i : Nat) (hi : sl[i]? = some (.od xs)) (h : Te X J e sl (.d d)) (hx : Te X J ix sl (.d dk)) (hk : KeyD kk) (ek : dk = kk.data) (hl : xs.length ≤ 4000000) (hr : St X J B0 H0 U (sl.set i (.od (storeK xs kk d))) rest D) (hN : X.N[i]? = some nm := by rfl)
    (hv : Vis X.env.scope nm := by first | exact Or.inl rfl | exact Or.inr (Or.inl rfl) | exact Or.inr (Or.inr rfl)) (hdb : (nm == ("__debug__" : Str)) = false := by decide) (hcd : (nm == ("__classdict__" : Str)) = false := by decide)
    (ha : ∀ v, assign (.Subscript (.Name nm pp) ix sp) X.env v = (do
      let ov ← holding [v] (eval (.Name nm pp) X.env)
      let iv ← holding [v, ov] (eval ix X.env)
      standAt sp
      holding [v, ov, iv] (setItem ov iv v)
      release [v, ov, iv] []) := by intro _; rfl)
    (hs : swapsWithSole [.Subscript (.Name nm pp) ix sp] e pos.line X.env = pure false := by rfl) (hw : swappedStores [.Subscript (.Name nm pp) ix sp] e X.env = pure none := by rfl) (h1 : (assignEach [.Subscript (.Name nm pp) ix sp] X.env).map (·.2) = [assign (.Subscript (.Name nm pp) ix sp) X.env] := by rfl) :
    St X J B0 H0 U sl (.Assign [.Subscript (.Name nm pp) ix sp] e pos :: rest) D := fun F σ B H k => by
  obtain ⟨p, es, e1, e2, n, e3, d3, dd⟩ := k.hold.here i _ hi
  refine wSs.cons (ps_asg pE (pg_sub (pv i hN hv hdb hcd) pE (set_dictN F.un64) ha) hs hw h1) ?_
  refine h F σ B H k.hold _ fun v G H' x g d1 ex => ⟨.ref p, getD_some e1, hx F σ G H' (k.hold.step g) _ fun w G2 H2 y g2 d2 ey => ?_⟩
  subst ex ey ek
  obtain ⟨b, rfl, kb⟩ := hk.at d2
  have g3 := g.trans g2
  have hlen : es.length = xs.length := Paired.length dd
  exact ⟨b, p, kk, es, rfl, rfl, g3.keep _ _ n e3, (d3.ex g3.up).ex g3.sub, kb.ex g3.sub, by rw [hlen, sizeLine_eq]; omega,
    hr F σ G2 _ ((k.step g3).put hi rfl e1 ⟨p, _, rfl, g3.off e3 e2, n, upd_same, (d3.ex g3.up).store kb, entD_store (entD_ex g3.up dd) kk b (dq_ex (x := .d d) (J := J) g2.up d1)⟩)⟩
/-- name = {} -/
theorem st_setD0 (i : Nat) (hr : St X J B0 H0 U (sl.set i (.od [])) rest D) {dp : Pos} (hi : X.N[i]? = some nm := by rfl) (hx : Loc X.env.scope nm := by first | exact .inl rfl | exact .inr rfl)
    (hs : swapsWith (.Dict [] [] dp) (some (.Name nm pp)) pos.line X.env = pure false := by rfl) (hf : X.fn nm = true ∨ X.env.scope.names.lookup nm = some .local := by first | exact .inl rfl | exact .inr rfl) :
    St X J B0 H0 U sl (.Assign [.Name nm pp] (.Dict [] [] dp) pos :: rest) D := fun F σ B H k =>
  wSs.cons (ps_set F.nd hi hx pe_dnewN hs hf) (by
    intro p hp
    exact hr F _ B _ (k.setL (Gs.same k.hold.ex (Ex.new hp) k.hold.jar) i hp ⟨p, ([] : List Ent), rfl, fresh_back k.hold.ex hp, k.hold.jar.ne hp, upd_same, (fun _ z => (by cases z)), Paired.nil⟩))

/-! ### loops -/
/-- at turn i of a loop -/
def NXF (X : Cx) (J : Option Jar) (B0 H0 U : Hp) (I : List Sd → Prop) : L2.St → Hp → Prop := fun σ H => ∃ sl B, I sl ∧ HoldF X J B0 H0 U B H σ sl
theorem HoldF.upU {U' : Hp} (h : HoldF X J B0 H0 U B H σ sl) (e : Ex U' B) : HoldF X J B0 H0 U' B H σ sl := ⟨h.hold, h.gs, e, h.fresh⟩
theorem st_for {α : Type} {ts : List α} {enc : α → PyData} {tg iter : Expr} {g : TG} (I : Nat → List Sd → Prop) (hi : Ti X J tg iter sl (ts.map enc)) (hg : PG X tg g) (h0 : I 0 sl)
    (hb : ∀ i t sl1, ts[i]? = some t → I i sl1 → ∃ sl2 js, Tg X J g (enc t) sl1 sl2 js ∧ (∀ j s, sl2[j]? = some s → s.own = true → j ∉ js ∧ sl1[j]? = some s) ∧ ∀ U', Ex U U' → St X J B0 H0 U' sl2 body { D with nx := NXF X J B0 H0 U' (I (i + 1)), ct := NXF X J B0 H0 U' (I (i + 1)), bk := wSs X rest D })
    (hd : ∀ sl1, I ts.length sl1 → St X J B0 H0 U sl1 rest D) (hp : PassesOwn (model X.prog X.w) X.A X.env X.xe := by exact PassesOwn.never) (hs : ∀ x, foldedSetIterable iter X.env x = pure x := by intro _; rfl) : St X J B0 H0 U sl (.For tg iter body [] pos :: rest) D := fun F σ B H k => by
  obtain ⟨wi, pi, w⟩ := hi F
  refine wSs.cons (ps_for hp F.calm pi hg pSs hs) (w σ B H k.hold _ fun It G H1 g1 wk => ?_)
  rw [List.length_map] at wk
  refine for_it wk (fun i σ H => ∃ sl1 B1, I i sl1 ∧ HoldF X J B0 H0 U B1 H σ sl1 ∧ Ex G B1) ⟨sl, G, h0, k.step g1, Ex.refl G⟩ ?_ ?_ ?_
  · rintro i σ H _ ⟨sl1, B1, _, k1, e⟩
    exact e.trans k1.hold.ex
  · rintro i x σ1 H2 H3 hi ⟨sl1, B1, i1, k1, e1⟩ y
    obtain ⟨G3, d, g3, hd, dp⟩ := y B1 e1 k1.hold.ex k1.hold.jar
    have ht : ts[i]? = some ts[i] := List.getElem?_eq_getElem hi
    obtain rfl : enc ts[i] = d := by
      rw [List.getElem?_map, ht] at hd
      exact Option.some.inj hd
    obtain ⟨sl2, js, t1, t2, t3⟩ := hb i ts[i] sl1 ht i1
    have k2 := k1.step g3
    refine t1 σ1 G3 H3 x k2.hold dp _ fun σ2 k3 l3 n3 => ?_
    have k4 := tg_keep (B0 := B0) (H0 := H0) (U := U) t2 G3 H3 σ1 σ2 k2 k3 n3
    have z := t3 (G3) k4.up F σ2 G3 H3 (k4.upU (Ex.refl G3))
    refine fun pins s Iv => ?_
    refine wpAny_mono (z pins s Iv) (fun f s' q => ?_) fun _ _ x => x
    have fin : ∀ σ' H', NXF X J B0 H0 G3 (I (i + 1)) σ' H' → ∃ sl1 B1, I (i + 1) sl1 ∧ HoldF X J B0 H0 U B1 H' σ' sl1 ∧ Ex G B1 := fun σ' H' ⟨s5, B5, i5, k5⟩ =>
      ⟨s5, B5, i5, k5.upU (k4.up.trans k5.up), (e1.trans g3.up).trans k5.up⟩
    cases f with
    | next => obtain ⟨σ', H', I', q⟩ := q; exact ⟨σ', H', I', fin σ' H' q⟩
    | cont => obtain ⟨σ', H', I', q⟩ := q; exact ⟨σ', H', I', fin σ' H' q⟩
    | brk => exact q
    | ret v => exact q
  · rintro σ1 H2 ⟨sl1, B1, i1, k1, _⟩
    exact hd sl1 i1 F σ1 B1 H2 k1
theorem st_while {c : Expr} (I : Nat → List Sd → Prop) (m0 : Nat) (h0 : I m0 sl)
    (hb : ∀ m sl1, I m sl1 → ∃ b, Tt X J c sl1 b ∧ (b = true → St X J B0 H0 U sl1 body { D with nx := NXF X J B0 H0 U fun s => ∃ m', m' < m ∧ I m' s, ct := NXF X J B0 H0 U fun s => ∃ m', m' < m ∧ I m' s, bk := wSs X rest D }) ∧ (b = false → St X J B0 H0 U sl1 rest D))
    (hp : PassesOwn (model X.prog X.w) X.A X.env X.xe := by exact PassesOwn.never) : St X J B0 H0 U sl (.While c body [] pos :: rest) D := fun F σ B H k => by
  refine wSs.cons (ps_while hp pT pSs) ⟨fun m σ H => ∃ sl1 B1, I m sl1 ∧ HoldF X J B0 H0 U B1 H σ sl1, ⟨m0, sl, B, h0, k⟩, ?_⟩
  rintro m σ1 H1 ⟨sl1, B1, i1, k1⟩
  obtain ⟨b, h1, h2, h3⟩ := hb m sl1 i1
  refine h1 F σ1 B1 H1 k1.hold _ fun x H2 g e => ?_
  subst e
  have k2 := k1.step g
  cases x with
  | true => exact ⟨NXF X J B0 H0 U fun s => ∃ m', m' < m ∧ I m' s, fun σ' H' ⟨s5, B5, ⟨m', hm, i5⟩, k5⟩ => ⟨m', hm, s5, B5, i5, k5⟩, h2 rfl F σ1 B1 H2 k2⟩
  | false => exact h3 rfl F σ1 B1 H2 k2
end

/-! ### a def's body -/
theorem dq_cx {X X' : Cx} {J : Option Jar} (h1 : X.prog = X'.prog) (h2 : X.w = X'.w) (h3 : X.K = X'.K) {H : Hp} {v : V} {x : Dd} (d : Dq X J H v x) : Dq X' J H v x := by
  cases x with
  | d x => show Dp X'.K H v x; rw [← h3]; exact d
  | n xs =>
    obtain ⟨a, es, e1, e2, e3, e4⟩ := d
    refine ⟨a, es, e1, ?_, ?_, ?_⟩
    · rw [← h1, ← h2]; exact e2
    · rw [← h3]; exact e3
    · rw [← h3]; exact e4
  | jar => exact d
  | l xs =>
    obtain ⟨a, es, e1, e2, e3⟩ := d
    exact ⟨a, es, e1, e2, by rw [← h3]; exact e3⟩
theorem start_at {N : List Str} {vs : List V} {j : Nat} : (L2.start N vs).getD j none = vs[j]? := by
  unfold L2.start
  rw [List.getD_eq_getElem?_getD]
  by_cases h : j < vs.length
  · rw [List.getElem?_append_left (by rw [List.length_map]; exact h), List.getElem?_map, List.getElem?_eq_getElem h]
    rfl
  · rw [List.getElem?_append_right (by rw [List.length_map]; omega), List.getElem?_replicate, List.getElem?_eq_none (Nat.le_of_not_lt h)]
    split <;> rfl
/-- the slots at a def's entry -/
abbrev slots0 (N : List Str) (xs : List Dd) : List Sd := xs.map .d ++ List.replicate (N.length - xs.length) .no
theorem start_hold {X X' : Cx} {J : Option Jar} {B H : Hp} {N ps : List Str} {vs : List V} {xs : List Dd} (h1 : X.prog = X'.prog) (h2 : X.w = X'.w) (h3 : X.K = X'.K) (hps : N.take ps.length = ps) (hxl : xs.length = ps.length) (ex : Ex B H) (jar : JarOK X.K J B H) (d : DqAll X J B vs xs) :
    HoldF X' J B H B B H (L2.start N vs) (slots0 N xs) := by
  have hlen : vs.length = xs.length := Paired.length d
  have hps : ps.length ≤ N.length := by have := congrArg List.length hps; rw [List.length_take] at this; omega
  have jar' : JarOK X'.K J B H := by rw [← h3]; exact jar
  refine ⟨⟨ex, ?_, fun j t e => ?_, fun i j s t p ne e1 e2 o1 o2 q1 q2 => ?_, jar'⟩, Gs.refl ex jar', Ex.refl B, fun j s p e o q => ?_⟩
  · unfold L2.start slots0
    rw [List.length_append, List.length_append, List.length_map, List.length_map, List.length_replicate, List.length_replicate, hlen]
  · rw [start_at]
    by_cases hj : j < xs.length
    · rw [List.getElem?_append_left (by rw [List.length_map]; exact hj), List.getElem?_map, List.getElem?_eq_getElem hj] at e
      cases e
      obtain ⟨v, hv, dv⟩ : ∃ v, vs[j]? = some v ∧ Dq X J B v xs[j] := by
        have key : ∀ {vs : List V} {xs : List Dd} {j : Nat} (h : j < xs.length), DqAll X J B vs xs → ∃ v, vs[j]? = some v ∧ Dq X J B v xs[j] := by
          intro vs xs j h d
          induction d generalizing j with
          | nil => exact absurd h (Nat.not_lt_zero _)
          | cons a b ih =>
            cases j with
            | zero => exact ⟨_, rfl, a⟩
            | succ j => exact ih (Nat.lt_of_succ_lt_succ h)
        exact key hj d
      exact ⟨v, hv, dq_cx h1 h2 h3 dv⟩
    · rw [List.getElem?_append_right (by rw [List.length_map]; omega), List.getElem?_replicate] at e
      split at e
      · cases e; trivial
      · cases e
  · exact absurd o1 (by
      by_cases hj : i < xs.length
      · rw [List.getElem?_append_left (by rw [List.length_map]; exact hj), List.getElem?_map, List.getElem?_eq_getElem hj] at e1
        cases e1; exact Bool.false_ne_true
      · rw [List.getElem?_append_right (by rw [List.length_map]; omega), List.getElem?_replicate] at e1
        split at e1
        · cases e1; exact Bool.false_ne_true
        · cases e1)
  · exact absurd o (by
      by_cases hj : j < xs.length
      · rw [List.getElem?_append_left (by rw [List.length_map]; exact hj), List.getElem?_map, List.getElem?_eq_getElem hj] at e
        cases e; exact Bool.false_ne_true
      · rw [List.getElem?_append_right (by rw [List.length_map]; omega), List.getElem?_replicate] at e
        split at e
        · cases e; exact Bool.false_ne_true
        · cases e)
theorem fit_of {P : Program} {w : World} {K : PySem.W.Frag} {mg : Str → Option Value} {base : Heap} {qual : Str} {sc : Scope} {f : Addr} {cdv : Value} {A : Around} {outer : List Env} {s : Shared} {H : Hp} {E : XK} {N : List Str} {k : Nat} (nd : N.Nodup) (hr : Room k (A.deeper (envOfC qual sc s.heap.objs.size f cdv))) :
    Fit (cxOf CX0 P w K mg base N qual sc f cdv A outer s H E).nox := ⟨rfl, nd, by
  have := hr.un
  show (A.deeper _).units + 128 < cLine
  omega⟩
theorem fn_ok {P : Program} {w : World} {K : PySem.W.Frag} {mg : Str → Option Value} {base : Heap} {x qual : Str} {st : Stmt} {f : Addr} {fd : FuncData} {N ps : List Str} {k : Nat} {pr : Option Jar → List Dd → (Dd → Prop) → Prop} (F : L2.Fun K x qual st f fd) (S : FnScope N ps (defScope st))
    (hn : ∀ J xs R, pr J xs R → xs.length = ps.length)
    (hb : ∀ (cdv : Value) (A : Around) (outer : List Env) (s : Shared) (H : Hp) (E : XK), let X := (cxOf CX0 P w K mg base N qual (defScope st) f cdv A outer s H E).nox
      Room k X.A → ∀ (J : Option Jar) (B0 H0 : Hp) (xs : List Dd) (R : Dd → Prop) (D : Ends), pr J xs R → (∀ v G H' y, Gs K J B0 H0 G H' → Dq X J G v y → R y → D.rt v H') → (∀ σ G H', Gs K J B0 H0 G H' → R (.d .none) → D.nx σ H') →
        St X J B0 H0 B0 (slots0 N xs) (defBody st) D) : FnOk P w K mg base CX0 (k + 1) f fd ps (spD P w K pr) := by
  refine F.ok S (fun vs H Q E h => ?_) (fun cdv A outer s H vs Q E hr h => ?_)
  · obtain ⟨X, J, B, xs, R, _, _, _, _, _, d, p, _⟩ := h
    rw [Paired.length d]
    exact hn J xs R p
  · obtain ⟨X, J, B, xs, R, h1, h2, h3, ex, jar, d, p, q⟩ := h
    refine ⟨wSs _ (defBody st), pSs, ?_⟩
    subst h1
    subst h2
    subst h3
    exact hb cdv A outer s H E hr J B H xs R _ p (fun v G H' y g dd r => q v G H' y g (dq_cx rfl rfl rfl dd) r) (fun σ G H' g r => q .non G H' (.d .none) g Dp.non r) (fit_of S.nd hr) _ B H (start_hold rfl rfl rfl S.pre (hn J xs R p) ex jar d)
/-- .. that gives a fresh list -/
def spL (P : Program) (w : World) (K : PySem.W.Frag) (pr : Option Jar → List Dd → (List PyData → Prop) → Prop) : Sp := fun vs H Q _ => ∃ (X : Cx) (J : Option Jar) (B : Hp) (xs : List Dd) (R : List PyData → Prop), X.prog = P ∧ X.w = w ∧ X.K = K ∧ Ex B H ∧ JarOK K J B H ∧ DqAll X J B vs xs ∧ pr J xs R ∧
  ∀ p us ys G H', Gs K J B H G H' → H p = none → G p = none → ¬ JarAt J p → H' p = some (.lst us) → DpAll K G us ys → R ys → Q (.ref p) H'
theorem fnL_ok {P : Program} {w : World} {K : PySem.W.Frag} {mg : Str → Option Value} {base : Heap} {x qual : Str} {st : Stmt} {f : Addr} {fd : FuncData} {N ps : List Str} {k : Nat} {pr : Option Jar → List Dd → (List PyData → Prop) → Prop} (F : L2.Fun K x qual st f fd) (S : FnScope N ps (defScope st))
    (hn : ∀ J xs R, pr J xs R → xs.length = ps.length)
    (hb : ∀ (cdv : Value) (A : Around) (outer : List Env) (s : Shared) (H : Hp) (E : XK), let X := (cxOf CX0 P w K mg base N qual (defScope st) f cdv A outer s H E).nox
      Room k X.A → ∀ (J : Option Jar) (B0 H0 : Hp) (xs : List Dd) (R : List PyData → Prop) (D : Ends), pr J xs R → (∀ p us ys G H', Gs K J B0 H0 G H' → H0 p = none → G p = none → ¬ JarAt J p → H' p = some (.lst us) → DpAll K G us ys → R ys → D.rt (.ref p) H') →
        St X J B0 H0 B0 (slots0 N xs) (defBody st) D) : FnOk P w K mg base CX0 (k + 1) f fd ps (spL P w K pr) := by
  refine F.ok S (fun vs H Q E h => ?_) (fun cdv A outer s H vs Q E hr h => ?_)
  · obtain ⟨X, J, B, xs, R, _, _, _, _, _, d, p, _⟩ := h
    rw [Paired.length d]
    exact hn J xs R p
  · obtain ⟨X, J, B, xs, R, h1, h2, h3, ex, jar, d, p, q⟩ := h
    refine ⟨wSs _ (defBody st), pSs, ?_⟩
    subst h3
    exact hb cdv A outer s H E hr J B H xs R _ p q (fit_of S.nd hr) _ B H (start_hold h1 h2 rfl S.pre (hn J xs R p) ex jar d)
end SH

set_option Elab.async false
set_option linter.all false
set_option maxRecDepth 100000
set_option maxHeartbeats 1600000
/-! ShT6: sorted things, sets and dicts made, over data. -/
namespace SH
open PySem PySem.Spec PyProof.Rows L2 PySem.W Evl

/-! ### lists in order -/
section
variable {β : Type}
structure Ordr (le : β → β → Bool) : Prop where
  trans : ∀ a b c, le a b = true → le b c = true → le a c = true
  total : ∀ a b, (le a b || le b a) = true
  anti : ∀ a b, le a b = true → le b a = true → a = b
/-- two lists in order with the same things, each once, are one -/
theorem Ordr.uniq {le : β → β → Bool} (o : Ordr le) : ∀ {xs ys : List β}, xs.Pairwise (le · ·) → ys.Pairwise (le · ·) → xs.Nodup → ys.Nodup → (∀ x, x ∈ xs ↔ x ∈ ys) → xs = ys
  | [], [], _, _, _, _, _ => rfl
  | [], y :: ys, _, _, _, _, h => absurd ((h y).mpr List.mem_cons_self) (by simp)
  | x :: xs, [], _, _, _, _, h => absurd ((h x).mp List.mem_cons_self) (by simp)
  | x :: xs, y :: ys, p, q, n, m, h => by
    rw [List.pairwise_cons] at p q
    rw [List.nodup_cons] at n m
    have e : x = y := by
      rcases List.mem_cons.mp ((h x).mp List.mem_cons_self) with e | e
      · exact e
      · rcases List.mem_cons.mp ((h y).mpr List.mem_cons_self) with f | f
        · exact f.symm
        · exact o.anti x y (p.1 y f) (q.1 x e)
    subst e
    rw [o.uniq p.2 q.2 n.2 m.2 fun z => ⟨fun hz => ?_, fun hz => ?_⟩]
    · rcases List.mem_cons.mp ((h z).mp (List.mem_cons_of_mem _ hz)) with e | e
      · subst e; exact absurd hz n.1
      · exact e
    · rcases List.mem_cons.mp ((h z).mpr (List.mem_cons_of_mem _ hz)) with e | e
      · subst e; exact absurd hz m.1
      · exact e
/-- each thing once, in order -/
def srt [BEq β] (le : β → β → Bool) (xs : List β) : List β := xs.eraseDups.mergeSort le
variable [BEq β] [LawfulBEq β] {le : β → β → Bool}
theorem nodup_dedup : ∀ (n : Nat) (xs : List β), xs.length ≤ n → xs.eraseDups.Nodup
  | 0, [], _ => List.nodup_nil
  | n + 1, [], _ => List.nodup_nil
  | n + 1, x :: xs, h => by
    rw [List.eraseDups_cons, List.nodup_cons]
    refine ⟨fun z => ?_, nodup_dedup n _ (Nat.le_trans (List.length_filter_le _ _) (by rw [List.length_cons] at h; omega))⟩
    rw [List.mem_eraseDups] at z
    have := (List.mem_filter.mp z).2
    simp at this
theorem srt_mem {xs : List β} {x : β} : x ∈ srt le xs ↔ x ∈ xs := by
  unfold srt
  rw [(List.mergeSort_perm _ _).mem_iff, List.mem_eraseDups]
theorem srt_nodup {xs : List β} : (srt le xs).Nodup := (List.mergeSort_perm _ _).nodup_iff.mpr (nodup_dedup _ xs (Nat.le_refl _))
theorem srt_pw (o : Ordr le) {xs : List β} : (srt le xs).Pairwise (le · ·) := List.pairwise_mergeSort o.trans o.total _
theorem srt_is (o : Ordr le) {xs ys : List β} (h1 : ys.Pairwise (le · ·)) (h2 : ys.Nodup) (h3 : ∀ x, x ∈ ys ↔ x ∈ xs) : ys = srt le xs := o.uniq h1 (srt_pw o) h2 srt_nodup fun x => by rw [h3, srt_mem]
theorem srt_le {xs : List β} : (srt le xs).length ≤ xs.length := by
  unfold srt
  rw [List.length_mergeSort]
  have key : ∀ (n : Nat) (xs : List β), xs.length ≤ n → xs.eraseDups.length ≤ xs.length := by
    intro n
    induction n with
    | zero => intro xs h; cases xs with
      | nil => exact Nat.le_refl _
      | cons x xs => cases h
    | succ n ih => intro xs h; cases xs with
      | nil => exact Nat.le_refl _
      | cons x xs =>
        rw [List.eraseDups_cons, List.length_cons, List.length_cons]
        have h1 := List.length_filter_le (fun b => !b == x) xs
        have h2 := ih (xs.filter fun b => !b == x) (by rw [List.length_cons] at h; omega)
        omega
  exact key _ xs (Nat.le_refl _)
end
abbrev leI : Int → Int → Bool := fun a b => decide (a ≤ b)
theorem ordI : Ordr leI := ⟨fun a b c h1 h2 => decide_eq_true (Int.le_trans (of_decide_eq_true h1) (of_decide_eq_true h2)), fun a b => by
  rcases Int.le_total a b with z | z <;> simp [leI, z], fun a b h1 h2 => Int.le_antisymm (of_decide_eq_true h1) (of_decide_eq_true h2)⟩

section
variable {X : Cx} {J : Option Jar} {sl : List Sd} {e elt tg iter : Expr} {g : TG} {scope : Scope} {own : List (Str × Nat)} {pos cpos pp : Pos} {nm : Str}

/-! ### sorted({elt for ..}), ints -/
theorem tl_sortSC {α : Type} {ts : List α} {enc : α → PyData} {f : α → Int} (hi : Ti X J tg iter sl (ts.map enc)) (hl : ts.length ≤ 4000) (ok : BlkOk X.N X.env.scope scope own) (hg : InBlocks X scope fun X' => PG X' tg g)
    (hb : ∀ t ∈ ts, ∃ sl' js, Tg X J g (enc t) (wipeS sl (own.map (·.2))) sl' js ∧ js ⊆ own.map (·.2) ∧ Blk X scope fun X' => Te X' J elt sl' (dI (f t))) (hm : X.mg "sorted" = none) (hgl : Gl X "sorted" := by rfl)
    (hs : ∀ x, foldedSetIterable iter X.env x = pure x := by intro _; rfl)
    (he : starEach [.SetComp elt [⟨tg, iter, [], 0⟩] scope cpos] X.env = (false, eval (.SetComp elt [⟨tg, iter, [], 0⟩] scope cpos) X.env) :: starEach [] X.env := by rfl) (hpl : (backTo pos (starEach [] X.env)).any (·.1) = false := by rfl) :
    Tl X J (.Call (.Name "sorted" pp) [.SetComp elt [⟨tg, iter, [], 0⟩] scope cpos] [] pos) sl ((srt leI (ts.map f)).map .int) := fun F σ B H k Q q => by
  obtain ⟨wi, pi, w⟩ := hi F
  refine wE.of (pe_callB (cr_sortedSI F.calm F.un64) hgl hm boot_sorted (pa_cons (pe_scI F.calm F.nd pi ok hg (fun _ _ _ _ _ => pts_nil) pEb hs) pa_nil he) (by decide) (by decide) he hpl) ?_
  refine w σ B H k _ fun I G H1 g1 wk Dl hD => ?_
  refine fill_it wk (fun i H' => ∃ G' S n, Ex G G' ∧ Gs X.K J B H G' H' ∧ H Dl = none ∧ G' Dl = none ∧ ¬ JarAt J Dl ∧ H' Dl = some (SetO X.w Dl S n) ∧ (∀ j, S j = decide (j ∈ (ts.take i).map f)) ∧ n ≤ i) ?_ ?_ ?_ ?_
  · exact ⟨G, _, 0, Ex.refl G, g1.trans (Gs.same g1.sub (Ex.new hD) g1.jar), g1.live _ hD, fresh_back g1.sub hD, g1.jar.ne hD, upd_same, fun j => by simp, Nat.le_refl _⟩
  · rintro i H' _ ⟨G', S, n, e, g2, _⟩
    exact e.trans g2.sub
  · rintro i x H2 H3 hi ⟨G', S, n, e, g2, f1, f2, nj, f3, f4, f5⟩ y
    rw [List.length_map] at hi
    obtain ⟨G3, d, g3, hd, hp⟩ := y G' e g2.sub g2.jar
    have ht' : ts[i]? = some ts[i] := List.getElem?_eq_getElem hi
    obtain rfl : enc ts[i] = d := by
      rw [List.getElem?_map, ht'] at hd
      exact Option.some.inj hd
    have hmm : ts[i] ∈ ts := List.getElem_mem hi
    have etk : ts.take (i + 1) = ts.take i ++ [ts[i]] := by rw [List.take_add_one, ht']; rfl
    obtain ⟨sl', js, t1, t2, t4⟩ := hb ts[i] hmm
    have g4 := g2.trans g3
    have hw : Holds X J G3 H3 (L2.wipe σ (own.map (·.2))) (wipeS sl (own.map (·.2))) := (k.wipe _).step g4
    refine t1 _ G3 H3 x hw hp _ fun σ2 k2 l2 n2 => ⟨wipe_same (by rw [l2, wipe_length]) fun c hc => n2 c fun z => hc (t2 z), ?_⟩
    have o3 : G3 Dl = none := g3.off f3 f2
    show wEb X scope elt σ2 H3 _
    refine blk_te F t4 k2 _ fun v G5 H5 g6 hv => ?_
    have d5 : H5 Dl = some (SetO X.w Dl S n) := g6.keep _ _ nj (g3.keep _ _ nj f3)
    have o5 : G5 Dl = none := g6.off (g3.keep _ _ nj f3) o3
    cases hv
    refine ⟨f ts[i], S, n, rfl, d5, by unfold scanBound; omega, G5, _, _, (e.trans g3.up).trans g6.up, ((g4.trans g6).put _ f1 o5 nj), f1, o5, nj, upd_same, fun j => ?_, ?_⟩
    · rw [f4 j, etk, List.map_append]
      show (decide (j ∈ (ts.take i).map f) || decide (j = f ts[i])) = decide (j ∈ (ts.take i).map f ++ [f ts[i]])
      by_cases c1 : j ∈ (ts.take i).map f
      · rw [decide_eq_true c1, Bool.true_or, decide_eq_true (List.mem_append_left _ c1)]
      · rw [decide_eq_false c1, Bool.false_or]
        by_cases c2 : j = f ts[i]
        · rw [decide_eq_true c2, decide_eq_true (List.mem_append_right _ (by rw [c2]; exact List.mem_singleton.mpr rfl))]
        · rw [decide_eq_false c2, decide_eq_false fun z => (List.mem_append.mp z).elim c1 fun y => c2 (List.mem_singleton.mp y)]
    · split <;> omega
  · rintro H' ⟨G', S, n, e, g2, f1, f2, nj, f3, f4, f5⟩
    refine ⟨Dl, S, n, rfl, f3, fun ns p h1 h2 h3 h4 => ?_⟩
    have en : ns = srt leI (ts.map f) := by
      refine srt_is ordI (h1.imp fun z => decide_eq_true (Int.le_of_lt z)) (h1.imp fun z y => by rw [y] at z; exact absurd z (Int.lt_irrefl _)) fun j => ?_
      rw [h2, f4 j, List.length_map, List.take_length]
      simp
    subst en
    refine q p _ _ G' _ (g2.trans (Gs.same g2.sub (Ex.new h4) g2.jar)) (g2.live _ h4) (fresh_back g2.sub h4) (g2.jar.ne h4) upd_same ?_ rfl
    have key : ∀ ns : List Int, DpAll X.K G' (ns.map V.int) (ns.map .int) := by
      intro ns
      induction ns with
      | nil => exact .nil
      | cons n ns ih => exact .cons (.int n) ih
    exact key _

/-! ### keys in order -/
structure KeyOrd {β : Type} (enc : β → NestedKey) (dec : NestedKey → β) (le : β → β → Bool) : Prop where
  back : ∀ b, dec (enc b) = b
  is : ∀ b, KeyD (enc b)
  low : ∀ b, (enc b).data.depth ≤ 8
  ord : Ordr le
  le : ∀ a b, dataLe false (fun t => (enc t).data) a b = le a b
  al : ∀ ts : List β, Orders (ts.map fun t => (enc t).data)
variable {β : Type} [BEq β] [LawfulBEq β] {enc : β → NestedKey} {dec : NestedKey → β} {le : β → β → Bool}
theorem th_of {B : Hp} (KO : KeyOrd enc dec le) : ∀ {vs : List V} {ts : List β}, DpAll X.K B vs (ts.map fun t => (enc t).data) → ∃ ks : List Th, vs = (ks.map fun p => V.ref p.1) ∧ ks.map (·.2) = ts.map enc ∧ ∀ p ∈ ks, KeyAt X.K B p.1 p.2
  | [], [], _ => ⟨[], rfl, rfl, fun _ z => by cases z⟩
  | _ :: _, [], h => nomatch h
  | [], _ :: _, h => nomatch h
  | v :: vs, t :: ts, h => by
    cases h with
    | cons h1 h2 =>
      obtain ⟨ks, e1, e2, e3⟩ := th_of KO h2
      obtain ⟨a, rfl, ka⟩ := (KO.is t).at h1
      refine ⟨(a, enc t) :: ks, by rw [List.map_cons, e1], by rw [List.map_cons, List.map_cons, e2], fun p hp => ?_⟩
      rcases List.mem_cons.mp hp with e | hp
      · rw [e]; exact ka
      · exact e3 p hp
theorem dps_th {B : Hp} : ∀ {ks : List Th} {ts : List β}, ks.map (·.2) = ts.map enc → (∀ p ∈ ks, KeyAt X.K B p.1 p.2) → DpAll X.K B (ks.map fun p => V.ref p.1) (ts.map fun t => (enc t).data)
  | [], [], _, _ => .nil
  | [], _ :: _, e, _ => nomatch e
  | _ :: _, [], e, _ => nomatch e
  | p :: ks, t :: ts, e, h => by
    rw [List.map_cons, List.map_cons] at e
    have e1 : p.2 = enc t := (List.cons.inj e).1
    have e2 := (List.cons.inj e).2
    refine .cons ?_ (dps_th e2 fun q hq => h q (List.mem_cons_of_mem _ hq))
    have := (h p List.mem_cons_self).dp
    rw [e1] at this
    exact this
/-- a list of keys put in order by Python -/
theorem th_sorted (KO : KeyOrd enc dec le) {L1 : List Th} {ns : List β} (h : L1.map (·.2) = ns.map enc) : ((L1.mergeSort leK).map (·.2)) = (ns.mergeSort le).map enc := by
  have e1 : ∀ p ∈ L1, p.2 = enc (dec p.2) := fun p hp => by
    have : p.2 ∈ ns.map enc := by rw [← h]; exact List.mem_map.mpr ⟨p, hp, rfl⟩
    obtain ⟨t, _, e⟩ := List.mem_map.mp this
    rw [← e, KO.back]
  have e2 := List.map_mergeSort (r := leK) (s := le) (f := fun p : Th => dec p.2) (l := L1) fun a ha b hb => by
    show dataLe false (fun q : Th => q.2.data) a b = le (dec a.2) (dec b.2)
    rw [← KO.le, dataLe_eq, dataLe_eq]
    show (!dataLt b.2.data a.2.data) = (!dataLt (enc (dec b.2)).data (enc (dec a.2)).data)
    rw [← e1 a ha, ← e1 b hb]
  have e3 : L1.map (fun p : Th => dec p.2) = ns := by
    have : L1.map (fun p : Th => dec p.2) = (L1.map (·.2)).map dec := by rw [List.map_map]; rfl
    rw [this, h, List.map_map]
    exact List.map_id'' (fun t => KO.back t) ns
  rw [e3] at e2
  rw [← e2, List.map_map]
  refine List.map_congr_left fun p hp => ?_
  exact e1 p ((List.mergeSort_perm L1 leK).mem_iff.mp hp)
theorem tl_sortSet {ts : List β} (KO : KeyOrd enc dec le) (h : Te X J e sl (.d (.list (ts.map fun t => (enc t).data)))) (hl : ts.length ≤ 1200) (hm : X.mg "sorted" = none) (hm2 : X.mg "set" = none) (hgl : Gl X "sorted" := by rfl) (hgl2 : Gl X "set" := by rfl)
    (he2 : starEach [e] X.env = (false, eval e X.env) :: starEach [] X.env := by rfl) (hpl2 : (backTo cpos (starEach [] X.env)).any (·.1) = false := by rfl)
    (he : starEach [.Call (.Name "set" pp) [e] [] cpos] X.env = (false, eval (.Call (.Name "set" pp) [e] [] cpos) X.env) :: starEach [] X.env := by rfl) (hpl : (backTo pos (starEach [] X.env)).any (·.1) = false := by rfl) {pq : Pos} :
    Tl X J (.Call (.Name "sorted" pq) [.Call (.Name "set" pp) [e] [] cpos] [] pos) sl ((srt le ts).map fun t => (enc t).data) := fun F σ B H k Q q =>
  wE.of (pe_callB (cr_sortedN F.calm F.un64) hgl hm boot_sorted (pa_cons (pe_callTy (cr_setN F.calm F.un64) hgl2 hm2 boot_set (pa_cons pE pa_nil he2) (by decide) (by decide) he2 hpl2) pa_nil he) (by decide) (by decide) he hpl) (h F σ B H k _ fun v G H1 x g d ex => by
    subst ex
    cases d with
    | @lst l vs _ h1 h2 =>
      obtain ⟨ks, rfl, e2, e3⟩ := th_of KO h2
      have hlen : ks.length = ts.length := by have := congrArg List.length e2; rw [List.length_map, List.length_map] at this; exact this
      refine ⟨l, ks, rfl, ex_l g.sub h1, fun p hp => (e3 p hp).ex g.sub, Few.of (by omega), fun a L hn f1 f2 f3 => ?_⟩
      have eL : ∀ p ∈ L, ∃ t ∈ ts, p.2 = enc t := fun p hp => by
        have : p.2 ∈ ks.map (·.2) := List.mem_map.mpr ⟨p, f1 p hp, rfl⟩
        rw [e2] at this
        obtain ⟨t, ht, e⟩ := List.mem_map.mp this
        exact ⟨t, ht, e.symm⟩
      have eN : ∀ M : List Th, (∀ p ∈ M, p ∈ L) → M.map (·.2) = (M.map fun p => dec p.2).map enc := fun M hM => by
        rw [List.map_map]
        refine List.map_congr_left fun p hp => ?_
        obtain ⟨t, _, e⟩ := eL p (hM p hp)
        show p.2 = enc (dec p.2)
        rw [e, KO.back]
      have eD : (L.map fun p => p.2.data) = ((L.map fun p => dec p.2).map fun t => (enc t).data) := by
        have := congrArg (List.map NestedKey.data) (eN L fun _ h => h)
        rw [List.map_map, List.map_map] at this
        exact this
      refine ⟨a, L, rfl, upd_same, fun p hp => (e3 p (f1 p hp)).ex (g.sub.trans (Ex.new hn)), by rw [eD]; exact KO.al _, fun p hp => ?_, fun L1 r pm hr => ?_⟩
      · obtain ⟨t, _, e⟩ := eL p hp
        rw [e]
        exact KO.low t
      · have hL1 : ∀ p ∈ L1, p ∈ L := fun p hp => pm.mem_iff.mp hp
        have e4 := th_sorted KO (eN L1 hL1)
        have e5 : (L1.map fun p => dec p.2).mergeSort le = srt le ts := by
          have nd : (L1.map fun p => dec p.2).Nodup := by
            have n1 : (L1.map (·.2)).Nodup := (pm.map (·.2)).nodup_iff.mpr f3
            rw [eN L1 hL1] at n1
            exact (List.pairwise_map.mp n1).imp fun h e => h (by rw [e])
          refine srt_is KO.ord (List.pairwise_mergeSort KO.ord.trans KO.ord.total _) ((List.mergeSort_perm _ _).nodup_iff.mpr nd) fun t => ?_
          rw [(List.mergeSort_perm _ _).mem_iff, List.mem_map]
          constructor
          · rintro ⟨p, hp, rfl⟩
            obtain ⟨t, ht, e⟩ := eL p (hL1 p hp)
            rw [e, KO.back]
            exact ht
          · intro ht
            have : enc t ∈ ks.map (·.2) := by rw [e2]; exact List.mem_map.mpr ⟨t, ht, rfl⟩
            obtain ⟨p, hp, e⟩ := List.mem_map.mp this
            have := f2 p hp
            obtain ⟨p', hp', e'⟩ := List.mem_map.mp this
            exact ⟨p', pm.mem_iff.mpr hp', by rw [e', e, KO.back]⟩
        rw [e5] at e4
        have x1 := g.sub.trans (Ex.new (o := SetNO X.w a L) hn)
        refine q r _ _ G _ (g.trans (Gs.same g.sub ((Ex.new hn).trans (Ex.new hr)) g.jar)) (g.live _ (ex_live (Ex.new hn) _ hr)) (fresh_back x1 hr) (g.jar.ne (ex_live (Ex.new hn) _ hr)) upd_same ?_ rfl
        exact dps_th e4 fun p hp => e3 p (f1 p (hL1 p ((List.mergeSort_perm _ _).mem_iff.mp hp))))
/-- sorted(d) -/
theorem tl_sortD {α : Type} {ts : List α} {f : α → β} {vf : α → PyData} (KO : KeyOrd enc dec le) (h : Te X J e sl (.n (ts.map fun t => (enc (f t), vf t)))) (hm : X.mg "sorted" = none) (hgl : Gl X "sorted" := by rfl)
    (he : starEach [e] X.env = (false, eval e X.env) :: starEach [] X.env := by rfl) (hpl : (backTo pos (starEach [] X.env)).any (·.1) = false := by rfl) : Tl X J (.Call (.Name "sorted" pp) [e] [] pos) sl (((ts.map f).mergeSort le).map fun t => (enc t).data) := fun F σ B H k Q q =>
  wE.of (pe_callB (cr_sortedDN F.calm F.un64) hgl hm boot_sorted (pa_cons pE pa_nil he) (by decide) (by decide) he hpl) (h F σ B H k _ fun v G H1 x g d ex => by
    subst ex
    obtain ⟨a, es, rfl, h1, h2, h3⟩ := d
    have key : ∀ {es : List Ent} {xs : List KD}, EntD X.K G es xs → es.map (·.1) = xs.map (·.1) := by
      intro es xs r
      induction r with
      | nil => rfl
      | cons a b ih => rw [List.map_cons, List.map_cons, ih, a.1]
    have e1 : es.map (·.1) = (ts.map f).map enc := by rw [key h3, List.map_map, List.map_map]; rfl
    have e2 : (es.map fun p => p.1.data) = (ts.map f).map fun t => (enc t).data := by
      have := congrArg (List.map NestedKey.data) e1
      rw [List.map_map, List.map_map] at this
      exact this
    refine ⟨a, es, rfl, Rd.of (g.sub _ _ h1), h2.ex g.sub, by rw [e2]; exact KO.al _, fun p hp => ?_, fun r hr => ?_⟩
    · have : p.1 ∈ (ts.map f).map enc := by rw [← e1]; exact List.mem_map.mpr ⟨p, hp, rfl⟩
      obtain ⟨t, _, e⟩ := List.mem_map.mp this
      rw [← e]
      exact KO.low t
    · have e3 : (thOf es).map (·.2) = (ts.map f).map enc := by rw [← e1, List.map_map]; rfl
      refine q r _ _ G _ (g.trans (Gs.same g.sub (Ex.new hr) g.jar)) (g.live _ hr) (fresh_back g.sub hr) (g.jar.ne hr) upd_same (dps_th (th_sorted KO e3) fun p hp => ?_) rfl
      have hp := (List.mergeSort_perm _ _).mem_iff.mp hp
      obtain ⟨y, hy, rfl⟩ := List.mem_map.mp hp
      exact h2 y hy)
/-- sorted(list of data) -/
theorem tl_sortL {α : Type} {ts : List α} {en : α → PyData} {le' : α → α → Bool} (h : Te X J e sl (.d (.list (ts.map en)))) (hle : ∀ a b, dataLe false en a b = le' a b) (ho : Orders (ts.map en)) (hd : ∀ t ∈ ts, (en t).depth ≤ 8) (hm : X.mg "sorted" = none) (hgl : Gl X "sorted" := by rfl)
    (he : starEach [e] X.env = (false, eval e X.env) :: starEach [] X.env := by rfl) (hpl : (backTo pos (starEach [] X.env)).any (·.1) = false := by rfl) : Tl X J (.Call (.Name "sorted" pp) [e] [] pos) sl ((ts.mergeSort le').map en) := fun F σ B H k Q q =>
  wE.of (pe_callB (cr_sortedD F.un64) hgl hm boot_sorted (pa_cons pE pa_nil he) (by decide) (by decide) he hpl) (h F σ B H k _ fun v G H1 x g d ex => by
    subst ex
    cases d with
    | @lst l vs _ h1 h2 =>
      have hl := dps_len h2
      rw [List.length_map] at hl
      have zd : ∀ {vs : List V} {ts : List α}, DpAll X.K G vs (ts.map en) → ((vs.zip ts).map fun p : V × α => p.1) = vs ∧ ((vs.zip ts).map fun p : V × α => p.2) = ts ∧ ∀ p ∈ vs.zip ts, Dp X.K G p.1 (en p.2) := by
        intro vs ts
        induction ts generalizing vs with
        | nil => intro h; cases h; exact ⟨rfl, rfl, fun _ z => by cases z⟩
        | cons t ts ih =>
          intro h
          cases h with
          | cons a b =>
            obtain ⟨i1, i2, i3⟩ := ih b
            refine ⟨?_, ?_, fun p hp => ?_⟩
            · rw [List.zip_cons_cons, List.map_cons, i1]
            · rw [List.zip_cons_cons, List.map_cons, i2]
            · rcases List.mem_cons.mp hp with e | hp
              · rw [e]; exact a
              · exact i3 p hp
      obtain ⟨z1, z2, z3⟩ := zd h2
      refine ⟨l, (vs.zip ts).map fun p => (p.1, en p.2), rfl, ?_, fun b hb => ?_, ?_, fun b hb => ?_, fun r hr => ?_⟩
      · rw [List.map_map]
        show SqL X.K H1 l ((vs.zip ts).map fun p => p.1)
        rw [z1]
        exact ex_l g.sub h1
      · obtain ⟨p, hp, rfl⟩ := List.mem_map.mp hb
        exact dp_ex g.sub _ _ (z3 p hp)
      · rw [List.map_map]
        show Orders ((vs.zip ts).map fun p => en p.2)
        rw [show (fun p : V × α => en p.2) = en ∘ (fun p => p.2) from rfl, ← List.map_map, z2]
        exact ho
      · obtain ⟨p, hp, rfl⟩ := List.mem_map.mp hb
        refine hd p.2 ?_
        rw [← z2]
        exact List.mem_map.mpr ⟨p, hp, rfl⟩
      · have e1 := List.map_mergeSort (r := fun a b : V × α => le' a.2 b.2) (s := leD) (f := fun p : V × α => (p.1, en p.2)) (l := vs.zip ts) fun a _ b _ => by
          rw [← hle]; rfl
        have e2 := List.map_mergeSort (r := fun a b : V × α => le' a.2 b.2) (s := le') (f := fun p : V × α => p.2) (l := vs.zip ts) fun a _ b _ => rfl
        rw [z2] at e2
        rw [← e1, List.map_map]
        have e3 : (((vs.zip ts).mergeSort fun a b : V × α => le' a.2 b.2).map fun p => en p.2) = (ts.mergeSort le').map en := by rw [← e2, List.map_map]; rfl
        rw [← e3] at q
        refine q r _ _ G _ (g.trans (Gs.same g.sub (Ex.new hr) g.jar)) (g.live _ hr) (fresh_back g.sub hr) (g.jar.ne hr) upd_same ?_ rfl
        have key : ∀ M : List (V × α), (∀ p ∈ M, Dp X.K G p.1 (en p.2)) → DpAll X.K G (M.map fun p => p.1) (M.map fun p => en p.2) := by
          intro M
          induction M with
          | nil => exact fun _ => .nil
          | cons p M ih => exact fun h => .cons (h p List.mem_cons_self) (ih fun q hq => h q (List.mem_cons_of_mem _ hq))
        exact key _ fun p hp => z3 p ((List.mergeSort_perm _ _).mem_iff.mp hp))
end
end SH

set_option Elab.async false
set_option linter.all false
set_option maxRecDepth 100000
set_option maxHeartbeats 1600000
/-! ShT7: dicts made, dicts locked, over data. -/
namespace SH
open PySem PySem.Spec PyProof.Rows L2 PySem.W Evl
section
variable {X : Cx} {J : Option Jar} {sl : List Sd} {e kx vx tg iter : Expr} {g : TG} {scope : Scope} {own : List (Str × Nat)} {pos cpos pp : Pos} {nm : Str}
/-- a fresh dict that nothing else holds -/
def Td (X : Cx) (J : Option Jar) (e : Expr) (sl : List Sd) (xs : List KD) : Prop := Fit X → ∀ σ B H, Holds X J B H σ sl → ∀ Q : VK, (∀ p es G H', Gs X.K J B H G H' → H p = none → G p = none → ¬ JarAt J p → H' p = some (DictNO X.prog X.w p es) → KeysAt X.K G es → EntD X.K G es xs → Q (.ref p) H') → wE X e σ H Q
theorem te_n {xs : List KD} (h : Td X J e sl xs) : Te X J e sl (.n xs) := fun F σ B H k Q q => h F σ B H k Q fun p es G H' g h1 h2 nj h3 h4 h5 =>
  q (.ref p) (upd G p (DictNO X.prog X.w p es)) H' (.n xs) (g.join h1 h2 h3 nj) ⟨p, es, rfl, upd_same, h4.ex (Ex.new h2), entD_ex (Ex.new h2) h5⟩ rfl
theorem td_is {xs ys : List KD} (h : Td X J e sl xs) (w : xs = ys) : Td X J e sl ys := w ▸ h
theorem st_setDn {B0 H0 U : Hp} {xs : List KD} {rest : List Stmt} {D : Ends} (i : Nat) (h : Td X J e sl xs) (hr : St X J B0 H0 U (sl.set i (.od xs)) rest D) (hi : X.N[i]? = some nm := by rfl) (hx : Loc X.env.scope nm := by first | exact .inl rfl | exact .inr rfl)
    (hs : swapsWith e (some (.Name nm pp)) pos.line X.env = pure false := by rfl) (hf : X.fn nm = true ∨ X.env.scope.names.lookup nm = some .local := by first | exact .inl rfl | exact .inr rfl) :
    St X J B0 H0 U sl (.Assign [.Name nm pp] e pos :: rest) D := fun F σ B H k =>
  wSs.cons (ps_set F.nd hi hx pE hs hf) (h F σ B H k.hold _ fun p es G H' g h1 h2 nj h3 h4 h5 => hr F _ G H' (k.setL g i h1 ⟨p, es, rfl, h2, nj, h3, h4, h5⟩))
theorem find_none {k : NestedKey} : ∀ {xs : List KD}, k ∉ xs.map (·.1) → findK xs k = none
  | [], _ => rfl
  | x :: xs, h => by
    rw [List.map_cons, List.mem_cons, not_or] at h
    unfold findK
    rw [List.find?_cons, show decide (x.1 = k) = false from decide_eq_false fun z => h.1 z.symm]
    exact find_none h.2
theorem store_new {k : NestedKey} {v : PyData} {xs : List KD} (h : k ∉ xs.map (·.1)) : storeK xs k v = xs ++ [(k, v)] := by
  unfold storeK
  rw [find_none h]
  rfl
/-- {key: value for .. in ..}, each key once -/
theorem td_dc {α : Type} {ts : List α} {enc : α → PyData} {kf : α → NestedKey} {vf : α → PyData} (hi : Ti X J tg iter sl (ts.map enc)) (hl : ts.length ≤ 1000000) (ok : BlkOk X.N X.env.scope scope own) (hg : InBlocks X scope fun X' => PG X' tg g) (hn : (ts.map kf).Nodup)
    (hb : ∀ t ∈ ts, ∃ sl' js, Tg X J g (enc t) (wipeS sl (own.map (·.2))) sl' js ∧ js ⊆ own.map (·.2) ∧ KeyD (kf t) ∧ (Blk X scope fun X' => Te X' J kx sl' (.d (kf t).data)) ∧ Blk X scope fun X' => Te X' J vx sl' (.d (vf t)))
    (hs : ∀ x, foldedSetIterable iter X.env x = pure x := by intro _; rfl) : Td X J (.DictComp kx vx [⟨tg, iter, [], 0⟩] scope pos) sl (ts.map fun t => (kf t, vf t)) := fun F σ B H k Q q => by
  obtain ⟨wi, pi, w⟩ := hi F
  refine wE.of (pe_dcN F.un64 F.calm F.nd pi ok hg (fun _ _ _ _ _ => pts_nil) pEb pEb hs) ?_
  refine w σ B H k _ fun I G H1 g1 wk Dl hD => ?_
  refine fill_it wk (fun i H' => ∃ G' es, Ex G G' ∧ Gs X.K J B H G' H' ∧ H Dl = none ∧ G' Dl = none ∧ ¬ JarAt J Dl ∧ H' Dl = some (DictNO X.prog X.w Dl es) ∧ KeysAt X.K G' es ∧ EntD X.K G' es ((ts.take i).map fun t => (kf t, vf t)) ∧ es.length ≤ i) ?_ ?_ ?_ ?_
  · exact ⟨G, [], Ex.refl G, g1.trans (Gs.same g1.sub (Ex.new hD) g1.jar), g1.live _ hD, fresh_back g1.sub hD, g1.jar.ne hD, upd_same, (fun _ z => by cases z), Paired.nil, Nat.le_refl _⟩
  · rintro i H' _ ⟨G', es, e, g2, _⟩
    exact e.trans g2.sub
  · rintro i x H2 H3 hi ⟨G', es, e, g2, f1, f2, nj, f3, f4, f5, f6⟩ y
    rw [List.length_map] at hi
    obtain ⟨G3, d, g3, hd, hp⟩ := y G' e g2.sub g2.jar
    have ht' : ts[i]? = some ts[i] := List.getElem?_eq_getElem hi
    obtain rfl : enc ts[i] = d := by
      rw [List.getElem?_map, ht'] at hd
      exact Option.some.inj hd
    have hmm : ts[i] ∈ ts := List.getElem_mem hi
    have etk : ts.take (i + 1) = ts.take i ++ [ts[i]] := by rw [List.take_add_one, ht']; rfl
    obtain ⟨sl', js, t1, t2, t3, t4, t5⟩ := hb ts[i] hmm
    have g4 := g2.trans g3
    have hw : Holds X J G3 H3 (L2.wipe σ (own.map (·.2))) (wipeS sl (own.map (·.2))) := (k.wipe _).step g4
    refine t1 _ G3 H3 x hw hp _ fun σ2 k2 l2 n2 => ⟨wipe_same (by rw [l2, wipe_length]) fun c hc => n2 c fun z => hc (t2 z), ?_⟩
    have o3 : G3 Dl = none := g3.off f3 f2
    show wEb X scope kx σ2 H3 _
    refine blk_te F t4 k2 _ fun u G5 H5 g6 hu => ?_
    show wEb X scope vx σ2 H5 _
    refine blk_te F t5 (k2.step g6) _ fun v G6 H6 g7 hv => ?_
    obtain ⟨a, rfl, ka⟩ := t3.at hu
    have g8 := g6.trans g7
    have d5 : H6 Dl = some (DictNO X.prog X.w Dl es) := g8.keep _ _ nj (g3.keep _ _ nj f3)
    have o5 : G6 Dl = none := g8.off (g3.keep _ _ nj f3) o3
    have x1 := g3.up.trans g8.up
    have ks := f4.ex x1
    have fresh : kf ts[i] ∉ ((ts.take i).map fun t => (kf t, vf t)).map (·.1) := by
      rw [List.map_map]
      intro hm
      have h1 : (ts.map kf) = (ts.take i).map kf ++ (ts.drop i).map kf := by rw [← List.map_append, List.take_append_drop]
      rw [h1, List.nodup_append] at hn
      refine hn.2.2 _ hm _ ?_ rfl
      rw [List.mem_map]
      exact ⟨ts[i], List.mem_of_getElem? (i := 0) (by rw [List.getElem?_drop, Nat.add_zero]; exact ht'), rfl⟩
    have st := entD_store (entD_ex x1 f5) (kf ts[i]) a hv
    rw [store_new fresh] at st
    refine ⟨a, kf ts[i], es, rfl, d5, ks.ex g7.sub, (ka.ex g7.up).ex g7.sub, by rw [sizeLine_eq]; omega, G6, _, e.trans x1, ((g4.trans g8).put _ f1 o5 nj), f1, o5, nj, upd_same, ks.store (ka.ex g7.up), ?_, ?_⟩
    · rw [etk, List.map_append]
      exact st
    · have := storeN_len es (kf ts[i]) a v
      omega
  · rintro H' ⟨G', es, e, g2, f1, f2, nj, f3, f4, f5, f6⟩
    rw [List.length_map, List.take_length] at f5
    exact q Dl es G' H' g2 f1 f2 nj f3 f4 f5

/-! ### dict(list of pairs) -/
def rDictN (K : PySem.W.Frag) (P : Program) (w : World) : List V → Hp → VK → Prop := fun vs H Q => ∃ (l : Addr) (Ts : List Addr) (es : List Ent), vs = [.ref l] ∧ SqL K H l (Ts.map V.ref) ∧ Ts.length = es.length ∧ (∀ (j : Nat) (T : Addr) (x : Ent), Ts[j]? = some T → es[j]? = some x → SqT K H T [.ref x.2.1, x.2.2]) ∧
  KeysAt K H es ∧ (es.map (·.1)).Nodup ∧ ∀ p, H p = none → Q (.ref p) (upd H p (DictNO P w p es))
theorem cr_dictN (hc : X.calm = true) (hu : X.A.units + 64 < cLine) : CallR X (.type "dict") (rDictN X.K X.prog X.w) := by
  intro pins s σ H vs us Q I r h
  obtain ⟨l, Ts, es, rfl, hl, hlen, ht, hk, hn, q⟩ := h
  rw [Vals.ref1 r]
  obtain ⟨its, rv, pl, hz⟩ := I.list hl
  have eits : its = Ts.map Value.ref := by
    have key : ∀ {Ts : List Addr} {us : List Value}, Vals (Ts.map V.ref) us → us = Ts.map Value.ref := by
      intro Ts
      induction Ts with
      | nil => intro us r; cases r; rfl
      | cons T Ts ih => intro us r; cases r with
        | cons a b => cases a; rw [ih b]; rfl
    exact key rv
  have each : ∀ j : Nat, j < es.length → ∃ u : Value, ∃ T x, Ts[j]? = some T ∧ es[j]? = some x ∧ RelV x.2.2 u ∧ IsTup s.heap T #[.ref x.2.1, u] := fun j hj => by
    have h1 : Ts[j]? = some Ts[j] := List.getElem?_eq_getElem (by omega)
    have h2 : es[j]? = some es[j] := List.getElem?_eq_getElem hj
    obtain ⟨its2, rv2, tp, _⟩ := I.tuple (ht j _ _ h1 h2)
    cases rv2 with
    | cons a b =>
      cases a
      cases b with
      | cons c d =>
        cases d
        exact ⟨_, _, _, h1, h2, c, tp⟩
  obtain ⟨us, hus⟩ : ∃ us : List Value, us.length = es.length ∧ ∀ j (hj : j < es.length), ∃ u T x, us[j]? = some u ∧ Ts[j]? = some T ∧ es[j]? = some x ∧ RelV x.2.2 u ∧ IsTup s.heap T #[.ref x.2.1, u] := by
    have key : ∀ n, n ≤ es.length → ∃ us : List Value, us.length = n ∧ ∀ j (hj : j < n), ∃ u T x, us[j]? = some u ∧ Ts[j]? = some T ∧ es[j]? = some x ∧ RelV x.2.2 u ∧ IsTup s.heap T #[.ref x.2.1, u] := by
      intro n
      induction n with
      | zero => exact fun _ => ⟨[], rfl, fun j hj => absurd hj (Nat.not_lt_zero _)⟩
      | succ n ih =>
        intro hn
        obtain ⟨us, e1, e2⟩ := ih (by omega)
        obtain ⟨u, T, x, a, b, c, d⟩ := each n (by omega)
        refine ⟨us ++ [u], by rw [List.length_append, List.length_singleton, e1], fun j hj => ?_⟩
        by_cases hjn : j < n
        · obtain ⟨u', T', x', a', r'⟩ := e2 j hjn
          exact ⟨u', T', x', by rw [List.getElem?_append_left (by omega)]; exact a', r'⟩
        · obtain rfl : j = n := by omega
          exact ⟨u, T, x, by rw [List.getElem?_append_right (by omega), e1, Nat.sub_self]; rfl, a, b, c, d⟩
    exact key es.length (Nat.le_refl _)
  obtain ⟨hul, hus⟩ := hus
  let xs : List (NestedKey × Addr × Value) := (es.zip us).map fun p => (p.1.1, p.1.2.1, p.2)
  let ps : List (Value × Value) := (es.zip us).map fun p => (Value.ref p.1.2.1, p.2)
  have zlen : (es.zip us).length = es.length := by rw [List.length_zip, hul, Nat.min_self]
  have zat : ∀ (j : Nat) (x : Ent) (u : Value), es[j]? = some x → us[j]? = some u → (es.zip us)[j]? = some (x, u) := fun j x u a b => by rw [List.getElem?_zip_eq_some]; exact ⟨a, b⟩
  have erel : Paired EntR es xs := by
    have key : ∀ {es : List Ent} {us : List Value}, us.length = es.length → (∀ (j : Nat) (x : Ent) (u : Value), es[j]? = some x → us[j]? = some u → RelV x.2.2 u) → Paired EntR es ((es.zip us).map fun p => (p.1.1, p.1.2.1, p.2)) := by
      intro es
      induction es with
      | nil => intro us _ _; exact .nil
      | cons x es ih =>
        intro us hl hr
        cases us with
        | nil => cases hl
        | cons u us => exact .cons ⟨rfl, rfl, hr 0 x u rfl rfl⟩ (ih (Nat.succ.inj hl) fun j y v a b => hr (j + 1) y v a b)
    refine key hul fun j x u a b => ?_
    obtain ⟨hj, _⟩ := List.getElem?_eq_some_iff.mp a
    obtain ⟨u', T', x', a', _, c', d', _⟩ := hus j hj
    rw [a'] at b
    rw [c'] at a
    cases a; cases b
    exact d'
  have hnd : (xs.map (·.1)).Nodup := by
    have : xs.map (·.1) = es.map (·.1) := by
      have key : ∀ {es : List Ent} {ys : List (NestedKey × Addr × Value)}, Paired EntR es ys → ys.map (·.1) = es.map (·.1) := by
        intro es ys r
        induction r with
        | nil => rfl
        | cons a b ih => rw [List.map_cons, List.map_cons, ih, a.1]
      exact key erel
    rw [this]; exact hn
  have his : ∀ x ∈ xs, (nestedKind X.prog X.w).is s.heap x.1 x.2.1 := fun x hx => by
    obtain ⟨p, hp, rfl⟩ := List.mem_map.mp hx
    have z := (hk p.1 (List.of_mem_zip hp).1).isN I
    exact ⟨z.is, z.deep⟩
  have pl2 : PlainSeq "list" s.heap l its.toArray := by
    obtain ⟨o, n, a, b, c, d⟩ := pl
    exact ⟨o, n, a, b, c, d⟩
  have Tf : Nat → Addr := fun j => Ts.getD j 0
  refine call_dict_pairsH (ps := xs) (knd := nestedKind X.prog X.w) (PairArg.list l its.toArray (fun j => Ts.getD j 0) ps) (I.ok.hd hc) (by show X.A.units + 1 + 1 + 8 < cLine; omega) ⟨pl2, ?_, fun j k v hj => ?_⟩ ⟨?_, fun j key v hj => ?_⟩ (fun h' hk' x hx => nestedKind_stays.stays (fun b o vs n e _ => hk' b o (Nat.ne_of_lt (Heap.lt_size e)) (fun z => by cases z) e) (his x hx)) ?_ fun h' tk hd hk' => ?_
  · show its.toArray.size = ps.length
    rw [List.size_toArray, eits, List.length_map, List.length_map, zlen, hlen]
  · have hj' : j < es.length := by rw [← zlen]; exact (by have := (List.getElem?_eq_some_iff.mp hj).1; rw [List.length_map] at this; exact this)
    obtain ⟨u, T, x, a, b, c, d, t⟩ := hus j hj'
    rw [List.getElem?_map, zat j x u c a] at hj
    cases hj
    have eT : Ts.getD j 0 = T := by rw [List.getD_eq_getElem?_getD, b]; rfl
    refine ⟨?_, .inl ?_⟩
    · rw [List.getElem?_toArray, eits, List.getElem?_map, b]
      show some (Value.ref T) = some (Value.ref (Ts.getD j 0))
      rw [eT]
    · show s.heap.IsTuple (Ts.getD j 0) _
      rw [eT]
      exact t
  · rw [List.length_map, List.length_map]
  · change ((es.zip us).map fun p => (Value.ref p.1.2.1, p.2))[j]? = some (key, v) at hj
    rw [List.getElem?_map] at hj
    cases z : (es.zip us)[j]? with
    | none => rw [z] at hj; cases hj
    | some p =>
      rw [z] at hj
      cases hj
      exact ⟨p.1.1, p.1.2.1, by rw [List.getElem?_map, z]; rfl, rfl⟩
  · show ps.length ≤ sizeLine
    rw [List.length_map, zlen]
    rw [List.length_map] at hz
    omega
  · rw [storedAllH_nil_of_nodup xs hnd] at hd
    have kp : ∀ b o, s.heap.get? b = some o → h'.get? b = some o := fun b o e => hk' b o (by simp) e
    have hfr := I.hok.fresh (Nat.le_refl s.heap.objs.size)
    refine ⟨.ref s.heap.objs.size, _, I.laid (o := DictNO X.prog X.w s.heap.objs.size es) (t' := tk) kp (Nat.le_refl _) (dn_new ?_ ?_ erel hd), rfl, q _ hfr⟩
    · exact (dn_empty I |>.1).1
    · rw [List.length_map] at hz
      omega
theorem td_pairs {α : Type} {ts : List α} {kf : α → NestedKey} {vf : α → PyData} (h : Te X J e sl (.d (.list (ts.map fun t => .tuple [(kf t).data, vf t])))) (hk : ∀ t ∈ ts, KeyD (kf t)) (hn : (ts.map kf).Nodup) (hm : X.mg "dict" = none) (hgl : Gl X "dict" := by rfl)
    (he : starEach [e] X.env = (false, eval e X.env) :: starEach [] X.env := by rfl) (hpl : (backTo pos (starEach [] X.env)).any (·.1) = false := by rfl) : Td X J (.Call (.Name "dict" pp) [e] [] pos) sl (ts.map fun t => (kf t, vf t)) := fun F σ B H k Q q =>
  wE.of (pe_callTy (cr_dictN F.calm F.un64) hgl hm boot_dict (pa_cons pE pa_nil he) (by decide) (by decide) he hpl) (h F σ B H k _ fun v G H1 x g d ex => by
    subst ex
    cases d with
    | @lst l vs _ h1 h2 =>
      have key : ∀ {vs : List V} {ts : List α}, (∀ t ∈ ts, KeyD (kf t)) → DpAll X.K G vs (ts.map fun t => .tuple [(kf t).data, vf t]) → ∃ (Ts : List Addr) (es : List Ent), vs = Ts.map V.ref ∧ Ts.length = es.length ∧ (∀ (j : Nat) (T : Addr) (x : Ent), Ts[j]? = some T → es[j]? = some x → SqT X.K G T [.ref x.2.1, x.2.2]) ∧
          KeysAt X.K G es ∧ EntD X.K G es (ts.map fun t => (kf t, vf t)) := by
        intro vs ts
        induction ts generalizing vs with
        | nil => intro _ h; cases h; exact ⟨[], [], rfl, rfl, fun j T x a => by simp at a, (fun _ z => by cases z), .nil⟩
        | cons t ts ih =>
          intro hk h
          cases h with
          | cons a b =>
            obtain ⟨Ts, es, i1, i2, i3, i4, i5⟩ := ih (fun u hu => hk u (List.mem_cons_of_mem _ hu)) b
            cases a with
            | @tup T ws _ c1 c2 =>
              cases c2 with
              | @cons y _ _ _ d1 d2 =>
                cases d2 with
                | @cons z _ _ _ d3 d4 =>
                  cases d4
                  obtain ⟨a', rfl, ka⟩ := (hk t List.mem_cons_self).at d1
                  refine ⟨T :: Ts, (kf t, a', z) :: es, by rw [i1]; rfl, by rw [List.length_cons, List.length_cons, i2], fun j T' x a b => ?_, fun x hx => ?_, .cons ⟨rfl, d3⟩ i5⟩
                  · cases j with
                    | zero => cases a; cases b; exact c1
                    | succ j => exact i3 j T' x a b
                  · rcases List.mem_cons.mp hx with e | hx
                    · rw [e]; exact ka
                    · exact i4 x hx
      obtain ⟨Ts, es, rfl, i2, i3, i4, i5⟩ := key hk h2
      have ek : es.map (·.1) = ts.map kf := by
        have kk : ∀ {es : List Ent} {xs : List KD}, EntD X.K G es xs → es.map (·.1) = xs.map (·.1) := by
          intro es xs r
          induction r with
          | nil => rfl
          | cons a b ih => rw [List.map_cons, List.map_cons, ih, a.1]
        rw [kk i5, List.map_map]
        rfl
      exact ⟨l, Ts, es, rfl, ex_l g.sub h1, i2, fun j T x a b => ex_t g.sub (i3 j T x a b), i4.ex g.sub, by rw [ek]; exact hn, fun p hp =>
        q p es G _ (g.trans (Gs.same g.sub (Ex.new hp) g.jar)) (g.live _ hp) (fresh_back g.sub hp) (g.jar.ne hp) upd_same i4 i5⟩)

/-! ### {k: v} -/
/-- the display, the keys' places kept -/
theorem Dict_pairsA {prog : Program} {w : World} {A : Around} {E : Value → Shared → Prop} {K : Type} [DecidableEq K] {knd : HeapKind prog w K} {s : Shared} {env : Env} {keys : List (Option Expr)} {values : List Expr} {pos : Pos} {pairs : List (Sem Value × Sem Value)} {Q : Value → Shared → Prop} (hu : knd.room A)
    (hshape : (evalEachOpt keys env).zip ((evalEach values env).map fun v => do let x ← v; standAt pos; pure x) = pairs.map fun p => (some p.1, p.2)) (h0 : pairs ≠ []) (hlen : pairs.length ≤ 15)
    (h : wpAny (model prog w) A (evalPairs pairs) (fun vs s₁ => ∃ ps, CarriesH knd s₁.heap vs ps ∧ s₁.heap.DictOfH knd s.heap.objs.size [] ∧
      ∀ h' tk, h'.DictOfH knd s.heap.objs.size (storedAllH [] ps) → Heap.SameBut s.heap.objs.size s₁.heap h' → Q (.ref s.heap.objs.size) { s₁ with heap := h', toks := tk }) E
      { s with heap := s.heap.push { cls := .type "dict", data := .dict #[] } }) :
    wpAny (model prog w) A (eval (.Dict keys values pos) env) Q E s := by
  rw [arm_eval_Dict, hshape, dictDisplay_pairs pairs h0 (by omega)]
  exact wpAny_bind (wpAny_standAt (wpAny_bind (wpAny_subDictH (knd := knd) (Q := fun d s' => wpAny (model prog w) A (pure (Value.ref d)) Q E s') hu hlen
    (wpAny_mono h (fun vs s₁ h₁ => by obtain ⟨ps, hc, hm, hq⟩ := h₁; exact ⟨ps, hc, hm, fun h' tk a b => wpAny_pure (hq h' tk a b)⟩) fun _ _ e => e))))
theorem td_one {a b : Expr} {kk : NestedKey} {dk d : PyData} (hk : KeyD kk) (ek : dk = kk.data) (ha : Te X J a sl (.d dk)) (hb : Te X J b sl (.d d)) : Td X J (.Dict [some a] [b] pos) sl [(kk, d)] := fun F σ B H k Q q pins s I => by
  subst ek
  have hn := I.hok.fresh (Nat.le_refl s.heap.objs.size)
  have I1 := I.laid (a := s.heap.objs.size) (o := DictNO X.prog X.w s.heap.objs.size []) (h' := s.heap.push { cls := .type "dict", data := .dict #[] }) (t' := s.toks) (fun _ _ q => Heap.get?_push_of_some _ q) (Nat.le_refl _) (dn_empty I)
  have g0 : Gs X.K J B H B (upd H s.heap.objs.size (DictNO X.prog X.w s.heap.objs.size [])) := Gs.same k.ex (Ex.new hn) k.jar
  have q0 : L2.tPairs [(wE X a, wE X b)] σ (upd H s.heap.objs.size (DictNO X.prog X.w s.heap.objs.size [])) fun ps H2 => ∃ c z G, ps = [(V.ref c, z)] ∧ Gs X.K J B (upd H s.heap.objs.size (DictNO X.prog X.w s.heap.objs.size [])) G H2 ∧ KeyAt X.K G c kk ∧ Dp X.K G z d := by
    refine ha F σ B _ (k.step g0) _ fun u G H1 x g d1 ex => ?_
    subst ex
    obtain ⟨c, rfl, kc⟩ := hk.at d1
    refine hb F σ G H1 ((k.step g0).step g) _ fun z G2 H2 x2 g2 d2 ex2 => ?_
    subst ex2
    exact ⟨c, z, G2, rfl, g.trans g2, kc.ex g2.up, d2⟩
  have he : pairTrees [some a] [b] X.env pos ≠ [] := fun z => by
    have := congrArg List.length z
    rw [pairTrees_length _ _ X.env pos rfl rfl] at this
    cases this
  refine Dict_pairsA (knd := nestedKind X.prog X.w) (pairs := pairTrees [some a] [b] X.env pos) (by show X.A.units + 8 < cLine; have := F.un; omega) (zip_pairTrees _ _ X.env pos rfl rfl) he (by rw [pairTrees_length _ _ X.env pos rfl rfl]; exact (by decide : 1 ≤ 15)) ?_
  refine thn ((pps_cons pE pE pps_nil).run pins _ σ _ _ I1 q0) fun ws s2 ⟨ps, H2, I2, rel, c, z, G, e1, g, kc, dz⟩ => ?_
  subst e1
  have nj : ¬ JarAt J s.heap.objs.size := k.jar.ne hn
  have hD : H2 s.heap.objs.size = some (DictNO X.prog X.w s.heap.objs.size []) := g.keep _ _ nj upd_same
  cases rel with
  | @cons _ u _ us r1 r2 =>
    cases r2
    obtain ⟨u1, u2⟩ := u
    obtain ⟨r1, r3⟩ := r1
    cases (show u1 = Value.ref c from r1)
    have z1 := (kc.ex g.sub).isN I2
    obtain ⟨h1, hz, vs0, r0, dd⟩ := dn_of (X := X) I2 (Rd.of hD) (fun _ z => by cases z)
    cases r0
    refine ⟨[(kk, c, u2)], ⟨rfl, rfl, ⟨z1.is, z1.deep⟩, trivial⟩, dd, fun h' tk hd hs => ?_⟩
    have hx' : h'.DictOfH (nestedKind X.prog X.w) s.heap.objs.size (storedH [] kk c u2) := hd
    have I3 := dn_write I2 hD (fun _ z => by cases z) r3 .nil (by rw [sizeLine_eq]; decide) h1 hx' hs tk
    have ob : B s.heap.objs.size = none := fresh_back k.ex hn
    refine ⟨.ref s.heap.objs.size, _, I3, rfl, q s.heap.objs.size [(kk, c, z)] G _ (((g0.trans g)).put _ hn (g.off upd_same ob) nj) hn (g.off upd_same ob) nj upd_same (fun y hy => ?_) (.cons ⟨rfl, dz⟩ .nil)⟩
    rw [List.mem_singleton.mp hy]
    exact kc
end
end SH

set_option Elab.async false
set_option linter.all false
set_option maxRecDepth 100000
set_option maxHeartbeats 1600000
/-! ShT8: an own dict walked (locked the while); ints of modules; the jar. -/
namespace SH
open PySem PySem.Spec PyProof.Rows L2 PySem.W Evl
section
variable {X : Cx} {J : Option Jar} {sl : List Sd} {e b tg : Expr} {pos pp : Pos} {nm : Str}
theorem tl_lock {xs : List KD} {P : List PyData → Prop} (i : Nat) (hi : sl[i]? = some (.od xs)) (h : TlP X J e (sl.set i (.fd xs)) P) : TlP X J e sl P := fun F σ B H k Q q => by
  obtain ⟨p, es, e1, e2, n, e3, d1, dd⟩ := k.here i _ hi
  have hi' : i < sl.length := (List.getElem?_eq_some_iff.mp hi).1
  refine wE.of (pe_lock pE) ⟨p, _, e3, trivial, fun od => ?_⟩
  have k2 : Holds X J B (upd H p (.frz od (DictNO X.prog X.w p es))) σ (sl.set i (.fd xs)) := by
    refine ⟨k.ex.mut e2, by rw [List.length_set]; exact k.len, fun j t e => ?_, fun a c s t q ne e4 e5 o1 o2 q1 q2 => ?_, fun x ex => ?_⟩
    · by_cases z : i = j
      · subst z
        rw [List.getElem?_set_self hi'] at e
        cases e
        exact ⟨p, es, e1, e2, n, ⟨od, upd_same⟩, d1, dd⟩
      · rw [List.getElem?_set_ne z] at e
        have y := k.here j t e
        cases t with
        | no => trivial
        | d x => exact y
        | ol xs => obtain ⟨q, vs, f1, f2, m, f3, d⟩ := y; exact ⟨q, vs, f1, f2, m, by rw [upd_ne (own_ne k hi rfl e1 j _ q (fun w => z w.symm) e rfl f1)]; exact f3, d⟩
        | od xs => obtain ⟨q, vs, f1, f2, m, f3, d⟩ := y; exact ⟨q, vs, f1, f2, m, by rw [upd_ne (own_ne k hi rfl e1 j _ q (fun w => z w.symm) e rfl f1)]; exact f3, d⟩
        | fd xs => obtain ⟨q, vs, f1, f2, m, f3, d⟩ := y; exact ⟨q, vs, f1, f2, m, by rw [upd_ne (own_ne k hi rfl e1 j _ q (fun w => z w.symm) e rfl f1)]; exact f3, d⟩
        | oj q c0 ns xs => obtain ⟨vs, f1, f2, m, f3, d⟩ := y; exact ⟨vs, f1, f2, m, by rw [upd_ne (own_ne k hi rfl e1 j _ q (fun w => z w.symm) e rfl f1)]; exact f3, d⟩
    · have back : ∀ (c : Nat) (s1 : Sd), (sl.set i (.fd xs))[c]? = some s1 → s1.own = true → ∃ s2 : Sd, sl[c]? = some s2 ∧ s2.own = true := fun c s1 e o => by
        by_cases z : i = c
        · subst z; exact ⟨_, hi, rfl⟩
        · rw [List.getElem?_set_ne z] at e; exact ⟨s1, e, o⟩
      obtain ⟨t1, f1, f2⟩ := back a s e4 o1
      obtain ⟨t2, f3, f4⟩ := back c t e5 o2
      exact k.apart a c t1 t2 q ne f1 f3 f2 f4 q1 q2
    · obtain ⟨h1, h2, a, b, c, d, q, r⟩ := k.jar x ex
      have ne : x.spot ≠ p := fun z => n ⟨x, ex, z.symm⟩
      exact ⟨h1, h2, a, b, c, d, by rw [upd_ne ne]; exact q, r⟩
  refine h F σ B _ k2 _ fun r vs ys G H' g h1 h2 nj h3 h4 hp => ?_
  have fp : H' p = some (.frz od (DictNO X.prog X.w p es)) := g.keep _ _ n upd_same
  have gp : G p = none := g.off upd_same e2
  have nr : r ≠ p := fun z => by rw [z, upd_same] at h1; cases h1
  refine ⟨fp, q r vs ys G _ ⟨g.up, g.sub.mut gp, fun a o m ea => ?_, fun a ea => ?_, fun a o ea => ?_, fun x ex => ?_⟩ (by rw [upd_ne nr] at h1; exact h1) h2 nj (by rw [upd_ne nr]; exact h3) h4 hp⟩
  · by_cases z : a = p
    · rw [z] at ea ⊢; rw [upd_same, ← ea, e3]
    · rw [upd_ne z]; exact g.keep a o m (by rw [upd_ne z]; exact ea)
  · by_cases z : a = p
    · rw [z, upd_same] at ea; cases ea
    · rw [upd_ne z] at ea
      have := g.live a ea
      rw [upd_ne z] at this
      exact this
  · rcases g.new a o ea with z | z
    · exact .inl z
    · by_cases y : a = p
      · rw [y, upd_same] at z; cases z
      · rw [upd_ne y] at z; exact .inr z
  · obtain ⟨h1, h2, a, b, c, d, q, r⟩ := g.jar x ex
    have ne : x.spot ≠ p := fun z => n ⟨x, ex, z.symm⟩
    exact ⟨h1, h2, a, b, c, d, by rw [upd_ne ne]; exact q, r⟩
/-- the keys of a locked dict -/
theorem ti_keys {xs : List KD} (i : Nat) (hi : sl[i]? = some (.fd xs)) (hN : X.N[i]? = some nm := by rfl) (hv : Vis X.env.scope nm := by first | exact Or.inl rfl | exact Or.inr (Or.inl rfl) | exact Or.inr (Or.inr rfl))
    (hd : (nm == ("__debug__" : Str)) = false := by decide) (hcd : (nm == ("__classdict__" : Str)) = false := by decide) : TiK X J tg (.Name nm pp) sl (xs.map fun y => y.1.data) := fun F =>
  ⟨iKeysN X (tVar i), pi_keysN (pv i hN hv hd hcd), fun σ B H k R r => by
    obtain ⟨p, es, e1, e2, n, ⟨o, e3⟩, d1, dd⟩ := k.here i _ hi
    refine ⟨.ref p, getD_some e1, p, o, es, rfl, e3, r _ B H (Gs.refl k.ex k.jar) ?_⟩
    have hlen : es.length = xs.length := Paired.length dd
    have w0 := walk_keysN (P := X.prog) (w := X.w) (d := p) (o := o) (xs := es)
    rw [hlen] at w0
    rw [List.length_map]
    refine w0.mono (fun H2 q => q.2 p _ n e3) fun i H2 x H3 hi q y G2 x1 x2 j => ?_
    obtain ⟨rfl, en, hen, rfl⟩ := y
    obtain ⟨y, hy, f1, f2⟩ := paired_get dd hen
    refine ⟨G2, y.1.data, Gs.refl x2 j, by rw [List.getElem?_map, hy]; rfl, ?_⟩
    have kd := (d1 en (List.mem_of_getElem? hen)).dp
    rw [f1] at kd
    exact dp_ex x1 _ _ kd⟩
/-- a value of a locked dict -/
theorem te_ixF {i : Nat} {xs : List KD} {dk d : PyData} {kk : NestedKey} {np : Pos} (hi : sl[i]? = some (.fd xs)) (hb : Te X J b sl (.d dk)) (hk : KeyD kk) (ek : dk = kk.data) (hd : findK xs kk = some d) (hN : X.N[i]? = some nm := by rfl)
    (hv : Vis X.env.scope nm := by first | exact Or.inl rfl | exact Or.inr (Or.inl rfl) | exact Or.inr (Or.inr rfl)) (hdb : (nm == ("__debug__" : Str)) = false := by decide) (hcd : (nm == ("__classdict__" : Str)) = false := by decide) (hs : PlainIx b := by exact fun _ _ => rfl) :
    Te X J (.Subscript (.Name nm np) b pos) sl (.d d) := fun F σ B H k Q q => by
  obtain ⟨p, es, e1, e2, n, ⟨o, e3⟩, d1, dd⟩ := k.here i _ hi
  refine wE.of (pe_ix (ix_dictN F.un64) (pv i hN hv hdb hcd) pE hs) ⟨.ref p, getD_some e1, hb F σ B H k _ fun v G H1 y g dj e => ?_⟩
  subst e ek
  obtain ⟨c, rfl, kc⟩ := hk.at dj
  obtain ⟨w, h3, h4⟩ := (entD_find dd).1 d hd
  exact ⟨c, p, kk, es, w, rfl, rfl, .inr ⟨o, g.keep _ _ n e3⟩, (d1.ex g.up).ex g.sub, kc.ex g.sub, h3, q w.2 G H1 (.d d) g (dp_ex g.up _ _ h4) rfl⟩
/-- a module's int -/
theorem te_gint {i : Int} {t : Tok} (hm : X.mg nm = some (.int i t)) (hg : Gl X nm := by rfl) (hd : (nm == ("__debug__" : Str)) = false := by decide) : Te X J (.Name nm pp) sl (dI i) := te_tC (pe_glob (v := .int i) hg hm ⟨t, rfl⟩ hd) fun _ => Dp.int i
end
end SH

set_option Elab.async false
set_option linter.all false
set_option maxRecDepth 100000
set_option maxHeartbeats 1600000
/-! K58j: the law's jar: made, drawn from; more rules. -/
namespace SH
open PySem PySem.Spec PyProof.Rows L2 PySem.W Evl
section
variable {X : Cx} {J : Option Jar} {sl : List Sd} {a e : Expr} {es : List Expr} {pos pp : Pos} {nm : Str}
theorem d2_mulS {i j : Int} (h : CMul i j) : D2 X J (wO X (binaryOp .Mult)) (dI i) (dI j) (· = dI (i * j)) := d2_IC op_mul h fun _ => Dp.int _
theorem dc_allM {α : Type} {ts : List α} {p : α → Bool} : DC X J (wC X (.builtin "all")) [.d (.list (ts.map fun t => .bool (p t)))] (· = dB (ts.all p)) := by
  have h := dc_all (X := X) (J := J) (bs := ts.map p)
  rw [List.map_map, List.all_map] at h
  exact h
theorem dc_anyM {α : Type} {ts : List α} {p : α → Bool} : DC X J (wC X (.builtin "any")) [.d (.list (ts.map fun t => .bool (p t)))] (· = dB (ts.any p)) := by
  have h := dc_any (X := X) (J := J) (bs := ts.map p)
  rw [List.map_map, List.any_map] at h
  exact h
theorem kit_int {x : PyData} : kitB (tyName x) "int" = some (match x with | .int _ => true | .bool _ => true | _ => false) := by cases x <;> (simp only [tyName]; decide +kernel)
theorem kit_bool {x : PyData} : kitB (tyName x) "bool" = some (match x with | .bool _ => true | _ => false) := by cases x <;> (simp only [tyName]; decide +kernel)
theorem kit_tuple {x : PyData} : kitB (tyName x) "tuple" = some (match x with | .tuple _ => true | _ => false) := by cases x <;> (simp only [tyName]; decide +kernel)
theorem kit_list {x : PyData} : kitB (tyName x) "list" = some (match x with | .list _ => true | _ => false) := by cases x <;> (simp only [tyName]; decide +kernel)
/-! what a target leaves owned -/
def TK (sl sl' : List Sd) (js : List Nat) : Prop := ∀ (c : Nat) (s : Sd), sl'[c]? = some s → s.own = true → c ∉ js ∧ sl[c]? = some s
theorem tk_set {j : Nat} {x : Dd} : TK sl (sl.set j (.d x)) [j] := fun c s e o => by
  by_cases z : j = c
  · subst z
    by_cases hj : j < sl.length
    · rw [List.getElem?_set_self hj] at e; cases e; cases o
    · rw [List.getElem?_eq_none (by rw [List.length_set]; omega)] at e; cases e
  · rw [List.getElem?_set_ne z] at e
    exact ⟨fun h => z (List.mem_singleton.mp h).symm, e⟩
theorem tk_nil : TK sl sl [] := fun c s e o => ⟨by simp, e⟩
theorem tk_cons {sl1 sl2 : List Sd} {js ks : List Nat} (h1 : TK sl sl1 js) (h2 : TK sl1 sl2 ks) : TK sl sl2 (js ++ ks) := fun c s e o => by
  obtain ⟨a, b⟩ := h2 c s e o
  obtain ⟨a', b'⟩ := h1 c s b o
  exact ⟨fun h => (List.mem_append.mp h).elim a' a, b'⟩
/-- xs[:n] of a list: a fresh list -/
theorem tl_slL {ds : List PyData} {n : Nat} {j : Nat} {p2 p3 : Pos} (h : Te X J a sl (.d (.list ds))) : Tl X J (.Subscript a (.Slice none (some (.Constant (.int n) j p3)) none p2) pos) sl (ds.take n) := fun F σ B H k Q q =>
  wE.of (pe_slice sl_list pE po_none (po_some pe_int)) (h F σ B H k _ fun v G H1 y g d e1 => by
    subst e1
    cases d with
    | @lst p xs _ h1 h2 =>
      refine ⟨(n : Int), rfl, p, xs, rfl, ex_l g.sub h1, fun r hr => ?_⟩
      have e1 : cutV xs none (some (n : Int)) = xs.take n := by
        unfold cutV
        rw [HT.sIx_nat, HT.sIx_none]
        simp only [List.drop_zero, Nat.sub_zero]
        rw [← List.take_eq_take_min]
      rw [e1]
      refine q r _ _ G _ (g.trans (Gs.same g.sub (Ex.new hr) g.jar)) (g.live _ hr) (fresh_back g.sub hr) (g.jar.ne hr) upd_same ?_ rfl
      have key : ∀ (n : Nat) (xs : List V) (ds : List PyData), DpAll X.K G xs ds → DpAll X.K G (xs.take n) (ds.take n) := by
        intro n
        induction n with
        | zero => intro xs ds _; exact .nil
        | succ n ih =>
          intro xs ds h
          cases h with
          | nil => exact .nil
          | cons a b => exact .cons a (ih _ _ b)
      exact key n xs ds h2)
/-- a fresh list from an own def -/
structure KnL (X : Cx) (nm : Str) (ps : List Str) (pr : Option Jar → List Dd → (List PyData → Prop) → Prop) : Prop where
  ex : ∃ f fd k, FnOk X.prog X.w X.K X.mg X.base CX0 k f fd ps (spL X.prog X.w X.K pr) ∧ Room k X.A ∧ X.mg nm = some (.ref f) ∧ PySem.W.keepIn X.K (.ref f) = true ∧ Binds X.K fd ps []
theorem tl_fn {ps : List Str} {pr : Option Jar → List Dd → (List PyData → Prop) → Prop} {xs : List Dd} {R : List PyData → Prop} (F : KnL X nm ps pr) (ha : Tas X J (e :: es) sl xs) (h : pr J xs R) (hg : Gl X nm := by rfl)
    (hdb : (nm == ("__debug__" : Str)) = false := by decide) (he : starEach (e :: es) X.env = (false, eval e X.env) :: starEach es X.env := by rfl) (hpl : (backTo pos (starEach es X.env)).any (·.1) = false := by rfl) :
    TlP X J (.Call (.Name nm pp) (e :: es) [] pos) sl R := fun Ft σ B H k Q q => by
  obtain ⟨f, fd, n, F1, F2, F3, F4, F5⟩ := F.ex
  refine wE.of (pe_call (E := E0) F1 F2 hg F3 F4 F5 .nil pass0 pA hdb he hpl) (ha Ft σ B H k _ fun vs G H1 zs g d ez => ?_)
  subst ez
  rw [List.append_nil]
  exact ⟨X, J, G, zs, R, rfl, rfl, rfl, g.sub, g.jar, d, h, fun p us ys G2 H2 g2 h1 h2 nj h3 h4 r => q p us ys G2 H2 (g.trans g2) (g.live _ h1) h2 nj h3 h4 r⟩
end
/-- a def of the module: its text, its name, how it binds -/
structure Kd (K : PySem.W.Frag) (mg : Str → Option Value) (x : Str) (st : Stmt) (ps : List Str) (f : Addr) (fd : FuncData) : Prop where
  F : L2.Fun K x x st f fd
  g : mg x = some (.ref f)
  b : L2.Binds K fd ps []
abbrev Pr := Option Jar → List Dd → (Dd → Prop) → Prop
abbrev PrL := Option Jar → List Dd → (List PyData → Prop) → Prop
theorem Kd.kn {X : Cx} {x : Str} {st : Stmt} {ps : List Str} {f : Addr} {fd : FuncData} {pr : Pr} (D : Kd X.K X.mg x st ps f fd) {k n : Nat} (ok : FnOk X.prog X.w X.K X.mg X.base CX0 k f fd ps (spD X.prog X.w X.K pr)) (hr : Room n X.A) (h : k ≤ n := by omega) : Kn X x ps pr := ⟨f, fd, k, ok, hr.mono h, D.g, D.F.kp, D.b⟩
theorem Kd.knL {X : Cx} {x : Str} {st : Stmt} {ps : List Str} {f : Addr} {fd : FuncData} {pr : PrL} (D : Kd X.K X.mg x st ps f fd) {k n : Nat} (ok : FnOk X.prog X.w X.K X.mg X.base CX0 k f fd ps (spL X.prog X.w X.K pr)) (hr : Room n X.A) (h : k ≤ n := by omega) : KnL X x ps pr := ⟨f, fd, k, ok, hr.mono h, D.g, D.F.kp, D.b⟩
/-- the built-in names are not written over -/
structure MgB (mg : Str → Option Value) : Prop where
  len : mg "len" = none
  all : mg "all" = none
  any : mg "any" = none
  max : mg "max" = none
  int : mg "int" = none
  bool : mg "bool" = none
  tuple : mg "tuple" = none
  list : mg "list" = none
  dict : mg "dict" = none
  set : mg "set" = none
  sorted : mg "sorted" = none
  enumerate : mg "enumerate" = none
  range : mg "range" = none
  isinstance : mg "isinstance" = none
def topS (i : Nat) : Stmt := PySem.Challenge.pw_selfhold_k58_papers_of_long_rows.main.body.getD i (.Pass ⟨0, 0, 0, 0⟩)

/-! ### _law_jar -/
abbrev sJar : Stmt := topS 27
abbrev nJar : List Str := ["_law_script", "_law_seed", "_law_cell"]
theorem scJar : FnScope nJar ["_law_script"] (defScope sJar) := ⟨rfl, rfl, rfl, by decide +kernel, rfl, by decide +kernel, by decide +kernel⟩
def prJar : PrL := fun J xs R => ∃ ns : List Int, xs = [.d (.list (ns.map .int))] ∧ ns.length ≤ 63 ∧ R = fun ys => ∃ s : Int, ys = [.list (ns.map .int), .int 0, .int 0, .int s, .int 0] ∧ 0 ≤ s ∧ s < seedTop
section
variable {P : Program} {w : World} {K : PySem.W.Frag} {mg : Str → Option Value} {base : Heap} {f : Addr} {fd : FuncData} {k : Nat}
theorem ok_jar (D : Kd K mg "_law_jar" sJar ["_law_script"] f fd) (M : MgB mg) : FnOk P w K mg base CX0 (k + 1) f fd ["_law_script"] (spL P w K prJar) := by
  refine fnL_ok D.F scJar (fun J xs R ⟨x, e, _⟩ => by rw [e]; rfl) fun cdv A outer s H E hr J B0 H0 xs R Dn ⟨ns, e1, hl, e2⟩ hrt => ?_
  subst e1 e2
  refine st_set 1 (te_op te_int (te_callB (tas_cons (te_name (i := 0) rfl) tas_nil) (by first | exact dc_lenL | exact dc_lenT) M.len boot_len) d2_add) (fun x e => ?_)
  subst e
  have tk : (ns.map PyData.int).take 63 = ns.map PyData.int := List.take_of_length_le (by rw [List.length_map]; exact hl)
  refine st_for (ts := ns) (enc := PyData.int) (fun i sl => ∃ (s : Int) (c : Sd), 0 ≤ s ∧ s < seedTop ∧ c.own = false ∧ sl = [.d (.d (.list (ns.map .int))), .d (dI s), c]) (ti_list (te_is (te_l (tl_slL (n := 63) (te_name (i := 0) rfl))) (by rw [tk]))) (pg_name (i := 2) scJar.nd rfl (.inl rfl)) ⟨_, .no, by omega, ?_, rfl, rfl⟩ ?_ ?_
  · rw [List.length_map]
    show _ < (2147483629 : Int)
    omega
  · rintro i t sl1 ht ⟨s, c, h0, h1, hc, rfl⟩
    refine ⟨_, _, tg_name, tk_set, fun U' eU => ?_⟩
    · refine st_set 1 (te_op (te_op (te_op (te_op (te_name (i := 1) rfl) te_int (d2_mulS ?_)) (te_name (i := 2) rfl) d2_add) te_int d2_add) te_int (d2_mod (by decide))) (fun x e => ?_)
      · exact .inl ⟨by omega, by show s < 2 ^ 64; unfold seedTop at h1; omega⟩
      subst e
      refine st_nil fun σ B H hF => ⟨_, B, ⟨_, _, Int.emod_nonneg _ (by decide), Int.emod_lt_of_pos _ (by decide), ?_, rfl⟩, hF⟩
      rfl
  · rintro sl1 ⟨s, c, h0, h1, hc, rfl⟩
    refine st_retL (tl_lst (tds_cons (te_is (te_l (tl_list (te_l (tl_slL (n := 63) (te_name (i := 0) rfl))) (.inl rfl) M.list)) (by rw [tk])) (tds_cons te_int (tds_cons te_int (tds_cons (te_name (i := 1) rfl) (tds_cons te_int tds_nil))))) (by simp)) fun p us ys G H' g h1' h2 nj h3 h4 e => ?_
    exact hrt p us ys G H' g h1' h2 nj h3 h4 ⟨s, e, h0, h1⟩
end
end SH

set_option Elab.async false
set_option linter.all false
set_option maxRecDepth 100000
set_option maxHeartbeats 1600000
/-! K58d: _law_draw and _law_of. -/
namespace SH
open PySem PySem.Spec PyProof.Rows L2 PySem.W Evl
abbrev sDraw : Stmt := topS 28
abbrev nDraw : List Str := ["_law_jar_here", "_law_top", "_law_cell", "_law_digit"]
theorem scDraw : FnScope nDraw ["_law_jar_here", "_law_top"] (defScope sDraw) := ⟨rfl, rfl, rfl, by decide +kernel, rfl, by decide +kernel, by decide +kernel⟩
def prDraw : Pr := fun J xs R => ∃ (j : Jar) (t : Int), J = some j ∧ xs = [.jar, dI t] ∧ 0 < t ∧ t < 2 ^ 64 ∧ R = fun y => ∃ i, y = dI i ∧ 0 ≤ i ∧ i < t
section
variable {P : Program} {w : World} {K : PySem.W.Frag} {mg : Str → Option Value} {base : Heap} {f : Addr} {fd : FuncData} {k : Nat}
/-- the body over the jar's own list -/
theorem draw_body {qual : Str} {cdv : Value} {A : Around} {outer : List Env} {s : Shared} {Hx : Hp} {E : XK} (M : MgB mg) (p c : Addr) (ns : List Int) (i g sd cn t : Int) (hi : 0 ≤ i) (hg : 0 ≤ g) (hs : 0 ≤ sd) (hs2 : sd < seedTop) (ht : 0 < t) (ht2 : t < 2 ^ 64) (B0 H0 : Hp) (Dn : Ends)
    (hrt : ∀ (r : Int) G H' σ c1 c2 (i g sd cn : Int), 0 ≤ r → r < t → 0 ≤ i → 0 ≤ g → 0 ≤ sd → sd < seedTop → HoldF (cxOf CX0 P w K mg base nDraw qual (defScope sDraw) f cdv A outer s Hx E).nox none B0 H0 B0 G H' σ [.oj p c ns [.int i, .int g, .int sd, .int cn], .d (dI t), c1, c2] → Dn.rt (.int r) H') :
    St (cxOf CX0 P w K mg base nDraw qual (defScope sDraw) f cdv A outer s Hx E).nox none B0 H0 B0 [.oj p c ns [.int i, .int g, .int sd, .int cn], .d (dI t), .no, .no] (defBody sDraw) Dn := by
  -- the second half, from whatever the first leaves
  have second : ∀ (i g sd cn : Int) (c1 : Sd), 0 ≤ i → 0 ≤ g → 0 ≤ sd → sd < seedTop → St (cxOf CX0 P w K mg base nDraw qual (defScope sDraw) f cdv A outer s Hx E).nox none B0 H0 B0 [.oj p c ns [.int i, .int g, .int sd, .int cn], .d (dI t), c1, .no] ((defBody sDraw).tail) Dn := by
    intro i g sd cn c1 hi hg hs hs2
    have hs3 : sd < 2147483629 := hs2
    refine st_if (tt_cmp (te_ixJ (i := 0) rfl te_int rfl) (te_name (i := 1) rfl) d2_ge) (fun c5 => ?_) (fun c6 => ?_)
    · refine st_set 3 (te_op (te_ixJ (i := 0) rfl te_int rfl) (te_name (i := 1) rfl) (d2_mod ht)) (fun x e => ?_)
      subst e
      refine st_putJ (c := 1) 0 rfl (te_op (te_ixJ (i := 0) rfl te_int rfl) (te_name (i := 1) rfl) (d2_fdiv (wide_div (b := 64) ht (by omega) (by decide) (by decide)))) te_int rfl ?_
      refine st_retH (te_name (i := 3) rfl) fun v G H' x σ hF d e => ?_
      subst e
      cases d
      exact hrt _ G H' σ _ _ _ _ _ _ (Int.emod_nonneg _ (by omega)) (Int.emod_lt_of_pos _ ht) hi (Int.ediv_nonneg hg (by omega)) hs hs2 hF
    · refine st_done ?_ rfl
      refine st_putJ (c := 3) 0 rfl (te_op (te_ixJ (i := 0) rfl te_int rfl) te_int d2_add) te_int rfl ?_
      refine st_putJ (c := 2) 0 rfl (te_op (te_op (te_op (te_op (te_op (te_ixJ (i := 0) rfl te_int rfl) te_int (d2_pow ⟨by decide, by decide, by omega⟩)) (te_op te_int (te_ixJ (i := 0) rfl te_int rfl) (d2_mulS (.inl ⟨by decide, by decide⟩))) d2_add) (te_op (te_ixJ (i := 0) rfl te_int rfl) te_int (d2_fdiv (wide_div (b := 64) (by decide) (by decide) (by decide) (by decide)))) d2_add) te_int d2_add) te_int (d2_mod (by decide))) te_int rfl ?_
      refine st_retH (te_op (te_op (te_ixJ (i := 0) rfl te_int rfl) te_int (d2_fdiv (wide_div (b := 64) (by decide) (by decide) (by decide) (by decide)))) (te_name (i := 1) rfl) (d2_mod ht)) fun v G H' x σ hF d e => ?_
      subst e
      cases d
      exact hrt _ G H' σ _ _ _ _ _ _ (Int.emod_nonneg _ (by omega)) (Int.emod_lt_of_pos _ ht) hi hg (Int.emod_nonneg _ (by decide)) (Int.emod_lt_of_pos _ (by decide)) hF
  refine st_if (rest := (defBody sDraw).tail) (tt_w (tw_and (tt_cmp (te_ixJ (i := 0) rfl te_int rfl) (te_name (i := 1) rfl) d2_lt) fun h1 => (tw_and1 (tt_cmp (te_ixJ (i := 0) rfl te_int rfl) (te_callB (tas_cons (te_ixJ (i := 0) rfl te_int rfl) tas_nil) dc_lenL M.len boot_len) d2_lt)))) (fun c2 => ?_) (fun c3 => ?_)
  · have hs3 : sd < 2147483629 := hs2
    have hlt : i < ns.length := by
      have := ((Bool.and_eq_true _ _).mp c2.symm).2
      rw [List.length_map] at this
      exact of_decide_eq_true this
    have hcell : atI (ns.map PyData.int) i = some (.int (ns.getD i.toNat 0)) := by
      have := atI_nat (xs := ns.map PyData.int) (j := i.toNat) (v := .int (ns.getD i.toNat 0)) (by
        rw [List.getElem?_map, List.getD_eq_getElem?_getD, List.getElem?_eq_getElem (by omega)]
        rfl)
      rw [Int.toNat_of_nonneg hi] at this
      exact this
    refine st_set 2 (te_ix (te_ixJ (i := 0) rfl te_int rfl) (te_ixJ (i := 0) rfl te_int rfl) (dix_list hcell)) (fun x e => ?_)
    subst e
    refine st_putJ (c := 0) 0 rfl (te_op (te_ixJ (i := 0) rfl te_int rfl) te_int d2_add) te_int rfl ?_
    refine st_putJ (c := 2) 0 rfl (te_op (te_op (te_op (te_op (te_ixJ (i := 0) rfl te_int rfl) te_int (d2_mulS (.inl ⟨by omega, by omega⟩))) (te_name (i := 2) rfl) d2_add) (te_ixJ (i := 0) rfl te_int rfl) d2_add) te_int (d2_mod (by decide))) te_int rfl ?_
    refine st_putJ (c := 1) 0 rfl (d := .int (bif decide ((10 : Int) ^ (18 : Int).toNat ≤ ns.getD i.toNat 0) then ns.getD i.toNat 0 else 0)) (te_is (te_if (tt_cmp (te_name (i := 2) rfl) (te_op te_int te_int (d2_pow ⟨by decide, by decide, by decide⟩)) d2_ge) (fun h4 => (te_name (i := 2) rfl)) fun h4 => te_int) ?_) te_int rfl ?_
    · cases decide ((10 : Int) ^ (18 : Int).toNat ≤ ns.getD i.toNat 0) <;> rfl
    · refine st_done (second _ _ _ _ _ (by omega) ?_ (Int.emod_nonneg _ (by decide)) (Int.emod_lt_of_pos _ (by decide))) rfl
      by_cases h : (10 : Int) ^ (18 : Int).toNat ≤ ns.getD i.toNat 0
      · rw [decide_eq_true h]
        exact Int.le_trans (by decide) h
      · rw [decide_eq_false h]
        exact Int.le_refl _
  · exact st_done (second i g sd cn .no hi hg hs hs2) rfl
theorem ok_draw (D : Kd K mg "_law_draw" sDraw ["_law_jar_here", "_law_top"] f fd) (M : MgB mg) : FnOk P w K mg base CX0 (k + 1) f fd ["_law_jar_here", "_law_top"] (spD P w K prDraw) := by
  refine D.F.ok scDraw (fun vs H Q E h => ?_) (fun cdv A outer s H vs Q E hr h => ?_)
  · obtain ⟨X, J, B, xs, R, _, _, _, _, _, d, ⟨j, t, _, rfl, _⟩, _⟩ := h
    rw [Paired.length d]
    rfl
  · obtain ⟨X, J, B, xs, R, h1, h2, h3, ex, jar, d, ⟨j, t, rfl, rfl, ht, ht2, rfl⟩, q⟩ := h
    subst h1
    subst h2
    subst h3
    obtain ⟨b0, bc, i, g, sd, cn, hH, hi, hg, hs, hs2⟩ := jar j rfl
    obtain ⟨v1, v2, rfl, d1, d2⟩ : ∃ v1 v2, vs = [v1, v2] ∧ Dq X (some j) B v1 .jar ∧ Dq X (some j) B v2 (dI t) := by
      cases d with
      | cons a b => cases b with
        | cons c e => cases e; exact ⟨_, _, rfl, a, c⟩
    obtain ⟨j', ej, rfl⟩ := d1
    cases ej
    cases d2
    refine ⟨wSs _ (defBody sDraw), pSs, ?_⟩
    refine draw_body M j.spot j.cells j.ns i g sd cn t hi hg hs hs2 ht ht2 B (fun a => if a = j.spot then none else H a) _ (fun r G H' σ c1 c2 i g sd cn hr0 hr1 hi hg hs hs2 hF => ?_) (fit_of scDraw.nd hr) _ B H ⟨⟨ex, rfl, fun n sl e => ?_, fun a b sl t' p ne e1 e2 o1 o2 q1 q2 => ?_, jar_none⟩, ⟨Ex.refl B, ex, fun a o _ e => ?_, fun a e => ?_, fun a o e => .inl e, jar_none⟩, Ex.refl B, fun n sl p e o q => ?_⟩
    · have z := hF.hold.here 0 _ rfl
      obtain ⟨us, e1, e2, n, e3, d0, dd⟩ := z
      have eu : us = [V.int i, V.int g, V.int sd, V.int cn] := by
        cases dd with
        | cons x1 dd => cases dd with
          | cons x2 dd => cases dd with
            | cons x3 dd => cases dd with
              | cons x4 dd => cases dd; cases x1; cases x2; cases x3; cases x4; rfl
      subst eu
      refine q (.int r) G H' (dI r) ⟨hF.gs.up, hF.gs.sub, fun a o nj e => ?_, fun a e => ?_, fun a o e => ?_, fun x ex => ?_⟩ (Dp.int r) ⟨r, rfl, hr0, hr1⟩
      · have ne : a ≠ j.spot := fun z => nj ⟨j, rfl, z⟩
        exact hF.gs.keep a o (fun ⟨_, z, _⟩ => nomatch z) (by rw [if_neg ne]; exact e)
      · have z := hF.gs.live a e
        by_cases c : a = j.spot
        · rw [c, e3] at e; cases e
        · rw [if_neg c] at z; exact z
      · rcases hF.gs.new a o e with z | z
        · exact .inl z
        · by_cases c : a = j.spot
          · rw [c, e2] at e; cases e
          · rw [if_neg c] at z; exact .inr z
      · cases ex
        exact ⟨e2, d0, i, g, sd, cn, e3, hi, hg, hs, hs2⟩
    · match n with
      | 0 => cases e; exact ⟨_, rfl, b0, fun ⟨_, z, _⟩ => (nomatch z), hH, bc, .cons (.int _) (.cons (.int _) (.cons (.int _) (.cons (.int _) .nil)))⟩
      | 1 => cases e; exact ⟨_, rfl, Dp.int t⟩
      | 2 => cases e; trivial
      | 3 => cases e; trivial
      | n + 4 => cases e
    · have only : ∀ (n : Nat) (u : Sd), [Sd.oj j.spot j.cells j.ns [.int i, .int g, .int sd, .int cn], .d (dI t), .no, .no][n]? = some u → u.own = true → n = 0 := fun n u e o => by
        match n with
        | 0 => rfl
        | 1 => cases e; cases o
        | 2 => cases e; cases o
        | 3 => cases e; cases o
        | n + 4 => cases e
      exact ne ((only a _ e1 o1).trans (only b _ e2 o2).symm)
    · by_cases c : a = j.spot
      · rw [if_pos c] at e; cases e
      · rw [if_neg c] at e; exact e
    · show (if a = j.spot then none else H a) = none
      split
      · rfl
      · exact e
    · match n with
      | 0 => cases q; exact if_pos rfl
      | 1 => cases e; cases o
      | 2 => cases e; cases o
      | 3 => cases e; cases o
      | n + 4 => cases e
/-! ### _law_of -/
abbrev sOf : Stmt := topS 29
abbrev nOf : List Str := ["_law_jar_here", "_law_some"]
theorem scOf : FnScope nOf ["_law_jar_here", "_law_some"] (defScope sOf) := ⟨rfl, rfl, rfl, by decide +kernel, rfl, by decide +kernel, by decide +kernel⟩
def prOf : Pr := fun J xs R => ∃ (j : Jar) (ds : List PyData), J = some j ∧ xs = [.jar, .d (.list ds)] ∧ 0 < ds.length ∧ ds.length ≤ 1000000 ∧ R = fun y => ∃ d ∈ ds, y = .d d
theorem ok_of {f1 : Addr} {fd1 : FuncData} (D : Kd K mg "_law_of" sOf ["_law_jar_here", "_law_some"] f fd) (D1 : Kd K mg "_law_draw" sDraw ["_law_jar_here", "_law_top"] f1 fd1) (M : MgB mg) : FnOk P w K mg base CX0 (k + 2) f fd ["_law_jar_here", "_law_some"] (spD P w K prOf) := by
  refine fn_ok D.F scOf (fun J xs R ⟨_, _, _, e, _⟩ => by rw [e]; rfl) fun cdv A outer s H E hr J B0 H0 xs R Dn ⟨j, ds, e0, e1, h0, h1, e2⟩ hrt hnx => ?_
  subst e0 e1 e2
  refine st_ret (P := fun y => ∃ d ∈ ds, y = .d d) (te_ixP (P2 := fun _ y => ∃ i, y = dI i ∧ 0 ≤ i ∧ i < (ds.length : Int)) (te_name (i := 1) rfl)
    (fun _ _ => te_fn (Kd.kn D1 (ok_draw (k := k) D1 M) hr (Nat.le_refl _)) (tas_cons (te_name (i := 0) rfl) (tas_cons (te_callB (tas_cons (te_name (i := 1) rfl) tas_nil) dc_lenL M.len boot_len) tas_nil)) ⟨j, _, rfl, rfl, by omega, by omega, rfl⟩)
    fun x y e1 e2 => ?_) fun v G H' y g d e => hrt v G H' y g d e
  subst e1
  obtain ⟨i, rfl, h2, h3⟩ := e2
  have hi : i.toNat < ds.length := by omega
  have e := atI_nat (xs := ds) (j := i.toNat) (v := ds[i.toNat]) (List.getElem?_eq_getElem hi)
  rw [Int.toNat_of_nonneg h2] at e
  have z := dix_list (X := (cxOf CX0 P w K mg base nOf "_law_of" (defScope sOf) f cdv A outer s H E).nox) (J := some j) e
  exact fun F B H u v e j d1 d2 Q k => z F B H u v e j d1 d2 Q fun t G H' w g d r => k t G H' w g d ⟨_, List.getElem_mem hi, r⟩
end
end SH

set_option Elab.async false
set_option linter.all false
set_option maxRecDepth 100000
set_option maxHeartbeats 1600000
/-! K58m: webs in plain words: kinds by rounds, pairs, steps; how they are told as data. -/
namespace SH
open PySem PySem.Spec PyProof.Rows L2 PySem.W Evl
abbrev Web := List (List Int)
abbrev dRow (r : List Int) : PyData := .tuple (r.map .int)
abbrev dWeb (w : Web) : PyData := .list (w.map dRow)
abbrev dInts (ks : List Int) : PyData := .list (ks.map .int)
abbrev dPair (p : Int × Int) : PyData := .tuple [.int p.1, .int p.2]
abbrev Stp := Int × Int × Int × Int
abbrev dStep (s : Stp) : PyData := .tuple [.int s.1, .int s.2.1, .int s.2.2.1, .int s.2.2.2]
def kPair (p : Int × Int) : NestedKey := .tup [.num p.1, .num p.2]
def kInts (r : List Int) : NestedKey := .tup (r.map .num)
def kKey (k : Int × List Int) : NestedKey := .tup [.num k.1, kInts k.2]
theorem kPair_data (p : Int × Int) : (kPair p).data = dPair p := rfl
theorem datas_map (r : List Int) : NestedKey.datas (r.map .num) = r.map .int := by
  induction r with
  | nil => rfl
  | cons a r ih => show PyData.int a :: NestedKey.datas (r.map .num) = _; rw [ih]; rfl
theorem kInts_data (r : List Int) : (kInts r).data = dRow r := by
  show PyData.tuple (NestedKey.datas (r.map .num)) = _
  rw [datas_map]
theorem kKey_data (k : Int × List Int) : (kKey k).data = .tuple [.int k.1, dRow k.2] := by
  show PyData.tuple [PyData.int k.1, (kInts k.2).data] = _
  rw [kInts_data]
def gI (ks : List Int) (i : Int) : Int := ks.getD i.toNat 0
def gW (w : Web) (i : Int) : List Int := w.getD i.toNat []
theorem ixI {ks : List Int} {i : Int} (h : 0 ≤ i) (h2 : i < ks.length) : atI (ks.map PyData.int) i = some (.int (gI ks i)) := by
  have := atI_nat (xs := ks.map PyData.int) (j := i.toNat) (v := .int (gI ks i)) (by
    unfold gI
    rw [List.getElem?_map, List.getD_eq_getElem?_getD, List.getElem?_eq_getElem (by omega)]
    rfl)
  rw [Int.toNat_of_nonneg h] at this
  exact this
theorem ixW {w : Web} {i : Int} (h : 0 ≤ i) (h2 : i < w.length) : atI (w.map dRow) i = some (dRow (gW w i)) := by
  have := atI_nat (xs := w.map dRow) (j := i.toNat) (v := dRow (gW w i)) (by
    unfold gW
    rw [List.getElem?_map, List.getD_eq_getElem?_getD, List.getElem?_eq_getElem (by omega)]
    rfl)
  rw [Int.toNat_of_nonneg h] at this
  exact this
structure Wok (w : Web) : Prop where
  one : 1 ≤ w.length
  few : w.length ≤ 512
  row : ∀ r ∈ w, ∀ i ∈ r, 0 ≤ i ∧ i < w.length
  len : ∀ r ∈ w, r.length ≤ 4
/-- a row's number -/
def inW (w : Web) (i : Int) : Prop := 0 ≤ i ∧ i < w.length
theorem gW_mem {w : Web} {i : Int} (h : inW w i) : gW w i ∈ w := by
  unfold gW
  have hi : i.toNat < w.length := by obtain ⟨a, b⟩ := h; omega
  rw [List.getD_eq_getElem?_getD, List.getElem?_eq_getElem hi]
  exact List.getElem_mem hi
theorem Wok.in_ {w : Web} (o : Wok w) {i x : Int} (h : inW w i) (hx : x ∈ gW w i) : inW w x := o.row _ (gW_mem h) x hx
theorem Wok.ln {w : Web} (o : Wok w) {i : Int} (h : inW w i) : (gW w i).length ≤ 4 := o.len _ (gW_mem h)
theorem Wok.ln' {w : Web} (o : Wok w) {i : Int} (h : inW w i) : (gW w i).length ≤ 1000000 := Nat.le_trans (o.ln h) (by decide)

/-! ### rounds -/
abbrev leKey : Int × List Int → Int × List Int → Bool := fun a b => decide (a.1 < b.1 ∨ (a.1 = b.1 ∧ a.2 ≤ b.2))
def keysOf (w : Web) (ks : List Int) : List (Int × List Int) := w.zipIdx.map fun q => (gI ks (q.2 : Nat), srt leI (q.1.map (gI ks)))
/-- the place of a thing in a list -/
def placeOf {β : Type} [BEq β] (L : List β) (k : β) : Int := ((L.idxOf k : Nat) : Int)
def nextR (w : Web) (ks : List Int) : List Int := (keysOf w ks).map (placeOf (srt leKey (keysOf w ks)))
def kR (w : Web) : Nat → List Int
  | 0 => List.replicate w.length 0
  | n + 1 => nextR w (kR w n)
theorem nextR_len {w : Web} {ks : List Int} : (nextR w ks).length = w.length := by
  unfold nextR keysOf
  rw [List.length_map, List.length_map, List.length_zipIdx]
theorem kR_len {w : Web} : ∀ n, (kR w n).length = w.length
  | 0 => List.length_replicate
  | n + 1 => nextR_len
/-- all rounds, to one that stays -/
def Rounds (w : Web) (rs : List (List Int)) : Prop := ∃ n, rs = (List.range (n + 1)).map (kR w) ∧ kR w (n + 1) = kR w n
/-- the first list of kinds that tells two rows apart -/
def fuL (rs : List (List Int)) (a b : Int) : Option Nat := rs.findIdx? fun ks => !decide (gI ks a = gI ks b)
def encO : Option Nat → Dd
  | none => .d .none
  | some n => dI n
/-! ### pairs and steps -/
def needed (w : Web) (s : Stp) : List (Int × Int) := if s.2.2.1 = 0 then (gW w s.2.1).map fun to => (s.2.2.2, to) else (gW w s.1).map fun to => (to, s.2.2.2)
def Bis (w : Web) (ks : List Int) : Prop := ∀ a b, inW w a → inW w b → gI ks a = gI ks b → (∀ x ∈ gW w a, ∃ y ∈ gW w b, gI ks x = gI ks y)
/-- nothing is there that no way leads to -/
def Clos (w : Web) (a b : Int) (F : List (Int × Int)) : Prop := ∀ S : Int × Int → Prop, S (a, b) → (∀ p, S p → ∀ q : Int × Int, q.1 ∈ gW w p.1 → q.2 ∈ gW w p.2 → S q) → ∀ p ∈ F, S p
/-- the rows of a paper of likeness -/
structure LikeOk (w : Web) (one other : Int) (ps : List (Int × Int)) : Prop where
  root : (one, other) ∈ ps
  ord : ps.Pairwise fun a b => a.1 < b.1 ∨ (a.1 = b.1 ∧ a.2 < b.2)
  in_ : ∀ p ∈ ps, inW w p.1 ∧ inW w p.2
  forth : ∀ p ∈ ps, ∀ x ∈ gW w p.1, ∃ y ∈ gW w p.2, (x, y) ∈ ps
  back : ∀ p ∈ ps, ∀ y ∈ gW w p.2, ∃ x ∈ gW w p.1, (x, y) ∈ ps
  clos : Clos w one other ps
/-- side and row part one from the other at these kinds -/
def Parts (w : Web) (ks : List Int) (one other side row : Int) : Prop :=
  (side = 0 ∧ row ∈ gW w one ∧ ∀ to ∈ gW w other, gI ks row ≠ gI ks to) ∨ (side = 1 ∧ row ∈ gW w other ∧ ∀ to ∈ gW w one, gI ks row ≠ gI ks to)
/-- a step stands right -/
def StepOk (w : Web) (s : Stp) : Prop := inW w s.1 ∧ inW w s.2.1 ∧ ((s.2.2.1 = 0 ∧ s.2.2.2 ∈ gW w s.1) ∨ (s.2.2.1 = 1 ∧ s.2.2.2 ∈ gW w s.2.1))
abbrev pairOf (s : Stp) : Int × Int := (s.1, s.2.1)
/-- the rows of a paper of unlikeness; rk: a number to each pair -/
structure UnlikeOk (w : Web) (one other : Int) (top : Nat) (ss : List Stp) : Prop where
  ok : ∀ s ∈ ss, StepOk w s
  last : ∃ init s, ss = init ++ [s] ∧ pairOf s = (one, other)
  nd : (ss.map pairOf).Nodup
  few : ss.length ≤ 300000
  rank : ∃ rk : Int × Int → Nat, rk (one, other) = top ∧ (∀ s ∈ ss, 1 ≤ rk (pairOf s)) ∧ (∀ s ∈ ss, ∀ p ∈ needed w s, rk p < rk (pairOf s))
  ahead : ∀ init s rest, ss = init ++ s :: rest → ∀ p ∈ needed w s, p ∈ init.map pairOf
end SH

set_option Elab.async false
set_option linter.all false
set_option maxRecDepth 100000
set_option maxHeartbeats 1600000
/-! K58n: the mathematics of rounds. -/
namespace SH
open PySem PySem.Spec PyProof.Rows L2 PySem.W Evl
section
variable {β : Type} [BEq β] [LawfulBEq β] {le : β → β → Bool}
theorem idx_lt {L : List β} (o : Ordr le) (p : L.Pairwise (le · ·)) {x y : β} (hx : x ∈ L) (hy : y ∈ L) (h : le x y = true) (ne : x ≠ y) : L.idxOf x < L.idxOf y := by
  have lx := List.idxOf_lt_length_of_mem hx
  have ly := List.idxOf_lt_length_of_mem hy
  have ex : L[L.idxOf x]'lx = x := List.getElem_idxOf lx
  have ey : L[L.idxOf y]'ly = y := List.getElem_idxOf ly
  rcases Nat.lt_trichotomy (L.idxOf x) (L.idxOf y) with h1 | h1 | h1
  · exact h1
  · exact absurd (by rw [← ex, ← ey]; simp only [h1]) ne
  · have := List.pairwise_iff_getElem.mp p _ _ ly lx h1
    rw [ex, ey] at this
    exact absurd (o.anti x y h this) ne
theorem idx_inj {L : List β} {x y : β} (hx : x ∈ L) (hy : y ∈ L) (h : L.idxOf x = L.idxOf y) : x = y := by
  have ex : L[L.idxOf x]'(List.idxOf_lt_length_of_mem hx) = x := List.getElem_idxOf _
  have ey : L[L.idxOf y]'(List.idxOf_lt_length_of_mem hy) = y := List.getElem_idxOf _
  rw [← ex, ← ey]
  simp only [h]
end
theorem ordKey : Ordr leKey := by
  refine ⟨fun a b c h1 h2 => ?_, fun a b => ?_, fun a b h1 h2 => ?_⟩
  · have h1 := of_decide_eq_true h1
    have h2 := of_decide_eq_true h2
    refine decide_eq_true ?_
    rcases h1 with h1 | ⟨h1, h3⟩
    · rcases h2 with h2 | ⟨h2, h4⟩
      · exact .inl (by omega)
      · exact .inl (by omega)
    · rcases h2 with h2 | ⟨h2, h4⟩
      · exact .inl (by omega)
      · exact .inr ⟨by omega, List.le_trans h3 h4⟩
  · rw [Bool.or_eq_true]
    rcases Int.lt_trichotomy a.1 b.1 with h | h | h
    · exact .inl (decide_eq_true (.inl h))
    · rcases List.le_total a.2 b.2 with z | z
      · exact .inl (decide_eq_true (.inr ⟨h, z⟩))
      · exact .inr (decide_eq_true (.inr ⟨h.symm, z⟩))
    · exact .inr (decide_eq_true (.inl h))
  · have h1 := of_decide_eq_true h1
    have h2 := of_decide_eq_true h2
    rcases h1 with h1 | ⟨h1, h3⟩
    · rcases h2 with h2 | ⟨h2, h4⟩ <;> omega
    · rcases h2 with h2 | ⟨h2, h4⟩
      · omega
      · exact Prod.ext h1 (List.le_antisymm h3 h4)
def keyAt (w : Web) (ks : List Int) (a : Int) : Int × List Int := (gI ks a, srt leI ((gW w a).map (gI ks)))
section
variable {w : Web} {ks : List Int}
theorem keys_get {a : Int} (h : inW w a) : (keysOf w ks)[a.toNat]? = some (keyAt w ks a) := by
  obtain ⟨h1, h2⟩ := h
  have hl : a.toNat < w.length := by omega
  unfold keysOf keyAt
  rw [List.getElem?_map, List.getElem?_zipIdx, List.getElem?_eq_getElem hl]
  show some (gI ks ((0 + a.toNat : Nat) : Int), srt leI ((w[a.toNat]).map (gI ks))) = _
  have e1 : ((0 + a.toNat : Nat) : Int) = a := by omega
  have e2 : gW w a = w[a.toNat] := by
    unfold gW
    rw [List.getD_eq_getElem?_getD, List.getElem?_eq_getElem hl]
    rfl
  rw [e1, e2]
theorem keys_len : (keysOf w ks).length = w.length := by unfold keysOf; rw [List.length_map, List.length_zipIdx]
theorem keys_mem {a : Int} (h : inW w a) : keyAt w ks a ∈ keysOf w ks := List.mem_of_getElem? (keys_get h)
theorem keys_at {k : Int × List Int} (h : k ∈ keysOf w ks) : ∃ a, inW w a ∧ k = keyAt w ks a := by
  obtain ⟨i, hi, e⟩ := List.getElem_of_mem h
  rw [keys_len] at hi
  have hin : inW w (i : Int) := ⟨by omega, by omega⟩
  refine ⟨(i : Int), hin, ?_⟩
  have := keys_get (ks := ks) hin
  rw [Int.toNat_natCast, List.getElem?_eq_getElem (by rw [keys_len]; exact hi), e] at this
  exact Option.some.inj this
theorem next_at {a : Int} (h : inW w a) : gI (nextR w ks) a = placeOf (srt leKey (keysOf w ks)) (keyAt w ks a) := by
  unfold gI nextR
  rw [List.getD_eq_getElem?_getD, List.getElem?_map, keys_get h]
  rfl
theorem next_lt {a b : Int} (ha : inW w a) (hb : inW w b) (h : gI ks a < gI ks b) : gI (nextR w ks) a < gI (nextR w ks) b := by
  rw [next_at ha, next_at hb]
  unfold placeOf
  have z : (srt leKey (keysOf w ks)).idxOf (keyAt w ks a) < (srt leKey (keysOf w ks)).idxOf (keyAt w ks b) := idx_lt (le := leKey) ordKey (srt_pw ordKey) (srt_mem.mpr (keys_mem ha)) (srt_mem.mpr (keys_mem hb)) (decide_eq_true (.inl h)) fun e => by
    have : gI ks a = gI ks b := congrArg Prod.fst e
    omega
  omega
theorem next_eq {a b : Int} (ha : inW w a) (hb : inW w b) : gI (nextR w ks) a = gI (nextR w ks) b ↔ keyAt w ks a = keyAt w ks b := by
  rw [next_at ha, next_at hb]
  constructor
  · intro h
    unfold placeOf at h
    exact idx_inj (L := srt leKey (keysOf w ks)) (srt_mem.mpr (keys_mem ha)) (srt_mem.mpr (keys_mem hb)) (by omega)
  · intro h
    rw [h]
theorem key_eq {a b : Int} : keyAt w ks a = keyAt w ks b ↔ gI ks a = gI ks b ∧ (∀ x ∈ gW w a, ∃ y ∈ gW w b, gI ks x = gI ks y) ∧ (∀ y ∈ gW w b, ∃ x ∈ gW w a, gI ks x = gI ks y) := by
  unfold keyAt
  rw [Prod.mk.injEq]
  constructor
  · rintro ⟨h1, h2⟩
    have hm : ∀ v, v ∈ (gW w a).map (gI ks) ↔ v ∈ (gW w b).map (gI ks) := fun v => by rw [← srt_mem (le := leI), h2, srt_mem]
    refine ⟨h1, fun x hx => ?_, fun y hy => ?_⟩
    · obtain ⟨y, hy, e⟩ := List.mem_map.mp ((hm _).mp (List.mem_map.mpr ⟨x, hx, rfl⟩))
      exact ⟨y, hy, e.symm⟩
    · obtain ⟨x, hx, e⟩ := List.mem_map.mp ((hm _).mpr (List.mem_map.mpr ⟨y, hy, rfl⟩))
      exact ⟨x, hx, e⟩
  · rintro ⟨h1, h2, h3⟩
    refine ⟨h1, ordI.uniq (srt_pw ordI) (srt_pw ordI) srt_nodup srt_nodup fun v => ?_⟩
    rw [srt_mem, srt_mem]
    constructor
    · intro h
      obtain ⟨x, hx, rfl⟩ := List.mem_map.mp h
      obtain ⟨y, hy, e⟩ := h2 x hx
      exact List.mem_map.mpr ⟨y, hy, e.symm⟩
    · intro h
      obtain ⟨y, hy, rfl⟩ := List.mem_map.mp h
      obtain ⟨x, hx, e⟩ := h3 y hy
      exact List.mem_map.mpr ⟨x, hx, e⟩
theorem next_range {a : Int} (ha : inW w a) : 0 ≤ gI (nextR w ks) a ∧ gI (nextR w ks) a < w.length := by
  rw [next_at ha]
  unfold placeOf
  have h1 := List.idxOf_lt_length_of_mem (srt_mem (le := leKey).mpr (keys_mem (ks := ks) ha))
  have h2 := srt_le (le := leKey) (xs := keysOf w ks)
  rw [keys_len] at h2
  omega
/-- each number below one that stands is there, too -/
def Dense (w : Web) (ks : List Int) : Prop := ∀ a, inW w a → 0 ≤ gI ks a ∧ ∀ v, 0 ≤ v → v < gI ks a → ∃ b, inW w b ∧ gI ks b = v
theorem next_dense : Dense w (nextR w ks) := fun a ha => by
  refine ⟨(next_range ha).1, fun v h0 h1 => ?_⟩
  rw [next_at ha] at h1
  unfold placeOf at h1
  have hl := List.idxOf_lt_length_of_mem (srt_mem (le := leKey).mpr (keys_mem (ks := ks) ha))
  have hv : v.toNat < (srt leKey (keysOf w ks)).length := by omega
  obtain ⟨b, hb, e⟩ := keys_at (srt_mem.mp (List.getElem_mem hv))
  refine ⟨b, hb, ?_⟩
  rw [next_at hb, ← e]
  unfold placeOf
  rw [srt_nodup.idxOf_getElem _ hv]
  omega
theorem next_grows (d : Dense w ks) : ∀ (n : Nat) (a : Int), inW w a → gI ks a ≤ n → gI ks a ≤ gI (nextR w ks) a
  | 0, a, ha, h => by
    have h1 := (next_range (ks := ks) ha).1
    omega
  | n + 1, a, ha, h => by
    have h0 := (d a ha).1
    by_cases z : gI ks a = 0
    · have h1 := (next_range (ks := ks) ha).1
      omega
    · obtain ⟨b, hb, e⟩ := (d a ha).2 (gI ks a - 1) (by omega) (by omega)
      have h2 := next_grows d n b hb (by omega)
      have h3 := next_lt (ks := ks) hb ha (by omega)
      omega
theorem kR_dense : ∀ n, Dense w (kR w n)
  | 0 => fun a ha => by
    have e : gI (kR w 0) a = 0 := by
      unfold gI
      show (List.replicate w.length (0 : Int)).getD a.toNat 0 = 0
      rw [List.getD_eq_getElem?_getD, List.getElem?_replicate]
      split <;> rfl
    rw [e]
    exact ⟨Int.le_refl _, fun v h0 h1 => by omega⟩
  | n + 1 => next_dense
theorem kR_zero {a : Int} : gI (kR w 0) a = 0 := by
  unfold gI
  show (List.replicate w.length (0 : Int)).getD a.toNat 0 = 0
  rw [List.getD_eq_getElem?_getD, List.getElem?_replicate]
  split <;> rfl
theorem kR_range (hw : 1 ≤ w.length) : ∀ n a, inW w a → 0 ≤ gI (kR w n) a ∧ gI (kR w n) a < w.length
  | 0, a, ha => by rw [kR_zero]; omega
  | n + 1, a, ha => next_range ha
theorem kR_grows (n : Nat) {a : Int} (ha : inW w a) : gI (kR w n) a ≤ gI (kR w (n + 1)) a := next_grows (kR_dense n) (gI (kR w n) a).toNat a ha (by have := (kR_dense n a ha).1; omega)
end
theorem sum_le : ∀ (xs ys : List Int), xs.length = ys.length → (∀ i : Nat, i < xs.length → xs.getD i 0 ≤ ys.getD i 0) → xs.sum ≤ ys.sum ∧ (xs.sum = ys.sum → xs = ys)
  | [], [], _, _ => ⟨Int.le_refl _, fun _ => rfl⟩
  | [], _ :: _, h, _ => nomatch h
  | _ :: _, [], h, _ => nomatch h
  | x :: xs, y :: ys, h, hi => by
    obtain ⟨i1, i2⟩ := sum_le xs ys (Nat.succ.inj h) fun i hi' => hi (i + 1) (Nat.succ_lt_succ hi')
    have h0 : x ≤ y := hi 0 (Nat.succ_pos _)
    rw [List.sum_cons, List.sum_cons]
    refine ⟨by omega, fun e => ?_⟩
    have e1 : x = y := by omega
    rw [e1, i2 (by omega)]
theorem sum_bd (N : Int) (h0 : 0 ≤ N) : ∀ (xs : List Int), (∀ x ∈ xs, x ≤ N) → xs.sum ≤ xs.length * N
  | [], _ => by simp
  | x :: xs, h => by
    have i1 := sum_bd N h0 xs fun y hy => h y (List.mem_cons_of_mem _ hy)
    have h1 := h x List.mem_cons_self
    rw [List.sum_cons, List.length_cons]
    have : ((xs.length + 1 : Nat) : Int) * N = xs.length * N + N := by rw [Int.natCast_add, Int.add_mul]; simp
    omega
section
variable {w : Web}
theorem kR_sum (hw : 1 ≤ w.length) (n : Nat) : (kR w n).sum ≤ (kR w (n + 1)).sum ∧ ((kR w n).sum = (kR w (n + 1)).sum → kR w n = kR w (n + 1)) :=
  sum_le _ _ (by rw [kR_len, kR_len]) fun i hi => by
    rw [kR_len] at hi
    have := kR_grows (w := w) n (a := (i : Int)) ⟨by omega, by omega⟩
    unfold gI at this
    rw [Int.toNat_natCast] at this
    exact this
theorem kR_bd (hw : 1 ≤ w.length) (n : Nat) : (kR w n).sum ≤ w.length * w.length := by
  have h := sum_bd w.length (by omega) (kR w n) fun x hx => by
    obtain ⟨i, hi, e⟩ := List.getElem_of_mem hx
    rw [kR_len] at hi
    have := (kR_range hw n (i : Int) ⟨by omega, by omega⟩).2
    unfold gI at this
    rw [Int.toNat_natCast, List.getD_eq_getElem?_getD, List.getElem?_eq_getElem (by rw [kR_len]; exact hi), e] at this
    exact Int.le_of_lt this
  rw [kR_len] at h
  exact h
theorem kR_pos (hw : 1 ≤ w.length) : ∀ n, (∀ i < n, kR w (i + 1) ≠ kR w i) → (n : Int) ≤ (kR w n).sum
  | 0, _ => by
    show (0 : Int) ≤ (List.replicate w.length (0 : Int)).sum
    have : ∀ m : Nat, (List.replicate m (0 : Int)).sum = 0 := fun m => by
      induction m with
      | zero => rfl
      | succ m ih => rw [List.replicate_succ, List.sum_cons, ih]; rfl
    rw [this]
    exact Int.le_refl _
  | n + 1, h => by
    have i1 := kR_pos hw n fun i hi => h i (Nat.lt_succ_of_lt hi)
    obtain ⟨h1, h2⟩ := kR_sum hw n
    have : (kR w n).sum ≠ (kR w (n + 1)).sum := fun e => h n (Nat.lt_succ_self n) (h2 e).symm
    omega
/-- where the rounds stay -/
def stab (w : Web) : Nat := ((List.range (w.length * w.length + 1)).find? fun n => decide (kR w (n + 1) = kR w n)).getD 0
theorem stab_is (hw : 1 ≤ w.length) {n : Nat} (h : kR w (n + 1) = kR w n) (hl : ∀ i < n, kR w (i + 1) ≠ kR w i) : stab w = n := by
  have hb : n < w.length * w.length + 1 := by
    have h1 := kR_pos hw n hl
    have h2 := kR_bd hw n
    have : (n : Int) ≤ ((w.length * w.length : Nat) : Int) := by rw [Int.natCast_mul]; omega
    omega
  unfold stab
  have e : (List.range (w.length * w.length + 1)).find? (fun n => decide (kR w (n + 1) = kR w n)) = some n := by
    rw [List.find?_eq_some_iff_getElem]
    refine ⟨decide_eq_true h, n, by rw [List.length_range]; exact hb, List.getElem_range _, fun j hj => ?_⟩
    rw [List.getElem_range]
    simp [hl j hj]
  rw [e]
  rfl
def roundsOf (w : Web) : List (List Int) := (List.range (stab w + 1)).map (kR w)
theorem stab_ex (hw : 1 ≤ w.length) : kR w (stab w + 1) = kR w (stab w) := by
  have ex : ∃ n, kR w (n + 1) = kR w n := by
    refine Classical.byContradiction fun h => ?_
    have all : ∀ i, kR w (i + 1) ≠ kR w i := fun i e => h ⟨i, e⟩
    have h1 := kR_pos hw (w.length * w.length + 1) fun i _ => all i
    have h2 := kR_bd hw (w.length * w.length + 1)
    rw [Int.natCast_add, Int.natCast_mul] at h1
    omega
  obtain ⟨n, hn⟩ := ex
  have key : ∀ n, kR w (n + 1) = kR w n → ∃ m, kR w (m + 1) = kR w m ∧ ∀ i < m, kR w (i + 1) ≠ kR w i := by
    intro n
    induction n using Nat.strongRecOn with
    | ind n ih =>
      intro h
      by_cases c : ∃ i, i < n ∧ kR w (i + 1) = kR w i
      · obtain ⟨i, hi, e⟩ := c
        exact ih i hi e
      · exact ⟨n, h, fun i hi e => c ⟨i, hi, e⟩⟩
  obtain ⟨m, h1, h2⟩ := key n hn
  rw [stab_is hw h1 h2]
  exact h1
theorem bis_stab (hw : 1 ≤ w.length) : Bis w (kR w (stab w)) := fun a b ha hb e => by
  have h := stab_ex hw
  have e2 : gI (nextR w (kR w (stab w))) a = gI (nextR w (kR w (stab w))) b := by
    have : nextR w (kR w (stab w)) = kR w (stab w) := h
    rw [this]
    exact e
  exact (key_eq.mp ((next_eq ha hb).mp e2)).2.1
end
end SH

set_option Elab.async false
set_option linter.all false
set_option maxRecDepth 100000
set_option maxHeartbeats 1600000
/-! K58o: the orders of pairs, of keys, of steps with their rounds. -/
namespace SH
open PySem PySem.Spec PyProof.Rows L2 PySem.W Evl
theorem kPair_is (p : Int × Int) : KeyD (kPair p) := ⟨by show max 0 (max 0 0) + 1 ≤ 8; decide, rfl, _, rfl⟩
theorem depth_nums (r : List Int) : NestedKey.depthAll (r.map .num) = 0 := by
  induction r with
  | nil => rfl
  | cons a r ih => show max 0 (NestedKey.depthAll (r.map .num)) = 0; rw [ih]; rfl
theorem pure_nums (r : List Int) : pureKs (r.map .num) = true := by
  induction r with
  | nil => rfl
  | cons a r ih => show (true && pureKs (r.map .num)) = true; rw [ih]; rfl
theorem kKey_is (k : Int × List Int) : KeyD (kKey k) := by
  refine ⟨?_, ?_, _, rfl⟩
  · show max 0 (max (NestedKey.depthAll (k.2.map .num) + 1) 0) + 1 ≤ 8
    rw [depth_nums]
    decide
  · show (true && (pureKs (k.2.map .num) && true)) = true
    rw [pure_nums]
    rfl
theorem depth_ints (r : List Int) : PyData.depthAll (r.map .int) = 0 := by
  induction r with
  | nil => rfl
  | cons a r ih => show max 0 (PyData.depthAll (r.map .int)) = 0; rw [ih]; rfl
abbrev lePair : Int × Int → Int × Int → Bool := fun a b => decide (a.1 < b.1 ∨ (a.1 = b.1 ∧ a.2 ≤ b.2))
theorem ordPair : Ordr lePair := by
  refine ⟨fun a b c h1 h2 => ?_, fun a b => ?_, fun a b h1 h2 => ?_⟩
  · have h1 := of_decide_eq_true h1
    have h2 := of_decide_eq_true h2
    exact decide_eq_true (by omega)
  · rw [Bool.or_eq_true, decide_eq_true_eq, decide_eq_true_eq]
    omega
  · have h1 := of_decide_eq_true h1
    have h2 := of_decide_eq_true h2
    exact Prod.ext (by omega) (by omega)
def dPairK : NestedKey → Int × Int
  | .tup [.num a, .num b] => (a, b)
  | _ => (0, 0)
theorem alike_ints : ∀ r s : List Int, alikeAll (r.map .int) (s.map .int) = true
  | [], _ => by rw [List.map_nil, alikeAll]
  | _ :: _, [] => by rw [List.map_cons, List.map_nil, alikeAll]
  | a :: r, b :: s => by
    rw [List.map_cons, List.map_cons, alikeAll, alike_ints r s]
    rfl
theorem koPair : KeyOrd kPair dPairK lePair := ⟨fun _ => rfl, kPair_is, fun p => by show max 0 (max 0 0) + 1 ≤ 8; decide, ordPair, fun a b => by
  have := congrFun (congrFun (dataLe_ii (β := Int × Int) (fun p => p.1) (fun p => p.2)) a) b
  exact this, fun ts => ⟨AllAlike.of (enc := fun t => (kPair t).data) fun b b' => by
    show alikeAll [.int b.1, .int b.2] [.int b'.1, .int b'.2] = true
    exact alike_ints [b.1, b.2] [b'.1, b'.2], .inl fun d hd => by
    obtain ⟨t, _, rfl⟩ := List.mem_map.mp hd
    exact ⟨_, _, rfl⟩⟩⟩
def nums : List NestedKey → List Int
  | .num a :: r => a :: nums r
  | _ => []
theorem nums_map (r : List Int) : nums (r.map .num) = r := by
  induction r with
  | nil => rfl
  | cons a r ih => show a :: nums (r.map .num) = _; rw [ih]
def dKeyK : NestedKey → Int × List Int
  | .tup [.num a, .tup r] => (a, nums r)
  | _ => (0, [])
theorem eqv_ints : ∀ r s : List Int, PyData.eqvAll (r.map .int) (s.map .int) = decide (r = s)
  | [], [] => rfl
  | [], b :: s => rfl
  | a :: r, [] => rfl
  | a :: r, b :: s => by
    rw [List.map_cons, List.map_cons, PyData.eqvAll, eqv_ints r s]
    show ((a == b) && decide (r = s)) = decide (a :: r = b :: s)
    by_cases h1 : a = b <;> by_cases h2 : r = s <;> simp [h1, h2]
theorem dataLt_key (k j : Int × List Int) : dataLt (kKey k).data (kKey j).data = decide (k.1 < j.1 ∨ (k.1 = j.1 ∧ k.2 < j.2)) := by
  rw [kKey_data, kKey_data, dataLt_pair (by rfl) (by show alikeAll (k.2.map .int) (j.2.map .int) = true; exact alike_ints _ _), dataLt_int, dataLt_tuple]
  have e1 : PyData.eqv (.int k.1) (.int j.1) = decide (k.1 = j.1) := by
    show (k.1 == j.1) = decide (k.1 = j.1)
    by_cases h : k.1 = j.1 <;> simp [h]
  have e2 : PyData.eqv (dRow k.2) (dRow j.2) = decide (k.2 = j.2) := eqv_ints _ _
  have e3 : PyProof.Rows.lexLt itemOrd (keyToksAll (k.2.map .int)) (keyToksAll (j.2.map .int)) = decide (k.2 < j.2) := dataLt_ints k.2 j.2
  rw [e1, e2, e3]
  by_cases h1 : k.1 = j.1
  · have : ¬ k.1 < j.1 := by omega
    by_cases h2 : k.2 = j.2
    · have h3 : ¬ k.2 < j.2 := by rw [h2]; exact List.lt_irrefl _
      simp [h1, h2]
    · simp [h1, h2]
  · simp [h1]
theorem koKey : KeyOrd kKey dKeyK leKey := ⟨fun k => by
  show (k.1, nums (k.2.map .num)) = k
  rw [nums_map], kKey_is, fun k => by
  rw [kKey_data]
  show max 0 (max (PyData.depthAll (k.2.map .int) + 1) 0) + 1 ≤ 8
  rw [depth_ints]
  decide, ordKey, fun a b => by
  show (!dataLt (kKey b).data (kKey a).data) = leKey a b
  rw [dataLt_key]
  show (!decide (b.1 < a.1 ∨ (b.1 = a.1 ∧ b.2 < a.2))) = decide (a.1 < b.1 ∨ (a.1 = b.1 ∧ a.2 ≤ b.2))
  have hl : (¬ b.2 < a.2) ↔ a.2 ≤ b.2 := List.not_lt
  by_cases h : b.1 < a.1 ∨ (b.1 = a.1 ∧ b.2 < a.2)
  · have h' : ¬ (a.1 < b.1 ∨ (a.1 = b.1 ∧ a.2 ≤ b.2)) := by
      rintro (z | ⟨z, y⟩)
      · rcases h with h | ⟨h, _⟩ <;> omega
      · rcases h with h | ⟨_, h⟩
        · omega
        · exact hl.mpr y h
    rw [decide_eq_true h, decide_eq_false h']
    rfl
  · have h' : a.1 < b.1 ∨ (a.1 = b.1 ∧ a.2 ≤ b.2) := by
      rcases Int.lt_trichotomy a.1 b.1 with z | z | z
      · exact .inl z
      · exact .inr ⟨z, hl.mp fun y => h (.inr ⟨z.symm, y⟩)⟩
      · exact absurd (.inl z) h
    rw [decide_eq_false h, decide_eq_true h']
    rfl, fun ts => ⟨AllAlike.of (enc := fun t => (kKey t).data) fun b b' => by
    rw [kKey_data, kKey_data]
    show alikeAll [.int b.1, dRow b.2] [.int b'.1, dRow b'.2] = true
    rw [alikeAll, alikeAll]
    show (true && (alikeAll (b.2.map .int) (b'.2.map .int) && alikeAll [] [])) = true
    rw [alike_ints]
    rfl, .inl fun d hd => by
    obtain ⟨t, _, rfl⟩ := List.mem_map.mp hd
    exact ⟨_, _, rfl⟩⟩⟩
/-! shapes, equality -/
theorem lay_ints (r : List Int) : PyData.canLayAll0 (r.map .int) = true := by
  induction r with
  | nil => rfl
  | cons a r ih => show (true && PyData.canLayAll0 (r.map .int)) = true; rw [ih]; rfl
theorem shaped_ints (r : List Int) : SeqAt.shaped (dInts r) = true := by
  unfold SeqAt.shaped
  show (PyData.canLayAll0 (r.map .int) && decide (PyData.depthAll (r.map .int) + 1 ≤ 64)) = true
  rw [lay_ints, depth_ints]
  decide
theorem lay_pairs (ps : List (Int × Int)) : PyData.canLayAll0 (ps.map dPair) = true := by
  induction ps with
  | nil => rfl
  | cons a r ih => show (true && PyData.canLayAll0 (r.map dPair)) = true; rw [ih]; rfl
theorem depth_pairs (ps : List (Int × Int)) : PyData.depthAll (ps.map dPair) ≤ 1 := by
  induction ps with
  | nil => exact Nat.zero_le _
  | cons a r ih => show max 1 (PyData.depthAll (r.map dPair)) ≤ 1; omega
theorem shaped_pairs (ps : List (Int × Int)) : SeqAt.shaped (.list (ps.map dPair)) = true := by
  unfold SeqAt.shaped
  have h2 := depth_pairs ps
  show (PyData.canLayAll0 (ps.map dPair) && decide (PyData.depthAll (ps.map dPair) + 1 ≤ 64)) = true
  rw [lay_pairs, decide_eq_true (by omega : PyData.depthAll (ps.map dPair) + 1 ≤ 64)]
  rfl
theorem eqv_pairs : ∀ r s : List (Int × Int), PyData.eqv (.list (r.map dPair)) (.list (s.map dPair)) = decide (r = s) := by
  have key : ∀ r s : List (Int × Int), PyData.eqvAll (r.map dPair) (s.map dPair) = decide (r = s) := by
    intro r
    induction r with
    | nil => intro s; cases s <;> rfl
    | cons a r ih =>
      intro s
      cases s with
      | nil => rfl
      | cons b s =>
        rw [List.map_cons, List.map_cons, PyData.eqvAll, ih s]
        have e : PyData.eqv (dPair a) (dPair b) = decide (a = b) := by
          show ((a.1 == b.1) && ((a.2 == b.2) && true)) = decide (a = b)
          by_cases h1 : a.1 = b.1 <;> by_cases h2 : a.2 = b.2 <;> simp [h1, h2, Prod.ext_iff]
        rw [e]
        by_cases h1 : a = b <;> by_cases h2 : r = s <;> simp [h1, h2]
  intro r s
  show PyData.eqvAll (r.map dPair) (s.map dPair) = _
  exact key r s
theorem eqv_list_ints (r s : List Int) : PyData.eqv (dInts r) (dInts s) = decide (r = s) := eqv_ints r s
/-! steps with their rounds -/
abbrev dFound (q : Nat × Stp) : PyData := .tuple [.int q.1, dStep q.2]
end SH

set_option Elab.async false
set_option linter.all false
set_option maxRecDepth 100000
set_option maxHeartbeats 1600000
/-! K58w: the defs of webs.py. -/
namespace SH
open PySem PySem.Spec PyProof.Rows L2 PySem.W Evl
abbrev sWhole : Stmt := topS 6
abbrev sRow : Stmt := topS 7
abbrev sWeb : Stmt := topS 8
abbrev sNext : Stmt := topS 9
abbrev sAll : Stmt := topS 10
abbrev sNeedW : Stmt := topS 11
abbrev sNeedR : Stmt := topS 12
abbrev sRoundOf : Stmt := topS 13
abbrev nWhole : List Str := ["thing"]
abbrev nRow : List Str := ["thing", "size", "one"]
abbrev nWeb : List Str := ["thing", "row"]
abbrev nNext : List Str := ["web", "kinds", "keys", "places", "at", "row", "key", "one"]
abbrev nAll : List Str := ["web", "found", "later"]
abbrev nNeedW : List Str := ["web"]
abbrev nNeedR : List Str := ["web", "row"]
abbrev nRoundOf : List Str := ["web", "one", "other", "at", "kinds"]
theorem scWhole : FnScope nWhole ["thing"] (defScope sWhole) := ⟨rfl, rfl, rfl, by decide +kernel, rfl, by decide +kernel, by decide +kernel⟩
theorem scRow : FnScope nRow ["thing", "size"] (defScope sRow) := ⟨rfl, rfl, rfl, by decide +kernel, rfl, by decide +kernel, by decide +kernel⟩
theorem scWeb : FnScope nWeb ["thing"] (defScope sWeb) := ⟨rfl, rfl, rfl, by decide +kernel, rfl, by decide +kernel, by decide +kernel⟩
theorem scNext : FnScope nNext ["web", "kinds"] (defScope sNext) := ⟨rfl, rfl, rfl, by decide +kernel, rfl, by decide +kernel, by decide +kernel⟩
theorem scAll : FnScope nAll ["web"] (defScope sAll) := ⟨rfl, rfl, rfl, by decide +kernel, rfl, by decide +kernel, by decide +kernel⟩
theorem scNeedW : FnScope nNeedW ["web"] (defScope sNeedW) := ⟨rfl, rfl, rfl, by decide +kernel, rfl, by decide +kernel, by decide +kernel⟩
theorem scNeedR : FnScope nNeedR ["web", "row"] (defScope sNeedR) := ⟨rfl, rfl, rfl, by decide +kernel, rfl, by decide +kernel, by decide +kernel⟩
theorem scRoundOf : FnScope nRoundOf ["web", "one", "other"] (defScope sRoundOf) := ⟨rfl, rfl, rfl, by decide +kernel, rfl, by decide +kernel, by decide +kernel⟩
def isWhole : PyData → Bool
  | .int _ => true
  | _ => false
def prWhole : Pr := fun J xs R => ∃ x : PyData, xs = [.d x] ∧ R = (· = dB (isWhole x))
def prRow : Pr := fun J xs R => ∃ (r : List Int) (n : Int), xs = [.d (dRow r), dI n] ∧ r.length ≤ 1000000 ∧ R = (· = dB (r.all fun i => decide (0 ≤ i) && decide (i < n)))
def prWeb : Pr := fun J xs R => ∃ w, xs = [.d (dWeb w)] ∧ Wok w ∧ R = (· = dB true)
def prNext : Pr := fun J xs R => ∃ (w : Web) (ks : List Int), xs = [.d (dWeb w), .d (dInts ks)] ∧ Wok w ∧ ks.length = w.length ∧ R = (· = .l ((nextR w ks).map .int))
def prAll : Pr := fun J xs R => ∃ w, xs = [.d (dWeb w)] ∧ Wok w ∧ R = (· = .l ((roundsOf w).map dInts))
def prNeedW : Pr := fun J xs R => ∃ w, xs = [.d (dWeb w)] ∧ Wok w ∧ R = (· = .d .none)
def prNeedR : Pr := fun J xs R => ∃ w i, xs = [.d (dWeb w), dI i] ∧ inW w i ∧ R = (· = .d .none)
def prRoundOf : Pr := fun J xs R => ∃ w a b, xs = [.d (dWeb w), dI a, dI b] ∧ Wok w ∧ inW w a ∧ inW w b ∧ R = (· = encO (fuL (roundsOf w) a b))
section
variable {P : Program} {w : World} {K : PySem.W.Frag} {mg : Str → Option Value} {base : Heap} {f : Addr} {fd : FuncData} {k : Nat}
theorem ok_whole (D : Kd K mg "is_whole" sWhole ["thing"] f fd) (M : MgB mg) : FnOk P w K mg base CX0 (k + 1) f fd ["thing"] (spD P w K prWhole) := by
  refine fn_ok D.F scWhole (fun J xs R ⟨x, e, _⟩ => by rw [e]; rfl) fun cdv A outer s H E hr J B0 H0 xs R Dn ⟨x, e1, e2⟩ hrt hnx => ?_
  subst e1 e2
  refine st_ret (te_is (te_and (te_isi (te_name (i := 0) rfl) kit_int M.isinstance M.int boot_int) fun _ => te_one (te_not (te_isi (te_name (i := 0) rfl) kit_bool M.isinstance M.bool boot_bool))) ?_) fun v G H' y g d e => hrt v G H' y g d e
  cases x <;> rfl
theorem ok_row {f1 : Addr} {fd1 : FuncData} (D : Kd K mg "is_row" sRow ["thing", "size"] f fd) (D1 : Kd K mg "is_whole" sWhole ["thing"] f1 fd1) (M : MgB mg) : FnOk P w K mg base CX0 (k + 2) f fd ["thing", "size"] (spD P w K prRow) := by
  refine fn_ok D.F scRow (fun J xs R ⟨x, n, e, _⟩ => by rw [e]; rfl) fun cdv A outer s H E hr J B0 H0 xs R Dn ⟨r, n, e1, hl, e2⟩ hrt hnx => ?_
  subst e1 e2
  refine st_ret (te_is (te_and (te_isi (te_name (i := 0) rfl) kit_tuple M.isinstance M.tuple boot_tuple) fun _ => te_one (te_callB (tas_cons (te_l (tl_lc (ti_tup (te_name (i := 0) rfl)) hl (own := [("one", 2)]) (blkOk_by rfl) (fun s H C cl fp => pg_name (i := 2) scRow.nd rfl (.inl rfl))
    fun t ht => ⟨_, _, tg_name, by simp, fun s H C cl fp => te_and (te_fn (Kd.kn D1 (ok_whole (k := k) D1 M) hr (Nat.le_refl _)) (tas_cons (te_name (i := 2) rfl) tas_nil) ⟨_, rfl, rfl⟩) fun _ => te_one (te_chain te_int (te_name (i := 2) rfl) d2_le (fun _ => te_name (i := 1) rfl) fun _ => d2_lt)⟩)) tas_nil) dc_allM M.all boot_all)) ?_) fun v G H' y g d e => hrt v G H' y g d e
  rfl
theorem ok_web {f1 f2 : Addr} {fd1 fd2 : FuncData} {tk : Tok} (D : Kd K mg "is_web" sWeb ["thing"] f fd) (D1 : Kd K mg "is_row" sRow ["thing", "size"] f1 fd1) (D2 : Kd K mg "is_whole" sWhole ["thing"] f2 fd2) (hmw : mg "MOST_WEB" = some (.int 512 tk)) (M : MgB mg) : FnOk P w K mg base CX0 (k + 3) f fd ["thing"] (spD P w K prWeb) := by
  refine fn_ok D.F scWeb (fun J xs R ⟨x, e, _⟩ => by rw [e]; rfl) fun cdv A outer s H E hr J B0 H0 xs R Dn ⟨wb, e1, ok, e2⟩ hrt hnx => ?_
  subst e1 e2
  refine st_if (tt_w (tw_or (tt_not (tt_val (te_isi2 (te_name (i := 0) rfl) kit_tuple kit_list M.isinstance M.tuple M.list boot_tuple boot_list))) fun h1 => (tw_or1 (tt_not (tt_chain te_int (te_callB (tas_cons (te_name (i := 0) rfl) tas_nil) (by first | exact dc_lenL | exact dc_lenT) M.len boot_len) d2_le (fun h2 => (te_gint hmw)) fun _ => d2_le))))) (fun c3 => ?_) (fun c4 => ?_)
  · exfalso
    rw [List.length_map] at c3
    have h1 := ok.one
    have h2 := ok.few
    rw [decide_eq_true (by omega : (1 : Int) ≤ (wb.length : Nat)), decide_eq_true (by omega : ((wb.length : Nat) : Int) ≤ 512)] at c3
    exact Bool.noConfusion c3
  · refine st_done ?_ rfl
    refine st_ret (te_is (te_callB (tas_cons (te_l (tl_lc (own := [("row", 1)]) (ti_list (te_name (i := 0) rfl)) (by have := ok.few; omega) (blkOk_by rfl) (fun s H C cl fp => (pg_name (i := 1) scWeb.nd rfl (.inl rfl))) fun t_row ht_row => ⟨_, _, tg_name, by simp, fun s H C cl fp => (te_fn (Kd.kn D1 (ok_row (k := k) D1 D2 M) hr (by omega)) (tas_cons (te_name (i := 1) rfl) (tas_cons (te_callB (tas_cons (te_name (i := 0) rfl) tas_nil) (by first | exact dc_lenL | exact dc_lenT) M.len boot_len) tas_nil)) ⟨t_row, _, rfl, Nat.le_trans (ok.len _ ht_row) (by decide), rfl⟩)⟩)) tas_nil) dc_allM M.all boot_all) ?_) fun v G H' y g d e => hrt v G H' y g d e
    rw [List.length_map]
    have : (wb.all fun r => r.all fun i => decide (0 ≤ i) && decide (i < (wb.length : Nat))) = true := by
      rw [List.all_eq_true]
      intro r hr
      rw [List.all_eq_true]
      intro i hi
      have := ok.row r hr i hi
      rw [decide_eq_true this.1, decide_eq_true this.2]
      rfl
    rw [this]
theorem ok_next (D : Kd K mg "next_round" sNext ["web", "kinds"] f fd) (M : MgB mg) : FnOk P w K mg base CX0 (k + 1) f fd ["web", "kinds"] (spD P w K prNext) := by
  refine fn_ok D.F scNext (fun J xs R ⟨x, y, e, _⟩ => by rw [e]; rfl) fun cdv A outer s H E hr J B0 H0 xs R Dn ⟨wb, ks, e1, ok, hk, e2⟩ hrt hnx => ?_
  subst e1 e2
  have hfew := ok.few
  refine st_setLc 2 (ti_enum (te_name (i := 0) rfl) M.enumerate) (by rw [List.length_zipIdx]; omega) (own := [("at", 4), ("row", 5)]) (blkOk_by rfl) (fun s H C cl fp => (pg_tup (n := 2) rfl (pgs_cons (pg_name (i := 4) scNext.nd rfl (.inl rfl)) (pgs_cons (pg_name (i := 5) scNext.nd rfl (.inl rfl)) pgs_nil))))
    (f := fun q => (kKey (gI ks (q.2 : Nat), srt leI (q.1.map (gI ks)))).data) (fun t ht => ⟨_, _, (tg_tup (tgs_cons tg_name (tgs_cons tg_name tgs_nil))), by simp, fun s H C cl fp => ?_⟩) ?_
  · have hm := List.mem_zipIdx ht
    have hin : inW wb ((t.2 : Nat) : Int) := ⟨by omega, by omega⟩
    have hrow : t.1 ∈ wb := by rw [hm.2.2]; exact List.getElem_mem _
    refine te_is (te_tup (tds_cons (te_ix (te_name (i := 1) rfl) (te_name (i := 4) rfl) (dix_list (ixI hin.1 (by rw [hk]; exact hin.2)))) (tds_cons (te_callTy (tas_cons (te_l (tl_sortSC (own := [("one", 7)]) (ti_tup (te_name (i := 5) rfl)) (Nat.le_trans (ok.len _ hrow) (by decide)) (blkOk_by rfl) (fun s H C cl fp => (pg_name (i := 7) scNext.nd rfl (.inl rfl))) (fun x hx => ⟨_, _, tg_name, by simp, fun s H C cl fp =>
      te_ix (te_name (i := 1) rfl) (te_name (i := 7) rfl) (dix_list (ixI (ok.row _ hrow x hx).1 (by rw [hk]; exact (ok.row _ hrow x hx).2)))⟩) M.sorted)) tas_nil) dc_tupL M.tuple boot_tuple) tds_nil)) (by simp)) ?_
    rw [kKey_data]
  · have ek : (wb.zipIdx.map fun q => (kKey (gI ks (q.2 : Nat), srt leI (q.1.map (gI ks)))).data) = (keysOf wb ks).map fun k => (kKey k).data := by
      unfold keysOf
      rw [List.map_map]
      rfl
    rw [ek]
    refine st_frz 2 rfl ?_
    refine st_setDn 3 (td_dc (own := [("at", 4), ("key", 6)]) (ti_enum (te_l (tl_sortSet koKey (te_ld (te_name (i := 2) rfl)) (by rw [keys_len]; omega) M.sorted M.set)) M.enumerate) (by rw [List.length_zipIdx]; have := srt_le (le := leKey) (xs := keysOf wb ks); rw [keys_len] at this; omega) (blkOk_by rfl)
      (fun s H C cl fp => (pg_tup (n := 2) rfl (pgs_cons (pg_name (i := 4) scNext.nd rfl (.inl rfl)) (pgs_cons (pg_name (i := 6) scNext.nd rfl (.inl rfl)) pgs_nil)))) (kf := fun q => kKey q.1) (vf := fun q => .int (q.2 : Nat)) ?_ fun t ht => ⟨_, _, (tg_tup (tgs_cons tg_name (tgs_cons tg_name tgs_nil))), by simp, kKey_is _, fun s H C cl fp => te_name (i := 6) rfl, fun s H C cl fp => te_name (i := 4) rfl⟩) ?_
    · have : ((srt leKey (keysOf wb ks)).zipIdx.map fun q => kKey q.1) = (srt leKey (keysOf wb ks)).map kKey := by
        rw [show (fun q : (Int × List Int) × Nat => kKey q.1) = kKey ∘ Prod.fst from rfl, ← List.map_map]
        rw [List.zipIdx_map_fst]
      rw [this]
      refine List.pairwise_map.mpr (srt_nodup.imp fun {a b} h e => h ?_)
      rw [← koKey.back a, ← koKey.back b, e]
    · refine st_frz 3 rfl ?_
      have hfind : ∀ q ∈ keysOf wb ks, findK ((srt leKey (keysOf wb ks)).zipIdx.map fun q => (kKey q.1, PyData.int (q.2 : Nat))) (kKey q) = some (.int (placeOf (srt leKey (keysOf wb ks)) q)) := fun q hq => by
        have key : ∀ (L : List (Int × List Int)) (n : Nat), q ∈ L → findK ((L.zipIdx n).map fun q => (kKey q.1, PyData.int (q.2 : Nat))) (kKey q) = some (.int ((n + L.idxOf q : Nat) : Int)) := by
          intro L
          induction L with
          | nil => intro n h; cases h
          | cons a L ih =>
            intro n h
            rw [List.zipIdx_cons, List.map_cons]
            unfold findK
            rw [List.find?_cons]
            by_cases c : a = q
            · subst c
              rw [decide_eq_true rfl, List.idxOf_cons_self]
              rfl
            · have cn : ¬ kKey a = kKey q := fun e => c (by rw [← koKey.back a, ← koKey.back q, e])
              rw [decide_eq_false cn, List.idxOf_cons, beq_false_of_ne c]
              have := ih (n + 1) (by rcases List.mem_cons.mp h with e | e; exact absurd e.symm c; exact e)
              unfold findK at this
              rw [this]
              show some (PyData.int _) = some (PyData.int _)
              congr 2
              show ((n + 1 + L.idxOf q : Nat) : Int) = ((n + (L.idxOf q + 1) : Nat) : Int)
              omega
        rw [key _ 0 (srt_mem.mpr hq), Nat.zero_add]
        rfl
      refine st_ret (te_is (te_ll (tl_lc (own := [("key", 6)]) (ti_list (te_ld (te_name (i := 2) rfl))) (by rw [keys_len]; omega) (blkOk_by rfl) (fun s H C cl fp => (pg_name (i := 6) scNext.nd rfl (.inl rfl))) fun t ht => ⟨_, _, tg_name, by simp, fun s H C cl fp => (te_ix (te_name (i := 3) rfl) (te_name (i := 6) rfl) (dix_dict (kKey_is t) rfl (hfind t ht)))⟩)) ?_) fun v G H' y g d e => hrt v G H' y g d e
      unfold nextR
      rw [List.map_map]
      rfl
end
end SH

set_option Elab.async false
set_option linter.all false
set_option maxRecDepth 100000
set_option maxHeartbeats 1600000
/-! K58x: all_rounds, need_web, need_row, round_of, first_unlike. -/
namespace SH
open PySem PySem.Spec PyProof.Rows L2 PySem.W Evl
abbrev sFirst : Stmt := topS 15
abbrev nFirst : List Str := ["rounds", "one", "other", "at", "kinds"]
theorem scFirst : FnScope nFirst ["rounds", "one", "other"] (defScope sFirst) := ⟨rfl, rfl, rfl, by decide +kernel, rfl, by decide +kernel, by decide +kernel⟩
def prFirst : Pr := fun J xs R => ∃ (rs : List (List Int)) (a b : Int), xs = [.d (.list (rs.map dInts)), dI a, dI b] ∧ rs.length ≤ 1000000 ∧ (∀ ks ∈ rs, 0 ≤ a ∧ a < ks.length ∧ 0 ≤ b ∧ b < ks.length) ∧ R = (· = encO (fuL rs a b))
theorem rep_flat (n : Nat) : (List.replicate n [PyData.int 0]).flatten = (List.replicate n (0 : Int)).map .int := by
  induction n with
  | zero => rfl
  | succ n ih => rw [List.replicate_succ, List.flatten_cons, ih, List.replicate_succ]; rfl
theorem fu_some {rs : List (List Int)} {a b : Int} {i : Nat} {ks : List Int} (h : rs[i]? = some ks) (h1 : gI ks a ≠ gI ks b) (h2 : ∀ (j : Nat) (ks : List Int), j < i → rs[j]? = some ks → gI ks a = gI ks b) : fuL rs a b = some i := by
  unfold fuL
  obtain ⟨hi, e⟩ := List.getElem?_eq_some_iff.mp h
  rw [List.findIdx?_eq_some_iff_getElem]
  refine ⟨hi, by rw [e]; simp [h1], fun j hj => ?_⟩
  have := h2 j _ hj (List.getElem?_eq_getElem (by omega))
  simp [this]
theorem fu_none {rs : List (List Int)} {a b : Int} (h2 : ∀ (j : Nat) (ks : List Int), rs[j]? = some ks → gI ks a = gI ks b) : fuL rs a b = none := by
  unfold fuL
  rw [List.findIdx?_eq_none_iff]
  intro ks hk
  obtain ⟨j, hj, e⟩ := List.getElem_of_mem hk
  have := h2 j ks (by rw [List.getElem?_eq_getElem hj, e])
  simp [this]
section
variable {P : Program} {w : World} {K : PySem.W.Frag} {mg : Str → Option Value} {base : Heap} {f : Addr} {fd : FuncData} {k : Nat}
theorem ok_all {f1 : Addr} {fd1 : FuncData} (D : Kd K mg "all_rounds" sAll ["web"] f fd) (D1 : Kd K mg "next_round" sNext ["web", "kinds"] f1 fd1) (M : MgB mg) : FnOk P w K mg base CX0 (k + 2) f fd ["web"] (spD P w K prAll) := by
  refine fn_ok D.F scAll (fun J xs R ⟨x, e, _⟩ => by rw [e]; rfl) fun cdv A outer s H E hr J B0 H0 xs R Dn ⟨wb, e1, ok, e2⟩ hrt hnx => ?_
  subst e1 e2
  have hfew := ok.few
  have hone := ok.one
  refine st_setL 1 (tl_lst (tds_cons (te_ld (te_op (te_ll (tl_lst (tds_cons te_int tds_nil) (by simp))) (te_callB (tas_cons (te_name (i := 0) rfl) tas_nil) dc_lenL M.len boot_len) (d2_rep (by rw [List.length_map]; simp; omega) (by rw [List.length_map]; omega)))) tds_nil) (by simp)) (fun x e => ?_)
  subst e
  rw [List.length_map, rep_flat]
  refine st_while (fun m sl => ∃ (n : Nat) (c : Sd), sl = [.d (.d (dWeb wb)), .ol ((List.range (n + 1)).map fun i => dInts (kR wb i)), c] ∧ (kR wb n).sum + (m : Int) = wb.length * wb.length ∧ ∀ i < n, kR wb (i + 1) ≠ kR wb i) (wb.length * wb.length - (kR wb 0).sum).toNat ⟨0, .no, rfl, ?_, fun i hi => absurd hi (Nat.not_lt_zero _)⟩ ?_
  · have := kR_bd hone 0
    omega
  rintro m sl1 ⟨n, c, rfl, hm, hlt⟩
  refine ⟨true, tt_val te_bl, fun _ => ?_, fun c => Bool.noConfusion c⟩
  have hlast : atI ((List.range (n + 1)).map fun i => dInts (kR wb i)) (-1) = some (dInts (kR wb n)) := by
    rw [List.range_succ, List.map_append]
    exact atI_last _ _
  refine st_set 2 (te_fn (Kd.kn D1 (ok_next (k := k) D1 M) hr (by omega)) (tas_cons (te_name (i := 0) rfl) (tas_cons (te_ixO (i := 1) rfl (te_neg te_int) hlast) tas_nil)) ⟨wb, _, rfl, ok, kR_len n, rfl⟩) (fun x e => ?_)
  subst e
  refine st_if (tt_cmp (te_ld (te_name (i := 2) rfl)) (te_ixO (i := 1) rfl (te_neg te_int) hlast) (d2_eqD (shaped_ints _) (shaped_ints _))) (fun c1 => ?_) (fun c2 => ?_)
  · rw [eqv_list_ints] at c1
    have e := of_decide_eq_true c1.symm
    have es := stab_is hone e hlt
    refine st_frz 1 rfl ?_
    refine st_ret (te_is (te_name (i := 1) rfl) ?_) fun v G H' y g d e => hrt v G H' y g d e
    unfold roundsOf
    rw [es, List.map_map]
    rfl
  · rw [eqv_list_ints] at c2
    have ne := of_decide_eq_false c2.symm
    refine st_done ?_ rfl
    have hln : n ≤ 262144 := by
      have h1 := kR_pos hone n hlt
      have h2 := kR_bd hone n
      have h3 : (wb.length : Int) * wb.length ≤ 512 * 512 := Int.mul_le_mul (by omega) (by omega) (by omega) (by omega)
      omega
    refine st_append 1 rfl (te_ld (te_name (i := 2) rfl)) (by rw [List.length_map, List.length_range]; omega) ?_
    refine st_nil fun σ B H hF => ⟨_, B, ⟨(wb.length * wb.length - (kR wb (n + 1)).sum).toNat, ?_, n + 1, .d (.l ((nextR wb (kR wb n)).map .int)), ?_, ?_, ?_⟩, hF⟩
    · have h1 := kR_sum hone n
      have h2 := kR_bd hone (n + 1)
      have : (kR wb n).sum ≠ (kR wb (n + 1)).sum := fun e => ne (h1.2 e).symm
      omega
    · rw [List.range_succ (n := n + 1), List.map_append]
      rfl
    · have h2 := kR_bd hone (n + 1)
      omega
    · intro i hi
      by_cases c : i < n
      · exact hlt i c
      · obtain rfl : i = n := by omega
        exact ne
theorem ok_needW {f1 f2 f3 : Addr} {fd1 fd2 fd3 : FuncData} {tk : Tok} (D : Kd K mg "need_web" sNeedW ["web"] f fd) (D0 : Kd K mg "is_web" sWeb ["thing"] f3 fd3) (D1 : Kd K mg "is_row" sRow ["thing", "size"] f1 fd1) (D2 : Kd K mg "is_whole" sWhole ["thing"] f2 fd2) (hmw : mg "MOST_WEB" = some (.int 512 tk)) (M : MgB mg) :
    FnOk P w K mg base CX0 (k + 4) f fd ["web"] (spD P w K prNeedW) := by
  refine fn_ok D.F scNeedW (fun J xs R ⟨x, e, _⟩ => by rw [e]; rfl) fun cdv A outer s H E hr J B0 H0 xs R Dn ⟨wb, e1, ok, e2⟩ hrt hnx => ?_
  subst e1 e2
  refine st_if (tt_not (tt_val (te_fn (Kd.kn D0 (ok_web (k := k) D0 D1 D2 hmw M) hr (by omega)) (tas_cons (te_name (i := 0) rfl) tas_nil) ⟨wb, rfl, ok, rfl⟩))) (fun c1 => ?_) (fun c2 => ?_)
  · exact Bool.noConfusion c1
  · refine st_done (st_nil fun σ B H hF => hnx σ B H hF.gs rfl) rfl
theorem ok_needR {f2 : Addr} {fd2 : FuncData} (D : Kd K mg "need_row" sNeedR ["web", "row"] f fd) (D2 : Kd K mg "is_whole" sWhole ["thing"] f2 fd2) (M : MgB mg) : FnOk P w K mg base CX0 (k + 2) f fd ["web", "row"] (spD P w K prNeedR) := by
  refine fn_ok D.F scNeedR (fun J xs R ⟨x, y, e, _⟩ => by rw [e]; rfl) fun cdv A outer s H E hr J B0 H0 xs R Dn ⟨wb, i, e1, hi, e2⟩ hrt hnx => ?_
  subst e1 e2
  refine st_if (tt_w (tw_or (tt_not (tt_val (te_fn (Kd.kn D2 (ok_whole (k := k) D2 M) hr (by omega)) (tas_cons (te_name (i := 1) rfl) tas_nil) ⟨_, rfl, rfl⟩))) fun h1 => (tw_or1 (tt_not (tt_chain te_int (te_name (i := 1) rfl) d2_le (fun h2 => (te_callB (tas_cons (te_name (i := 0) rfl) tas_nil) dc_lenL M.len boot_len)) fun _ => d2_lt))))) (fun c3 => ?_) (fun c4 => ?_)
  · exfalso
    rw [List.length_map, decide_eq_true hi.1, decide_eq_true hi.2] at c3
    exact Bool.noConfusion c3
  · refine st_done (st_nil fun σ B H hF => hnx σ B H hF.gs rfl) rfl
theorem ok_first (D : Kd K mg "first_unlike" sFirst ["rounds", "one", "other"] f fd) (M : MgB mg) : FnOk P w K mg base CX0 (k + 1) f fd ["rounds", "one", "other"] (spD P w K prFirst) := by
  refine fn_ok D.F scFirst (fun J xs R ⟨x, y, z, e, _⟩ => by rw [e]; rfl) fun cdv A outer s H E hr J B0 H0 xs R Dn ⟨rs, a, b, e1, hl, hab, e2⟩ hrt hnx => ?_
  subst e1 e2
  refine st_for (fun i sl => (∃ c3 c4, sl = [.d (.d (.list (rs.map dInts))), .d (dI a), .d (dI b), c3, c4]) ∧ ∀ (j : Nat) (ks : List Int), j < i → rs[j]? = some ks → gI ks a = gI ks b) (ti_enum (te_name (i := 0) rfl) M.enumerate) (pg_tup (n := 2) rfl (pgs_cons (pg_name (i := 3) scFirst.nd rfl (.inl rfl)) (pgs_cons (pg_name (i := 4) scFirst.nd rfl (.inl rfl)) pgs_nil)))
    ⟨⟨.no, .no, rfl⟩, fun j ks h => absurd h (Nat.not_lt_zero _)⟩ (fun i t sl1 ht e => ?_) (fun sl1 e => ?_)
  · obtain ⟨⟨c3, c4, rfl⟩, hb⟩ := e
    obtain ⟨ks, n⟩ := t
    rw [List.getElem?_zipIdx] at ht
    obtain ⟨hk, hn⟩ : rs[i]? = some ks ∧ i = n := by
      cases q : rs[i]? with
      | none => rw [q] at ht; cases ht
      | some u =>
        rw [q] at ht
        have := Option.some.inj ht
        have e1 := congrArg Prod.fst this
        have e2 := congrArg Prod.snd this
        simp only at e1 e2
        exact ⟨by rw [e1], by omega⟩
    subst hn
    have hm := hab ks (List.mem_of_getElem? hk)
    refine ⟨_, _, (tg_tup (tgs_cons tg_name (tgs_cons tg_name tgs_nil))), tk_cons tk_set (tk_cons tk_set tk_nil), fun U' eU => ?_⟩
    refine st_if (tt_cmp (te_ix (te_name (i := 4) rfl) (te_name (i := 1) rfl) (dix_list (ixI hm.1 hm.2.1))) (te_ix (te_name (i := 4) rfl) (te_name (i := 2) rfl) (dix_list (ixI hm.2.2.1 hm.2.2.2))) d2_neI) (fun c1 => ?_) (fun c2 => ?_)
    · refine st_ret (te_is (te_name (i := 3) rfl) ?_) fun v G H' y g d e => hrt v G H' y g d e
      have ne : gI ks a ≠ gI ks b := by simpa using c1.symm
      rw [fu_some hk ne hb]
      rfl
    · have eq : gI ks a = gI ks b := by simpa using c2.symm
      refine st_done ?_ rfl
      refine st_nil fun σ B H hF => ⟨_, B, ⟨⟨_, _, rfl⟩, fun j ks' hj hk' => ?_⟩, hF⟩
      by_cases c : j < i
      · exact hb j ks' c hk'
      · obtain rfl : j = i := by omega
        rw [hk] at hk'
        cases hk'
        exact eq
  · obtain ⟨⟨c3, c4, rfl⟩, hb⟩ := e
    refine st_ret (te_is te_non ?_) fun v G H' y g d e => hrt v G H' y g d e
    rw [fu_none fun j ks hk => hb j ks (by rw [List.length_zipIdx]; exact (List.getElem?_eq_some_iff.mp hk).1) hk]
    rfl
end
end SH

set_option Elab.async false
set_option linter.all false
set_option maxRecDepth 100000
set_option maxHeartbeats 1600000
/-! K58p: round_of, within, pairs_needed, parting, fellows_right. -/
namespace SH
open PySem PySem.Spec PyProof.Rows L2 PySem.W Evl
theorem pgn {X : Cx} (i : Nat) {x : Str} {pos : Pos} (hN : X.N.Nodup) (hi : X.N[i]? = some x := by rfl) (hx : Loc X.env.scope x := by first | exact .inl rfl | exact .inr rfl) (hf : X.fn x = true ∨ X.env.scope.names.lookup x = some .local := by first | exact .inl rfl | exact .inr rfl) : PG X (.Name x pos) (gName i) := pg_name hN hi hx hf
abbrev sParting : Stmt := topS 17
abbrev sNeeded : Stmt := topS 18
abbrev sWithin : Stmt := topS 21
abbrev sFellows : Stmt := topS 22
abbrev nParting : List Str := ["web", "kinds", "one", "other", "side", "here", "there", "row", "to"]
abbrev nNeeded : List Str := ["web", "step", "one", "other", "side", "row", "to"]
abbrev nWithin : List Str := ["web", "row"]
abbrev nFellows : List Str := ["web", "pairs", "one", "other", "forth", "row", "to"]
theorem scParting : FnScope nParting ["web", "kinds", "one", "other"] (defScope sParting) := ⟨rfl, rfl, rfl, by decide +kernel, rfl, by decide +kernel, by decide +kernel⟩
theorem scNeeded : FnScope nNeeded ["web", "step"] (defScope sNeeded) := ⟨rfl, rfl, rfl, by decide +kernel, rfl, by decide +kernel, by decide +kernel⟩
theorem scWithin : FnScope nWithin ["web", "row"] (defScope sWithin) := ⟨rfl, rfl, rfl, by decide +kernel, rfl, by decide +kernel, by decide +kernel⟩
theorem scFellows : FnScope nFellows ["web", "pairs", "one", "other"] (defScope sFellows) := ⟨rfl, rfl, rfl, by decide +kernel, rfl, by decide +kernel, by decide +kernel⟩
def prParting : Pr := fun J xs R => ∃ (w : Web) (ks : List Int) (a b : Int), xs = [.d (dWeb w), .d (dInts ks), dI a, dI b] ∧ Wok w ∧ ks.length = w.length ∧ inW w a ∧ inW w b ∧ (∃ s r, Parts w ks a b s r) ∧ R = fun y => ∃ s r, y = .d (.tuple [.int s, .int r]) ∧ Parts w ks a b s r
def prNeeded : Pr := fun J xs R => ∃ (w : Web) (s : Stp), xs = [.d (dWeb w), .d (dStep s)] ∧ Wok w ∧ inW w s.1 ∧ inW w s.2.1 ∧ R = (· = .l ((needed w s).map dPair))
def prWithin : Pr := fun J xs R => ∃ (w : Web) (i : Int), xs = [.d (dWeb w), dI i] ∧ R = (· = dB (decide (0 ≤ i) && decide (i < w.length)))
abbrev dTab (ps : List (Int × Int)) : List KD := ps.map fun p => (kPair p, .bool true)
def prFellows : Pr := fun J xs R => ∃ (w : Web) (ps : List (Int × Int)) (a b : Int), xs = [.d (dWeb w), .n (dTab ps), dI a, dI b] ∧ Wok w ∧ inW w a ∧ inW w b ∧ (∀ x ∈ gW w a, ∃ y ∈ gW w b, (x, y) ∈ ps) ∧ (∀ y ∈ gW w b, ∃ x ∈ gW w a, (x, y) ∈ ps) ∧ R = (· = dB true)
theorem find_tab (ps : List (Int × Int)) (q : Int × Int) : (findK (dTab ps) (kPair q)).isSome = decide (q ∈ ps) := by
  induction ps with
  | nil => rfl
  | cons p ps ih =>
    unfold findK at ih ⊢
    show (Option.map (fun x => x.snd) (List.find? (fun x => decide (x.fst = kPair q)) ((kPair p, PyData.bool true) :: dTab ps))).isSome = _
    rw [List.find?_cons]
    by_cases c : p = q
    · subst c
      rw [decide_eq_true rfl]
      simp
    · have cn : ¬ kPair p = kPair q := fun e => c (by rw [← koPair.back p, ← koPair.back q, e])
      rw [decide_eq_false cn]
      show ((List.find? _ (dTab ps)).map _).isSome = _
      rw [ih]
      have : ¬ q = p := fun e => c e.symm
      simp [this]
section
variable {P : Program} {w : World} {K : PySem.W.Frag} {mg : Str → Option Value} {base : Heap} {f : Addr} {fd : FuncData} {k : Nat}
theorem ok_roundOf {f1 f2 f3 f4 f5 f6 f7 : Addr} {fd1 fd2 fd3 fd4 fd5 fd6 fd7 : FuncData} {tk : Tok} (D : Kd K mg "round_of" sRoundOf ["web", "one", "other"] f fd) (D1 : Kd K mg "is_row" sRow ["thing", "size"] f1 fd1) (D2 : Kd K mg "is_whole" sWhole ["thing"] f2 fd2) (D3 : Kd K mg "is_web" sWeb ["thing"] f3 fd3)
    (D4 : Kd K mg "next_round" sNext ["web", "kinds"] f4 fd4) (D5 : Kd K mg "all_rounds" sAll ["web"] f5 fd5) (D6 : Kd K mg "need_web" sNeedW ["web"] f6 fd6) (D7 : Kd K mg "need_row" sNeedR ["web", "row"] f7 fd7) (hmw : mg "MOST_WEB" = some (.int 512 tk)) (M : MgB mg) :
    FnOk P w K mg base CX0 (k + 5) f fd ["web", "one", "other"] (spD P w K prRoundOf) := by
  refine fn_ok D.F scRoundOf (fun J xs R ⟨x, y, z, e, _⟩ => by rw [e]; rfl) fun cdv A outer s H E hr J B0 H0 xs R Dn ⟨wb, a, b, e1, ok, ha, hb0, e2⟩ hrt hnx => ?_
  subst e1 e2
  refine st_expr (te_fn (Kd.kn D6 (ok_needW (k := k) D6 D3 D1 D2 hmw M) hr (by omega)) (tas_cons (te_name (i := 0) rfl) tas_nil) ⟨wb, rfl, ok, rfl⟩) ?_
  refine st_expr (te_fn (Kd.kn D7 (ok_needR (k := k) D7 D2 M) hr (by omega)) (tas_cons (te_name (i := 0) rfl) (tas_cons (te_name (i := 1) rfl) tas_nil)) ⟨wb, a, rfl, ha, rfl⟩) ?_
  refine st_expr (te_fn (Kd.kn D7 (ok_needR (k := k) D7 D2 M) hr (by omega)) (tas_cons (te_name (i := 0) rfl) (tas_cons (te_name (i := 2) rfl) tas_nil)) ⟨wb, b, rfl, hb0, rfl⟩) ?_
  have hab : ∀ ks ∈ roundsOf wb, 0 ≤ a ∧ a < ks.length ∧ 0 ≤ b ∧ b < ks.length := fun ks hk => by
    obtain ⟨n, _, rfl⟩ := List.mem_map.mp hk
    rw [kR_len]
    exact ⟨ha.1, ha.2, hb0.1, hb0.2⟩
  refine st_for (fun i sl => (∃ c3 c4, sl = [.d (.d (dWeb wb)), .d (dI a), .d (dI b), c3, c4]) ∧ ∀ (j : Nat) (ks : List Int), j < i → (roundsOf wb)[j]? = some ks → gI ks a = gI ks b) (ti_enum (te_ld (te_fn (Kd.kn D5 (ok_all (k := k) D5 D4 M) hr (by omega)) (tas_cons (te_name (i := 0) rfl) tas_nil) ⟨wb, rfl, ok, rfl⟩)) M.enumerate) (pg_tup (n := 2) rfl (pgs_cons (pgn 3 scRoundOf.nd) (pgs_cons (pgn 4 scRoundOf.nd) pgs_nil)))
    ⟨⟨.no, .no, rfl⟩, fun j ks h => absurd h (Nat.not_lt_zero _)⟩ (fun i t sl1 ht e => ?_) (fun sl1 e => ?_)
  · obtain ⟨⟨c3, c4, rfl⟩, hb⟩ := e
    obtain ⟨ks, n⟩ := t
    rw [List.getElem?_zipIdx] at ht
    obtain ⟨hk, hn⟩ : (roundsOf wb)[i]? = some ks ∧ i = n := by
      cases q : (roundsOf wb)[i]? with
      | none => rw [q] at ht; cases ht
      | some u =>
        rw [q] at ht
        have := Option.some.inj ht
        have e1 := congrArg Prod.fst this
        have e2 := congrArg Prod.snd this
        simp only at e1 e2
        exact ⟨by rw [e1], by omega⟩
    subst hn
    have hm := hab ks (List.mem_of_getElem? hk)
    refine ⟨_, _, (tg_tup (tgs_cons tg_name (tgs_cons tg_name tgs_nil))), tk_cons tk_set (tk_cons tk_set tk_nil), fun U' eU => ?_⟩
    refine st_if (tt_cmp (te_ix (te_name (i := 4) rfl) (te_name (i := 1) rfl) (dix_list (ixI hm.1 hm.2.1))) (te_ix (te_name (i := 4) rfl) (te_name (i := 2) rfl) (dix_list (ixI hm.2.2.1 hm.2.2.2))) d2_neI) (fun c1 => ?_) (fun c2 => ?_)
    · refine st_ret (te_is (te_name (i := 3) rfl) ?_) fun v G H' y g d e => hrt v G H' y g d e
      have ne : gI ks a ≠ gI ks b := by simpa using c1.symm
      rw [fu_some hk ne hb]
      rfl
    · have eq : gI ks a = gI ks b := by simpa using c2.symm
      refine st_done ?_ rfl
      refine st_nil fun σ B H hF => ⟨_, B, ⟨⟨_, _, rfl⟩, fun j ks' hj hk' => ?_⟩, hF⟩
      by_cases c : j < i
      · exact hb j ks' c hk'
      · obtain rfl : j = i := by omega
        rw [hk] at hk'
        cases hk'
        exact eq
  · obtain ⟨⟨c3, c4, rfl⟩, hb⟩ := e
    refine st_ret (te_is te_non ?_) fun v G H' y g d e => hrt v G H' y g d e
    rw [fu_none fun j ks hk => hb j ks (by rw [List.length_zipIdx]; exact (List.getElem?_eq_some_iff.mp hk).1) hk]
    rfl
theorem ok_within {f2 : Addr} {fd2 : FuncData} (D : Kd K mg "within" sWithin ["web", "row"] f fd) (D2 : Kd K mg "is_whole" sWhole ["thing"] f2 fd2) (M : MgB mg) : FnOk P w K mg base CX0 (k + 2) f fd ["web", "row"] (spD P w K prWithin) := by
  refine fn_ok D.F scWithin (fun J xs R ⟨x, y, e, _⟩ => by rw [e]; rfl) fun cdv A outer s H E hr J B0 H0 xs R Dn ⟨wb, i, e1, e2⟩ hrt hnx => ?_
  subst e1 e2
  refine st_ret (te_is (te_and (te_fn (Kd.kn D2 (ok_whole (k := k) D2 M) hr (by omega)) (tas_cons (te_name (i := 1) rfl) tas_nil) ⟨_, rfl, rfl⟩) fun h1 => (te_one (te_chain te_int (te_name (i := 1) rfl) d2_le (fun h2 => (te_callB (tas_cons (te_name (i := 0) rfl) tas_nil) dc_lenL M.len boot_len)) fun _ => d2_lt))) ?_) fun v G H' y g d e => hrt v G H' y g d e
  rw [List.length_map]
  rfl
theorem ok_needed (D : Kd K mg "pairs_needed" sNeeded ["web", "step"] f fd) (M : MgB mg) : FnOk P w K mg base CX0 (k + 1) f fd ["web", "step"] (spD P w K prNeeded) := by
  refine fn_ok D.F scNeeded (fun J xs R ⟨x, y, e, _⟩ => by rw [e]; rfl) fun cdv A outer s H E hr J B0 H0 xs R Dn ⟨wb, ⟨a, b, si, r⟩, e1, ok, ha, hb, e2⟩ hrt hnx => ?_
  subst e1 e2
  refine st_asg (pg_tup (n := 4) rfl (pgs_cons (pgn 2 scNeeded.nd) (pgs_cons (pgn 3 scNeeded.nd) (pgs_cons (pgn 4 scNeeded.nd) (pgs_cons (pgn 5 scNeeded.nd) pgs_nil))))) (te_name (i := 1) rfl) (fun x e => ⟨_, _, _, e, (tg_tup (tgs_cons tg_name (tgs_cons tg_name (tgs_cons tg_name (tgs_cons tg_name tgs_nil))))), tg_keep (tk_cons tk_set (tk_cons tk_set (tk_cons tk_set (tk_cons tk_set tk_nil)))), ?_⟩)
  refine st_if (tt_cmp (te_name (i := 4) rfl) te_int d2_eqI) (fun c1 => ?_) (fun c2 => ?_)
  · have e0 : si = 0 := of_decide_eq_true c1.symm
    subst e0
    refine st_ret (te_is (te_ll (tl_lc (own := [("to", 6)]) (ti_tup (te_ix (te_name (i := 0) rfl) (te_name (i := 3) rfl) (dix_list (ixW hb.1 hb.2)))) (ok.ln' hb) (blkOk_by rfl) (fun s H C cl fp => (pgn 6 scNeeded.nd)) fun t_to ht_to => ⟨_, _, tg_name, by simp, fun s H C cl fp => (te_tup (tds_cons (te_name (i := 5) rfl) (tds_cons (te_name (i := 6) rfl) tds_nil)) (by simp))⟩)) ?_) fun v G H' y g d e => hrt v G H' y g d e
    unfold needed
    rw [if_pos rfl, List.map_map]
    rfl
  · have e0 : ¬ si = 0 := of_decide_eq_false c2.symm
    refine st_done ?_ rfl
    refine st_ret (te_is (te_ll (tl_lc (own := [("to", 6)]) (ti_tup (te_ix (te_name (i := 0) rfl) (te_name (i := 2) rfl) (dix_list (ixW ha.1 ha.2)))) (ok.ln' ha) (blkOk_by rfl) (fun s H C cl fp => (pgn 6 scNeeded.nd)) fun t_to ht_to => ⟨_, _, tg_name, by simp, fun s H C cl fp => (te_tup (tds_cons (te_name (i := 6) rfl) (tds_cons (te_name (i := 5) rfl) tds_nil)) (by simp))⟩)) ?_) fun v G H' y g d e => hrt v G H' y g d e
    unfold needed
    rw [if_neg e0, List.map_map]
    rfl
theorem ok_fellows (D : Kd K mg "fellows_right" sFellows ["web", "pairs", "one", "other"] f fd) (M : MgB mg) : FnOk P w K mg base CX0 (k + 1) f fd ["web", "pairs", "one", "other"] (spD P w K prFellows) := by
  refine fn_ok D.F scFellows (fun J xs R ⟨x, y, z, u, e, _⟩ => by rw [e]; rfl) fun cdv A outer s H E hr J B0 H0 xs R Dn ⟨wb, ps, a, b, e1, ok, ha, hb, hf, hk, e2⟩ hrt hnx => ?_
  subst e1 e2
  refine st_set 4 (te_callB (tas_cons (te_l (tl_lc (own := [("row", 5)]) (ti_tup (te_ix (te_name (i := 0) rfl) (te_name (i := 2) rfl) (dix_list (ixW ha.1 ha.2)))) (ok.ln' ha) (blkOk_by rfl) (fun s H C cl fp => (pgn 5 scFellows.nd)) fun t_row ht_row => ⟨_, _, tg_name, by simp, fun s H C cl fp => (te_callB (tas_cons (te_l (tl_lc (own := [("to", 6)]) (ti_tup (te_ix (te_name (i := 0) rfl) (te_name (i := 3) rfl) (dix_list (ixW hb.1 hb.2)))) (ok.ln' hb) (blkOk_by rfl) (fun s H C cl fp => (pgn 6 scFellows.nd)) fun t_to ht_to => ⟨_, _, tg_name, by simp, fun s H C cl fp => (te_cmp (te_tup (tds_cons (te_name (i := 5) rfl) (tds_cons (te_name (i := 6) rfl) tds_nil)) (by simp)) (te_name (i := 1) rfl) (d2_inN (kPair_is (t_row, t_to)) rfl))⟩)) tas_nil) dc_anyM M.any boot_any)⟩)) tas_nil) dc_allM M.all boot_all) (fun x e => ?_)
  subst e
  refine st_ret (te_is (te_and (te_name (i := 4) rfl) fun h1 => (te_one (te_callB (tas_cons (te_l (tl_lc (own := [("to", 6)]) (ti_tup (te_ix (te_name (i := 0) rfl) (te_name (i := 3) rfl) (dix_list (ixW hb.1 hb.2)))) (ok.ln' hb) (blkOk_by rfl) (fun s H C cl fp => (pgn 6 scFellows.nd)) fun t_to ht_to => ⟨_, _, tg_name, by simp, fun s H C cl fp => (te_callB (tas_cons (te_l (tl_lc (own := [("row", 5)]) (ti_tup (te_ix (te_name (i := 0) rfl) (te_name (i := 2) rfl) (dix_list (ixW ha.1 ha.2)))) (ok.ln' ha) (blkOk_by rfl) (fun s H C cl fp => (pgn 5 scFellows.nd)) fun t_row ht_row => ⟨_, _, tg_name, by simp, fun s H C cl fp => (te_cmp (te_tup (tds_cons (te_name (i := 5) rfl) (tds_cons (te_name (i := 6) rfl) tds_nil)) (by simp)) (te_name (i := 1) rfl) (d2_inN (kPair_is (t_row, t_to)) rfl))⟩)) tas_nil) dc_anyM M.any boot_any)⟩)) tas_nil) dc_allM M.all boot_all))) ?_) fun v G H' y g d e => hrt v G H' y g d e
  have e1 : ((gW wb a).all fun x => (gW wb b).any fun y => (findK (dTab ps) (kPair (x, y))).isSome) = true := by
    rw [List.all_eq_true]
    intro x hx
    rw [List.any_eq_true]
    obtain ⟨y, hy, hp⟩ := hf x hx
    exact ⟨y, hy, by rw [find_tab]; exact decide_eq_true hp⟩
  have e2 : ((gW wb b).all fun y => (gW wb a).any fun x => (findK (dTab ps) (kPair (x, y))).isSome) = true := by
    rw [List.all_eq_true]
    intro y hy
    rw [List.any_eq_true]
    obtain ⟨x, hx, hp⟩ := hk y hy
    exact ⟨x, hx, by rw [find_tab]; exact decide_eq_true hp⟩
  rw [e1, e2]
  rfl
theorem ok_parting (D : Kd K mg "parting" sParting ["web", "kinds", "one", "other"] f fd) (M : MgB mg) : FnOk P w K mg base CX0 (k + 1) f fd ["web", "kinds", "one", "other"] (spD P w K prParting) := by
  refine fn_ok D.F scParting (fun J xs R ⟨x, y, z, u, e, _⟩ => by rw [e]; rfl) fun cdv A outer s H E hr J B0 H0 xs R Dn ⟨wb, ks, a, b, e1, ok, hk, ha, hb, hex, e2⟩ hrt hnx => ?_
  subst e1 e2
  have ix : ∀ x, inW wb x → atI (ks.map PyData.int) x = some (.int (gI ks x)) := fun x hx => ixI hx.1 (by rw [hk]; exact hx.2)
  let sid : Nat → Int × Int := fun i => if i = 0 then (a, b) else (b, a)
  have inner : ∀ (i : Nat) (U : Hp) (c7 : Sd) (rest : List Stmt) (D' : Ends) (h t : Int), inW wb h → inW wb t → (∀ r, r ∈ gW wb h → (∀ to ∈ gW wb t, gI ks r ≠ gI ks to) → Parts wb ks a b i r) → D'.rt = Dn.rt →
      ((∀ r ∈ gW wb h, ¬ ∀ to ∈ gW wb t, gI ks r ≠ gI ks to) → ∀ c7, St (cxOf CX0 P w K mg base nParting "parting" (defScope sParting) f cdv A outer s H E).nox J B0 H0 U [.d (.d (dWeb wb)), .d (.d (dInts ks)), .d (dI a), .d (dI b), .d (dI i), .d (dI h), .d (dI t), c7, .no] rest D') →
      True := fun _ _ _ _ _ _ _ _ _ _ _ _ => trivial
  refine st_for (ts := [(a, b), (b, a)].zipIdx) (enc := fun q => .tuple [.int (q.2 : Nat), dPair q.1]) (fun i sl => (∃ c4 c5 c6 c7, sl = [.d (.d (dWeb wb)), .d (.d (dInts ks)), .d (dI a), .d (dI b), c4, c5, c6, c7, .no]) ∧ (1 ≤ i → ∀ r ∈ gW wb a, ¬ ∀ to ∈ gW wb b, gI ks r ≠ gI ks to) ∧ (2 ≤ i → ∀ r ∈ gW wb b, ¬ ∀ to ∈ gW wb a, gI ks r ≠ gI ks to))
    (ti_enum (ts := [(a, b), (b, a)]) (enc := dPair) (te_l (tl_lst (tds_cons (te_tup (tds_cons (te_name (i := 2) rfl) (tds_cons (te_name (i := 3) rfl) tds_nil)) (by simp)) (tds_cons (te_tup (tds_cons (te_name (i := 3) rfl) (tds_cons (te_name (i := 2) rfl) tds_nil)) (by simp)) tds_nil)) (by simp))) M.enumerate)
    (pg_tup (n := 2) rfl (pgs_cons (pgn 4 scParting.nd) (pgs_cons (pg_tup (n := 2) rfl (pgs_cons (pgn 5 scParting.nd) (pgs_cons (pgn 6 scParting.nd) pgs_nil))) pgs_nil))) ⟨⟨.no, .no, .no, .no, rfl⟩, fun h => absurd h (by decide), fun h => absurd h (by decide)⟩ (fun i t sl1 ht e => ?_) (fun sl1 e => ?_)
  · obtain ⟨⟨c4, c5, c6, c7, rfl⟩, n1, n2⟩ := e
    obtain ⟨h, t', hh, hth, et, hP, hN⟩ : ∃ h t', inW wb h ∧ inW wb t' ∧ t = ((h, t'), i) ∧ (∀ r, r ∈ gW wb h → (∀ to ∈ gW wb t', gI ks r ≠ gI ks to) → Parts wb ks a b i r) ∧ ((∀ r ∈ gW wb h, ¬ ∀ to ∈ gW wb t', gI ks r ≠ gI ks to) → (1 ≤ i + 1 → ∀ r ∈ gW wb a, ¬ ∀ to ∈ gW wb b, gI ks r ≠ gI ks to) ∧ (2 ≤ i + 1 → ∀ r ∈ gW wb b, ¬ ∀ to ∈ gW wb a, gI ks r ≠ gI ks to)) := by
      match i, ht with
      | 0, ht => cases ht; exact ⟨a, b, ha, hb, rfl, fun r hr h => .inl ⟨rfl, hr, h⟩, fun h => ⟨fun _ => h, fun z => absurd z (by decide)⟩⟩
      | 1, ht => cases ht; exact ⟨b, a, hb, ha, rfl, fun r hr h => .inr ⟨rfl, hr, h⟩, fun h => ⟨fun _ => n1 (Nat.le_refl _), fun _ => h⟩⟩
    subst et
    refine ⟨_, _, (tg_tup (tgs_cons tg_name (tgs_cons (tg_tup (tgs_cons tg_name (tgs_cons tg_name tgs_nil))) tgs_nil))), tk_cons tk_set (tk_cons (tk_cons tk_set (tk_cons tk_set tk_nil)) tk_nil), fun U' eU => ?_⟩
    refine st_for (ts := gW wb h) (enc := PyData.int) (fun j sl => (∃ c7, sl = [.d (.d (dWeb wb)), .d (.d (dInts ks)), .d (dI a), .d (dI b), .d (dI i), .d (dI h), .d (dI t'), c7, .no]) ∧ ∀ (m : Nat) (r : Int), m < j → (gW wb h)[m]? = some r → ¬ ∀ to ∈ gW wb t', gI ks r ≠ gI ks to)
      (ti_tup (te_ix (te_name (i := 0) rfl) (te_name (i := 5) rfl) (dix_list (ixW hh.1 hh.2)))) (pgn 7 scParting.nd) ⟨⟨_, rfl⟩, fun m r hm => absurd hm (Nat.not_lt_zero _)⟩ (fun j r sl2 hr2 e => ?_) (fun sl2 e => ?_)
    · obtain ⟨⟨c7', rfl⟩, hb2⟩ := e
      have hrm := List.mem_of_getElem? hr2
      refine ⟨_, _, tg_name, tk_set, fun U2 eU2 => ?_⟩
      refine st_if (tt_val (te_callB (tas_cons (te_l (tl_lc (own := [("to", 8)]) (ti_tup (te_ix (te_name (i := 0) rfl) (te_name (i := 6) rfl) (dix_list (ixW hth.1 hth.2)))) (ok.ln' hth) (blkOk_by rfl) (fun s H C cl fp => (pgn 8 scParting.nd)) fun t_to ht_to => ⟨_, _, tg_name, by simp, fun s H C cl fp => (te_cmp (te_ix (te_name (i := 1) rfl) (te_name (i := 7) rfl) (dix_list (ix _ (ok.in_ hh hrm)))) (te_ix (te_name (i := 1) rfl) (te_name (i := 8) rfl) (dix_list (ix _ (ok.in_ hth ht_to)))) d2_neI)⟩)) tas_nil) dc_allM M.all boot_all)) (fun c1 => ?_) (fun c2 => ?_)
      · have hall : ∀ to ∈ gW wb t', gI ks r ≠ gI ks to := fun to hto => by
          have := (List.all_eq_true.mp c1.symm) to hto
          simpa using this
        refine st_ret (te_tup (tds_cons (te_name (i := 4) rfl) (tds_cons (te_name (i := 7) rfl) tds_nil)) (by simp)) fun v G H' y g d e => hrt v G H' y g d ⟨i, r, e, hP r hrm hall⟩
      · refine st_done ?_ rfl
        refine st_nil fun σ B H hF => ⟨_, B, ⟨⟨_, rfl⟩, fun m r' hm hr' => ?_⟩, hF⟩
        by_cases c : m < j
        · exact hb2 m r' c hr'
        · obtain rfl : m = j := by omega
          rw [hr2] at hr'
          cases hr'
          intro hall
          have : ((gW wb t').all fun to => !decide (gI ks r = gI ks to)) = true := by
            rw [List.all_eq_true]
            intro to hto
            simp [hall to hto]
          rw [this] at c2
          exact Bool.noConfusion c2
    · obtain ⟨⟨c7', rfl⟩, hb2⟩ := e
      refine st_nil fun σ B H hF => ⟨_, B, ⟨⟨_, _, _, _, rfl⟩, hN fun r hr => ?_⟩, hF⟩
      obtain ⟨m, hm, e⟩ := List.getElem_of_mem hr
      exact hb2 m r hm (by rw [List.getElem?_eq_getElem hm, e])
  · obtain ⟨⟨c4, c5, c6, c7, rfl⟩, n1, n2⟩ := e
    exfalso
    obtain ⟨s, r, hp⟩ := hex
    rcases hp with ⟨_, h1, h2⟩ | ⟨_, h1, h2⟩
    · exact n1 (by simp) r h1 h2
    · exact n2 (by simp) r h1 h2
end
end SH

set_option Elab.async false
set_option linter.all false
set_option maxRecDepth 100000
set_option maxHeartbeats 1600000
/-! K58l: like_pairs. -/
namespace SH
open PySem PySem.Spec PyProof.Rows L2 PySem.W Evl
abbrev sLike : Stmt := topS 16
abbrev nLike : List Str := ["web", "kinds", "one", "other", "found", "waiting", "here", "there", "pairs", "pair", "row", "to"]
theorem scLike : FnScope nLike ["web", "kinds", "one", "other"] (defScope sLike) := ⟨rfl, rfl, rfl, by decide +kernel, rfl, by decide +kernel, by decide +kernel⟩
def prLike : Pr := fun J xs R => ∃ (w : Web) (ks : List Int) (a b : Int), xs = [.d (dWeb w), .d (dInts ks), dI a, dI b] ∧ Wok w ∧ ks.length = w.length ∧ inW w a ∧ inW w b ∧ Bis w ks ∧ gI ks a = gI ks b ∧ R = fun y => ∃ ps, y = .l (ps.map dPair) ∧ LikeOk w a b ps ∧ ps.length ≤ 262144
theorem nodup_len {α : Type} [BEq α] [LawfulBEq α] : ∀ (l m : List α), l.Nodup → (∀ x ∈ l, x ∈ m) → l.length ≤ m.length
  | [], _, _, _ => Nat.zero_le _
  | x :: l, m, h, hs => by
    rw [List.nodup_cons] at h
    have hx : x ∈ m := hs x List.mem_cons_self
    have h1 := nodup_len l (m.erase x) h.2 fun y hy => (List.mem_erase_of_ne fun e => h.1 (by rw [← e]; exact hy)).mpr (hs y (List.mem_cons_of_mem _ hy))
    rw [List.length_erase_of_mem hx] at h1
    have := List.length_pos_of_mem hx
    rw [List.length_cons]
    omega
def allPairs : List (Int × Int) := (List.range 512).flatMap fun a : Nat => (List.range 512).map fun b : Nat => ((a : Int), (b : Int))
theorem allPairs_len : allPairs.length = 262144 := by
  unfold allPairs
  rw [List.length_flatMap]
  have : ((List.range 512).map fun a : Nat => ((List.range 512).map fun b : Nat => ((a : Int), (b : Int))).length) = (List.range 512).map fun _ => 512 := List.map_congr_left fun a _ => by rw [List.length_map, List.length_range]
  rw [this]
  decide +kernel
theorem pairs_len {w : Web} (hw : w.length ≤ 512) {F : List (Int × Int)} (h : F.Nodup) (hi : ∀ p ∈ F, inW w p.1 ∧ inW w p.2) : F.length ≤ 262144 := by
  have h1 := nodup_len F allPairs h fun p hp => by
    obtain ⟨⟨a1, a2⟩, ⟨b1, b2⟩⟩ := hi p hp
    unfold allPairs
    rw [List.mem_flatMap]
    refine ⟨p.1.toNat, List.mem_range.mpr (by omega), List.mem_map.mpr ⟨p.2.toNat, List.mem_range.mpr (by omega), ?_⟩⟩
    exact Prod.ext (by show ((p.1.toNat : Nat) : Int) = p.1; omega) (by show ((p.2.toNat : Nat) : Int) = p.2; omega)
  rw [allPairs_len] at h1
  exact h1
/-- the first of them -/
def fstI (L : List Int) : Int := L.headD 0
theorem fst_at {L : List Int} (h : ∃ x, x ∈ L) : atI (L.map PyData.int) (0 : Int) = some (.int (fstI L)) ∧ fstI L ∈ L := by
  cases L with
  | nil => obtain ⟨x, hx⟩ := h; cases hx
  | cons a L => exact ⟨atI_nat (j := 0) rfl, List.mem_cons_self⟩
/-- what a pair calls for -/
def callsFor (w : Web) (ks : List Int) (h t : Int) : List (Int × Int) :=
  ((gW w h).map fun x => (x, fstI ((gW w t).filter fun to => decide (gI ks to = gI ks x)))) ++ (gW w t).map fun y => (fstI ((gW w h).filter fun to => decide (gI ks to = gI ks y)), y)
structure LInv (w : Web) (ks : List Int) (a b : Int) (F W : List (Int × Int)) : Prop where
  nd : F.Nodup
  ok : ∀ p ∈ F, inW w p.1 ∧ inW w p.2 ∧ gI ks p.1 = gI ks p.2
  root : (a, b) ∈ F
  wf : ∀ p ∈ W, p ∈ F
  cl : ∀ p ∈ F, p ∈ W ∨ ∀ q ∈ callsFor w ks p.1 p.2, q ∈ F
  rc : Clos w a b F
section
variable {P : Program} {w : World} {K : PySem.W.Frag} {mg : Str → Option Value} {base : Heap} {f : Addr} {fd : FuncData} {k : Nat}
theorem ok_like (D : Kd K mg "like_pairs" sLike ["web", "kinds", "one", "other"] f fd) (M : MgB mg) : FnOk P w K mg base CX0 (k + 1) f fd ["web", "kinds", "one", "other"] (spD P w K prLike) := by
  refine fn_ok D.F scLike (fun J xs R ⟨x, y, z, u, e, _⟩ => by rw [e]; rfl) fun cdv A outer s H E hr J B0 H0 xs R Dn ⟨wb, ks, a, b, e1, ok, hk, ha, hb, bis, hab, e2⟩ hrt hnx => ?_
  subst e1 e2
  have ix : ∀ x, inW wb x → atI (ks.map PyData.int) x = some (.int (gI ks x)) := fun x hx => ixI hx.1 (by rw [hk]; exact hx.2)
  -- a like pair's calls are like pairs
  have hfst : ∀ h t x, inW wb h → inW wb t → gI ks h = gI ks t → x ∈ gW wb h → ∃ y, y ∈ (gW wb t).filter fun to => decide (gI ks to = gI ks x) := fun h t x h1 h2 e hx => by
    obtain ⟨y, hy, e⟩ := bis h t h1 h2 e x hx
    exact ⟨y, List.mem_filter.mpr ⟨hy, decide_eq_true e.symm⟩⟩
  have hcalls : ∀ h t, inW wb h → inW wb t → gI ks h = gI ks t → ∀ q ∈ callsFor wb ks h t, (inW wb q.1 ∧ inW wb q.2 ∧ gI ks q.1 = gI ks q.2) ∧ q.1 ∈ gW wb h ∧ q.2 ∈ gW wb t := fun h t h1 h2 e q hq => by
    rcases List.mem_append.mp hq with hq | hq
    · obtain ⟨x, hx, rfl⟩ := List.mem_map.mp hq
      have z := List.mem_filter.mp (fst_at (hfst h t x h1 h2 e hx)).2
      exact ⟨⟨ok.in_ h1 hx, ok.in_ h2 z.1, (of_decide_eq_true z.2).symm⟩, hx, z.1⟩
    · obtain ⟨y, hy, rfl⟩ := List.mem_map.mp hq
      have z := List.mem_filter.mp (fst_at (hfst t h y h2 h1 e.symm hy)).2
      exact ⟨⟨ok.in_ h1 z.1, ok.in_ h2 hy, of_decide_eq_true z.2⟩, z.1, hy⟩
  refine st_setDn 4 (td_one (kPair_is (a, b)) rfl (te_tup (ds := [.int a, .int b]) (tds_cons (te_name (i := 2) rfl) (tds_cons (te_name (i := 3) rfl) tds_nil)) (by simp)) te_bl) ?_
  refine st_setL 5 (tl_lst (tds_cons (te_tup (tds_cons (te_name (i := 2) rfl) (tds_cons (te_name (i := 3) rfl) tds_nil)) (by simp)) tds_nil) (by simp)) (fun x e => ?_)
  subst e
  refine st_while (fun m sl => ∃ (F W : List (Int × Int)) (c6 c7 c8 c9 : Sd), sl = [.d (.d (dWeb wb)), .d (.d (dInts ks)), .d (dI a), .d (dI b), .od (dTab F), .ol (W.map dPair), c6, c7, c8, c9, .no, .no] ∧ LInv wb ks a b F W ∧ m + 2 * F.length = 2 * 262144 + W.length ∧ W.length ≤ F.length) (2 * 262144 + 1 - 2)
    ⟨[(a, b)], [(a, b)], .no, .no, .no, .no, rfl, ⟨by simp, fun p hp => by rw [List.mem_singleton.mp hp]; exact ⟨ha, hb, hab⟩, by simp, fun p hp => hp, fun p hp => .inl hp, fun S h0 hS p hp => by rw [List.mem_singleton.mp hp]; exact h0⟩, by simp, by simp⟩ ?_
  rintro m sl1 ⟨F, W, c6, c7, c8, c9, rfl, inv, hm, hWF⟩
  have hFl : F.length ≤ 262144 := pairs_len ok.few inv.nd fun p hp => ⟨(inv.ok p hp).1, (inv.ok p hp).2.1⟩
  refine ⟨!decide (W = []), tt_is (tt_thaw (i := 5) rfl (tt_cmp (te_ld (te_name (i := 5) rfl)) (te_l (tl_lst tds_nil (by simp))) (d2_neD (shaped_pairs W) (shaped_pairs [])))) (by rw [show PyData.list [] = .list (([] : List (Int × Int)).map dPair) from rfl, eqv_pairs]), fun hW => ?_, fun hW => ?_⟩
  · have hW : W ≠ [] := by simpa using hW
    obtain ⟨W0, ⟨h, t⟩, rfl⟩ : ∃ W0 p, W = W0 ++ [p] := ⟨W.dropLast, W.getLast hW, (List.dropLast_concat_getLast hW).symm⟩
    have hcur : (h, t) ∈ F := inv.wf _ (List.mem_append_right _ (List.mem_singleton.mpr rfl))
    obtain ⟨hh, hth, hht⟩ : inW wb h ∧ inW wb t ∧ gI ks h = gI ks t := inv.ok _ hcur
    rw [List.map_append, List.map_singleton]
    refine st_pop 5 rfl (pg_tup (n := 2) rfl (pgs_cons (pgn 6 scLike.nd) (pgs_cons (pgn 7 scLike.nd) pgs_nil))) (tg_tup (tgs_cons tg_name (tgs_cons tg_name tgs_nil))) (tk_cons tk_set (tk_cons tk_set tk_nil)) ?_
    refine st_setLc 8 (own := [("row", 10)]) (ti_tup (te_ix (te_name (i := 0) rfl) (te_name (i := 6) rfl) (dix_list (ixW hh.1 hh.2)))) (ok.ln' hh) (blkOk_by rfl) (fun s H C cl fp => (pgn 10 scLike.nd)) (f := fun x => dPair (x, fstI ((gW wb t).filter fun to => decide (gI ks to = gI ks x)))) (fun x hx => ⟨_, _, tg_name, by simp, fun s H C cl fp => te_tup (tds_cons (te_name (i := 10) rfl) (tds_cons (te_ix (te_l (tl_lcf (own := [("to", 11)]) (ti_tup (te_ix (te_name (i := 0) rfl) (te_name (i := 7) rfl) (dix_list (ixW hth.1 hth.2)))) (ok.ln' hth) (blkOk_by rfl) (fun s H C cl fp => (pgn 11 scLike.nd)) fun to hto => ⟨_, _, tg_name, by simp, fun s H C cl fp => (tt_cmp (te_ix (te_name (i := 1) rfl) (te_name (i := 11) rfl) (dix_list (ix _ (ok.in_ hth hto)))) (te_ix (te_name (i := 1) rfl) (te_name (i := 10) rfl) (dix_list (ix _ (ok.in_ hh hx)))) d2_eqI), fun h1 s H C cl fp => (te_name (i := 11) rfl)⟩)) te_int (dix_list (fst_at (hfst h t x hh hth hht hx)).1)) tds_nil)) (by simp)⟩) ?_
    refine st_augL 8 rfl (te_ll (tl_lc (f := fun y => dPair (fstI ((gW wb h).filter fun to => decide (gI ks to = gI ks y)), y)) (own := [("row", 10)]) (ti_tup (te_ix (te_name (i := 0) rfl) (te_name (i := 7) rfl) (dix_list (ixW hth.1 hth.2)))) (ok.ln' hth) (blkOk_by rfl) (fun s H C cl fp => (pgn 10 scLike.nd)) fun y hy => ⟨_, _, tg_name, by simp, fun s H C cl fp => te_tup (tds_cons (te_ix (te_l (tl_lcf (own := [("to", 11)]) (ti_tup (te_ix (te_name (i := 0) rfl) (te_name (i := 6) rfl) (dix_list (ixW hh.1 hh.2)))) (ok.ln' hh) (blkOk_by rfl) (fun s H C cl fp => (pgn 11 scLike.nd)) fun to hto => ⟨_, _, tg_name, by simp, fun s H C cl fp => (tt_cmp (te_ix (te_name (i := 1) rfl) (te_name (i := 11) rfl) (dix_list (ix _ (ok.in_ hh hto)))) (te_ix (te_name (i := 1) rfl) (te_name (i := 10) rfl) (dix_list (ix _ (ok.in_ hth hy)))) d2_eqI), fun h1 s H C cl fp => (te_name (i := 11) rfl)⟩)) te_int (dix_list (fst_at (hfst t h y hth hh hht.symm hy)).1)) (tds_cons (te_name (i := 10) rfl) tds_nil)) (by simp)⟩)) (by rw [List.length_map, List.length_map]; exact Nat.le_trans (Nat.add_le_add (ok.ln hh) (ok.ln hth)) (by decide)) ?_
    have epp : ((gW wb h).map fun x => dPair (x, fstI ((gW wb t).filter fun to => decide (gI ks to = gI ks x)))) ++ (gW wb t).map (fun y => dPair (fstI ((gW wb h).filter fun to => decide (gI ks to = gI ks y)), y)) = (callsFor wb ks h t).map dPair := by
      unfold callsFor
      rw [List.map_append, List.map_map, List.map_map]
      rfl
    rw [epp]
    refine st_frz 8 rfl ?_
    have hpl : (callsFor wb ks h t).length ≤ 8 := by
      unfold callsFor
      have z1 := ok.ln hh
      have z2 := ok.ln hth
      simp only [List.length_append, List.length_map]
      omega
    refine st_for (ts := callsFor wb ks h t) (enc := dPair) (fun i sl => ∃ (F' W' : List (Int × Int)) (c9 : Sd), sl = [.d (.d (dWeb wb)), .d (.d (dInts ks)), .d (dI a), .d (dI b), .od (dTab F'), .ol (W'.map dPair), .d (dI h), .d (dI t), .d (.l ((callsFor wb ks h t).map dPair)), c9, .no, .no] ∧
        F'.Nodup ∧ (∀ p ∈ F', inW wb p.1 ∧ inW wb p.2 ∧ gI ks p.1 = gI ks p.2) ∧ (∀ p ∈ F, p ∈ F') ∧ (∀ p ∈ W', p ∈ F') ∧ (∀ p ∈ F', p ∈ F ∨ p ∈ W') ∧ (∀ p ∈ W0, p ∈ W') ∧ (∀ (j : Nat) (q : Int × Int), j < i → (callsFor wb ks h t)[j]? = some q → q ∈ F') ∧ F'.length + W0.length = W'.length + F.length ∧ Clos wb a b F')
      (ti_list (te_ld (te_name (i := 8) rfl))) (pgn 9 scLike.nd)
      ⟨F, W0, _, rfl, inv.nd, inv.ok, fun p hp => hp, fun p hp => inv.wf p (List.mem_append_left _ hp), fun p hp => .inl hp, fun p hp => hp, fun j q hj => absurd hj (Nat.not_lt_zero _), by omega, inv.rc⟩ (fun i q sl2 hq e => ?_) (fun sl2 e => ?_)
    · obtain ⟨F', W', c9', rfl, v1, v2, v3, v4, v5, v6, v7, v8, v9⟩ := e
      have hqc := List.mem_of_getElem? hq
      have hF'l : F'.length ≤ 262144 := pairs_len ok.few v1 fun p hp => ⟨(v2 p hp).1, (v2 p hp).2.1⟩
      refine ⟨_, _, tg_name, tk_set, fun U' eU => ?_⟩
      refine st_if (tt_thaw (i := 4) rfl (tt_cmp (te_name (i := 9) rfl) (te_name (i := 4) rfl) (d2_ninN (kPair_is q) rfl))) (fun c2 => ?_) (fun c3 => ?_)
      · rw [find_tab] at c2
        have hn : q ∉ F' := by simpa using c2.symm
        have est : storeK (dTab F') (kPair q) (.bool true) = dTab (F' ++ [q]) := by
          rw [store_new]
          · unfold dTab
            rw [List.map_append]
            rfl
          · rw [List.map_map]
            intro hm
            obtain ⟨p, hp, e⟩ := List.mem_map.mp hm
            have : p = q := by rw [← koPair.back p, ← koPair.back q]; exact congrArg dPairK e
            exact hn (by rw [← this]; exact hp)
        refine st_putD 4 rfl te_bl (te_name (i := 9) rfl) (kPair_is q) rfl (by rw [List.length_map]; omega) ?_
        rw [est]
        refine st_append 5 rfl (te_name (i := 9) rfl) (by
          rw [List.length_map]
          rw [List.length_append, List.length_singleton] at hWF
          omega) ?_
        refine st_done ?_ rfl
        refine st_nil fun σ B H hF => ⟨_, B, ⟨F' ++ [q], W' ++ [q], .d (.d (dPair q)), ?_, ?_, ?_, fun p hp => List.mem_append_left _ (v3 p hp), ?_, ?_, fun p hp => List.mem_append_left _ (v6 p hp), ?_, ?_, ?_⟩, hF⟩
        · rw [List.map_append]
          rfl
        · rw [List.nodup_append]
          exact ⟨v1, by simp, fun x hx y hy e => hn (by rw [← List.mem_singleton.mp hy, ← e]; exact hx)⟩
        · intro p hp
          rcases List.mem_append.mp hp with hp | hp
          · exact v2 p hp
          · rw [List.mem_singleton.mp hp]
            exact (hcalls h t hh hth hht q hqc).1
        · intro p hp
          rcases List.mem_append.mp hp with hp | hp
          · exact List.mem_append_left _ (v4 p hp)
          · exact List.mem_append_right _ hp
        · intro p hp
          rcases List.mem_append.mp hp with hp | hp
          · exact (v5 p hp).imp id fun z => List.mem_append_left _ z
          · exact .inr (List.mem_append_right _ hp)
        · intro j r hj hr'
          by_cases c : j < i
          · exact List.mem_append_left _ (v7 j r c hr')
          · obtain rfl : j = i := by omega
            rw [hq] at hr'
            cases hr'
            exact List.mem_append_right _ (List.mem_singleton.mpr rfl)
        · rw [List.length_append, List.length_append, List.length_singleton]
          omega
        · intro S h0 hS p hp
          rcases List.mem_append.mp hp with hp | hp
          · exact v9 S h0 hS p hp
          · rw [List.mem_singleton.mp hp]
            obtain ⟨_, z1, z2⟩ := hcalls h t hh hth hht q hqc
            exact hS _ (inv.rc S h0 hS _ hcur) q z1 z2
      · rw [find_tab] at c3
        have hn : q ∈ F' := by simpa using c3.symm
        refine st_done ?_ rfl
        refine st_nil fun σ B H hF => ⟨_, B, ⟨F', W', .d (.d (dPair q)), rfl, v1, v2, v3, v4, v5, v6, ?_, v8, v9⟩, hF⟩
        intro j r hj hr'
        by_cases c : j < i
        · exact v7 j r c hr'
        · obtain rfl : j = i := by omega
          rw [hq] at hr'
          cases hr'
          exact hn
    · obtain ⟨F', W', c9', rfl, v1, v2, v3, v4, v5, v6, v7, v8, v9⟩ := e
      have hall : ∀ q ∈ callsFor wb ks h t, q ∈ F' := fun q hq => by
        obtain ⟨j, hj, e⟩ := List.getElem_of_mem hq
        exact v7 j q hj (by rw [List.getElem?_eq_getElem hj, e])
      refine st_nil fun σ B H hF => ⟨_, B, ⟨2 * 262144 + W'.length - 2 * F'.length, ?_, F', W', _, _, _, _, rfl, ⟨v1, v2, v3 _ inv.root, v4, fun p hp => ?_, v9⟩, ?_, ?_⟩, hF⟩
      · rw [List.length_append, List.length_singleton] at hm
        have hF'l : F'.length ≤ 262144 := pairs_len ok.few v1 fun p hp => ⟨(v2 p hp).1, (v2 p hp).2.1⟩
        have hge : F.length ≤ F'.length := nodup_len F F' inv.nd v3
        omega
      · rcases v5 p hp with h1 | h1
        · rcases inv.cl p h1 with h2 | h2
          · rcases List.mem_append.mp h2 with h3 | h3
            · exact .inl (v6 p h3)
            · rw [List.mem_singleton.mp h3]
              exact .inr hall
          · exact .inr fun q hq => v3 q (h2 q hq)
        · exact .inl h1
      · have hF'l : F'.length ≤ 262144 := pairs_len ok.few v1 fun p hp => ⟨(v2 p hp).1, (v2 p hp).2.1⟩
        omega
      · rw [List.length_append, List.length_singleton] at hWF
        omega
  · have hW : W = [] := by simpa using hW
    subst hW
    refine st_frz 4 rfl ?_
    have hcl : ∀ p ∈ F, ∀ q ∈ callsFor wb ks p.1 p.2, q ∈ F := fun p hp => (inv.cl p hp).elim (fun z => by cases z) id
    refine st_ret (te_ll (tl_sortD (ts := F) (f := id) (vf := fun _ => .bool true) koPair (te_name (i := 4) rfl) M.sorted)) fun v G H' y g d e => hrt v G H' y g d ⟨(F.map id).mergeSort lePair, e, ?_, by rw [List.length_mergeSort, List.length_map]; exact hFl⟩
    rw [List.map_id]
    have mem : ∀ p, p ∈ F.mergeSort lePair ↔ p ∈ F := fun p => (List.mergeSort_perm F lePair).mem_iff
    refine ⟨(mem _).mpr inv.root, ?_, fun p hp => ?_, fun p hp x hx => ?_, fun p hp y hy => ?_, fun S h0 hS p hp => inv.rc S h0 hS p ((mem p).mp hp)⟩
    · have p1 := List.pairwise_mergeSort ordPair.trans ordPair.total F
      have p2 := (List.mergeSort_perm F lePair).nodup_iff.mpr inv.nd
      refine (p1.and p2).imp fun {x y} h => ?_
      have h1 := of_decide_eq_true h.1
      rcases h1 with h1 | ⟨h1, h2⟩
      · exact .inl h1
      · refine .inr ⟨h1, ?_⟩
        rcases Int.lt_or_eq_of_le h2 with z | z
        · exact z
        · exact absurd (Prod.ext h1 z) h.2
    · have := inv.ok p ((mem p).mp hp)
      exact ⟨this.1, this.2.1⟩
    · have hp := (mem p).mp hp
      have o := inv.ok p hp
      have z := (fst_at (hfst p.1 p.2 x o.1 o.2.1 o.2.2 hx)).2
      exact ⟨_, (List.mem_filter.mp z).1, (mem _).mpr (hcl p hp _ (List.mem_append_left _ (List.mem_map.mpr ⟨x, hx, rfl⟩)))⟩
    · have hp := (mem p).mp hp
      have o := inv.ok p hp
      have z := (fst_at (hfst p.2 p.1 y o.2.1 o.1 o.2.2.symm hy)).2
      exact ⟨_, (List.mem_filter.mp z).1, (mem _).mpr (hcl p hp _ (List.mem_append_right _ (List.mem_map.mpr ⟨y, hy, rfl⟩)))⟩
end
end SH

set_option Elab.async false
set_option linter.all false
set_option maxRecDepth 100000
set_option maxHeartbeats 1600000
/-! K58s: parting_steps. -/
namespace SH
open PySem PySem.Spec PyProof.Rows L2 PySem.W Evl
abbrev sSteps : Stmt := topS 19
abbrev nSteps : List Str := ["web", "rounds", "one", "other", "found", "waiting", "pair", "at", "step"]
theorem scSteps : FnScope nSteps ["web", "rounds", "one", "other"] (defScope sSteps) := ⟨rfl, rfl, rfl, by decide +kernel, rfl, by decide +kernel, by decide +kernel⟩
def prSteps : Pr := fun J xs R => ∃ (w : Web) (a b : Int) (n : Nat), xs = [.d (dWeb w), .d (.list ((roundsOf w).map dInts)), dI a, dI b] ∧ Wok w ∧ inW w a ∧ inW w b ∧ fuL (roundsOf w) a b = some n ∧ R = fun y => ∃ ss, y = .l (ss.map dStep) ∧ UnlikeOk w a b n ss
section
variable {w : Web}
theorem rounds_get {j : Nat} {ks : List Int} (h : (roundsOf w)[j]? = some ks) : ks = kR w j ∧ j ≤ stab w := by
  unfold roundsOf at h
  rw [List.getElem?_map] at h
  by_cases c : j < stab w + 1
  · rw [List.getElem?_range c] at h
    exact ⟨(Option.some.inj h).symm, by omega⟩
  · rw [List.getElem?_eq_none (by rw [List.length_range]; omega)] at h
    cases h
theorem rounds_at {j : Nat} (h : j ≤ stab w) : (roundsOf w)[j]? = some (kR w j) := by
  unfold roundsOf
  rw [List.getElem?_map, List.getElem?_range (by omega)]
  rfl
theorem fu_spec {a b : Int} {n : Nat} (h : fuL (roundsOf w) a b = some n) : n ≤ stab w ∧ gI (kR w n) a ≠ gI (kR w n) b ∧ ∀ j < n, gI (kR w j) a = gI (kR w j) b := by
  unfold fuL at h
  rw [List.findIdx?_eq_some_iff_getElem] at h
  obtain ⟨hl, h1, h2⟩ := h
  have e := rounds_get (List.getElem?_eq_getElem hl)
  rw [e.1] at h1
  refine ⟨e.2, by simpa using h1, fun j hj => ?_⟩
  have h3 := h2 j hj
  have e3 := rounds_get (w := w) (List.getElem?_eq_getElem (by omega : j < (roundsOf w).length))
  rw [e3.1] at h3
  simpa using h3
theorem fu_le {a b : Int} {j : Nat} (hj : j ≤ stab w) (h : gI (kR w j) a ≠ gI (kR w j) b) : ∃ m, m ≤ j ∧ fuL (roundsOf w) a b = some m := by
  have key : ∀ j, j ≤ stab w → gI (kR w j) a ≠ gI (kR w j) b → ∃ m, m ≤ j ∧ gI (kR w m) a ≠ gI (kR w m) b ∧ ∀ i < m, gI (kR w i) a = gI (kR w i) b := by
    intro j
    induction j using Nat.strongRecOn with
    | ind j ih =>
      intro hj h
      by_cases c : ∃ i, i < j ∧ gI (kR w i) a ≠ gI (kR w i) b
      · obtain ⟨i, hi, e⟩ := c
        obtain ⟨m, h1, h2⟩ := ih i hi (by omega) e
        exact ⟨m, by omega, h2⟩
      · exact ⟨j, Nat.le_refl _, h, fun i hi => Classical.byContradiction fun e => c ⟨i, hi, e⟩⟩
  obtain ⟨m, h1, h2, h3⟩ := key j hj h
  refine ⟨m, h1, fu_some (rounds_at (by omega)) h2 fun i ks hi hk => ?_⟩
  rw [(rounds_get hk).1]
  exact h3 i hi
theorem fu_pos {a b : Int} {n : Nat} (h : fuL (roundsOf w) a b = some n) : 1 ≤ n := by
  obtain ⟨_, h1, _⟩ := fu_spec h
  cases n with
  | zero => exact absurd (by rw [kR_zero, kR_zero]) h1
  | succ n => omega
/-- at the round ahead of the parting something parts them -/
theorem parts_ex {a b : Int} {n : Nat} (ha : inW w a) (hb : inW w b) (h : fuL (roundsOf w) a b = some n) : ∃ s r, Parts w (kR w (n - 1)) a b s r := by
  have hp := fu_pos h
  obtain ⟨_, h1, h2⟩ := fu_spec h
  obtain ⟨m, rfl⟩ : ∃ m, n = m + 1 := ⟨n - 1, by omega⟩
  rw [Nat.add_sub_cancel]
  have e := h2 m (Nat.lt_succ_self m)
  have h1 : gI (nextR w (kR w m)) a ≠ gI (nextR w (kR w m)) b := h1
  rw [Ne, next_eq ha hb, key_eq] at h1
  refine Classical.byContradiction fun hn => h1 ⟨e, fun x hx => ?_, fun y hy => ?_⟩
  · refine Classical.byContradiction fun hx2 => hn ⟨0, x, .inl ⟨rfl, hx, fun to hto e => hx2 ⟨to, hto, e⟩⟩⟩
  · refine Classical.byContradiction fun hy2 => hn ⟨1, y, .inr ⟨rfl, hy, fun to hto e => hy2 ⟨to, hto, e.symm⟩⟩⟩
theorem needed_lt {a b s r : Int} {n : Nat} (ok : Wok w) (ha : inW w a) (hb : inW w b) (h : fuL (roundsOf w) a b = some n) (hp : Parts w (kR w (n - 1)) a b s r) : ∀ p ∈ needed w (a, b, s, r), inW w p.1 ∧ inW w p.2 ∧ ∃ m, m < n ∧ fuL (roundsOf w) p.1 p.2 = some m := by
  intro p hpm
  have hpos := fu_pos h
  have hst := (fu_spec h).1
  rcases hp with ⟨rfl, h1, h2⟩ | ⟨rfl, h1, h2⟩
  · have hpm : p ∈ (gW w b).map fun to => (r, to) := hpm
    obtain ⟨to, hto, rfl⟩ := List.mem_map.mp hpm
    obtain ⟨m, h3, h4⟩ := fu_le (j := n - 1) (by omega) (h2 to hto)
    exact ⟨ok.in_ ha h1, ok.in_ hb hto, m, by omega, h4⟩
  · have hpm : p ∈ (gW w a).map fun to => (to, r) := hpm
    obtain ⟨to, hto, rfl⟩ := List.mem_map.mp hpm
    obtain ⟨m, h3, h4⟩ := fu_le (a := to) (b := r) (j := n - 1) (by omega) (fun e => h2 to hto e.symm)
    exact ⟨ok.in_ ha hto, ok.in_ hb h1, m, by omega, h4⟩
end
abbrev dTabS (F : List (Nat × Stp)) : List KD := F.map fun q => (kPair (pairOf q.2), dFound q)
abbrev toK (q : Nat × Stp) : Int × List Int := ((q.1 : Int), [q.2.1, q.2.2.1, q.2.2.2.1, q.2.2.2.2])
abbrev leS : Nat × Stp → Nat × Stp → Bool := fun a b => leKey (toK a) (toK b)
theorem dFound_key (q : Nat × Stp) : dFound q = (kKey (toK q)).data := by rw [kKey_data]; rfl
theorem find_tabS (F : List (Nat × Stp)) (p : Int × Int) : (findK (dTabS F) (kPair p)).isSome = decide (p ∈ F.map fun q => pairOf q.2) := by
  induction F with
  | nil => rfl
  | cons q F ih =>
    unfold findK at ih ⊢
    show (Option.map (fun x => x.snd) (List.find? (fun x => decide (x.fst = kPair p)) ((kPair (pairOf q.2), dFound q) :: dTabS F))).isSome = _
    rw [List.find?_cons]
    by_cases c : pairOf q.2 = p
    · rw [c, decide_eq_true rfl]
      simp [c]
    · have cn : ¬ kPair (pairOf q.2) = kPair p := fun e => c (by rw [← koPair.back (pairOf q.2), ← koPair.back p, e])
      rw [decide_eq_false cn]
      show ((List.find? _ (dTabS F)).map _).isSome = _
      rw [ih]
      have : ¬ p = pairOf q.2 := fun e => c e.symm
      simp [this]
theorem get_tabS : ∀ {F : List (Nat × Stp)} {q : Nat × Stp}, (F.map fun q => pairOf q.2).Nodup → q ∈ F → findK (dTabS F) (kPair (pairOf q.2)) = some (dFound q)
  | [], _, _, h => nomatch h
  | r :: F, q, nd, h => by
    rw [List.map_cons, List.nodup_cons] at nd
    unfold findK
    show Option.map (fun x => x.snd) (List.find? (fun x => decide (x.fst = kPair (pairOf q.2))) ((kPair (pairOf r.2), dFound r) :: dTabS F)) = _
    rw [List.find?_cons]
    by_cases c : pairOf r.2 = pairOf q.2
    · rw [c, decide_eq_true rfl]
      rcases List.mem_cons.mp h with e | e
      · rw [e]; rfl
      · exact absurd (List.mem_map.mpr ⟨q, e, c.symm⟩) nd.1
    · have cn : ¬ kPair (pairOf r.2) = kPair (pairOf q.2) := fun e => c (by rw [← koPair.back (pairOf r.2), ← koPair.back (pairOf q.2), e])
      rw [decide_eq_false cn]
      rcases List.mem_cons.mp h with e | e
      · exact absurd (by rw [e]) c
      · exact get_tabS nd.2 e
structure SInv (w : Web) (a b : Int) (top : Nat) (F : List (Nat × Stp)) (W : List (Int × Int)) : Prop where
  nd : (F.map fun q => pairOf q.2).Nodup
  ok : ∀ q ∈ F, StepOk w q.2 ∧ fuL (roundsOf w) q.2.1 q.2.2.1 = some q.1 ∧ (pairOf q.2 = (a, b) ∨ q.1 < top)
  wk : ∀ p ∈ W, inW w p.1 ∧ inW w p.2 ∧ ∃ n, fuL (roundsOf w) p.1 p.2 = some n ∧ (p = (a, b) ∨ n < top)
  nx : ∀ q ∈ F, ∀ p ∈ needed w q.2, (p ∈ W ∨ p ∈ F.map fun q => pairOf q.2) ∧ ∃ n, fuL (roundsOf w) p.1 p.2 = some n ∧ n < q.1
  root : (a, b) ∈ W ∨ (a, b) ∈ F.map fun q => pairOf q.2
theorem ti_isK {X : Cx} {J : Option Jar} {tg iter : Expr} {sl : List Sd} {xs ys : List PyData} (h : TiK X J tg iter sl xs) (e : xs = ys) : TiK X J tg iter sl ys := e ▸ h
section
variable {P : Program} {w : World} {K : PySem.W.Frag} {mg : Str → Option Value} {base : Heap} {f : Addr} {fd : FuncData} {k : Nat}
theorem ok_steps {f1 f2 f3 : Addr} {fd1 fd2 fd3 : FuncData} (D : Kd K mg "parting_steps" sSteps ["web", "rounds", "one", "other"] f fd) (D1 : Kd K mg "first_unlike" sFirst ["rounds", "one", "other"] f1 fd1) (D2 : Kd K mg "parting" sParting ["web", "kinds", "one", "other"] f2 fd2) (D3 : Kd K mg "pairs_needed" sNeeded ["web", "step"] f3 fd3) (M : MgB mg) :
    FnOk P w K mg base CX0 (k + 2) f fd ["web", "rounds", "one", "other"] (spD P w K prSteps) := by
  refine fn_ok D.F scSteps (fun J xs R ⟨x, y, z, u, e, _⟩ => by rw [e]; rfl) fun cdv A outer s H E hr J B0 H0 xs R Dn ⟨wb, a, b, top, e1, ok, ha, hb, hab, e2⟩ hrt hnx => ?_
  subst e1 e2
  refine st_setD0 4 ?_
  refine st_setL 5 (tl_lst (tds_cons (te_tup (tds_cons (te_name (i := 2) rfl) (tds_cons (te_name (i := 3) rfl) tds_nil)) (by simp)) tds_nil) (by simp)) (fun x e => ?_)
  subst e
  refine st_while (fun m sl => ∃ (F : List (Nat × Stp)) (W : List (Int × Int)) (c6 c7 c8 : Sd), sl = [.d (.d (dWeb wb)), .d (.d (.list ((roundsOf wb).map dInts))), .d (dI a), .d (dI b), .od (dTabS F), .ol (W.map dPair), c6, c7, c8] ∧ SInv wb a b top F W ∧ m + 5 * F.length = 5 * 262144 + W.length ∧ W.length ≤ 1 + 4 * F.length) (5 * 262144 + 1)
    ⟨[], [(a, b)], .no, .no, .no, rfl, ⟨by simp, fun q hq => by (cases hq), fun p hp => by rw [List.mem_singleton.mp hp]; exact ⟨ha, hb, top, hab, .inl rfl⟩, fun q hq => by (cases hq), .inl (by simp)⟩, by simp, by simp⟩ ?_
  rintro m sl1 ⟨F, W, c6, c7, c8, rfl, inv, hm, hWF⟩
  have hFl : F.length ≤ 262144 := by
    have := pairs_len ok.few inv.nd fun p hp => by
      obtain ⟨q, hq, rfl⟩ := List.mem_map.mp hp
      have z := (inv.ok q hq).1
      exact ⟨z.1, z.2.1⟩
    rw [List.length_map] at this
    exact this
  refine ⟨!decide (W = []), tt_is (tt_thaw (i := 5) rfl (tt_cmp (te_ld (te_name (i := 5) rfl)) (te_l (tl_lst tds_nil (by simp))) (d2_neD (shaped_pairs W) (shaped_pairs [])))) (by rw [show PyData.list [] = .list (([] : List (Int × Int)).map dPair) from rfl, eqv_pairs]), fun hW => ?_, fun hW => ?_⟩
  · have hW : W ≠ [] := by simpa using hW
    obtain ⟨W0, p, rfl⟩ : ∃ W0 p, W = W0 ++ [p] := ⟨W.dropLast, W.getLast hW, (List.dropLast_concat_getLast hW).symm⟩
    obtain ⟨hp1, hp2, n, hn, hroot⟩ := inv.wk p (List.mem_append_right _ (List.mem_singleton.mpr rfl))
    have hpos := fu_pos hn
    have hst := (fu_spec hn).1
    rw [List.length_append, List.length_singleton] at hm hWF
    rw [List.map_append, List.map_singleton]
    refine st_pop 5 rfl (pgn 6 scSteps.nd) tg_name tk_set ?_
    refine st_if (tt_thaw (i := 4) rfl (tt_cmp (te_name (i := 6) rfl) (te_name (i := 4) rfl) (d2_ninN (kPair_is p) rfl))) (fun c1 => ?_) (fun c2 => ?_)
    · rw [find_tabS] at c1
      have hnew : p ∉ F.map fun q => pairOf q.2 := by simpa using c1.symm
      have hrs : (roundsOf wb).length = stab wb + 1 := by unfold roundsOf; rw [List.length_map, List.length_range]
      have hstb : stab wb ≤ 999998 := by
        unfold stab
        cases e : (List.range (wb.length * wb.length + 1)).find? (fun n => decide (kR wb (n + 1) = kR wb n)) with
        | none => exact Nat.zero_le _
        | some v =>
          have := List.mem_range.mp (List.mem_of_find?_eq_some e)
          have h1 := ok.few
          have h2 : wb.length * wb.length ≤ 512 * 512 := Nat.mul_le_mul h1 h1
          show v ≤ 999998
          omega
      refine st_set 7 (te_fn (Kd.kn D1 (ok_first (k := k) D1 M) hr (by omega)) (tas_cons (te_name (i := 1) rfl) (tas_cons (te_ix (te_name (i := 6) rfl) te_int (dix_tup (d := .int p.1) rfl)) (tas_cons (te_ix (te_name (i := 6) rfl) te_int (dix_tup (d := .int p.2) rfl)) tas_nil))) ⟨roundsOf wb, p.1, p.2, rfl, by omega, fun ks hks => by
        obtain ⟨j, _, rfl⟩ := List.mem_map.mp hks
        rw [kR_len]
        exact ⟨hp1.1, hp1.2, hp2.1, hp2.2⟩, rfl⟩) (fun x e => ?_)
      subst e
      rw [hn]
      have hix : atI ((roundsOf wb).map dInts) ((n : Int) - 1) = some (dInts (kR wb (n - 1))) := by
        have := atI_nat (xs := (roundsOf wb).map dInts) (j := n - 1) (v := dInts (kR wb (n - 1))) (by rw [List.getElem?_map, rounds_at (by omega)]; rfl)
        rw [show ((n - 1 : Nat) : Int) = (n : Int) - 1 from by omega] at this
        exact this
      refine st_set 8 (P := fun x => ∃ si r, x = .d (dStep (p.1, p.2, si, r)) ∧ Parts wb (kR wb (n - 1)) p.1 p.2 si r) (te_opP (P2 := fun _ y => ∃ si r, y = .d (.tuple [.int si, .int r]) ∧ Parts wb (kR wb (n - 1)) p.1 p.2 si r) (te_name (i := 6) rfl) (fun _ _ => te_fn (Kd.kn D2 (ok_parting (k := k) D2 M) hr (by omega)) (tas_cons (te_name (i := 0) rfl) (tas_cons (te_ix (te_name (i := 1) rfl) (te_op (te_name (i := 7) rfl) te_int d2_sub) (dix_list hix)) (tas_cons (te_ix (te_name (i := 6) rfl) te_int (dix_tup (d := .int p.1) rfl)) (tas_cons (te_ix (te_name (i := 6) rfl) te_int (dix_tup (d := .int p.2) rfl)) tas_nil)))) ⟨wb, kR wb (n - 1), p.1, p.2, rfl, ok, kR_len _, hp1, hp2, parts_ex hp1 hp2 hn, rfl⟩) (fun x y e1 e2 => ?_)) (fun x e => ?_)
      · subst e1
        obtain ⟨si, r, rfl, hP⟩ := e2
        exact fun F B H u v e j d1 d2 Q q => (d2_catT (X := (cxOf CX0 P w K mg base nSteps "parting_steps" (defScope sSteps) f cdv A outer s _ E).nox) (J := J) (xs := [.int p.1, .int p.2]) (ys := [.int si, .int r]) (by simp)) F B H u v e j d1 d2 Q fun z G H' w' g d r' => q z G H' w' g d ⟨si, r, r', hP⟩
      obtain ⟨si, r, rfl, hP⟩ := e
      have hstep : StepOk wb (p.1, p.2, si, r) := ⟨hp1, hp2, by
        rcases hP with ⟨h1, h2, _⟩ | ⟨h1, h2, _⟩
        · exact .inl ⟨h1, h2⟩
        · exact .inr ⟨h1, h2⟩⟩
      have hneed := needed_lt ok hp1 hp2 hn hP
      have est : storeK (dTabS F) (kPair p) (dFound (n, (p.1, p.2, si, r))) = dTabS (F ++ [(n, (p.1, p.2, si, r))]) := by
        rw [store_new]
        · unfold dTabS
          rw [List.map_append]
          rfl
        · rw [List.map_map]
          intro hm
          obtain ⟨q, hq, e⟩ := List.mem_map.mp hm
          have e' : pairOf q.2 = p := by rw [← koPair.back (pairOf q.2), ← koPair.back p]; exact congrArg dPairK e
          exact hnew (List.mem_map.mpr ⟨q, hq, e'⟩)
      refine st_putD 4 rfl (te_tup (ds := [.int n, dStep (p.1, p.2, si, r)]) (tds_cons (te_name (i := 7) rfl) (tds_cons (te_name (i := 8) rfl) tds_nil)) (by simp)) (te_name (i := 6) rfl) (kPair_is p) rfl (by rw [List.length_map]; omega) ?_
      have est' := est
      change storeK (dTabS F) (kPair p) (.tuple [.int n, dStep (p.1, p.2, si, r)]) = _ at est'
      rw [est']
      have hnl : (needed wb (p.1, p.2, si, r)).length ≤ 4 := by
        unfold needed
        split
        · rw [List.length_map]; exact ok.ln hp2
        · rw [List.length_map]; exact ok.ln hp1
      refine st_extend 5 rfl (te_fn (Kd.kn D3 (ok_needed (k := k) D3 M) hr (by omega)) (tas_cons (te_name (i := 0) rfl) (tas_cons (te_name (i := 8) rfl) tas_nil)) ⟨wb, (p.1, p.2, si, r), rfl, ok, hp1, hp2, rfl⟩) (by rw [List.length_map, List.length_map]; omega) ?_
      refine st_done ?_ rfl
      refine st_nil fun σ B H hF => ⟨_, B, ⟨5 * 262144 + (W0.length + (needed wb (p.1, p.2, si, r)).length) - 5 * (F.length + 1), ?_, F ++ [(n, (p.1, p.2, si, r))], W0 ++ needed wb (p.1, p.2, si, r), .d (.d (dPair p)), .d (dI n), .d (.d (dStep (p.1, p.2, si, r))), ?_, ⟨?_, ?_, ?_, ?_, ?_⟩, ?_, ?_⟩, hF⟩
      · omega
      · rw [List.map_append]
        rfl
      · rw [List.map_append, List.nodup_append]
        refine ⟨inv.nd, by simp, fun x hx y hy e => hnew ?_⟩
        have : y = p := List.mem_singleton.mp hy
        rw [← this, ← e]
        exact hx
      · intro q hq
        rcases List.mem_append.mp hq with hq | hq
        · exact inv.ok q hq
        · rw [List.mem_singleton.mp hq]
          refine ⟨hstep, hn, ?_⟩
          exact hroot
      · intro q hq
        rcases List.mem_append.mp hq with hq | hq
        · exact inv.wk q (List.mem_append_left _ hq)
        · obtain ⟨h1, h2, mm, h3, h4⟩ := hneed q hq
          refine ⟨h1, h2, mm, h4, .inr ?_⟩
          rcases hroot with e | e
          · subst e
            rw [hab] at hn
            cases hn
            exact h3
          · omega
      · intro q hq x hx
        rcases List.mem_append.mp hq with hq | hq
        · obtain ⟨h1, h2⟩ := inv.nx q hq x hx
          refine ⟨?_, h2⟩
          rcases h1 with h1 | h1
          · rcases List.mem_append.mp h1 with h1 | h1
            · exact .inl (List.mem_append_left _ h1)
            · right
              rw [List.mem_singleton.mp h1, List.map_append]
              exact List.mem_append_right _ (List.mem_singleton.mpr rfl)
          · right
            rw [List.map_append]
            exact List.mem_append_left _ h1
        · rw [List.mem_singleton.mp hq] at hx ⊢
          obtain ⟨h1, h2, mm, h3, h4⟩ := hneed x hx
          exact ⟨.inl (List.mem_append_right _ hx), mm, h4, h3⟩
      · rcases inv.root with h1 | h1
        · rcases List.mem_append.mp h1 with h1 | h1
          · exact .inl (List.mem_append_left _ h1)
          · right
            rw [List.mem_singleton.mp h1, List.map_append]
            exact List.mem_append_right _ (List.mem_singleton.mpr rfl)
        · right
          rw [List.map_append]
          exact List.mem_append_left _ h1
      · rw [List.length_append, List.length_append, List.length_singleton]
        have hFl' : F.length + 1 ≤ 262144 := by
          have nd2 : ((F.map fun q => pairOf q.2) ++ [p]).Nodup := by
            rw [List.nodup_append]
            exact ⟨inv.nd, by simp, fun x hx y hy e => hnew (by rw [← List.mem_singleton.mp hy, ← e]; exact hx)⟩
          have := pairs_len ok.few nd2 fun x hx => by
            rcases List.mem_append.mp hx with hx | hx
            · obtain ⟨q, hq, rfl⟩ := List.mem_map.mp hx
              have z := (inv.ok q hq).1
              exact ⟨z.1, z.2.1⟩
            · rw [List.mem_singleton.mp hx]; exact ⟨hp1, hp2⟩
          rw [List.length_append, List.length_map, List.length_singleton] at this
          exact this
        omega
      · rw [List.length_append, List.length_append, List.length_singleton]
        omega
    · rw [find_tabS] at c2
      have hold : p ∈ F.map fun q => pairOf q.2 := by simpa using c2.symm
      refine st_done ?_ rfl
      refine st_nil fun σ B H hF => ⟨_, B, ⟨5 * 262144 + W0.length - 5 * F.length, by omega, F, W0, .d (.d (dPair p)), _, _, rfl, ⟨inv.nd, inv.ok, fun x hx => inv.wk x (List.mem_append_left _ hx), fun q hq x hx => ?_, ?_⟩, by omega, by omega⟩, hF⟩
      · obtain ⟨h1, h2⟩ := inv.nx q hq x hx
        refine ⟨?_, h2⟩
        rcases h1 with h1 | h1
        · rcases List.mem_append.mp h1 with h1 | h1
          · exact .inl h1
          · right
            rw [List.mem_singleton.mp h1]
            exact hold
        · exact .inr h1
      · rcases inv.root with h1 | h1
        · rcases List.mem_append.mp h1 with h1 | h1
          · exact .inl h1
          · right
            rw [List.mem_singleton.mp h1]
            exact hold
        · exact .inr h1
  · have hW : W = [] := by simpa using hW
    subst hW
    have eK : (dTabS F).map (fun y => y.1.data) = F.map fun q => dPair (pairOf q.2) := by
      unfold dTabS
      rw [List.map_map]
      rfl
    have hle : ∀ x y, dataLe false dFound x y = leS x y := fun x y => by
      rw [show leS x y = leKey (toK x) (toK y) from rfl, ← koKey.le, dataLe_eq, dataLe_eq]
      show (!dataLt (dFound y) (dFound x)) = (!dataLt (kKey (toK y)).data (kKey (toK x)).data)
      rw [dFound_key, dFound_key]
    have hord : Orders (F.map dFound) := by
      have := koKey.al (F.map toK)
      rw [List.map_map] at this
      rw [show dFound = (fun t => (kKey t).data) ∘ toK from funext dFound_key]
      exact this
    refine st_ret (te_ll (tl_lc (ts := F.mergeSort leS) (enc := dFound) (f := fun q => dStep q.2) (own := [("at", 7), ("step", 8)]) (ti_list (te_l (tl_sortL (le' := leS) (te_l (tl_lock 4 rfl (tl_lcK (f := dFound) (own := [("pair", 6)]) (ti_isK (ti_keys 4 rfl) eK) (by omega) (blkOk_by rfl) (fun s H C cl fp => (pgn 6 scSteps.nd)) fun q hq => ⟨_, _, tg_name, by simp, fun s H C cl fp => te_ixF (i := 4) rfl (te_name (i := 6) rfl) (kPair_is (pairOf q.2)) rfl (get_tabS inv.nd hq)⟩))) hle hord (fun q hq => by
      rw [dFound_key]
      exact koKey.low _) M.sorted))) (by rw [List.length_mergeSort]; omega) (blkOk_by rfl) (fun s H C cl fp => (pg_tup (n := 2) rfl (pgs_cons (pgn 7 scSteps.nd) (pgs_cons (pgn 8 scSteps.nd) pgs_nil)))) fun q hq => ⟨_, _, (tg_tup (tgs_cons tg_name (tgs_cons tg_name tgs_nil))), by simp, fun s H C cl fp => (te_name (i := 8) rfl)⟩)) fun v G H' y g d e => hrt v G H' y g d ⟨(F.mergeSort leS).map (·.2), by rw [e, List.map_map]; rfl, ?_⟩
    have mem : ∀ q, q ∈ F.mergeSort leS ↔ q ∈ F := fun q => (List.mergeSort_perm F leS).mem_iff
    have pw : (F.mergeSort leS).Pairwise (leS · ·) := List.pairwise_mergeSort (le := leS) (fun a b c h1 h2 => ordKey.trans (toK a) (toK b) (toK c) h1 h2) (fun a b => ordKey.total (toK a) (toK b)) F
    have lele : ∀ x y, leS x y = true → x.1 ≤ y.1 := fun x y h => by
      have := of_decide_eq_true h
      rcases this with h1 | ⟨h1, _⟩
      · have : (x.1 : Int) < y.1 := h1
        omega
      · have : (x.1 : Int) = y.1 := h1
        omega
    have nd : ((F.mergeSort leS).map fun q => pairOf q.2).Nodup := ((List.mergeSort_perm F leS).map _).nodup_iff.mpr inv.nd
    have hroot : (a, b) ∈ F.map fun q => pairOf q.2 := inv.root.elim (fun z => by cases z) id
    obtain ⟨q0, hq0, eq0⟩ := List.mem_map.mp hroot
    have hq0n : q0.1 = top := by
      have := (inv.ok q0 hq0).2.1
      have e1 : q0.2.1 = a := congrArg Prod.fst eq0
      have e2 : q0.2.2.1 = b := congrArg Prod.snd eq0
      rw [e1, e2, hab] at this
      exact (Option.some.inj this).symm
    have need : ∀ q ∈ F, ∀ p ∈ needed wb q.2, ∃ q' ∈ F, pairOf q'.2 = p ∧ q'.1 < q.1 := fun q hq p hp => by
      obtain ⟨h1, n, h2, h3⟩ := inv.nx q hq p hp
      have h1 : p ∈ F.map fun q => pairOf q.2 := h1.elim (fun z => by cases z) id
      obtain ⟨q', hq', e'⟩ := List.mem_map.mp h1
      refine ⟨q', hq', e', ?_⟩
      have := (inv.ok q' hq').2.1
      rw [← e'] at h2
      have h2 : fuL (roundsOf wb) q'.2.1 q'.2.2.1 = some n := h2
      rw [h2] at this
      have := Option.some.inj this
      omega
    refine ⟨fun s hs => ?_, ?_, ?_, ?_, ?_, ?_⟩
    · obtain ⟨q, hq, rfl⟩ := List.mem_map.mp hs
      exact (inv.ok q ((mem q).mp hq)).1
    · have hne : F.mergeSort leS ≠ [] := fun e => by
        have := (mem q0).mpr hq0
        rw [e] at this
        cases this
      refine ⟨((F.mergeSort leS).dropLast).map (·.2), ((F.mergeSort leS).getLast hne).2, ?_, ?_⟩
      · rw [← List.map_singleton, ← List.map_append, List.dropLast_concat_getLast]
      · have hl := List.getLast_mem hne
        rcases (inv.ok _ ((mem _).mp hl)).2.2 with h1 | h1
        · exact h1
        · exfalso
          have hq0' := (mem q0).mpr hq0
          rw [← List.dropLast_concat_getLast hne] at hq0' pw
          rcases List.mem_append.mp hq0' with h2 | h2
          · have := lele _ _ ((List.pairwise_append.mp pw).2.2 q0 h2 _ (List.mem_singleton.mpr rfl))
            omega
          · rw [← List.mem_singleton.mp h2] at h1
            omega
    · rw [List.map_map]
      exact nd
    · rw [List.length_map, List.length_mergeSort]
      omega
    · refine ⟨fun p => (fuL (roundsOf wb) p.1 p.2).getD 0, by show (fuL (roundsOf wb) a b).getD 0 = top; rw [hab]; rfl, fun s hs => ?_, fun s hs p hp => ?_⟩
      · obtain ⟨q, hq, rfl⟩ := List.mem_map.mp hs
        have := (inv.ok q ((mem q).mp hq)).2.1
        show 1 ≤ (fuL (roundsOf wb) q.2.1 q.2.2.1).getD 0
        rw [this]
        exact fu_pos this
      · obtain ⟨q, hq, rfl⟩ := List.mem_map.mp hs
        have h1 := (inv.ok q ((mem q).mp hq)).2.1
        obtain ⟨_, n, h2, h3⟩ := inv.nx q ((mem q).mp hq) p hp
        show (fuL (roundsOf wb) p.1 p.2).getD 0 < (fuL (roundsOf wb) q.2.1 q.2.2.1).getD 0
        rw [h1, h2]
        exact h3
    · intro init s rest es p hp
      obtain ⟨I, Rr, eI, e1, e2⟩ := List.map_eq_append_iff.mp es
      obtain ⟨q, Rs, e3, e4, e5⟩ := List.map_eq_cons_iff.mp e2
      subst e3
      have hq : q ∈ F := (mem q).mp (by rw [eI]; exact List.mem_append_right _ List.mem_cons_self)
      rw [← e4] at hp
      obtain ⟨q', hq', e6, hlt⟩ := need q hq p hp
      have hq'' := (mem q').mpr hq'
      rw [eI] at hq'' pw
      rw [← e1, ← e6]
      rcases List.mem_append.mp hq'' with h1 | h1
      · rw [List.map_map]
        exact List.mem_map.mpr ⟨q', h1, rfl⟩
      · exfalso
        rcases List.mem_cons.mp h1 with h1 | h1
        · rw [h1] at hlt; omega
        · have := lele _ _ ((List.pairwise_cons.mp (List.pairwise_append.mp pw).2.1).1 q' h1)
          omega
end
end SH

set_option Elab.async false
set_option linter.all false
set_option maxRecDepth 100000
set_option maxHeartbeats 1600000
/-! K58t: likeness, alike_shown, unlike_shown, shows. -/
namespace SH
open PySem PySem.Spec PyProof.Rows L2 PySem.W Evl
section
variable {X : Cx} {J : Option Jar} {sl : List Sd} {e : Expr} {es : List Expr} {pos : Pos}
theorem te_tupP {R : Dd → Prop} {x1 : Nat} (h : TasP X J es sl fun xs => ∃ ds : List PyData, xs = ds.map .d ∧ ds.length ≤ 100000 ∧ R (.d (.tuple ds))) : TeP X J (.Tuple es x1 pos) sl R := fun F σ B H k Q q =>
  wE.of (pe_tup pA) (h F σ B H k _ fun vs G H1 xs g d ⟨ds, e, hl, hR⟩ => by
    subst e
    have dd := dqs_d d
    exact ⟨sz_of (by rw [dps_len dd]; exact hl), fun r hr => q (.ref r) _ _ (.d (.tuple ds)) (g.trans (Gs.one (.tup vs) g.sub hr g.jar)) (Dp.tup (st_of upd_same) (dps_ex (Ex.new (fresh_back g.sub hr)) _ _ dd)) hR⟩)
theorem te_ldP {P : List PyData → Prop} (h : TeP X J e sl fun y => ∃ xs, y = .l xs ∧ P xs) : TeP X J e sl fun y => ∃ xs, y = .d (.list xs) ∧ P xs := fun F σ B H k Q q => h F σ B H k Q fun v G H' x g d ⟨xs, e, p⟩ => by
  subst e
  exact q v G H' _ g (dq_ld d) ⟨xs, rfl, p⟩
theorem tas_oneP {P : Dd → Prop} {Ps : List Dd → Prop} (h : TeP X J e sl P) (hp : ∀ x, P x → Ps [x]) (hs : starEach [e] X.env = (false, eval e X.env) :: starEach [] X.env := by rfl) : TasP X J [e] sl Ps :=
  tas_consP h (fun x px F σ B H k Q q => tas_nil F σ B H k Q fun vs G H' xs g d ex => q vs G H' xs g d (by rw [ex]; exact hp x px)) hs
end
abbrev sLikeness : Stmt := topS 20
abbrev sAlike : Stmt := topS 23
abbrev sUnlike : Stmt := topS 24
abbrev sShows : Stmt := topS 25
abbrev nLikeness : List Str := ["web", "one", "other", "rounds"]
abbrev nAlike : List Str := ["web", "one", "other", "rows", "pairs", "pair", "here", "there"]
abbrev nUnlike : List Str := ["web", "one", "other", "rows", "ahead", "step", "here", "there", "side", "row", "pair"]
abbrev nShows : List Str := ["web", "one", "other", "paper", "word", "rows"]
theorem scLikeness : FnScope nLikeness ["web", "one", "other"] (defScope sLikeness) := ⟨rfl, rfl, rfl, by decide +kernel, rfl, by decide +kernel, by decide +kernel⟩
theorem scAlike : FnScope nAlike ["web", "one", "other", "rows"] (defScope sAlike) := ⟨rfl, rfl, rfl, by decide +kernel, rfl, by decide +kernel, by decide +kernel⟩
theorem scUnlike : FnScope nUnlike ["web", "one", "other", "rows"] (defScope sUnlike) := ⟨rfl, rfl, rfl, by decide +kernel, rfl, by decide +kernel, by decide +kernel⟩
theorem scShows : FnScope nShows ["web", "one", "other", "paper"] (defScope sShows) := ⟨rfl, rfl, rfl, by decide +kernel, rfl, by decide +kernel, by decide +kernel⟩
/-- what likeness tells -/
def Told (w : Web) (a b : Int) (x : PyData) : Prop :=
  (fuL (roundsOf w) a b = none ∧ ∃ ps, x = .tuple [.str "alike", .list (ps.map dPair)] ∧ LikeOk w a b ps ∧ ps.length ≤ 262144) ∨
  (∃ n ss, fuL (roundsOf w) a b = some n ∧ x = .tuple [.str "unlike", .list (ss.map dStep)] ∧ UnlikeOk w a b n ss)
def prLikeness : Pr := fun J xs R => ∃ (w : Web) (a b : Int), xs = [.d (dWeb w), dI a, dI b] ∧ Wok w ∧ inW w a ∧ inW w b ∧ R = fun y => ∃ x, y = .d x ∧ Told w a b x
def prAlike : Pr := fun J xs R => ∃ (w : Web) (a b : Int) (ps : List (Int × Int)), xs = [.d (dWeb w), dI a, dI b, .d (.list (ps.map dPair))] ∧ Wok w ∧ LikeOk w a b ps ∧ ps.length ≤ 262144 ∧ R = (· = dB true)
def prUnlike : Pr := fun J xs R => ∃ (w : Web) (a b : Int) (n : Nat) (ss : List Stp), xs = [.d (dWeb w), dI a, dI b, .d (.list (ss.map dStep))] ∧ Wok w ∧ UnlikeOk w a b n ss ∧ R = (· = dB true)
def prShows : Pr := fun J xs R => ∃ (w : Web) (a b : Int) (x : PyData), xs = [.d (dWeb w), dI a, dI b, .d x] ∧ Wok w ∧ inW w a ∧ inW w b ∧ Told w a b x ∧ R = (· = dB true)
theorem LikeOk.nodup {w : Web} {a b : Int} {ps : List (Int × Int)} (h : LikeOk w a b ps) : ps.Nodup := h.ord.imp fun {x y} z e => by
  rw [e] at z
  omega
theorem LikeOk.sorted {w : Web} {a b : Int} {ps : List (Int × Int)} (h : LikeOk w a b ps) : ps.mergeSort lePair = ps := by
  refine List.mergeSort_of_pairwise (h.ord.imp fun {x y} z => decide_eq_true ?_)
  rcases z with z | ⟨z, y⟩
  · exact .inl z
  · exact .inr ⟨z, Int.le_of_lt y⟩
theorem lay_steps (ss : List Stp) : PyData.canLayAll0 (ss.map dStep) = true := by
  induction ss with
  | nil => rfl
  | cons a r ih => show (true && PyData.canLayAll0 (r.map dStep)) = true; rw [ih]; rfl
theorem depth_steps (ss : List Stp) : PyData.depthAll (ss.map dStep) ≤ 1 := by
  induction ss with
  | nil => exact Nat.zero_le _
  | cons a r ih => show max 1 (PyData.depthAll (r.map dStep)) ≤ 1; omega
theorem shaped_steps (ss : List Stp) : SeqAt.shaped (.list (ss.map dStep)) = true := by
  unfold SeqAt.shaped
  have h2 := depth_steps ss
  show (PyData.canLayAll0 (ss.map dStep) && decide (PyData.depthAll (ss.map dStep) + 1 ≤ 64)) = true
  rw [lay_steps, decide_eq_true (by omega : PyData.depthAll (ss.map dStep) + 1 ≤ 64)]
  rfl
theorem shaped_row (r : List Int) : SeqAt.shaped (dRow r) = true := by
  unfold SeqAt.shaped
  show (PyData.canLayAll0 (r.map .int) && decide (PyData.depthAll (r.map .int) + 1 ≤ 64)) = true
  rw [lay_ints, depth_ints]
  decide
section
variable {P : Program} {w : World} {K : PySem.W.Frag} {mg : Str → Option Value} {base : Heap} {f : Addr} {fd : FuncData} {k : Nat}
theorem ok_likeness {f1 f2 f3 f4 f5 f6 f7 f8 f9 fa fb fc : Addr} {fd1 fd2 fd3 fd4 fd5 fd6 fd7 fd8 fd9 fda fdb fdc : FuncData} {tk : Tok} (D : Kd K mg "likeness" sLikeness ["web", "one", "other"] f fd) (D1 : Kd K mg "is_row" sRow ["thing", "size"] f1 fd1) (D2 : Kd K mg "is_whole" sWhole ["thing"] f2 fd2) (D3 : Kd K mg "is_web" sWeb ["thing"] f3 fd3)
    (D4 : Kd K mg "next_round" sNext ["web", "kinds"] f4 fd4) (D5 : Kd K mg "all_rounds" sAll ["web"] f5 fd5) (D6 : Kd K mg "need_web" sNeedW ["web"] f6 fd6) (D7 : Kd K mg "need_row" sNeedR ["web", "row"] f7 fd7) (D8 : Kd K mg "first_unlike" sFirst ["rounds", "one", "other"] f8 fd8) (D9 : Kd K mg "like_pairs" sLike ["web", "kinds", "one", "other"] f9 fd9)
    (Da : Kd K mg "parting" sParting ["web", "kinds", "one", "other"] fa fda) (Db : Kd K mg "pairs_needed" sNeeded ["web", "step"] fb fdb) (Dc : Kd K mg "parting_steps" sSteps ["web", "rounds", "one", "other"] fc fdc) (hmw : mg "MOST_WEB" = some (.int 512 tk)) (M : MgB mg) :
    FnOk P w K mg base CX0 (k + 5) f fd ["web", "one", "other"] (spD P w K prLikeness) := by
  refine fn_ok D.F scLikeness (fun J xs R ⟨x, y, z, e, _⟩ => by rw [e]; rfl) fun cdv A outer s H E hr J B0 H0 xs R Dn ⟨wb, a, b, e1, ok, ha, hb, e2⟩ hrt hnx => ?_
  subst e1 e2
  refine st_expr (te_fn (Kd.kn D6 (ok_needW (k := k) D6 D3 D1 D2 hmw M) hr (by omega)) (tas_cons (te_name (i := 0) rfl) tas_nil) ⟨wb, rfl, ok, rfl⟩) ?_
  refine st_expr (te_fn (Kd.kn D7 (ok_needR (k := k) D7 D2 M) hr (by omega)) (tas_cons (te_name (i := 0) rfl) (tas_cons (te_name (i := 1) rfl) tas_nil)) ⟨wb, a, rfl, ha, rfl⟩) ?_
  refine st_expr (te_fn (Kd.kn D7 (ok_needR (k := k) D7 D2 M) hr (by omega)) (tas_cons (te_name (i := 0) rfl) (tas_cons (te_name (i := 2) rfl) tas_nil)) ⟨wb, b, rfl, hb, rfl⟩) ?_
  refine st_set 3 (te_fn (Kd.kn D5 (ok_all (k := k) D5 D4 M) hr (by omega)) (tas_cons (te_name (i := 0) rfl) tas_nil) ⟨wb, rfl, ok, rfl⟩) (fun x e => ?_)
  subst e
  have hln : (roundsOf wb).length ≤ 1000000 := by
    unfold roundsOf
    rw [List.length_map, List.length_range]
    unfold stab
    cases e : (List.range (wb.length * wb.length + 1)).find? (fun n => decide (kR wb (n + 1) = kR wb n)) with
    | none => decide
    | some v =>
      have := List.mem_range.mp (List.mem_of_find?_eq_some e)
      have h1 := ok.few
      have h2 : wb.length * wb.length ≤ 512 * 512 := Nat.mul_le_mul h1 h1
      show v + 1 ≤ 1000000
      omega
  have hlast : atI ((roundsOf wb).map dInts) (-1) = some (dInts (kR wb (stab wb))) := by
    unfold roundsOf
    rw [List.range_succ, List.map_append, List.map_append]
    exact atI_last _ _
  refine st_if (tt_isN (te_fn (Kd.kn D8 (ok_first (k := k) D8 M) hr (by omega)) (tas_cons (te_ld (te_name (i := 3) rfl)) (tas_cons (te_name (i := 1) rfl) (tas_cons (te_name (i := 2) rfl) tas_nil))) ⟨roundsOf wb, a, b, rfl, hln, fun ks hks => by
    obtain ⟨j, _, rfl⟩ := List.mem_map.mp hks
    rw [kR_len]
    exact ⟨ha.1, ha.2, hb.1, hb.2⟩, rfl⟩)) (fun c1 => ?_) (fun c2 => ?_)
  · have hfu : fuL (roundsOf wb) a b = none := by
      cases q : fuL (roundsOf wb) a b with
      | none => rfl
      | some n => rw [q] at c1; exact Bool.noConfusion c1
    have heq : gI (kR wb (stab wb)) a = gI (kR wb (stab wb)) b := Classical.byContradiction fun h => by
      obtain ⟨m, _, e⟩ := fu_le (Nat.le_refl _) h
      rw [hfu] at e
      cases e
    refine st_ret (te_tupP (R := fun y => ∃ x, y = .d x ∧ Told wb a b x) (tas_consP te_str fun x1 e1 => tas_oneP (te_ldP (P := fun xs => ∃ ps, xs = ps.map dPair ∧ LikeOk wb a b ps ∧ ps.length ≤ 262144) ((te_fn (Kd.kn D9 (ok_like (k := k) D9 M) hr (by omega)) (tas_cons (te_name (i := 0) rfl) (tas_cons (te_ix (te_ld (te_name (i := 3) rfl)) (te_neg te_int) (dix_list hlast)) (tas_cons (te_name (i := 1) rfl) (tas_cons (te_name (i := 2) rfl) tas_nil)))) ⟨wb, _, a, b, rfl, ok, kR_len _, ha, hb, bis_stab ok.one, heq, rfl⟩).weak fun y ⟨ps, e, h⟩ => ⟨_, e, ps, rfl, h⟩)) fun x2 e2 => ?_)) fun v G H' y g d e => hrt v G H' y g d e
    obtain ⟨xs, rfl, ps, rfl, h⟩ := e2
    subst e1
    exact ⟨[.str "alike", .list (ps.map dPair)], rfl, by simp, _, rfl, .inl ⟨hfu, ps, rfl, h⟩⟩
  · obtain ⟨n, hfu⟩ : ∃ n, fuL (roundsOf wb) a b = some n := by
      cases q : fuL (roundsOf wb) a b with
      | none => rw [q] at c2; exact Bool.noConfusion c2
      | some n => exact ⟨n, rfl⟩
    refine st_done ?_ rfl
    refine st_ret (te_tupP (R := fun y => ∃ x, y = .d x ∧ Told wb a b x) (tas_consP te_str fun x1 e1 => tas_oneP (te_ldP (P := fun xs => ∃ ss, xs = ss.map dStep ∧ UnlikeOk wb a b n ss) ((te_fn (Kd.kn Dc (ok_steps (k := k) Dc D8 Da Db M) hr (by omega)) (tas_cons (te_name (i := 0) rfl) (tas_cons (te_ld (te_name (i := 3) rfl)) (tas_cons (te_name (i := 1) rfl) (tas_cons (te_name (i := 2) rfl) tas_nil)))) ⟨wb, a, b, n, rfl, ok, ha, hb, hfu, rfl⟩).weak fun y ⟨ss, e, h⟩ => ⟨_, e, ss, rfl, h⟩)) fun x2 e2 => ?_)) fun v G H' y g d e => hrt v G H' y g d e
    obtain ⟨xs, rfl, ss, rfl, h⟩ := e2
    subst e1
    exact ⟨[.str "unlike", .list (ss.map dStep)], rfl, by simp, _, rfl, .inr ⟨n, ss, hfu, rfl, h⟩⟩
theorem ok_alike {f1 f2 f3 : Addr} {fd1 fd2 fd3 : FuncData} (D : Kd K mg "alike_shown" sAlike ["web", "one", "other", "rows"] f fd) (D1 : Kd K mg "within" sWithin ["web", "row"] f1 fd1) (D2 : Kd K mg "is_whole" sWhole ["thing"] f2 fd2) (D3 : Kd K mg "fellows_right" sFellows ["web", "pairs", "one", "other"] f3 fd3) (M : MgB mg) :
    FnOk P w K mg base CX0 (k + 3) f fd ["web", "one", "other", "rows"] (spD P w K prAlike) := by
  refine fn_ok D.F scAlike (fun J xs R ⟨x, y, z, u, e, _⟩ => by rw [e]; rfl) fun cdv A outer s H E hr J B0 H0 xs R Dn ⟨wb, a, b, ps, e1, ok, hL, hl, e2⟩ hrt hnx => ?_
  subst e1 e2
  refine st_setDn 4 (td_dc (own := [("pair", 5)]) (ti_list (te_name (i := 3) rfl)) (by omega) (blkOk_by rfl) (fun s H C cl fp => (pgn 5 scAlike.nd)) (kf := kPair) (vf := fun _ => .bool true) (List.pairwise_map.mpr (hL.nodup.imp fun {x y} h e => h (by rw [← koPair.back x, ← koPair.back y, e]))) fun t ht => ⟨_, _, tg_name, by simp, kPair_is _, fun s H C cl fp => te_name (i := 5) rfl, fun s H C cl fp => te_bl⟩) ?_
  refine st_frz 4 rfl ?_
  refine st_if (tt_w (tw_or (tt_cmp (te_tup (tds_cons (te_name (i := 1) rfl) (tds_cons (te_name (i := 2) rfl) tds_nil)) (by simp)) (te_name (i := 4) rfl) (d2_ninN (kPair_is (a, b)) rfl)) fun h1 => (tw_or1 (tt_cmp (te_name (i := 3) rfl) (te_l (tl_sortD (ts := ps) (f := id) (vf := fun _ => .bool true) koPair (te_name (i := 4) rfl) M.sorted)) (d2_neD (shaped_pairs _) (shaped_pairs _)))))) (fun c2 => ?_) (fun c3 => ?_)
  · exfalso
    have e1 : (!(findK (dTab ps) (kPair (a, b))).isSome) = false := by rw [find_tab, decide_eq_true hL.root]; rfl
    have e2 : (!PyData.eqv (.list (ps.map dPair)) (.list (((ps.map id).mergeSort lePair).map dPair))) = false := by
      rw [eqv_pairs, List.map_id, hL.sorted, decide_eq_true rfl]
      rfl
    have c2' : true = ((!(findK (dTab ps) (kPair (a, b))).isSome) || (!PyData.eqv (.list (ps.map dPair)) (.list (((ps.map id).mergeSort lePair).map dPair)))) := c2
    rw [e1, e2] at c2'
    exact Bool.noConfusion c2'
  · refine st_done ?_ rfl
    refine st_if (tt_not (tt_val (te_callB (tas_cons (te_l (tl_lc (own := [("here", 6), ("there", 7)]) (ti_list (te_name (i := 3) rfl)) (by omega) (blkOk_by rfl) (fun s H C cl fp => (pg_tup (n := 2) rfl (pgs_cons (pgn 6 scAlike.nd) (pgs_cons (pgn 7 scAlike.nd) pgs_nil)))) fun p hp => ⟨_, _, (tg_tup (tgs_cons tg_name (tgs_cons tg_name tgs_nil))), by simp, fun s H C cl fp => (te_and (te_fn (Kd.kn D1 (ok_within (k := k) D1 D2 M) hr (by omega)) (tas_cons (te_name (i := 0) rfl) (tas_cons (te_name (i := 6) rfl) tas_nil)) ⟨wb, _, rfl, rfl⟩) fun h4 => (te_one (te_fn (Kd.kn D1 (ok_within (k := k) D1 D2 M) hr (by omega)) (tas_cons (te_name (i := 0) rfl) (tas_cons (te_name (i := 7) rfl) tas_nil)) ⟨wb, _, rfl, rfl⟩)))⟩)) tas_nil) dc_allM M.all boot_all))) (fun c5 => ?_) (fun c6 => ?_)
    · exfalso
      have : (ps.all fun p => (decide (0 ≤ p.1) && decide (p.1 < (wb.length : Nat))) && (decide (0 ≤ p.2) && decide (p.2 < (wb.length : Nat)))) = true := by
        rw [List.all_eq_true]
        intro p hp
        obtain ⟨⟨h1, h2⟩, ⟨h3, h4⟩⟩ := hL.in_ p hp
        rw [decide_eq_true h1, decide_eq_true h2, decide_eq_true h3, decide_eq_true h4]
        rfl
      rw [this] at c5
      exact Bool.noConfusion c5
    · refine st_done ?_ rfl
      refine st_ret (te_is (te_callB (tas_cons (te_l (tl_lc (own := [("here", 6), ("there", 7)]) (ti_list (te_name (i := 3) rfl)) (by omega) (blkOk_by rfl) (fun s H C cl fp => (pg_tup (n := 2) rfl (pgs_cons (pgn 6 scAlike.nd) (pgs_cons (pgn 7 scAlike.nd) pgs_nil)))) fun p hp => ⟨_, _, (tg_tup (tgs_cons tg_name (tgs_cons tg_name tgs_nil))), by simp, fun s H C cl fp => (te_fn (Kd.kn D3 (ok_fellows (k := k) D3 M) hr (by omega)) (tas_cons (te_name (i := 0) rfl) (tas_cons (te_name (i := 4) rfl) (tas_cons (te_name (i := 6) rfl) (tas_cons (te_name (i := 7) rfl) tas_nil)))) ⟨wb, ps, p.1, p.2, rfl, ok, (hL.in_ p hp).1, (hL.in_ p hp).2, hL.forth p hp, hL.back p hp, rfl⟩)⟩)) tas_nil) dc_allM M.all boot_all) ?_) fun v G H' y g d e => hrt v G H' y g d e
      simp
theorem ok_unlike {f1 f2 f3 : Addr} {fd1 fd2 fd3 : FuncData} (D : Kd K mg "unlike_shown" sUnlike ["web", "one", "other", "rows"] f fd) (D1 : Kd K mg "within" sWithin ["web", "row"] f1 fd1) (D2 : Kd K mg "is_whole" sWhole ["thing"] f2 fd2) (D3 : Kd K mg "pairs_needed" sNeeded ["web", "step"] f3 fd3) (M : MgB mg) :
    FnOk P w K mg base CX0 (k + 3) f fd ["web", "one", "other", "rows"] (spD P w K prUnlike) := by
  refine fn_ok D.F scUnlike (fun J xs R ⟨x, y, z, u, v, e, _⟩ => by rw [e]; rfl) fun cdv A outer s H E hr J B0 H0 xs R Dn ⟨wb, a, b, n, ss, e1, ok, hU, e2⟩ hrt hnx => ?_
  subst e1 e2
  refine st_setD0 4 ?_
  refine st_for (ts := ss) (enc := dStep) (fun i sl => ∃ c5 c6 c7 c8 c9, sl = [.d (.d (dWeb wb)), .d (dI a), .d (dI b), .d (.d (.list (ss.map dStep))), .od (dTab ((ss.take i).map pairOf)), c5, c6, c7, c8, c9, .no]) (ti_list (te_name (i := 3) rfl)) (pgn 5 scUnlike.nd) ⟨.no, .no, .no, .no, .no, rfl⟩ (fun i st sl1 ht e => ?_) (fun sl1 e => ?_)
  · obtain ⟨c5, c6, c7, c8, c9, rfl⟩ := e
    obtain ⟨ha, hb, si, r⟩ := st
    have hmem := List.mem_of_getElem? ht
    obtain ⟨i1, i2, i3⟩ : inW wb ha ∧ inW wb hb ∧ ((si = 0 ∧ r ∈ gW wb ha) ∨ (si = 1 ∧ r ∈ gW wb hb)) := hU.ok _ hmem
    obtain ⟨hi, hget⟩ := List.getElem?_eq_some_iff.mp ht
    have esplit : ss = ss.take i ++ (ha, hb, si, r) :: ss.drop (i + 1) := by
      rw [← hget, List.getElem_cons_drop, List.take_append_drop]
    have hnew : (ha, hb) ∉ (ss.take i).map pairOf := fun hm => by
      have nd := hU.nd
      rw [esplit, List.map_append, List.nodup_append] at nd
      exact nd.2.2 _ hm _ (by rw [List.map_cons]; exact List.mem_cons_self) rfl
    refine ⟨_, _, tg_name, tk_set, fun U' eU => ?_⟩
    refine st_asg (pg_tup (n := 4) rfl (pgs_cons (pgn 6 scUnlike.nd) (pgs_cons (pgn 7 scUnlike.nd) (pgs_cons (pgn 8 scUnlike.nd) (pgs_cons (pgn 9 scUnlike.nd) pgs_nil))))) (te_name (i := 5) rfl) (fun x e => ⟨_, _, _, e, (tg_tup (tgs_cons tg_name (tgs_cons tg_name (tgs_cons tg_name (tgs_cons tg_name tgs_nil))))), tg_keep (tk_cons tk_set (tk_cons tk_set (tk_cons tk_set (tk_cons tk_set tk_nil)))), ?_⟩)
    refine st_if (tt_w (tw_or (tt_not (tt_val (te_fn (Kd.kn D1 (ok_within (k := k) D1 D2 M) hr (by omega)) (tas_cons (te_name (i := 0) rfl) (tas_cons (te_name (i := 6) rfl) tas_nil)) ⟨wb, ha, rfl, rfl⟩))) fun h1 => (tw_or (tt_not (tt_val (te_fn (Kd.kn D1 (ok_within (k := k) D1 D2 M) hr (by omega)) (tas_cons (te_name (i := 0) rfl) (tas_cons (te_name (i := 7) rfl) tas_nil)) ⟨wb, hb, rfl, rfl⟩))) fun h2 => (tw_or (tt_cmp (te_name (i := 8) rfl) (te_tup (ds := [.int 0, .int 1]) (tds_cons te_int (tds_cons te_int tds_nil)) (by simp)) (d2_ninS (ns := [0, 1]) (.inr rfl))) fun h3 => (tw_or1 (tt_thaw (i := 4) rfl (tt_cmp (te_tup (tds_cons (te_name (i := 6) rfl) (tds_cons (te_name (i := 7) rfl) tds_nil)) (by simp)) (te_name (i := 4) rfl) (d2_inN (kPair_is (ha, hb)) rfl)))))))) (fun c4 => ?_) (fun c5 => ?_)
    · exfalso
      have es : decide (si ∈ [(0 : Int), 1]) = true := decide_eq_true (by rcases i3 with ⟨e, _⟩ | ⟨e, _⟩ <;> rw [e] <;> simp)
      rw [decide_eq_true i1.1, decide_eq_true i1.2, decide_eq_true i2.1, decide_eq_true i2.2, es, find_tab, decide_eq_false hnew] at c4
      exact Bool.noConfusion c4
    · refine st_done ?_ rfl
      refine st_if (tt_cmp (te_name (i := 9) rfl) (te_is (te_if (tt_cmp (te_name (i := 8) rfl) te_int d2_eqI) (fun h6 => (te_ix (te_name (i := 0) rfl) (te_name (i := 6) rfl) (dix_list (ixW i1.1 i1.2)))) fun h6 => (te_ix (te_name (i := 0) rfl) (te_name (i := 7) rfl) (dix_list (ixW i2.1 i2.2)))) (show _ = Dd.d (dRow (if si = 0 then gW wb ha else gW wb hb)) from by by_cases z : si = 0 <;> simp [z])) (d2_ninS (ns := if si = 0 then gW wb ha else gW wb hb) (.inr rfl))) (fun c7 => ?_) (fun c8 => ?_)
      · exfalso
        have : r ∈ (if si = 0 then gW wb ha else gW wb hb) := by
          rcases i3 with ⟨e, h⟩ | ⟨e, h⟩
          · rw [if_pos e]; exact h
          · rw [if_neg (by omega)]; exact h
        rw [decide_eq_true this] at c7
        exact Bool.noConfusion c7
      · refine st_done ?_ rfl
        have hnl : (needed wb (ha, hb, si, r)).length ≤ 4 := by
          unfold needed
          split
          · rw [List.length_map]; exact ok.ln i2
          · rw [List.length_map]; exact ok.ln i1
        refine st_if (tt_thaw (i := 4) rfl (tt_not (tt_val (te_callB (tas_cons (te_l (tl_lc (own := [("pair", 10)]) (ti_list (te_ld (te_fn (Kd.kn D3 (ok_needed (k := k) D3 M) hr (by omega)) (tas_cons (te_name (i := 0) rfl) (tas_cons (te_name (i := 5) rfl) tas_nil)) ⟨wb, (ha, hb, si, r), rfl, ok, i1, i2, rfl⟩))) (by omega) (blkOk_by rfl) (fun s H C cl fp => (pgn 10 scUnlike.nd)) fun p hp => ⟨_, _, tg_name, by simp, fun s H C cl fp => (te_cmp (te_name (i := 10) rfl) (te_name (i := 4) rfl) (d2_inN (kPair_is p) rfl))⟩)) tas_nil) dc_allM M.all boot_all)))) (fun c9 => ?_) (fun c10 => ?_)
        · exfalso
          have : ((needed wb (ha, hb, si, r)).all fun p => (findK (dTab ((ss.take i).map pairOf)) (kPair p)).isSome) = true := by
            rw [List.all_eq_true]
            intro p hp
            rw [find_tab]
            exact decide_eq_true (hU.ahead _ _ _ esplit p hp)
          rw [this] at c9
          exact Bool.noConfusion c9
        · refine st_done ?_ rfl
          have est : storeK (dTab ((ss.take i).map pairOf)) (kPair (ha, hb)) (.bool true) = dTab ((ss.take (i + 1)).map pairOf) := by
            rw [store_new]
            · rw [List.take_add_one, ht]
              show _ = dTab ((ss.take i ++ [(ha, hb, si, r)]).map pairOf)
              unfold dTab
              rw [List.map_append, List.map_append]
              rfl
            · rw [List.map_map]
              intro hm
              obtain ⟨q, hq, e⟩ := List.mem_map.mp hm
              have e' : q = (ha, hb) := by rw [← koPair.back q, ← koPair.back (ha, hb)]; exact congrArg dPairK e
              exact hnew (by rw [← e']; exact hq)
          have hfew := hU.few
          refine st_putD 4 rfl te_bl (te_tup (tds_cons (te_name (i := 6) rfl) (tds_cons (te_name (i := 7) rfl) tds_nil)) (by simp)) (kPair_is (ha, hb)) rfl (by rw [List.length_map, List.length_map, List.length_take]; omega) ?_
          rw [est]
          exact st_nil fun σ B H hF => ⟨_, B, ⟨_, _, _, _, _, rfl⟩, hF⟩
  · obtain ⟨c5, c6, c7, c8, c9, rfl⟩ := e
    obtain ⟨init, ⟨a', b', si, r⟩, es, el⟩ := hU.last
    have e1 : a' = a := congrArg Prod.fst el
    have e2 : b' = b := congrArg Prod.snd el
    subst e1 e2
    have hlast : atI (ss.map dStep) (-1) = some (dStep (a', b', si, r)) := by
      rw [es, List.map_append]
      exact atI_last _ _
    refine st_ret (te_is (te_and (te_cmp (te_name (i := 3) rfl) (te_l (tl_lst tds_nil (by simp))) (d2_neD (shaped_steps ss) (shaped_steps []))) fun h11 => (te_one (te_cmp (te_slT (n := 2) (te_ix (te_name (i := 3) rfl) (te_neg te_int) (dix_list hlast)) (by simp)) (te_tup (ds := [.int a', .int b']) (tds_cons (te_name (i := 1) rfl) (tds_cons (te_name (i := 2) rfl) tds_nil)) (by simp)) (d2_eqD (shaped_row [a', b']) (shaped_row [a', b']))))) ?_) fun v G H' y g d e => hrt v G H' y g d e
    have e3 : PyData.eqv (.list (ss.map dStep)) (.list []) = false := by
      rw [es, List.map_append]
      cases init <;> rfl
    have e4 : PyData.eqv (.tuple ([PyData.int a', .int b', .int si, .int r].take 2)) (.tuple [.int a', .int b']) = true := by
      show PyData.eqv (dRow [a', b']) (dRow [a', b']) = true
      have := eqv_ints [a', b'] [a', b']
      rw [decide_eq_true rfl] at this
      exact this
    rw [e3, e4]
    rfl
theorem ok_shows {f1 f2 f3 f6 f7 f8 f9 fa fb fc : Addr} {fd1 fd2 fd3 fd6 fd7 fd8 fd9 fda fdb fdc : FuncData} {tk : Tok} (D : Kd K mg "shows" sShows ["web", "one", "other", "paper"] f fd) (D1 : Kd K mg "is_row" sRow ["thing", "size"] f1 fd1) (D2 : Kd K mg "is_whole" sWhole ["thing"] f2 fd2) (D3 : Kd K mg "is_web" sWeb ["thing"] f3 fd3)
    (D6 : Kd K mg "need_web" sNeedW ["web"] f6 fd6) (D7 : Kd K mg "need_row" sNeedR ["web", "row"] f7 fd7) (D8 : Kd K mg "alike_shown" sAlike ["web", "one", "other", "rows"] f8 fd8) (D9 : Kd K mg "unlike_shown" sUnlike ["web", "one", "other", "rows"] f9 fd9) (Da : Kd K mg "within" sWithin ["web", "row"] fa fda) (Db : Kd K mg "fellows_right" sFellows ["web", "pairs", "one", "other"] fb fdb) (Dc : Kd K mg "pairs_needed" sNeeded ["web", "step"] fc fdc)
    (hmw : mg "MOST_WEB" = some (.int 512 tk)) (M : MgB mg) : FnOk P w K mg base CX0 (k + 5) f fd ["web", "one", "other", "paper"] (spD P w K prShows) := by
  refine fn_ok D.F scShows (fun J xs R ⟨x, y, z, u, e, _⟩ => by rw [e]; rfl) fun cdv A outer s H E hr J B0 H0 xs R Dn ⟨wb, a, b, x, e1, ok, ha, hb, hT, e2⟩ hrt hnx => ?_
  subst e1 e2
  refine st_expr (te_fn (Kd.kn D6 (ok_needW (k := k) D6 D3 D1 D2 hmw M) hr (by omega)) (tas_cons (te_name (i := 0) rfl) tas_nil) ⟨wb, rfl, ok, rfl⟩) ?_
  refine st_expr (te_fn (Kd.kn D7 (ok_needR (k := k) D7 D2 M) hr (by omega)) (tas_cons (te_name (i := 0) rfl) (tas_cons (te_name (i := 1) rfl) tas_nil)) ⟨wb, a, rfl, ha, rfl⟩) ?_
  refine st_expr (te_fn (Kd.kn D7 (ok_needR (k := k) D7 D2 M) hr (by omega)) (tas_cons (te_name (i := 0) rfl) (tas_cons (te_name (i := 2) rfl) tas_nil)) ⟨wb, b, rfl, hb, rfl⟩) ?_
  rcases hT with ⟨hn, ps, rfl, hL, hl⟩ | ⟨n, ss, hn, rfl, hU⟩
  · refine st_asg (pg_tup (n := 2) rfl (pgs_cons (pgn 4 scShows.nd) (pgs_cons (pgn 5 scShows.nd) pgs_nil))) (te_name (i := 3) rfl) (fun x e => ⟨_, _, _, e, (tg_tup (tgs_cons tg_name (tgs_cons tg_name tgs_nil))), tg_keep (tk_cons tk_set (tk_cons tk_set tk_nil)), ?_⟩)
    refine st_if (tt_cmp (te_name (i := 4) rfl) te_str d2_eqS) (fun c1 => ?_) (fun c2 => ?_)
    · exact st_ret (te_fn (Kd.kn D8 (ok_alike (k := k) D8 Da D2 Db M) hr (by omega)) (tas_cons (te_name (i := 0) rfl) (tas_cons (te_name (i := 1) rfl) (tas_cons (te_name (i := 2) rfl) (tas_cons (te_name (i := 5) rfl) tas_nil)))) ⟨wb, a, b, ps, rfl, ok, hL, hl, rfl⟩) fun v G H' y g d e => hrt v G H' y g d e
    · exact absurd c2 (by decide)
  · refine st_asg (pg_tup (n := 2) rfl (pgs_cons (pgn 4 scShows.nd) (pgs_cons (pgn 5 scShows.nd) pgs_nil))) (te_name (i := 3) rfl) (fun x e => ⟨_, _, _, e, (tg_tup (tgs_cons tg_name (tgs_cons tg_name tgs_nil))), tg_keep (tk_cons tk_set (tk_cons tk_set tk_nil)), ?_⟩)
    refine st_if (tt_cmp (te_name (i := 4) rfl) te_str d2_eqS) (fun c1 => ?_) (fun c2 => ?_)
    · exact absurd c1 (by decide)
    · refine st_done ?_ rfl
      refine st_ret (te_is (te_and (te_cmp (te_name (i := 4) rfl) te_str d2_eqS) fun h3 => (te_one (te_fn (Kd.kn D9 (ok_unlike (k := k) D9 Da D2 Dc M) hr (by omega)) (tas_cons (te_name (i := 0) rfl) (tas_cons (te_name (i := 1) rfl) (tas_cons (te_name (i := 2) rfl) (tas_cons (te_name (i := 5) rfl) tas_nil)))) ⟨wb, a, b, n, ss, rfl, ok, hU, rfl⟩))) ?_) fun v G H' y g d e => hrt v G H' y g d e
      rw [decide_eq_true rfl]
      rfl
end
end SH

set_option Elab.async false
set_option linter.all false
set_option maxRecDepth 100000
set_option maxHeartbeats 1600000
/-! K58v: the law's own judges. -/
namespace SH
open PySem PySem.Spec PyProof.Rows L2 PySem.W Evl
abbrev sLAlike : Stmt := topS 30
abbrev sLNeeds : Stmt := topS 31
abbrev sLUnlike : Stmt := topS 32
abbrev sLPaper : Stmt := topS 33
abbrev sLChains : Stmt := topS 34
abbrev nLAlike : List Str := ["_law_web", "_law_one", "_law_other", "_law_pairs", "_law_table", "_law_here", "_law_there", "_law_pair", "_law_a", "_law_b"]
abbrev nLNeeds : List Str := ["_law_web", "_law_step", "_law_here", "_law_there", "_law_side", "_law_member", "_law_one"]
abbrev nLUnlike : List Str := ["_law_web", "_law_one", "_law_other", "_law_steps", "_law_seen", "_law_step", "_law_here", "_law_there", "_law_side", "_law_member", "_law_pair"]
abbrev nLPaper : List Str := ["_law_web", "_law_one", "_law_other", "_law_told"]
abbrev nLChains : List Str := ["_law_web", "_law_steps", "_law_long", "_law_step", "_law_pair"]
theorem scLAlike : FnScope nLAlike ["_law_web", "_law_one", "_law_other", "_law_pairs"] (defScope sLAlike) := ⟨rfl, rfl, rfl, by decide +kernel, rfl, by decide +kernel, by decide +kernel⟩
theorem scLNeeds : FnScope nLNeeds ["_law_web", "_law_step"] (defScope sLNeeds) := ⟨rfl, rfl, rfl, by decide +kernel, rfl, by decide +kernel, by decide +kernel⟩
theorem scLUnlike : FnScope nLUnlike ["_law_web", "_law_one", "_law_other", "_law_steps"] (defScope sLUnlike) := ⟨rfl, rfl, rfl, by decide +kernel, rfl, by decide +kernel, by decide +kernel⟩
theorem scLPaper : FnScope nLPaper ["_law_web", "_law_one", "_law_other", "_law_told"] (defScope sLPaper) := ⟨rfl, rfl, rfl, by decide +kernel, rfl, by decide +kernel, by decide +kernel⟩
theorem scLChains : FnScope nLChains ["_law_web", "_law_steps"] (defScope sLChains) := ⟨rfl, rfl, rfl, by decide +kernel, rfl, by decide +kernel, by decide +kernel⟩
def prLAlike : Pr := fun J xs R => ∃ (w : Web) (a b : Int) (ps : List (Int × Int)), xs = [.d (dWeb w), dI a, dI b, .d (.list (ps.map dPair))] ∧ Wok w ∧ LikeOk w a b ps ∧ ps.length ≤ 1200 ∧ R = (· = dB true)
def prLPaper : Pr := fun J xs R => ∃ (w : Web) (a b : Int) (x : PyData), xs = [.d (dWeb w), dI a, dI b, .d x] ∧ Wok w ∧ Told w a b x ∧ (∀ ps, LikeOk w a b ps → ps.length ≤ 1200) ∧ R = (· = dB true)
def prLChains : Pr := fun J xs R => ∃ (w : Web) (a b : Int) (n : Nat) (ss : List Stp), xs = [.d (dWeb w), .d (.list (ss.map dStep))] ∧ Wok w ∧ UnlikeOk w a b n ss ∧ R = fun y => ∃ ks : List (NestedKey × Int), y = .n (ks.map fun q => (q.1, .int q.2)) ∧ ∃ v, findK (ks.map fun q => (q.1, PyData.int q.2)) (kPair (a, b)) = some (.int v) ∧ v ≤ n
section
variable {P : Program} {w : World} {K : PySem.W.Frag} {mg : Str → Option Value} {base : Heap} {f : Addr} {fd : FuncData} {k : Nat}
theorem ok_lneeds (D : Kd K mg "_law_needs" sLNeeds ["_law_web", "_law_step"] f fd) (M : MgB mg) : FnOk P w K mg base CX0 (k + 1) f fd ["_law_web", "_law_step"] (spD P w K prNeeded) := by
  refine fn_ok D.F scLNeeds (fun J xs R ⟨x, y, e, _⟩ => by rw [e]; rfl) fun cdv A outer s H E hr J B0 H0 xs R Dn ⟨wb, ⟨a, b, si, r⟩, e1, ok, ha, hb, e2⟩ hrt hnx => ?_
  subst e1 e2
  refine st_asg (pg_tup (n := 4) rfl (pgs_cons (pgn 2 scLNeeds.nd) (pgs_cons (pgn 3 scLNeeds.nd) (pgs_cons (pgn 4 scLNeeds.nd) (pgs_cons (pgn 5 scLNeeds.nd) pgs_nil))))) (te_name (i := 1) rfl) (fun x e => ⟨_, _, _, e, (tg_tup (tgs_cons tg_name (tgs_cons tg_name (tgs_cons tg_name (tgs_cons tg_name tgs_nil))))), tg_keep (tk_cons tk_set (tk_cons tk_set (tk_cons tk_set (tk_cons tk_set tk_nil)))), ?_⟩)
  refine st_if (tt_cmp (te_name (i := 4) rfl) te_int d2_eqI) (fun c1 => ?_) (fun c2 => ?_)
  · have e0 : si = 0 := of_decide_eq_true c1.symm
    subst e0
    refine st_ret (te_is (te_ll (tl_lc (own := [("_law_one", 6)]) (ti_tup (te_ix (te_name (i := 0) rfl) (te_name (i := 3) rfl) (dix_list (ixW hb.1 hb.2)))) (ok.ln' hb) (blkOk_by rfl) (fun s H C cl fp => (pgn 6 scLNeeds.nd)) fun t_to ht_to => ⟨_, _, tg_name, by simp, fun s H C cl fp => (te_tup (tds_cons (te_name (i := 5) rfl) (tds_cons (te_name (i := 6) rfl) tds_nil)) (by simp))⟩)) ?_) fun v G H' y g d e => hrt v G H' y g d e
    unfold needed
    rw [if_pos rfl, List.map_map]
    rfl
  · have e0 : ¬ si = 0 := of_decide_eq_false c2.symm
    refine st_done ?_ rfl
    refine st_ret (te_is (te_ll (tl_lc (own := [("_law_one", 6)]) (ti_tup (te_ix (te_name (i := 0) rfl) (te_name (i := 2) rfl) (dix_list (ixW ha.1 ha.2)))) (ok.ln' ha) (blkOk_by rfl) (fun s H C cl fp => (pgn 6 scLNeeds.nd)) fun t_to ht_to => ⟨_, _, tg_name, by simp, fun s H C cl fp => (te_tup (tds_cons (te_name (i := 6) rfl) (tds_cons (te_name (i := 5) rfl) tds_nil)) (by simp))⟩)) ?_) fun v G H' y g d e => hrt v G H' y g d e
    unfold needed
    rw [if_neg e0, List.map_map]
    rfl
theorem ok_lalike (D : Kd K mg "_law_alike_right" sLAlike ["_law_web", "_law_one", "_law_other", "_law_pairs"] f fd) (M : MgB mg) : FnOk P w K mg base CX0 (k + 1) f fd ["_law_web", "_law_one", "_law_other", "_law_pairs"] (spD P w K prLAlike) := by
  refine fn_ok D.F scLAlike (fun J xs R ⟨x, y, z, u, e, _⟩ => by rw [e]; rfl) fun cdv A outer s H E hr J B0 H0 xs R Dn ⟨wb, a, b, ps, e1, ok, hL, hl, e2⟩ hrt hnx => ?_
  subst e1 e2
  refine st_setDn 4 (td_pairs (ts := ps) (kf := kPair) (vf := fun _ => .bool true) (te_l (tl_lc (own := [("_law_pair", 7)]) (ti_list (te_name (i := 3) rfl)) (by omega) (blkOk_by rfl) (fun s H C cl fp => (pgn 7 scLAlike.nd)) fun p hp => ⟨_, _, tg_name, by simp, fun s H C cl fp => (te_tup (ds := [(kPair p).data, .bool true]) (tds_cons (te_name (i := 7) rfl) (tds_cons te_bl tds_nil)) (by simp))⟩)) (fun p _ => kPair_is p) (List.pairwise_map.mpr (hL.nodup.imp fun {x y} h e => h (by rw [← koPair.back x, ← koPair.back y, e]))) M.dict) ?_
  refine st_frz 4 rfl ?_
  refine st_if (tt_w (tw_or (tt_cmp (te_tup (tds_cons (te_name (i := 1) rfl) (tds_cons (te_name (i := 2) rfl) tds_nil)) (by simp)) (te_name (i := 4) rfl) (d2_ninN (kPair_is (a, b)) rfl)) fun h1 => (tw_or1 (tt_cmp (te_name (i := 3) rfl) (te_l (tl_sortSet koPair (te_name (i := 3) rfl) hl M.sorted M.set)) (d2_neD (shaped_pairs ps) (shaped_pairs _)))))) (fun c2 => ?_) (fun c3 => ?_)
  · exfalso
    have e1 : (!(findK (dTab ps) (kPair (a, b))).isSome) = false := by rw [find_tab, decide_eq_true hL.root]; rfl
    have es : srt lePair ps = ps := (srt_is ordPair (hL.ord.imp fun {x y} z => decide_eq_true (by rcases z with z | ⟨z, y⟩; exact .inl z; exact .inr ⟨z, Int.le_of_lt y⟩)) hL.nodup fun x => Iff.rfl).symm
    have e2 : (!PyData.eqv (.list (ps.map dPair)) (.list ((srt lePair ps).map dPair))) = false := by
      rw [eqv_pairs, es, decide_eq_true rfl]
      rfl
    have c2' : true = ((!(findK (dTab ps) (kPair (a, b))).isSome) || (!PyData.eqv (.list (ps.map dPair)) (.list ((srt lePair ps).map dPair)))) := c2
    rw [e1, e2] at c2'
    exact Bool.noConfusion c2'
  · refine st_done ?_ rfl
    refine st_for (ts := ps) (enc := dPair) (fun i sl => ∃ c5 c6, sl = [.d (.d (dWeb wb)), .d (dI a), .d (dI b), .d (.d (.list (ps.map dPair))), .d (.n (dTab ps)), c5, c6, .no, .no, .no]) (ti_list (te_name (i := 3) rfl)) (pg_tup (n := 2) rfl (pgs_cons (pgn 5 scLAlike.nd) (pgs_cons (pgn 6 scLAlike.nd) pgs_nil))) ⟨.no, .no, rfl⟩ (fun i p sl1 ht e => ?_) (fun sl1 e => ?_)
    · obtain ⟨c5, c6, rfl⟩ := e
      obtain ⟨h, t⟩ := p
      have hm := List.mem_of_getElem? ht
      obtain ⟨i1, i2⟩ : inW wb h ∧ inW wb t := hL.in_ _ hm
      refine ⟨_, _, (tg_tup (tgs_cons tg_name (tgs_cons tg_name tgs_nil))), tk_cons tk_set (tk_cons tk_set tk_nil), fun U' eU => ?_⟩
      refine st_if (tt_w (tw_or (tt_not (tt_chain te_int (te_name (i := 5) rfl) d2_le (fun h4 => (te_callB (tas_cons (te_name (i := 0) rfl) tas_nil) dc_lenL M.len boot_len)) fun _ => d2_lt)) fun h5 => (tw_or1 (tt_not (tt_chain te_int (te_name (i := 6) rfl) d2_le (fun h6 => (te_callB (tas_cons (te_name (i := 0) rfl) tas_nil) dc_lenL M.len boot_len)) fun _ => d2_lt))))) (fun c7 => ?_) (fun c8 => ?_)
      · exfalso
        rw [List.length_map] at c7
        have c7' : true = (!(decide (0 ≤ h) && decide (h < (wb.length : Nat))) || !(decide (0 ≤ t) && decide (t < (wb.length : Nat)))) := c7
        rw [decide_eq_true i1.1, decide_eq_true i1.2, decide_eq_true i2.1, decide_eq_true i2.2] at c7'
        exact Bool.noConfusion c7'
      · refine st_done ?_ rfl
        have e1 : ((gW wb h).all fun x => (gW wb t).any fun y => (findK (dTab ps) (kPair (x, y))).isSome) = true := by
          rw [List.all_eq_true]
          intro x hx
          rw [List.any_eq_true]
          obtain ⟨y, hy, hp⟩ := hL.forth _ hm x hx
          exact ⟨y, hy, by rw [find_tab]; exact decide_eq_true hp⟩
        have e2 : ((gW wb t).all fun y => (gW wb h).any fun x => (findK (dTab ps) (kPair (x, y))).isSome) = true := by
          rw [List.all_eq_true]
          intro y hy
          rw [List.any_eq_true]
          obtain ⟨x, hx, hp⟩ := hL.back _ hm y hy
          exact ⟨x, hx, by rw [find_tab]; exact decide_eq_true hp⟩
        refine st_if (tt_not (tt_val (te_callB (tas_cons (te_l (tl_lc (own := [("_law_a", 8)]) (ti_tup (te_ix (te_name (i := 0) rfl) (te_name (i := 5) rfl) (dix_list (ixW i1.1 i1.2)))) (ok.ln' i1) (blkOk_by rfl) (fun s H C cl fp => (pgn 8 scLAlike.nd)) fun t_a ht_a => ⟨_, _, tg_name, by simp, fun s H C cl fp => (te_callB (tas_cons (te_l (tl_lc (own := [("_law_b", 9)]) (ti_tup (te_ix (te_name (i := 0) rfl) (te_name (i := 6) rfl) (dix_list (ixW i2.1 i2.2)))) (ok.ln' i2) (blkOk_by rfl) (fun s H C cl fp => (pgn 9 scLAlike.nd)) fun t_b ht_b => ⟨_, _, tg_name, by simp, fun s H C cl fp => (te_cmp (te_tup (tds_cons (te_name (i := 8) rfl) (tds_cons (te_name (i := 9) rfl) tds_nil)) (by simp)) (te_name (i := 4) rfl) (d2_inN (kPair_is (t_a, t_b)) rfl))⟩)) tas_nil) dc_anyM M.any boot_any)⟩)) tas_nil) dc_allM M.all boot_all))) (fun c9 => ?_) (fun c10 => ?_)
        · exfalso
          rw [e1] at c9
          exact Bool.noConfusion c9
        · refine st_done ?_ rfl
          refine st_if (tt_not (tt_val (te_callB (tas_cons (te_l (tl_lc (own := [("_law_b", 9)]) (ti_tup (te_ix (te_name (i := 0) rfl) (te_name (i := 6) rfl) (dix_list (ixW i2.1 i2.2)))) (ok.ln' i2) (blkOk_by rfl) (fun s H C cl fp => (pgn 9 scLAlike.nd)) fun t_b ht_b => ⟨_, _, tg_name, by simp, fun s H C cl fp => (te_callB (tas_cons (te_l (tl_lc (own := [("_law_a", 8)]) (ti_tup (te_ix (te_name (i := 0) rfl) (te_name (i := 5) rfl) (dix_list (ixW i1.1 i1.2)))) (ok.ln' i1) (blkOk_by rfl) (fun s H C cl fp => (pgn 8 scLAlike.nd)) fun t_a ht_a => ⟨_, _, tg_name, by simp, fun s H C cl fp => (te_cmp (te_tup (tds_cons (te_name (i := 8) rfl) (tds_cons (te_name (i := 9) rfl) tds_nil)) (by simp)) (te_name (i := 4) rfl) (d2_inN (kPair_is (t_a, t_b)) rfl))⟩)) tas_nil) dc_anyM M.any boot_any)⟩)) tas_nil) dc_allM M.all boot_all))) (fun c11 => ?_) (fun c12 => ?_)
          · exfalso
            rw [e2] at c11
            exact Bool.noConfusion c11
          · refine st_done ?_ rfl
            exact st_nil fun σ B H hF => ⟨_, B, ⟨_, _, rfl⟩, hF⟩
    · obtain ⟨c5, c6, rfl⟩ := e
      exact st_ret te_bl fun v G H' y g d e => hrt v G H' y g d e
theorem ok_lunlike {f3 : Addr} {fd3 : FuncData} (D : Kd K mg "_law_unlike_right" sLUnlike ["_law_web", "_law_one", "_law_other", "_law_steps"] f fd) (D3 : Kd K mg "_law_needs" sLNeeds ["_law_web", "_law_step"] f3 fd3) (M : MgB mg) :
    FnOk P w K mg base CX0 (k + 2) f fd ["_law_web", "_law_one", "_law_other", "_law_steps"] (spD P w K prUnlike) := by
  refine fn_ok D.F scLUnlike (fun J xs R ⟨x, y, z, u, v, e, _⟩ => by rw [e]; rfl) fun cdv A outer s H E hr J B0 H0 xs R Dn ⟨wb, a, b, n, ss, e1, ok, hU, e2⟩ hrt hnx => ?_
  subst e1 e2
  refine st_setD0 4 ?_
  refine st_for (ts := ss) (enc := dStep) (fun i sl => ∃ c5 c6 c7 c8 c9, sl = [.d (.d (dWeb wb)), .d (dI a), .d (dI b), .d (.d (.list (ss.map dStep))), .od (dTab ((ss.take i).map pairOf)), c5, c6, c7, c8, c9, .no]) (ti_list (te_name (i := 3) rfl)) (pgn 5 scLUnlike.nd) ⟨.no, .no, .no, .no, .no, rfl⟩ (fun i st sl1 ht e => ?_) (fun sl1 e => ?_)
  · obtain ⟨c5, c6, c7, c8, c9, rfl⟩ := e
    obtain ⟨ha, hb, si, r⟩ := st
    have hmem := List.mem_of_getElem? ht
    obtain ⟨i1, i2, i3⟩ : inW wb ha ∧ inW wb hb ∧ ((si = 0 ∧ r ∈ gW wb ha) ∨ (si = 1 ∧ r ∈ gW wb hb)) := hU.ok _ hmem
    obtain ⟨hi, hget⟩ := List.getElem?_eq_some_iff.mp ht
    have esplit : ss = ss.take i ++ (ha, hb, si, r) :: ss.drop (i + 1) := by
      rw [← hget, List.getElem_cons_drop, List.take_append_drop]
    have hnew : (ha, hb) ∉ (ss.take i).map pairOf := fun hm => by
      have nd := hU.nd
      rw [esplit, List.map_append, List.nodup_append] at nd
      exact nd.2.2 _ hm _ (by rw [List.map_cons]; exact List.mem_cons_self) rfl
    refine ⟨_, _, tg_name, tk_set, fun U' eU => ?_⟩
    refine st_asg (pg_tup (n := 4) rfl (pgs_cons (pgn 6 scLUnlike.nd) (pgs_cons (pgn 7 scLUnlike.nd) (pgs_cons (pgn 8 scLUnlike.nd) (pgs_cons (pgn 9 scLUnlike.nd) pgs_nil))))) (te_name (i := 5) rfl) (fun x e => ⟨_, _, _, e, (tg_tup (tgs_cons tg_name (tgs_cons tg_name (tgs_cons tg_name (tgs_cons tg_name tgs_nil))))), tg_keep (tk_cons tk_set (tk_cons tk_set (tk_cons tk_set (tk_cons tk_set tk_nil)))), ?_⟩)
    refine st_if (tt_w (tw_or (tt_not (tt_chain te_int (te_name (i := 6) rfl) d2_le (fun h1 => (te_callB (tas_cons (te_name (i := 0) rfl) tas_nil) dc_lenL M.len boot_len)) fun _ => d2_lt)) fun h2 => (tw_or (tt_not (tt_chain te_int (te_name (i := 7) rfl) d2_le (fun h3 => (te_callB (tas_cons (te_name (i := 0) rfl) tas_nil) dc_lenL M.len boot_len)) fun _ => d2_lt)) fun h4 => (tw_or (tt_cmp (te_name (i := 8) rfl) (te_l (tl_lst (ds := [.int 0, .int 1]) (tds_cons te_int (tds_cons te_int tds_nil)) (by simp))) (d2_ninS (ns := [0, 1]) (.inl rfl))) fun h5 => (tw_or1 (tt_thaw (i := 4) rfl (tt_cmp (te_tup (tds_cons (te_name (i := 6) rfl) (tds_cons (te_name (i := 7) rfl) tds_nil)) (by simp)) (te_name (i := 4) rfl) (d2_inN (kPair_is (ha, hb)) rfl)))))))) (fun c6 => ?_) (fun c7 => ?_)
    · exfalso
      rw [List.length_map] at c6
      have es : decide (si ∈ [(0 : Int), 1]) = true := decide_eq_true (by rcases i3 with ⟨e, _⟩ | ⟨e, _⟩ <;> rw [e] <;> simp)
      have c6' : true = (!(decide (0 ≤ ha) && decide (ha < (wb.length : Nat))) || (!(decide (0 ≤ hb) && decide (hb < (wb.length : Nat))) || ((!decide (si ∈ [(0 : Int), 1])) || (findK (dTab ((ss.take i).map pairOf)) (kPair (ha, hb))).isSome))) := c6
      rw [decide_eq_true i1.1, decide_eq_true i1.2, decide_eq_true i2.1, decide_eq_true i2.2, es, find_tab, decide_eq_false hnew] at c6'
      exact Bool.noConfusion c6'
    · refine st_done ?_ rfl
      have hnl : (needed wb (ha, hb, si, r)).length ≤ 4 := by
        unfold needed
        split
        · rw [List.length_map]; exact ok.ln i2
        · rw [List.length_map]; exact ok.ln i1
      have hside : atI [dRow (gW wb ha), dRow (gW wb hb)] si = some (dRow (if si = 0 then gW wb ha else gW wb hb)) := by
        rcases i3 with ⟨e, _⟩ | ⟨e, _⟩ <;> subst e <;> rfl
      refine st_if (tt_w (tw_or (tt_cmp (te_name (i := 9) rfl) (te_ix (te_l (tl_lst (ds := [dRow (gW wb ha), dRow (gW wb hb)]) (tds_cons (te_ix (te_name (i := 0) rfl) (te_name (i := 6) rfl) (dix_list (ixW i1.1 i1.2))) (tds_cons (te_ix (te_name (i := 0) rfl) (te_name (i := 7) rfl) (dix_list (ixW i2.1 i2.2))) tds_nil)) (by simp))) (te_name (i := 8) rfl) (dix_list hside)) (d2_ninS (ns := if si = 0 then gW wb ha else gW wb hb) (.inr rfl))) fun h8 => (tw_or1 (tt_thaw (i := 4) rfl (tt_not (tt_val (te_callB (tas_cons (te_l (tl_lc (own := [("_law_pair", 10)]) (ti_list (te_ld (te_fn (Kd.kn D3 (ok_lneeds (k := k) D3 M) hr (by omega)) (tas_cons (te_name (i := 0) rfl) (tas_cons (te_name (i := 5) rfl) tas_nil)) ⟨wb, (ha, hb, si, r), rfl, ok, i1, i2, rfl⟩))) (by omega) (blkOk_by rfl) (fun s H C cl fp => (pgn 10 scLUnlike.nd)) fun p hp => ⟨_, _, tg_name, by simp, fun s H C cl fp => (te_cmp (te_name (i := 10) rfl) (te_name (i := 4) rfl) (d2_inN (kPair_is p) rfl))⟩)) tas_nil) dc_allM M.all boot_all))))))) (fun c9 => ?_) (fun c10 => ?_)
      · exfalso
        have hr : r ∈ (if si = 0 then gW wb ha else gW wb hb) := by
          rcases i3 with ⟨e, h⟩ | ⟨e, h⟩
          · rw [if_pos e]; exact h
          · rw [if_neg (by omega)]; exact h
        have : ((needed wb (ha, hb, si, r)).all fun p => (findK (dTab ((ss.take i).map pairOf)) (kPair p)).isSome) = true := by
          rw [List.all_eq_true]
          intro p hp
          rw [find_tab]
          exact decide_eq_true (hU.ahead _ _ _ esplit p hp)
        have c9' : true = ((!decide (r ∈ (if si = 0 then gW wb ha else gW wb hb))) || !((needed wb (ha, hb, si, r)).all fun p => (findK (dTab ((ss.take i).map pairOf)) (kPair p)).isSome)) := c9
        rw [decide_eq_true hr, this] at c9'
        exact Bool.noConfusion c9'
      · refine st_done ?_ rfl
        have est : storeK (dTab ((ss.take i).map pairOf)) (kPair (ha, hb)) (.bool true) = dTab ((ss.take (i + 1)).map pairOf) := by
          rw [store_new]
          · rw [List.take_add_one, ht]
            show _ = dTab ((ss.take i ++ [(ha, hb, si, r)]).map pairOf)
            unfold dTab
            rw [List.map_append, List.map_append]
            rfl
          · rw [List.map_map]
            intro hm
            obtain ⟨q, hq, e⟩ := List.mem_map.mp hm
            have e' : q = (ha, hb) := by rw [← koPair.back q, ← koPair.back (ha, hb)]; exact congrArg dPairK e
            exact hnew (by rw [← e']; exact hq)
        have hfew := hU.few
        refine st_putD 4 rfl te_bl (te_tup (tds_cons (te_name (i := 6) rfl) (tds_cons (te_name (i := 7) rfl) tds_nil)) (by simp)) (kPair_is (ha, hb)) rfl (by rw [List.length_map, List.length_map, List.length_take]; omega) ?_
        rw [est]
        exact st_nil fun σ B H hF => ⟨_, B, ⟨_, _, _, _, _, rfl⟩, hF⟩
  · obtain ⟨c5, c6, c7, c8, c9, rfl⟩ := e
    obtain ⟨init, ⟨a', b', si, r⟩, es, el⟩ := hU.last
    have e1 : a' = a := congrArg Prod.fst el
    have e2 : b' = b := congrArg Prod.snd el
    subst e1 e2
    have hlast : atI (ss.map dStep) (-1) = some (dStep (a', b', si, r)) := by
      rw [es, List.map_append]
      exact atI_last _ _
    refine st_ret (te_is (te_and (te_cmp (te_name (i := 3) rfl) (te_l (tl_lst tds_nil (by simp))) (d2_neD (shaped_steps ss) (shaped_steps []))) fun h11 => (te_one (te_cmp (te_slT (n := 2) (te_ix (te_name (i := 3) rfl) (te_neg te_int) (dix_list hlast)) (by simp)) (te_tup (ds := [.int a', .int b']) (tds_cons (te_name (i := 1) rfl) (tds_cons (te_name (i := 2) rfl) tds_nil)) (by simp)) (d2_eqD (shaped_row [a', b']) (shaped_row [a', b']))))) ?_) fun v G H' y g d e => hrt v G H' y g d e
    have e3 : PyData.eqv (.list (ss.map dStep)) (.list []) = false := by
      rw [es, List.map_append]
      cases init <;> rfl
    have e4 : PyData.eqv (.tuple ([PyData.int a', .int b', .int si, .int r].take 2)) (.tuple [.int a', .int b']) = true := by
      show PyData.eqv (dRow [a', b']) (dRow [a', b']) = true
      have := eqv_ints [a', b'] [a', b']
      rw [decide_eq_true rfl] at this
      exact this
    rw [e3, e4]
    rfl
theorem ok_lpaper {f1 f2 f3 : Addr} {fd1 fd2 fd3 : FuncData} (D : Kd K mg "_law_paper_right" sLPaper ["_law_web", "_law_one", "_law_other", "_law_told"] f fd) (D1 : Kd K mg "_law_alike_right" sLAlike ["_law_web", "_law_one", "_law_other", "_law_pairs"] f1 fd1) (D2 : Kd K mg "_law_unlike_right" sLUnlike ["_law_web", "_law_one", "_law_other", "_law_steps"] f2 fd2)
    (D3 : Kd K mg "_law_needs" sLNeeds ["_law_web", "_law_step"] f3 fd3) (M : MgB mg) : FnOk P w K mg base CX0 (k + 3) f fd ["_law_web", "_law_one", "_law_other", "_law_told"] (spD P w K prLPaper) := by
  refine fn_ok D.F scLPaper (fun J xs R ⟨x, y, z, u, e, _⟩ => by rw [e]; rfl) fun cdv A outer s H E hr J B0 H0 xs R Dn ⟨wb, a, b, x, e1, ok, hT, hS, e2⟩ hrt hnx => ?_
  subst e1 e2
  rcases hT with ⟨hn, ps, rfl, hL, hl⟩ | ⟨n, ss, hn, rfl, hU⟩
  · refine st_if (tt_cmp (te_ix (te_name (i := 3) rfl) te_int (dix_tup (d := .str "alike") rfl)) te_str d2_eqS) (fun c1 => ?_) (fun c2 => ?_)
    · exact st_ret (te_fn (Kd.kn D1 (ok_lalike (k := k) D1 M) hr (by omega)) (tas_cons (te_name (i := 0) rfl) (tas_cons (te_name (i := 1) rfl) (tas_cons (te_name (i := 2) rfl) (tas_cons (te_ix (te_name (i := 3) rfl) te_int (dix_tup (d := .list (ps.map dPair)) rfl)) tas_nil)))) ⟨wb, a, b, ps, rfl, ok, hL, hS ps hL, rfl⟩) fun v G H' y g d e => hrt v G H' y g d e
    · exact absurd c2 (by decide)
  · refine st_if (tt_cmp (te_ix (te_name (i := 3) rfl) te_int (dix_tup (d := .str "unlike") rfl)) te_str d2_eqS) (fun c1 => ?_) (fun c2 => ?_)
    · exact absurd c1 (by decide)
    · refine st_done ?_ rfl
      refine st_ret (te_is (te_and (te_cmp (te_ix (te_name (i := 3) rfl) te_int (dix_tup (d := .str "unlike") rfl)) te_str d2_eqS) fun h3 => (te_one (te_fn (Kd.kn D2 (ok_lunlike (k := k) D2 D3 M) hr (by omega)) (tas_cons (te_name (i := 0) rfl) (tas_cons (te_name (i := 1) rfl) (tas_cons (te_name (i := 2) rfl) (tas_cons (te_ix (te_name (i := 3) rfl) te_int (dix_tup (d := .list (ss.map dStep)) rfl)) tas_nil)))) ⟨wb, a, b, n, ss, rfl, ok, hU, rfl⟩))) ?_) fun v G H' y g d e => hrt v G H' y g d e
      rw [decide_eq_true rfl]
      rfl
end
end SH

set_option Elab.async false
set_option linter.all false
set_option maxRecDepth 100000
set_option maxHeartbeats 1600000
/-! K58c: _law_chains; how many like pairs the law's webs have. -/
namespace SH
open PySem PySem.Spec PyProof.Rows L2 PySem.W Evl
theorem max_ex : ∀ ns : List Int, ns ≠ [] → ∃ m ∈ ns, ∀ y ∈ ns, y ≤ m
  | [], h => absurd rfl h
  | [x], _ => ⟨x, List.mem_cons_self, fun y hy => by rw [List.mem_singleton.mp hy]; exact Int.le_refl _⟩
  | x :: z :: ns, _ => by
    obtain ⟨m, hm, h⟩ := max_ex (z :: ns) (List.cons_ne_nil _ _)
    rcases Int.le_total x m with c | c
    · refine ⟨m, List.mem_cons_of_mem _ hm, fun y hy => ?_⟩
      rcases List.mem_cons.mp hy with e | e
      · rw [e]; exact c
      · exact h y e
    · refine ⟨x, List.mem_cons_self, fun y hy => ?_⟩
      rcases List.mem_cons.mp hy with e | e
      · rw [e]; exact Int.le_refl _
      · exact Int.le_trans (h y e) c
abbrev dLong (L : List ((Int × Int) × Int)) : List KD := L.map fun q => (kPair q.1, .int q.2)
theorem find_long : ∀ {L : List ((Int × Int) × Int)} {p : Int × Int}, p ∈ L.map (·.1) → ∃ q ∈ L, q.1 = p ∧ findK (dLong L) (kPair p) = some (.int q.2)
  | [], _, h => nomatch h
  | q :: L, p, h => by
    by_cases c : q.1 = p
    · refine ⟨q, List.mem_cons_self, c, ?_⟩
      unfold findK
      show Option.map (fun x => x.snd) (List.find? (fun x => decide (x.fst = kPair p)) ((kPair q.1, PyData.int q.2) :: dLong L)) = _
      rw [List.find?_cons, c, decide_eq_true rfl]
      rfl
    · obtain ⟨r, hr, e, hf⟩ := find_long (L := L) (p := p) (by
        rcases List.mem_cons.mp h with e | e
        · exact absurd e.symm c
        · exact e)
      refine ⟨r, List.mem_cons_of_mem _ hr, e, ?_⟩
      unfold findK at hf ⊢
      show Option.map (fun x => x.snd) (List.find? (fun x => decide (x.fst = kPair p)) ((kPair q.1, PyData.int q.2) :: dLong L)) = _
      rw [List.find?_cons, decide_eq_false fun e => c (by rw [← koPair.back q.1, ← koPair.back p]; exact congrArg dPairK e)]
      exact hf
section
variable {P : Program} {w : World} {K : PySem.W.Frag} {mg : Str → Option Value} {base : Heap} {f : Addr} {fd : FuncData} {k : Nat}
theorem ok_lchains {f3 : Addr} {fd3 : FuncData} (D : Kd K mg "_law_chains" sLChains ["_law_web", "_law_steps"] f fd) (D3 : Kd K mg "_law_needs" sLNeeds ["_law_web", "_law_step"] f3 fd3) (M : MgB mg) : FnOk P w K mg base CX0 (k + 2) f fd ["_law_web", "_law_steps"] (spD P w K prLChains) := by
  refine fn_ok D.F scLChains (fun J xs R ⟨x, y, z, u, v, e, _⟩ => by rw [e]; rfl) fun cdv A outer s H E hr J B0 H0 xs R Dn ⟨wb, a, b, n, ss, e1, ok, hU, e2⟩ hrt hnx => ?_
  subst e1 e2
  obtain ⟨rk, hr0, hr1, hr2⟩ := hU.rank
  refine st_setD0 2 ?_
  refine st_for (ts := ss) (enc := dStep) (fun i sl => ∃ (L : List ((Int × Int) × Int)) (c3 : Sd), sl = [.d (.d (dWeb wb)), .d (.d (.list (ss.map dStep))), .od (dLong L), c3, .no] ∧ L.map (·.1) = (ss.take i).map pairOf ∧ ∀ q ∈ L, q.2 ≤ rk q.1) (ti_list (te_name (i := 1) rfl)) (pgn 3 scLChains.nd) ⟨[], .no, rfl, rfl, fun q hq => by cases hq⟩ (fun i st sl1 ht e => ?_) (fun sl1 e => ?_)
  · obtain ⟨L, c3, rfl, hL, hrk⟩ := e
    obtain ⟨ha, hb, si, r⟩ := st
    have hmem := List.mem_of_getElem? ht
    obtain ⟨i1, i2, i3⟩ : inW wb ha ∧ inW wb hb ∧ ((si = 0 ∧ r ∈ gW wb ha) ∨ (si = 1 ∧ r ∈ gW wb hb)) := hU.ok _ hmem
    obtain ⟨hi, hget⟩ := List.getElem?_eq_some_iff.mp ht
    have esplit : ss = ss.take i ++ (ha, hb, si, r) :: ss.drop (i + 1) := by
      rw [← hget, List.getElem_cons_drop, List.take_append_drop]
    have hnew : (ha, hb) ∉ (ss.take i).map pairOf := fun hm => by
      have nd := hU.nd
      rw [esplit, List.map_append, List.nodup_append] at nd
      exact nd.2.2 _ hm _ (by rw [List.map_cons]; exact List.mem_cons_self) rfl
    have hnl : (needed wb (ha, hb, si, r)).length ≤ 4 := by
      unfold needed
      split
      · rw [List.length_map]; exact ok.ln i2
      · rw [List.length_map]; exact ok.ln i1
    have hahead := hU.ahead _ _ _ esplit
    let val : Int × Int → Int := fun p => match findK (dLong L) (kPair p) with
      | some (.int v) => v
      | _ => 0
    have hval : ∀ p ∈ needed wb (ha, hb, si, r), findK (dLong L) (kPair p) = some (.int (val p)) ∧ val p ≤ rk p := fun p hp => by
      obtain ⟨q, hq, e, hf⟩ := find_long (L := L) (p := p) (by rw [hL]; exact hahead p hp)
      have ev : val p = q.2 := by
        show (match findK (dLong L) (kPair p) with
          | some (.int v) => v
          | _ => 0) = q.2
        rw [hf]
      rw [ev]
      exact ⟨hf, by rw [← e]; exact hrk q hq⟩
    obtain ⟨m, hm, hmax⟩ := max_ex ((needed wb (ha, hb, si, r)).map val ++ [0]) (by simp)
    have hfew := hU.few
    have hLl : L.length ≤ 300000 := by
      have := congrArg List.length hL
      rw [List.length_map, List.length_map, List.length_take] at this
      omega
    refine ⟨_, _, tg_name, tk_set, fun U' eU => ?_⟩
    refine st_putD (d := .int (1 + m)) (kk := kPair (ha, hb)) 2 rfl (te_thaw (i := 2) rfl (te_op te_int (te_callB (tas_cons (te_is (te_ld (te_op (te_ll (tl_lc (f := fun p => .int (val p)) (own := [("_law_pair", 4)]) (ti_list (te_ld (te_fn (Kd.kn D3 (ok_lneeds (k := k) D3 M) hr (by omega)) (tas_cons (te_name (i := 0) rfl) (tas_cons (te_name (i := 3) rfl) tas_nil)) ⟨wb, (ha, hb, si, r), rfl, ok, i1, i2, rfl⟩))) (by omega) (blkOk_by rfl) (fun s H C cl fp => (pgn 4 scLChains.nd)) fun p hp => ⟨_, _, tg_name, by simp, fun s H C cl fp => (te_ix (te_name (i := 2) rfl) (te_name (i := 4) rfl) (dix_dict (kPair_is p) rfl (hval p hp).1))⟩)) (te_ll (tl_lst (tds_cons te_int tds_nil) (by simp))) (d2_cat (by rw [List.length_map]; simp; omega)))) (show _ = Dd.d (.list (((needed wb (ha, hb, si, r)).map val ++ [0]).map .int)) from by rw [List.map_append, List.map_map]; rfl)) tas_nil) (dc_max hm hmax) M.max boot_max) d2_add)) (te_slT (n := 2) (te_name (i := 3) rfl) (by simp)) (kPair_is (ha, hb)) rfl (by rw [List.length_map]; omega) ?_
    have est : storeK (dLong L) (kPair (ha, hb)) (.int (1 + m)) = dLong (L ++ [((ha, hb), 1 + m)]) := by
      rw [store_new]
      · unfold dLong
        rw [List.map_append]
        rfl
      · rw [List.map_map]
        intro hm
        obtain ⟨q, hq, e⟩ := List.mem_map.mp hm
        have e' : q.1 = (ha, hb) := by rw [← koPair.back q.1, ← koPair.back (ha, hb)]; exact congrArg dPairK e
        exact hnew (by rw [← hL, ← e']; exact List.mem_map.mpr ⟨q, hq, rfl⟩)
    rw [est]
    refine st_nil fun σ B H hF => ⟨_, B, ⟨L ++ [((ha, hb), 1 + m)], _, rfl, ?_, fun q hq => ?_⟩, hF⟩
    · rw [List.map_append, hL, List.take_add_one, ht]
      show _ = (ss.take i ++ [(ha, hb, si, r)]).map pairOf
      rw [List.map_append]
      rfl
    · rcases List.mem_append.mp hq with hq | hq
      · exact hrk q hq
      · rw [List.mem_singleton.mp hq]
        show 1 + m ≤ rk (ha, hb)
        have h1 : 1 ≤ rk (ha, hb) := hr1 _ hmem
        rcases List.mem_append.mp hm with hm | hm
        · obtain ⟨p, hp, e⟩ := List.mem_map.mp hm
          have h2 := (hval p hp).2
          have h3 : rk p < rk (ha, hb) := hr2 _ hmem p hp
          omega
        · rw [List.mem_singleton.mp hm]
          omega
  · obtain ⟨L, c3, rfl, hL, hrk⟩ := e
    refine st_frz 2 rfl ?_
    refine st_ret (te_name (i := 2) rfl) fun v G H' y g d e => hrt v G H' y g d ⟨L.map fun q => (kPair q.1, q.2), by rw [e, List.map_map]; rfl, ?_⟩
    obtain ⟨init, s, es, el⟩ := hU.last
    obtain ⟨q, hq, e1, hf⟩ := find_long (L := L) (p := (a, b)) (by
      rw [hL, List.take_length, es, List.map_append, ← el]
      exact List.mem_append_right _ (List.mem_singleton.mpr rfl))
    refine ⟨q.2, by rw [List.map_map]; exact hf, ?_⟩
    have := hrk q hq
    rw [e1, hr0] at this
    exact this
end
/-! ### few like pairs -/
theorem few_of {w : Web} {a b : Int} {ps : List (Int × Int)} (h : LikeOk w a b ps) (S : Int × Int → Prop) (L : List (Int × Int)) (hS : ∀ p, S p → p ∈ L) (h0 : S (a, b)) (hc : ∀ p, S p → ∀ q : Int × Int, q.1 ∈ gW w p.1 → q.2 ∈ gW w p.2 → S q) : ps.length ≤ L.length :=
  nodup_len ps L h.nodup fun p hp => hS p (h.clos S h0 hc p hp)
theorem few_both {w : Web} {a b : Int} (S : Int × Int → Prop) (L : List (Int × Int)) (hS : ∀ p, S p → p ∈ L) (h0 : S (a, b)) (hc : ∀ p, S p → ∀ q : Int × Int, q.1 ∈ gW w p.1 → q.2 ∈ gW w p.2 → S q) (hl : L.length ≤ 1200) :
    (∀ ps, LikeOk w a b ps → ps.length ≤ 1200) ∧ ∀ ps, LikeOk w b a ps → ps.length ≤ 1200 := by
  refine ⟨fun ps h => Nat.le_trans (few_of h S L hS h0 hc) hl, fun ps h => ?_⟩
  have := few_of h (fun p => S (p.2, p.1)) (L.map fun p => (p.2, p.1)) (fun p hp => List.mem_map.mpr ⟨_, hS _ hp, rfl⟩) h0 fun p hp q h1 h2 => hc (p.2, p.1) hp (q.2, q.1) h2 h1
  rw [List.length_map] at this
  omega
def rect (x y : Int) (n : Nat) : List (Int × Int) := (List.range n).flatMap fun i : Nat => (List.range n).map fun j : Nat => (x + (i : Int), y + (j : Int))
theorem rect_len (x y : Int) (n : Nat) : (rect x y n).length = n * n := by
  unfold rect
  rw [List.length_flatMap]
  have e : ((List.range n).map fun i : Nat => ((List.range n).map fun j : Nat => (x + (i : Int), y + (j : Int))).length) = (List.range n).map fun _ => n := List.map_congr_left fun a _ => by rw [List.length_map, List.length_range]
  rw [e]
  have key : ∀ m : Nat, ((List.range m).map fun _ => n).sum = m * n := fun m => by
    induction m with
    | zero => simp
    | succ m ih => rw [List.range_succ, List.map_append, List.sum_append, ih, Nat.succ_mul]; simp
  exact key n
theorem rect_mem {x y : Int} {n : Nat} {p : Int × Int} (h : x ≤ p.1 ∧ p.1 < x + n ∧ y ≤ p.2 ∧ p.2 < y + n) : p ∈ rect x y n := by
  unfold rect
  rw [List.mem_flatMap]
  refine ⟨(p.1 - x).toNat, List.mem_range.mpr (by omega), List.mem_map.mpr ⟨(p.2 - y).toNat, List.mem_range.mpr (by omega), ?_⟩⟩
  exact Prod.ext (by show x + (((p.1 - x).toNat : Nat) : Int) = p.1; omega) (by show y + (((p.2 - y).toNat : Nat) : Int) = p.2; omega)
/-- the law's webs: a ring or chain of s rows, and behind it a second one, perhaps bent at spot -/
structure LawWeb (s spot : Int) (w : Web) : Prop where
  ok : Wok w
  pos : 0 < s
  low : s ≤ 250
  spt : 0 ≤ spot ∧ spot < s
  len : (w.length : Int) = 2 * s
  fst : ∀ x, 0 ≤ x → x < s → ∀ z ∈ gW w x, z = (x + 1) % s
  snd : ∀ y, s ≤ y → y < 2 * s → ∀ z ∈ gW w y, s ≤ z ∧ z < 2 * s
  ring : 25 ≤ s → (∀ y, s ≤ y → y < 2 * s → ∀ z ∈ gW w y, z = s + (y - s + 1) % s) ∨ (∀ y, s ≤ y → y < 2 * s → ∀ z ∈ gW w y, (y ≠ s + spot ∧ z = s + (y - s + 1) % s) ∨ (y = s + spot ∧ z = s + spot))
theorem LawWeb.few {s spot : Int} {w : Web} (h : LawWeb s spot w) {a b : Int} (ha : 0 ≤ a ∧ a < s) (hb : 0 ≤ b ∧ b < 2 * s) : (∀ ps, LikeOk w a b ps → ps.length ≤ 1200) ∧ ∀ ps, LikeOk w b a ps → ps.length ≤ 1200 := by
  have hpos := h.pos
  have hm : ∀ x : Int, 0 ≤ x % s ∧ x % s < s := fun x => ⟨Int.emod_nonneg _ (by omega), Int.emod_lt_of_pos _ hpos⟩
  by_cases hs : s < 25
  · have hl : s.toNat * s.toNat ≤ 1200 := Nat.le_trans (Nat.mul_le_mul (by omega : s.toNat ≤ 24) (by omega : s.toNat ≤ 24)) (by decide)
    by_cases hbA : b < s
    · refine few_both (fun p => 0 ≤ p.1 ∧ p.1 < s ∧ 0 ≤ p.2 ∧ p.2 < s) (rect 0 0 s.toNat) (fun p hp => rect_mem (by omega)) ⟨ha.1, ha.2, hb.1, hbA⟩ (fun p hp q h1 h2 => ?_) (by rw [rect_len]; exact hl)
      have e1 := h.fst p.1 hp.1 hp.2.1 _ h1
      have e2 := h.fst p.2 hp.2.2.1 hp.2.2.2 _ h2
      have := hm (p.1 + 1)
      have := hm (p.2 + 1)
      omega
    · refine few_both (fun p => 0 ≤ p.1 ∧ p.1 < s ∧ s ≤ p.2 ∧ p.2 < 2 * s) (rect 0 s s.toNat) (fun p hp => rect_mem (by omega)) ⟨ha.1, ha.2, by omega, hb.2⟩ (fun p hp q h1 h2 => ?_) (by rw [rect_len]; exact hl)
      have e1 := h.fst p.1 hp.1 hp.2.1 _ h1
      have e2 := h.snd p.2 hp.2.2.1 hp.2.2.2 _ h2
      have := hm (p.1 + 1)
      omega
  · have hlow := h.low
    -- sums of rests
    have hadd : ∀ x d : Int, ((x + 1) % s + d) % s = ((x + d) % s + 1) % s := fun x d => by
      rw [Int.emod_add_emod, Int.emod_add_emod]
      congr 1
      omega
    by_cases hbA : b < s
    · refine few_both (fun p => 0 ≤ p.1 ∧ p.1 < s ∧ p.2 = (p.1 + (b - a)) % s) ((List.range s.toNat).map fun i : Nat => ((i : Int), ((i : Int) + (b - a)) % s)) (fun p hp => List.mem_map.mpr ⟨p.1.toNat, List.mem_range.mpr (by omega), ?_⟩) ⟨ha.1, ha.2, ?_⟩ (fun p hp q h1 h2 => ?_) (by rw [List.length_map, List.length_range]; omega)
      · have e : ((p.1.toNat : Nat) : Int) = p.1 := by omega
        rw [e]
        exact Prod.ext rfl hp.2.2.symm
      · show b = (a + (b - a)) % s
        rw [show a + (b - a) = b by omega, Int.emod_eq_of_lt hb.1 hbA]
      · have e1 := h.fst p.1 hp.1 hp.2.1 _ h1
        have hp2 := hm (p.1 + (b - a))
        rw [← hp.2.2] at hp2
        have e2 := h.fst p.2 hp2.1 hp2.2 _ h2
        refine ⟨by rw [e1]; exact (hm _).1, by rw [e1]; exact (hm _).2, ?_⟩
        rw [e2, e1, hadd, hp.2.2]
    · have hroot : b = s + (a + (b - s - a)) % s := by
        rw [show a + (b - s - a) = b - s by omega, Int.emod_eq_of_lt (by omega) (by omega)]
        omega
      rcases h.ring (by omega) with hr | hr
      · refine few_both (fun p => 0 ≤ p.1 ∧ p.1 < s ∧ p.2 = s + (p.1 + (b - s - a)) % s) ((List.range s.toNat).map fun i : Nat => ((i : Int), s + ((i : Int) + (b - s - a)) % s)) (fun p hp => List.mem_map.mpr ⟨p.1.toNat, List.mem_range.mpr (by omega), ?_⟩) ⟨ha.1, ha.2, hroot⟩ (fun p hp q h1 h2 => ?_) (by rw [List.length_map, List.length_range]; omega)
        · have e : ((p.1.toNat : Nat) : Int) = p.1 := by omega
          rw [e]
          exact Prod.ext rfl hp.2.2.symm
        · have e1 := h.fst p.1 hp.1 hp.2.1 _ h1
          have hp2 := hm (p.1 + (b - s - a))
          have e2 := hr p.2 (by omega) (by omega) _ h2
          refine ⟨by rw [e1]; exact (hm _).1, by rw [e1]; exact (hm _).2, ?_⟩
          rw [e2, e1, hadd, hp.2.2]
          congr 3
          omega
      · refine few_both (fun p => 0 ≤ p.1 ∧ p.1 < s ∧ (p.2 = s + (p.1 + (b - s - a)) % s ∨ p.2 = s + spot)) (((List.range s.toNat).map fun i : Nat => ((i : Int), s + ((i : Int) + (b - s - a)) % s)) ++ (List.range s.toNat).map fun i : Nat => ((i : Int), s + spot)) (fun p hp => ?_) ⟨ha.1, ha.2, .inl hroot⟩ (fun p hp q h1 h2 => ?_) (by rw [List.length_append, List.length_map, List.length_map, List.length_range]; omega)
        · have e : ((p.1.toNat : Nat) : Int) = p.1 := by omega
          rcases hp.2.2 with z | z
          · exact List.mem_append_left _ (List.mem_map.mpr ⟨p.1.toNat, List.mem_range.mpr (by omega), by rw [e]; exact Prod.ext rfl z.symm⟩)
          · exact List.mem_append_right _ (List.mem_map.mpr ⟨p.1.toNat, List.mem_range.mpr (by omega), by rw [e]; exact Prod.ext rfl z.symm⟩)
        · have e1 := h.fst p.1 hp.1 hp.2.1 _ h1
          refine ⟨by rw [e1]; exact (hm _).1, by rw [e1]; exact (hm _).2, ?_⟩
          have hp2 := hm (p.1 + (b - s - a))
          have c : s ≤ p.2 ∧ p.2 < 2 * s := by
            have := h.spt
            rcases hp.2.2 with z | z <;> omega
          rcases hr p.2 c.1 c.2 _ h2 with ⟨h3, h4⟩ | ⟨h3, h4⟩
          · rcases hp.2.2 with z | z
            · left
              rw [h4, e1, hadd, z]
              congr 3
              omega
            · exact absurd z h3
          · exact .inr h4
end SH

set_option Elab.async false
set_option linter.all false
set_option maxRecDepth 100000
set_option maxHeartbeats 1600000
/-! K58z: the law. -/
namespace SH
open PySem PySem.Spec PyProof.Rows L2 PySem.W Evl
theorem D2.weak {X : Cx} {J : Option Jar} {r : R2} {x y : Dd} {R R' : Dd → Prop} (h : D2 X J r x y R) (w : ∀ z, R z → R' z) : D2 X J r x y R' := fun F B H u v e j d1 d2 Q k => h F B H u v e j d1 d2 Q fun z G H' t g d p => k z G H' t g d (w t p)
section
variable {X : Cx} {J : Option Jar} {B0 H0 U : Hp} {sl : List Sd} {rest : List Stmt} {D : Ends} {e : Expr} {pos pp : Pos} {nm : Str}
theorem te_fnW {es : List Expr} {ps : List Str} {pr : Pr} {Ps : List Dd → Prop} {R : Dd → Prop} (F : Kn X nm ps pr) (ha : TasP X J (e :: es) sl Ps) (h : ∀ xs, Ps xs → ∃ R', pr J xs R' ∧ ∀ y, R' y → R y) (hg : Gl X nm := by rfl)
    (hdb : (nm == ("__debug__" : Str)) = false := by decide) (he : starEach (e :: es) X.env = (false, eval e X.env) :: starEach es X.env := by rfl) (hpl : (backTo pos (starEach es X.env)).any (·.1) = false := by rfl) :
    TeP X J (.Call (.Name nm pp) (e :: es) [] pos) sl R := fun Ft σ B H k Q q => by
  obtain ⟨f, fd, n, F1, F2, F3, F4, F5⟩ := F.ex
  refine wE.of (pe_call (E := E0) F1 F2 hg F3 F4 F5 .nil pass0 pA hdb he hpl) (ha Ft σ B H k _ fun vs G H1 xs g d p => ?_)
  rw [List.append_nil]
  obtain ⟨R', hp, hw⟩ := h xs p
  exact ⟨X, J, G, xs, R', rfl, rfl, rfl, g.sub, g.jar, d, hp, fun v G2 H2 y g2 d2 r => q v G2 H2 y (g.trans g2) d2 (hw y r)⟩
/-- the list that a jar is: from now on it may turn -/
theorem st_jar {ns : List Int} {i g s c : Int} {sts : List Stmt} (j0 : Nat) (hj : sl[j0]? = some (.ol [.list (ns.map .int), .int i, .int g, .int s, .int c])) (hi : 0 ≤ i) (hg : 0 ≤ g) (hs : 0 ≤ s) (hs2 : s < seedTop)
    (hr : ∀ j : Jar, St X (some j) B0 H0 U (sl.set j0 (.d .jar)) sts D) : St X none B0 H0 U sl sts D := fun F σ B H k => by
  obtain ⟨p, vs, e1, e2, n, e3, dd⟩ := k.hold.here j0 _ hj
  obtain ⟨c', bs, rfl, hc⟩ : ∃ c' bs, vs = [.ref c', .int i, .int g, .int s, .int c] ∧ SqL X.K B c' bs ∧ bs = ns.map V.int := by
    cases dd with
    | cons x0 dd => cases dd with
      | cons x1 dd => cases dd with
        | cons x2 dd => cases dd with
          | cons x3 dd => cases dd with
            | cons x4 dd =>
              cases dd; cases x1; cases x2; cases x3; cases x4
              cases x0 with
              | lst h1 h2 => exact ⟨_, _, rfl, h1, dps_ints h2⟩
  have hc1 : SqL X.K B c' (ns.map V.int) := by rw [← hc.2]; exact hc.1
  have hjl : j0 < sl.length := (List.getElem?_eq_some_iff.mp hj).1
  have jk : JarOK X.K (some ⟨p, c', ns⟩) B H := fun x ex => by
    cases ex
    exact ⟨e2, hc1, i, g, s, c, e3, hi, hg, hs, hs2⟩
  have nat : ∀ q, q ≠ p → ¬ JarAt (some (⟨p, c', ns⟩ : Jar)) q := fun q h ⟨x, ex, z⟩ => by
    cases ex
    exact h z
  refine hr ⟨p, c', ns⟩ F σ B H ⟨⟨k.hold.ex, by rw [List.length_set]; exact k.hold.len, fun j t e => ?_, fun a b s1 t q ne f1 f2 o1 o2 q1 q2 => ?_, jk⟩, ⟨k.gs.up, k.gs.sub, fun a o _ e => k.gs.keep a o (fun ⟨_, z, _⟩ => nomatch z) e, k.gs.live, k.gs.new, jk⟩, k.up, fun j t q e o e4 => ?_⟩
  · by_cases z : j0 = j
    · subst z
      rw [List.getElem?_set_self hjl] at e
      cases e
      exact ⟨.ref p, e1, ⟨p, c', ns⟩, rfl, rfl⟩
    · rw [List.getElem?_set_ne z] at e
      have y := k.hold.here j t e
      have ne : ∀ q, t.own = true → σ.getD j none = some (.ref q) → q ≠ p := fun q o eq => own_ne k.hold hj rfl e1 j _ q (fun w => z w.symm) e o eq
      cases t with
      | no => trivial
      | d x =>
        obtain ⟨v, f1, f2⟩ := y
        refine ⟨v, f1, ?_⟩
        cases x with
        | d x => exact f2
        | n xs => exact f2
        | jar => obtain ⟨_, z, _⟩ := f2; cases z
        | l xs => exact f2
      | ol xs => obtain ⟨q, us, f1, f2, m, f3⟩ := y; exact ⟨q, us, f1, f2, nat q (ne q rfl f1), f3⟩
      | od xs => obtain ⟨q, us, f1, f2, m, f3⟩ := y; exact ⟨q, us, f1, f2, nat q (ne q rfl f1), f3⟩
      | fd xs => obtain ⟨q, us, f1, f2, m, f3⟩ := y; exact ⟨q, us, f1, f2, nat q (ne q rfl f1), f3⟩
      | oj q c0 ns xs => obtain ⟨us, f1, f2, m, f3⟩ := y; exact ⟨us, f1, f2, nat q (ne q rfl f1), f3⟩
  · have back : ∀ (c : Nat) (s1 : Sd), (sl.set j0 (.d .jar))[c]? = some s1 → s1.own = true → sl[c]? = some s1 := fun c s1 e o => by
      by_cases z : j0 = c
      · subst z; rw [List.getElem?_set_self hjl] at e; cases e; cases o
      · rw [List.getElem?_set_ne z] at e; exact e
    exact k.hold.apart a b s1 t q ne (back a s1 f1 o1) (back b t f2 o2) o1 o2 q1 q2
  · by_cases z : j0 = j
    · subst z; rw [List.getElem?_set_self hjl] at e; cases e; cases o
    · rw [List.getElem?_set_ne z] at e
      exact k.fresh j t q e o e4
/-- name[at] = e, whatever e tells -/
theorem st_putLP {ds : List PyData} {P : Dd → Prop} {ix : Expr} {j : Int} {c : Nat} {sp : Pos} (i : Nat) (hi : sl[i]? = some (.ol ds)) (h : TeP X J e sl P) (hP : ∀ x, P x → ∃ d, x = .d d) (hx : Te X J ix sl (dI j)) (hc : ixN ds.length j = some c) (hr : ∀ d, P (.d d) → St X J B0 H0 U (sl.set i (.ol (ds.set c d))) rest D) (hN : X.N[i]? = some nm := by rfl)
    (hv : Vis X.env.scope nm := by first | exact Or.inl rfl | exact Or.inr (Or.inl rfl) | exact Or.inr (Or.inr rfl)) (hdb : (nm == ("__debug__" : Str)) = false := by decide) (hcd : (nm == ("__classdict__" : Str)) = false := by decide)
    (ha : ∀ v, assign (.Subscript (.Name nm pp) ix sp) X.env v = (do
      let ov ← holding [v] (eval (.Name nm pp) X.env)
      let iv ← holding [v, ov] (eval ix X.env)
      standAt sp
      holding [v, ov, iv] (setItem ov iv v)
      release [v, ov, iv] []) := by intro _; rfl)
    (hs : swapsWithSole [.Subscript (.Name nm pp) ix sp] e pos.line X.env = pure false := by rfl) (hw : swappedStores [.Subscript (.Name nm pp) ix sp] e X.env = pure none := by rfl) (h1 : (assignEach [.Subscript (.Name nm pp) ix sp] X.env).map (·.2) = [assign (.Subscript (.Name nm pp) ix sp) X.env] := by rfl) :
    St X J B0 H0 U sl (.Assign [.Subscript (.Name nm pp) ix sp] e pos :: rest) D := fun F σ B H k => by
  obtain ⟨p, vs, e1, e2, n, e3, dd⟩ := k.hold.here i _ hi
  refine wSs.cons (ps_asg pE (pg_sub (pv i hN hv hdb hcd) pE set_list ha) hs hw h1) ?_
  refine h F σ B H k.hold _ fun v G H' x g d1 px => ⟨.ref p, getD_some e1, hx F σ G H' (k.hold.step g) _ fun w G2 H2 y g2 d2 ey => ?_⟩
  obtain ⟨d, rfl⟩ := hP x px
  subst ey
  cases d2
  have g3 := g.trans g2
  have key : ∀ (c : Nat) (vs : List V) (ds : List PyData), DpAll X.K G2 vs ds → DpAll X.K G2 (vs.set c v) (ds.set c d) := by
    intro c
    induction c with
    | zero => intro vs ds h; cases h with
      | nil => exact .nil
      | cons a b => exact .cons (dq_ex (x := .d d) (J := J) g2.up d1) b
    | succ c ih => intro vs ds h; cases h with
      | nil => exact .nil
      | cons a b => exact .cons a (ih _ _ b)
  exact ⟨p, vs, j, c, rfl, rfl, g3.keep _ _ n e3, by rw [dps_len dd]; exact hc, hr d px F σ G2 _ ((k.step g3).put hi rfl e1 ⟨p, _, rfl, g3.off e3 e2, n, upd_same, key c vs ds (dps_ex g3.up _ _ dd)⟩)⟩
end
abbrev sLaw : Stmt := topS 35
abbrev nLaw : List Str := ["_law_script", "_law_jar_here", "_law_size", "_law_long", "_law_web", "_law_other", "_law_spot", "_law_two", "_law_whole", "_law_step", "_law_here", "_law_there", "_law_one", "_law_told", "_law_turn", "_law_row"]
theorem scLaw : FnScope nLaw ["_law_script"] (defScope sLaw) := ⟨rfl, rfl, rfl, by decide +kernel, rfl, by decide +kernel, by decide +kernel⟩
/-- what the law knows of the text -/
structure Facts (P : Program) (w : World) (K : PySem.W.Frag) (mg : Str → Option Value) (base : Heap) (k : Nat) : Prop where
  M : MgB mg
  jar : ∃ f fd, Kd K mg "_law_jar" sJar ["_law_script"] f fd
  draw : ∃ f fd, Kd K mg "_law_draw" sDraw ["_law_jar_here", "_law_top"] f fd
  of : ∃ f fd, Kd K mg "_law_of" sOf ["_law_jar_here", "_law_some"] f fd ∧ FnOk P w K mg base CX0 (k + 2) f fd ["_law_jar_here", "_law_some"] (spD P w K prOf)
  likeness : ∃ f fd, Kd K mg "likeness" sLikeness ["web", "one", "other"] f fd ∧ FnOk P w K mg base CX0 (k + 5) f fd ["web", "one", "other"] (spD P w K prLikeness)
  roundOf : ∃ f fd, Kd K mg "round_of" sRoundOf ["web", "one", "other"] f fd ∧ FnOk P w K mg base CX0 (k + 5) f fd ["web", "one", "other"] (spD P w K prRoundOf)
  shows : ∃ f fd, Kd K mg "shows" sShows ["web", "one", "other", "paper"] f fd ∧ FnOk P w K mg base CX0 (k + 5) f fd ["web", "one", "other", "paper"] (spD P w K prShows)
  paper : ∃ f fd, Kd K mg "_law_paper_right" sLPaper ["_law_web", "_law_one", "_law_other", "_law_told"] f fd ∧ FnOk P w K mg base CX0 (k + 3) f fd ["_law_web", "_law_one", "_law_other", "_law_told"] (spD P w K prLPaper)
  chains : ∃ f fd, Kd K mg "_law_chains" sLChains ["_law_web", "_law_steps"] f fd ∧ FnOk P w K mg base CX0 (k + 2) f fd ["_law_web", "_law_steps"] (spD P w K prLChains)
section
variable {P : Program} {w : World} {K : PySem.W.Frag} {mg : Str → Option Value} {base : Heap} {f : Addr} {k : Nat}
abbrev XL (P : Program) (w : World) (K : PySem.W.Frag) (mg : Str → Option Value) (base : Heap) (f : Addr) (cdv : Value) (A : Around) (outer : List Env) (s : Shared) (H : Hp) (E : XK) : Cx := (cxOf CX0 P w K mg base nLaw "law" (defScope sLaw) f cdv A outer s H E).nox
/-- the inner judge: one pair, both ways -/
abbrev bodyAt (st : Stmt) : List Stmt := match st with
  | .For _ _ b _ _ => b
  | _ => []
theorem law_pair {cdv : Value} {A : Around} {outer : List Env} {s0 : Shared} {Hx : Hp} {E : XK} (Fa : Facts P w K mg base k) (hr : Room (k + 5) (XL P w K mg base f cdv A outer s0 Hx E).A) {J : Option Jar} {B0 H0 U : Hp} {wb : Web} {a b : Int} {c0 c1 c2 c3 c4 c5 c6 c9 c10 c11 c13 c14 : Sd} {D : Ends}
    (ok : Wok wb) (ha : inW wb a) (hb : inW wb b) (hf : ∀ ps, LikeOk wb a b ps → ps.length ≤ 1200)
    (hd : ∀ (x y : Dd), St (XL P w K mg base f cdv A outer s0 Hx E) J B0 H0 U [c0, c1, c2, c3, c4, c5, c6, .d (dI b), .d (.l (wb.map dRow)), c9, c10, c11, .d (dI a), .d x, .d y, .no] [] D) :
    St (XL P w K mg base f cdv A outer s0 Hx E) J B0 H0 U [c0, c1, c2, c3, c4, c5, c6, .d (dI b), .d (.l (wb.map dRow)), c9, c10, c11, .d (dI a), c13, c14, .no] (bodyAt ((bodyAt ((defBody sLaw).getD 11 (.Pass ⟨0, 0, 0, 0⟩))).getD 2 (.Pass ⟨0, 0, 0, 0⟩))) D := by
  obtain ⟨fl, fdl, Dl, okl⟩ := Fa.likeness
  obtain ⟨ft, fdt, Dt, okt⟩ := Fa.roundOf
  obtain ⟨fs, fds, Ds, oks⟩ := Fa.shows
  obtain ⟨fp, fdp, Dp', okp⟩ := Fa.paper
  obtain ⟨fc, fdc, Dc, okc⟩ := Fa.chains
  have M := Fa.M
  refine st_set 13 (te_fn (R := fun y => ∃ x, y = .d x ∧ Told wb a b x) (Kd.kn Dl okl hr (by omega)) (tas_cons (te_ld (te_name (i := 8) rfl)) (tas_cons (te_name (i := 12) rfl) (tas_cons (te_name (i := 7) rfl) tas_nil))) ⟨wb, a, b, rfl, ok, ha, hb, rfl⟩) (fun x e => ?_)
  obtain ⟨x, rfl, hT⟩ := e
  refine st_set 14 (te_fn (Kd.kn Dt okt hr (by omega)) (tas_cons (te_ld (te_name (i := 8) rfl)) (tas_cons (te_name (i := 12) rfl) (tas_cons (te_name (i := 7) rfl) tas_nil))) ⟨wb, a, b, rfl, ok, ha, hb, rfl⟩) (fun y e => ?_)
  subst e
  have hT0 := hT
  rcases hT with ⟨hn, ps, rfl, hL, hl⟩ | ⟨n, ss, hn, rfl, hU⟩
  · rw [hn]
    refine st_if (tt_cmp (te_ix (te_name (i := 13) rfl) te_int (dix_tup (d := .str "alike") rfl)) (te_is (te_if (tt_isN (te_name (i := 14) rfl)) (fun h8 => te_str) fun h8 => te_str) (show _ = Dd.d (.str "alike") from rfl)) d2_neS) (fun c9' => ?_) (fun c10' => ?_)
    · exact absurd c9' (by decide)
    · refine st_done ?_ rfl
      refine st_if (tt_w (tw_or (tt_not (tt_val (te_fn (Kd.kn Dp' okp hr (by omega)) (tas_cons (te_ld (te_name (i := 8) rfl)) (tas_cons (te_name (i := 12) rfl) (tas_cons (te_name (i := 7) rfl) (tas_cons (te_name (i := 13) rfl) tas_nil)))) ⟨wb, a, b, _, rfl, ok, hT0, hf, rfl⟩))) fun h11 => (tw_or1 (tt_cmp (te_fn (Kd.kn Ds oks hr (by omega)) (tas_cons (te_ld (te_name (i := 8) rfl)) (tas_cons (te_name (i := 12) rfl) (tas_cons (te_name (i := 7) rfl) (tas_cons (te_name (i := 13) rfl) tas_nil)))) ⟨wb, a, b, _, rfl, ok, ha, hb, hT0, rfl⟩) te_bl d2_notB)))) (fun c12' => ?_) (fun c13' => ?_)
      · exact absurd c12' (by decide)
      · refine st_done ?_ rfl
        refine st_if (tt_w (tw_and (q := false) (tt_notN (te_name (i := 14) rfl)) fun h14 => absurd h14 (by decide))) (fun c15 => ?_) (fun c16 => ?_)
        · exact absurd c15 (by decide)
        · refine st_done ?_ rfl
          exact hd _ _
  · rw [hn]
    refine st_if (tt_cmp (te_ix (te_name (i := 13) rfl) te_int (dix_tup (d := .str "unlike") rfl)) (te_is (te_if (tt_isN (te_name (i := 14) rfl)) (fun h8 => te_str) fun h8 => te_str) (show _ = Dd.d (.str "unlike") from rfl)) d2_neS) (fun c9' => ?_) (fun c10' => ?_)
    · exact absurd c9' (by decide)
    · refine st_done ?_ rfl
      refine st_if (tt_w (tw_or (tt_not (tt_val (te_fn (Kd.kn Dp' okp hr (by omega)) (tas_cons (te_ld (te_name (i := 8) rfl)) (tas_cons (te_name (i := 12) rfl) (tas_cons (te_name (i := 7) rfl) (tas_cons (te_name (i := 13) rfl) tas_nil)))) ⟨wb, a, b, _, rfl, ok, hT0, hf, rfl⟩))) fun h11 => (tw_or1 (tt_cmp (te_fn (Kd.kn Ds oks hr (by omega)) (tas_cons (te_ld (te_name (i := 8) rfl)) (tas_cons (te_name (i := 12) rfl) (tas_cons (te_name (i := 7) rfl) (tas_cons (te_name (i := 13) rfl) tas_nil)))) ⟨wb, a, b, _, rfl, ok, ha, hb, hT0, rfl⟩) te_bl d2_notB)))) (fun c12' => ?_) (fun c13' => ?_)
      · exact absurd c12' (by decide)
      · refine st_done ?_ rfl
        refine st_if (tt_w (tw_and (q := false) (tt_notN (te_name (i := 14) rfl)) fun h14 => (tw_and1 (tt_cmpP (Pb := (· = false)) (P := fun y => ∃ v : Int, y = dI v ∧ v ≤ n) (P2 := fun _ y => y = dI n)
          (te_ixP (P := fun y => ∃ ks : List (NestedKey × Int), y = .n (ks.map fun q => (q.1, .int q.2)) ∧ ∃ v, findK (ks.map fun q => (q.1, PyData.int q.2)) (kPair (a, b)) = some (.int v) ∧ v ≤ n) (P2 := fun _ y => y = .d (.tuple [.int a, .int b])) (te_fn (Kd.kn Dc okc hr (by omega)) (tas_cons (te_ld (te_name (i := 8) rfl)) (tas_cons (te_ix (te_name (i := 13) rfl) te_int (dix_tup (d := .list (ss.map dStep)) rfl)) tas_nil)) ⟨wb, a, b, n, ss, rfl, ok, hU, rfl⟩) (fun _ _ => te_tup (ds := [.int a, .int b]) (tds_cons (te_name (i := 12) rfl) (tds_cons (te_name (i := 7) rfl) tds_nil)) (by simp)) fun x y e1 e2 => ?_)
          (fun _ _ => te_name (i := 14) rfl) fun x y e1 e2 => ?_)))) (fun c15 => ?_) (fun c16 => ?_)
        · obtain ⟨ks, rfl, v, hv, hvn⟩ := e1
          subst e2
          exact (dix_dict (kPair_is (a, b)) rfl hv).weak fun z e => ⟨v, e, hvn⟩
        · obtain ⟨v, rfl, hvn⟩ := e1
          subst e2
          exact d2_gt.weak fun z e => ⟨_, e, decide_eq_false (by omega)⟩
        · exact Bool.noConfusion (show true = false from c15)
        · refine st_done ?_ rfl
          exact hd _ _
abbrev PD (t : Int) : Dd → Prop := fun y => ∃ i, y = dI i ∧ 0 ≤ i ∧ i < t
theorem te_draw {cdv : Value} {A : Around} {outer : List Env} {s0 : Shared} {Hx : Hp} {E : XK} {j : Jar} {sl : List Sd} {e : Expr} {t : Int} {pos pp p1 : Pos} (Fa : Facts P w K mg base k) (hr : Room (k + 5) (XL P w K mg base f cdv A outer s0 Hx E).A) (h1 : sl[1]? = some (.d .jar)) (he : Te (XL P w K mg base f cdv A outer s0 Hx E) (some j) e sl (dI t)) (ht : 0 < t) (ht2 : t < 2 ^ 64)
    (hs : starEach [e] (XL P w K mg base f cdv A outer s0 Hx E).env = (false, eval e (XL P w K mg base f cdv A outer s0 Hx E).env) :: starEach [] (XL P w K mg base f cdv A outer s0 Hx E).env := by rfl)
    (hs2 : starEach (.Name "_law_jar_here" p1 :: [e]) (XL P w K mg base f cdv A outer s0 Hx E).env = (false, eval (.Name "_law_jar_here" p1) (XL P w K mg base f cdv A outer s0 Hx E).env) :: starEach [e] (XL P w K mg base f cdv A outer s0 Hx E).env := by rfl)
    (hpl : (backTo pos (starEach [e] (XL P w K mg base f cdv A outer s0 Hx E).env)).any (·.1) = false := by rfl) :
    TeP (XL P w K mg base f cdv A outer s0 Hx E) (some j) (.Call (.Name "_law_draw" pp) [.Name "_law_jar_here" p1, e] [] pos) sl (PD t) := by
  obtain ⟨fd, fdd, Dd'⟩ := Fa.draw
  exact te_fn (Kd.kn Dd' (ok_draw (k := k) Dd' Fa.M) hr (by omega)) (tas_cons (te_name (i := 1) h1) (tas_cons he tas_nil hs) hs2) ⟨j, t, rfl, rfl, ht, ht2, rfl⟩ rfl (by decide) hs2 hpl
theorem law_loop {cdv : Value} {A : Around} {outer : List Env} {s0 : Shared} {Hx : Hp} {E : XK} (Fa : Facts P w K mg base k) (hr : Room (k + 5) (XL P w K mg base f cdv A outer s0 Hx E).A) {j : Jar} {B0 H0 U : Hp} {wb : Web} {s spot : Int} {p : Bool} {c0 c4 c5 c6 c7 : Sd} {D : Ends} (lw : LawWeb s spot wb) (hq : ∀ H', D.rt (.bl true) H') :
    St (XL P w K mg base f cdv A outer s0 Hx E) (some j) B0 H0 U [c0, .d .jar, .d (dI s), .d (dB p), c4, c5, c6, c7, .d (.l (wb.map dRow)), .no, .no, .no, .no, .no, .no, .no] ((defBody sLaw).drop 11) D := by
  have M := Fa.M
  have hpos := lw.pos
  have hlow := lw.low
  obtain ⟨fo, fdo, Do, oko⟩ := Fa.of
  refine st_for (ts := List.range (bif p then 1 else 3 : Int).toNat) (enc := fun i => .int (i : Nat)) (fun i sl => ∃ c7 c9 c10 c11 c12 c13 c14, sl = [c0, .d .jar, .d (dI s), .d (dB p), c4, c5, c6, c7, .d (.l (wb.map dRow)), c9, c10, c11, c12, c13, c14, .no]) (ti_range (te_is (te_if (tt_val (te_name (i := 3) rfl)) (fun h7 => te_int) fun h7 => te_int) (show _ = dI (bif p then 1 else 3) from by cases p <;> rfl)) (by cases p <;> decide) M.range) (pgn 9 scLaw.nd) ⟨_, _, _, _, _, _, _, rfl⟩ (fun i t sl1 ht e => ?_) (fun sl1 e => ?_)
  · obtain ⟨c7, c9, c10, c11, c12, c13, c14, rfl⟩ := e
    refine ⟨_, _, tg_name, tk_set, fun U' eU => ?_⟩
    refine st_set 10 (te_draw Fa hr rfl (te_name (i := 2) rfl) hpos (by omega)) (fun x e => ?_)
    obtain ⟨h, rfl, hh0, hh1⟩ := e
    refine st_set 11 (P := PD (2 * s)) (te_fnW (Ps := fun xs => ∃ t, 0 ≤ t ∧ t < 2 * s ∧ xs = [.jar, .d (.list [.int (h + s), .int t])]) (Kd.kn Do oko hr (by omega)) (tas_consP (P := fun y => y = Dd.jar) (te_name (i := 1) rfl) fun x0 e0 => tas_oneP (te_ldP (P := fun xs => ∃ t, 0 ≤ t ∧ t < 2 * s ∧ xs = [PyData.int (h + s), .int t]) (te_lP (tl_lstP (tas_consP (P := fun y => y = dI (h + s)) (te_op (te_name (i := 10) rfl) (te_name (i := 2) rfl) d2_add) fun x1 e1 => tas_oneP (te_draw Fa hr rfl (te_op te_int (te_name (i := 2) rfl) (d2_mulS (.inl ⟨by decide, by decide⟩))) (by omega) (by omega)) fun x2 e2 => ?_)))) fun x3 e3 => ?_) fun xs e => ?_) (fun x e => ?_)
    · subst e1
      obtain ⟨t', rfl, t0, t1⟩ := e2
      exact ⟨[.int (h + s), .int t'], rfl, by simp, t', t0, t1, rfl⟩
    · subst e0
      obtain ⟨xs, rfl, t', t0, t1, rfl⟩ := e3
      exact ⟨t', t0, t1, rfl⟩
    · obtain ⟨t', t0, t1, rfl⟩ := e
      refine ⟨_, ⟨j, _, rfl, rfl, by simp, by simp, rfl⟩, fun y ⟨d, hd, e⟩ => ?_⟩
      rcases List.mem_cons.mp hd with e1 | hd
      · exact ⟨h + s, by rw [e, e1], by omega, by omega⟩
      · exact ⟨t', by rw [e, List.mem_singleton.mp hd], t0, t1⟩
    obtain ⟨tt, rfl, t0, t1⟩ := e
    have hin : ∀ x, 0 ≤ x → x < 2 * s → inW wb x := fun x h0 h1 => ⟨h0, by rw [lw.len]; exact h1⟩
    have few := lw.few (a := h) (b := tt) ⟨hh0, hh1⟩ ⟨t0, t1⟩
    refine st_for (ts := [(h, tt), (tt, h)]) (enc := dPair) (fun i sl => ∃ c7 c12 c13 c14, sl = [c0, .d .jar, .d (dI s), .d (dB p), c4, c5, c6, c7, .d (.l (wb.map dRow)), .d (.d (.int (t : Nat))), .d (dI h), .d (dI tt), c12, c13, c14, .no]) (ti_list (te_l (tl_lst (tds_cons (te_tup (tds_cons (te_name (i := 10) rfl) (tds_cons (te_name (i := 11) rfl) tds_nil)) (by simp)) (tds_cons (te_tup (tds_cons (te_name (i := 11) rfl) (tds_cons (te_name (i := 10) rfl) tds_nil)) (by simp)) tds_nil)) (by simp)))) (pg_tup (n := 2) rfl (pgs_cons (pgn 12 scLaw.nd) (pgs_cons (pgn 7 scLaw.nd) pgs_nil))) ⟨_, _, _, _, rfl⟩ (fun i2 q sl2 hq2 e2 => ?_) (fun sl2 e2 => ?_)
    · obtain ⟨c7', c12', c13', c14', rfl⟩ := e2
      refine ⟨_, _, (tg_tup (tgs_cons tg_name (tgs_cons tg_name tgs_nil))), tk_cons tk_set (tk_cons tk_set tk_nil), fun U2 eU2 => ?_⟩
      have two : ∀ a b, inW wb a → inW wb b → (∀ ps, LikeOk wb a b ps → ps.length ≤ 1200) → ∀ D' : Ends, D'.rt = D.rt → (∀ (x y : Dd), St (XL P w K mg base f cdv A outer s0 Hx E) (some j) B0 H0 U2 [c0, .d .jar, .d (dI s), .d (dB p), c4, c5, c6, .d (dI b), .d (.l (wb.map dRow)), .d (.d (.int (t : Nat))), .d (dI h), .d (dI tt), .d (dI a), .d x, .d y, .no] [] D') →
          St (XL P w K mg base f cdv A outer s0 Hx E) (some j) B0 H0 U2 [c0, .d .jar, .d (dI s), .d (dB p), c4, c5, c6, .d (dI b), .d (.l (wb.map dRow)), .d (.d (.int (t : Nat))), .d (dI h), .d (dI tt), .d (dI a), c13', c14', .no] (bodyAt ((bodyAt ((defBody sLaw).getD 11 (.Pass ⟨0, 0, 0, 0⟩))).getD 2 (.Pass ⟨0, 0, 0, 0⟩))) D' :=
        fun a b ha hb hf D' _ hd => law_pair Fa hr lw.ok ha hb hf hd
      match i2, hq2 with
      | 0, hq2 =>
        cases hq2
        exact two h tt (hin h hh0 (by omega)) (hin tt t0 t1) few.1 _ rfl fun x y => st_nil fun σ B H hF => ⟨_, B, ⟨_, _, _, _, rfl⟩, hF⟩
      | 1, hq2 =>
        cases hq2
        exact two tt h (hin tt t0 t1) (hin h hh0 (by omega)) few.2 _ rfl fun x y => st_nil fun σ B H hF => ⟨_, B, ⟨_, _, _, _, rfl⟩, hF⟩
    · obtain ⟨c7', c12', c13', c14', rfl⟩ := e2
      exact st_nil fun σ B H hF => ⟨_, B, ⟨_, _, _, _, _, _, _, rfl⟩, hF⟩
  · obtain ⟨c7, c9, c10, c11, c12, c13, c14, rfl⟩ := e
    exact st_ret te_bl fun v G H' y g d e => by
      subst e
      cases d
      exact hq H'
/-! the webs -/
def ringOf (s : Int) : Web := (List.range s.toNat).map fun i : Nat => [((i : Int) + 1) % s]
structure RingLike (s : Int) (A : Web) : Prop where
  len : A.length = s.toNat
  row : ∀ x, 0 ≤ x → x < s → gW A x = [] ∨ gW A x = [(x + 1) % s]
theorem gW_get {w : Web} {x : Int} (h0 : 0 ≤ x) (h1 : x.toNat < w.length) : gW w x = w[x.toNat] := by
  unfold gW
  rw [List.getD_eq_getElem?_getD, List.getElem?_eq_getElem h1]
  rfl
theorem ring_like {s : Int} (hs : 0 < s) : RingLike s (ringOf s) := by
  have hl : (ringOf s).length = s.toNat := by unfold ringOf; rw [List.length_map, List.length_range]
  refine ⟨hl, fun x h0 h1 => .inr ?_⟩
  rw [gW_get h0 (by rw [hl]; omega)]
  unfold ringOf
  rw [List.getElem_map, List.getElem_range]
  have : ((x.toNat : Nat) : Int) = x := by omega
  rw [this]
theorem chain_like {s : Int} {A : Web} (h : RingLike s A) (c : Nat) : RingLike s (A.set c []) := by
  refine ⟨by rw [List.length_set]; exact h.len, fun x h0 h1 => ?_⟩
  have hx : x.toNat < A.length := by rw [h.len]; omega
  rw [gW_get h0 (by rw [List.length_set]; exact hx)]
  by_cases e : c = x.toNat
  · left
    subst e
    rw [List.getElem_set_self]
  · rw [List.getElem_set_ne e]
    rw [← gW_get h0 hx]
    exact h.row x h0 h1
/-- the second web: as the first, or bent at spot -/
structure Bent (s spot : Int) (A B : Web) : Prop where
  len : B.length = s.toNat
  row : ∀ x, 0 ≤ x → x < s → gW B x = gW A x ∨ (x = spot ∧ (gW B x = [] ∨ gW B x = [spot] ∨ (s < 25 ∧ (gW B x = gW A spot ++ [0] ∨ gW B x = gW A spot ++ [spot]))))
def wholeOf (s : Int) (A B : Web) : Web := A ++ B.map fun r => r.map fun x => x + s
theorem bent_law {s spot : Int} {A B : Web} (hs : 0 < s) (hl : s ≤ 250) (sp : 0 ≤ spot ∧ spot < s) (hA : RingLike s A) (hB : Bent s spot A B) : LawWeb s spot (wholeOf s A B) := by
  have hm : ∀ x : Int, 0 ≤ x % s ∧ x % s < s := fun x => ⟨Int.emod_nonneg _ (by omega), Int.emod_lt_of_pos _ hs⟩
  have hlA := hA.len
  have hlB := hB.len
  have hlen : (wholeOf s A B).length = 2 * s.toNat := by
    unfold wholeOf
    rw [List.length_append, List.length_map, hlA, hlB]
    omega
  have gA : ∀ x, 0 ≤ x → x < s → gW (wholeOf s A B) x = gW A x := fun x h0 h1 => by
    rw [gW_get h0 (by rw [hlen]; omega), gW_get h0 (by rw [hlA]; omega)]
    exact List.getElem_append_left _
  have gB : ∀ y, s ≤ y → y < 2 * s → gW (wholeOf s A B) y = (gW B (y - s)).map fun x => x + s := fun y h0 h1 => by
    have hi : (y - s).toNat < B.length := by rw [hlB]; omega
    unfold gW wholeOf
    rw [List.getD_eq_getElem?_getD, List.getD_eq_getElem?_getD, List.getElem?_append_right (by rw [hlA]; omega), List.getElem?_map, show y.toNat - A.length = (y - s).toNat from by rw [hlA]; omega, List.getElem?_eq_getElem hi]
    rfl
  have rowA : ∀ x, 0 ≤ x → x < s → ∀ z ∈ gW A x, z = (x + 1) % s := fun x h0 h1 z hz => by
    rcases hA.row x h0 h1 with e | e
    · rw [e] at hz; cases hz
    · rw [e] at hz; exact List.mem_singleton.mp hz
  have lenA : ∀ x, 0 ≤ x → x < s → (gW A x).length ≤ 1 := fun x h0 h1 => by
    rcases hA.row x h0 h1 with e | e <;> rw [e] <;> simp
  have rowB : ∀ x, 0 ≤ x → x < s → ∀ z ∈ gW B x, 0 ≤ z ∧ z < s := fun x h0 h1 z hz => by
    rcases hB.row x h0 h1 with e | ⟨e0, e | e | ⟨_, e | e⟩⟩
    · rw [e] at hz
      rw [rowA x h0 h1 z hz]
      exact hm _
    · rw [e] at hz; cases hz
    · rw [e] at hz; rw [List.mem_singleton.mp hz]; exact sp
    · rw [e] at hz
      rcases List.mem_append.mp hz with hz | hz
      · rw [rowA spot sp.1 sp.2 z hz]; exact hm _
      · rw [List.mem_singleton.mp hz]; omega
    · rw [e] at hz
      rcases List.mem_append.mp hz with hz | hz
      · rw [rowA spot sp.1 sp.2 z hz]; exact hm _
      · rw [List.mem_singleton.mp hz]; exact sp
  have lenB : ∀ x, 0 ≤ x → x < s → (gW B x).length ≤ 2 := fun x h0 h1 => by
    have h2 := lenA spot sp.1 sp.2
    rcases hB.row x h0 h1 with e | ⟨e0, e | e | ⟨_, e | e⟩⟩
    · rw [e]; exact Nat.le_trans (lenA x h0 h1) (by decide)
    · rw [e]; simp
    · rw [e]; simp
    · rw [e, List.length_append, List.length_singleton]; omega
    · rw [e, List.length_append, List.length_singleton]; omega
  have each : ∀ r ∈ wholeOf s A B, ∃ y, 0 ≤ y ∧ y < 2 * s ∧ r = gW (wholeOf s A B) y := fun r hr => by
    obtain ⟨i, hi, e⟩ := List.getElem_of_mem hr
    rw [hlen] at hi
    refine ⟨(i : Int), by omega, by omega, ?_⟩
    rw [gW_get (by omega) (by rw [Int.toNat_natCast, hlen]; exact hi)]
    exact e.symm
  have inAll : ∀ y, 0 ≤ y → y < 2 * s → ∀ z ∈ gW (wholeOf s A B) y, 0 ≤ z ∧ z < 2 * s := fun y h0 h1 z hz => by
    by_cases c : y < s
    · rw [gA y h0 c] at hz
      have := rowA y h0 c z hz
      have := hm (y + 1)
      omega
    · rw [gB y (by omega) h1] at hz
      obtain ⟨x, hx, rfl⟩ := List.mem_map.mp hz
      have := rowB (y - s) (by omega) (by omega) x hx
      omega
  refine ⟨⟨by rw [hlen]; omega, by rw [hlen]; omega, fun r hr z hz => ?_, fun r hr => ?_⟩, hs, hl, sp, by rw [hlen]; omega, fun x h0 h1 z hz => ?_, fun y h0 h1 z hz => ?_, fun h25 => ?_⟩
  · obtain ⟨y, h0, h1, rfl⟩ := each r hr
    have := inAll y h0 h1 z hz
    rw [hlen]
    omega
  · obtain ⟨y, h0, h1, rfl⟩ := each r hr
    by_cases c : y < s
    · rw [gA y h0 c]
      exact Nat.le_trans (lenA y h0 c) (by decide)
    · rw [gB y (by omega) h1, List.length_map]
      exact Nat.le_trans (lenB (y - s) (by omega) (by omega)) (by decide)
  · rw [gA x h0 h1] at hz
    exact rowA x h0 h1 z hz
  · rw [gB y h0 h1] at hz
    obtain ⟨x, hx, rfl⟩ := List.mem_map.mp hz
    have := rowB (y - s) (by omega) (by omega) x hx
    omega
  · by_cases c : gW B spot = gW A spot
    · left
      intro y h0 h1 z hz
      rw [gB y h0 h1] at hz
      obtain ⟨x, hx, rfl⟩ := List.mem_map.mp hz
      have e : gW B (y - s) = gW A (y - s) := by
        rcases hB.row (y - s) (by omega) (by omega) with e | ⟨e0, _⟩
        · exact e
        · rw [e0]; exact c
      rw [e] at hx
      rw [rowA (y - s) (by omega) (by omega) x hx]
      omega
    · right
      intro y h0 h1 z hz
      rw [gB y h0 h1] at hz
      obtain ⟨x, hx, rfl⟩ := List.mem_map.mp hz
      rcases hB.row (y - s) (by omega) (by omega) with e | ⟨e0, e | e | ⟨e1, _⟩⟩
      · left
        refine ⟨fun z => c (by rw [show y - s = spot by omega] at e; exact e), ?_⟩
        rw [e] at hx
        rw [rowA (y - s) (by omega) (by omega) x hx]
        omega
      · rw [e] at hx; cases hx
      · rw [e] at hx
        exact .inr ⟨by omega, by rw [List.mem_singleton.mp hx]; omega⟩
      · omega
theorem map_set_row (A : Web) (c : Nat) (r : List Int) : (A.map dRow).set c (dRow r) = (A.set c r).map dRow := by rw [List.map_set]
end
end SH

set_option Elab.async false
set_option linter.all false
set_option maxRecDepth 100000
set_option maxHeartbeats 1600000
/-! K58y: the law from its head. -/
namespace SH
open PySem PySem.Spec PyProof.Rows L2 PySem.W Evl
section
variable {P : Program} {w : World} {K : PySem.W.Frag} {mg : Str → Option Value} {base : Heap} {f : Addr} {k : Nat}
variable {cdv : Value} {A0 : Around} {outer : List Env} {s0 : Shared} {Hx : Hp} {E : XK} {j : Jar} {B0 H0 U : Hp} {D : Ends}
theorem law_whole (Fa : Facts P w K mg base k) (hr : Room (k + 5) (XL P w K mg base f cdv A0 outer s0 Hx E).A) {A B : Web} {s spot : Int} {p : Bool} {c0 c7 : Sd} (hs : 0 < s) (hl : s ≤ 250) (sp : 0 ≤ spot ∧ spot < s) (hA : RingLike s A) (hB : Bent s spot A B) (hq : ∀ H', D.rt (.bl true) H') :
    St (XL P w K mg base f cdv A0 outer s0 Hx E) (some j) B0 H0 U [c0, .d .jar, .d (dI s), .d (dB p), .d (.l (A.map dRow)), .ol (B.map dRow), .d (dI spot), c7, .no, .no, .no, .no, .no, .no, .no, .no] ((defBody sLaw).drop 10) D := by
  have M := Fa.M
  have hlA := hA.len
  have hlB := hB.len
  refine st_frz 5 rfl ?_
  refine st_set 8 (P := (· = .l ((wholeOf s A B).map dRow))) (te_is (te_op (te_name (i := 4) rfl) (te_ll (tl_lc (f := fun r => dRow (r.map fun x => x + s)) (own := [("_law_row", 15)]) (ti_list (te_ld (te_name (i := 5) rfl))) (by omega) (blkOk_by rfl) (fun s H C cl fp => (pgn 15 scLaw.nd)) fun r hr => ⟨_, _, tg_name, by simp, fun s' H C cl fp => te_is (te_callTy (tas_cons (te_l (tl_lc (f := fun x => .int (x + s)) (own := [("_law_one", 12)]) (ti_tup (te_name (i := 15) rfl)) ?hlr (blkOk_by rfl) (fun s H C cl fp => (pgn 12 scLaw.nd)) fun x hx => ⟨_, _, tg_name, by simp, fun s H C cl fp => (te_op (te_name (i := 12) rfl) (te_name (i := 2) rfl) d2_add)⟩)) tas_nil) dc_tupL M.tuple boot_tuple) (show _ = Dd.d (.tuple ((r.map fun x => x + s).map .int)) from by rw [List.map_map]; rfl)⟩)) (d2_cat (by rw [List.length_map, List.length_map]; omega))) (by unfold wholeOf; rw [List.map_append, List.map_map]; rfl)) (fun x e => ?_)
  case hlr =>
    have := (bent_law hs hl sp hA hB).ok.len
    obtain ⟨i, hi, e⟩ := List.getElem_of_mem hr
    have h2 := this (r.map fun x => x + s) (by unfold wholeOf; exact List.mem_append_right _ (List.mem_map.mpr ⟨r, hr, rfl⟩))
    rw [List.length_map] at h2
    omega
  subst e
  exact law_loop Fa hr (bent_law hs hl sp hA hB) hq
theorem law_bend (Fa : Facts P w K mg base k) (hr : Room (k + 5) (XL P w K mg base f cdv A0 outer s0 Hx E).A) {A : Web} {s : Int} {p : Bool} {c0 : Sd} (hs : 0 < s) (hl : s ≤ 250) (hA : RingLike s A) (hq : ∀ H', D.rt (.bl true) H') :
    St (XL P w K mg base f cdv A0 outer s0 Hx E) (some j) B0 H0 U [c0, .d .jar, .d (dI s), .d (dB p), .ol (A.map dRow), .no, .no, .no, .no, .no, .no, .no, .no, .no, .no, .no] ((defBody sLaw).drop 6) D := by
  have M := Fa.M
  obtain ⟨fo, fdo, Do, oko⟩ := Fa.of
  have hlA := hA.len
  refine st_frz 4 rfl ?_
  refine st_setL 5 (tl_list (te_ld (te_name (i := 4) rfl)) (.inl rfl) M.list) (fun xs e => ?_)
  subst e
  refine st_set 6 (te_draw Fa hr rfl (te_name (i := 2) rfl) hs (by omega)) (fun x e => ?_)
  obtain ⟨spot, rfl, sp0, sp1⟩ := e
  have hix : atI (A.map dRow) spot = some (dRow (gW A spot)) := ixW sp0 (by rw [hlA]; omega)
  have hlen1 : (gW A spot).length ≤ 1 := by rcases hA.row spot sp0 sp1 with e | e <;> rw [e] <;> simp
  -- the two rows that may be taken, too
  let two : Web := if s < 25 then [gW A spot ++ [0], gW A spot ++ [spot]] else []
  have htwo : two.length ≤ 2 := by
    show (if s < 25 then [gW A spot ++ [0], gW A spot ++ [spot]] else []).length ≤ 2
    split <;> simp
  refine st_set 7 (P := (· = .l (two.map dRow))) (te_is (te_op (te_ll (tl_lst (ds := [dRow (gW A spot ++ [0]), dRow (gW A spot ++ [spot])]) (tds_cons (te_is (te_op (te_ixO (i := 5) rfl (te_name (i := 6) rfl) hix) (te_tup (ds := [.int 0]) (tds_cons te_int tds_nil) (by simp)) (d2_catT (by rw [List.length_map]; simp; omega))) (show _ = Dd.d (dRow (gW A spot ++ [0])) from by rw [show dRow (gW A spot ++ [0]) = .tuple ((gW A spot ++ [0]).map .int) from rfl, List.map_append]; rfl)) (tds_cons (te_is (te_op (te_ixO (i := 5) rfl (te_name (i := 6) rfl) hix) (te_tup (ds := [.int spot]) (tds_cons (te_name (i := 6) rfl) tds_nil) (by simp)) (d2_catT (by rw [List.length_map]; simp; omega))) (show _ = Dd.d (dRow (gW A spot ++ [spot])) from by rw [show dRow (gW A spot ++ [spot]) = .tuple ((gW A spot ++ [spot]).map .int) from rfl, List.map_append]; rfl)) tds_nil)) (by simp)))
    (te_is (te_callTy (tas_cons (te_cmp (te_name (i := 2) rfl) te_int d2_lt) tas_nil) dc_intB M.int boot_int) (show _ = dI ((if s < 25 then 1 else 0 : Nat) : Int) from by by_cases z : s < 25 <;> simp [z])) (d2_rep (by simp; split <;> omega) (by split <;> omega))) (by
      show Dd.l _ = Dd.l ((if s < 25 then [gW A spot ++ [0], gW A spot ++ [spot]] else []).map dRow)
      by_cases z : s < 25 <;> simp [z])) (fun x e => ?_)
  subst e
  refine st_if (tt_cmpP (Pb := fun _ => True) (P := PD 3) (P2 := fun _ y => y = dI 0) (te_draw Fa hr rfl te_int (by decide) (by decide)) (fun _ _ => te_int) fun x y e1 e2 => ?_) (fun c5 => ?_) (fun c6 => ?_)
  · obtain ⟨i, rfl, _⟩ := e1
    subst e2
    exact d2_gt.weak fun z e => ⟨_, e, trivial⟩
  · refine st_putLP (c := spot.toNat) (P := fun y => ∃ r, y = .d (dRow r) ∧ (r = [] ∨ r = [spot] ∨ r ∈ two)) 5 rfl (te_fnW (Ps := fun xs => xs = [.jar, .d (.list (([[], [spot]] ++ two).map dRow))]) (Kd.kn Do oko hr (by omega)) (tas_cons (te_name (i := 1) rfl) (tas_cons (te_ld (te_is (te_op (te_ll (tl_lst (ds := [dRow [], dRow [spot]]) (tds_cons (te_tup (ds := []) tds_nil (by simp)) (tds_cons (te_tup (ds := [.int spot]) (tds_cons (te_name (i := 6) rfl) tds_nil) (by simp)) tds_nil)) (by simp))) (te_name (i := 7) rfl) (d2_cat (by rw [List.length_map]; simp; omega))) (show _ = Dd.l (([[], [spot]] ++ two).map dRow) from by rw [List.map_append]; rfl))) tas_nil)) (fun xs e => ?_)) (fun x ⟨r, e, _⟩ => ⟨_, e⟩) (te_name (i := 6) rfl) ?_ (fun d e => ?_)
    · subst e
      refine ⟨_, ⟨j, _, rfl, rfl, by simp, by rw [List.length_map]; simp; omega, rfl⟩, fun y ⟨d, hd, e⟩ => ?_⟩
      obtain ⟨r, hr', rfl⟩ := List.mem_map.mp hd
      refine ⟨r, e, ?_⟩
      rcases List.mem_append.mp hr' with h | h
      · rcases List.mem_cons.mp h with h | h
        · exact .inl h
        · exact .inr (.inl (List.mem_singleton.mp h))
      · exact .inr (.inr h)
    · rw [List.length_map, hlA]
      unfold ixN
      rw [if_pos sp0, if_pos (by omega)]
    · obtain ⟨r, e, hr'⟩ := e
      cases e
      rw [map_set_row]
      refine st_done ?_ rfl
      have hsi : spot.toNat < A.length := by rw [hlA]; omega
      refine law_whole Fa hr hs hl ⟨sp0, sp1⟩ hA ⟨by rw [List.length_set]; exact hlA, fun x h0 h1 => ?_⟩ hq
      have hxl : x.toNat < A.length := by rw [hlA]; omega
      by_cases c : x = spot
      · right
        subst c
        have e : gW (A.set x.toNat r) x = r := by rw [gW_get h0 (by rw [List.length_set]; exact hxl), List.getElem_set_self]
        rw [e]
        refine ⟨rfl, ?_⟩
        rcases hr' with h | h | h
        · exact .inl h
        · exact .inr (.inl h)
        · right; right
          have h : r ∈ (if s < 25 then [gW A x ++ [0], gW A x ++ [x]] else []) := h
          by_cases z : s < 25
          · rw [if_pos z] at h
            refine ⟨z, ?_⟩
            rcases List.mem_cons.mp h with h | h
            · exact .inl h
            · exact .inr (List.mem_singleton.mp h)
          · rw [if_neg z] at h
            cases h
      · left
        rw [gW_get h0 (by rw [List.length_set]; exact hxl), List.getElem_set_ne (by omega), gW_get h0 hxl]
  · refine st_done ?_ rfl
    exact law_whole Fa hr hs hl ⟨sp0, sp1⟩ hA ⟨hlA, fun x _ _ => .inl rfl⟩ hq
theorem law_webs (Fa : Facts P w K mg base k) (hr : Room (k + 5) (XL P w K mg base f cdv A0 outer s0 Hx E).A) {s : Int} {p : Bool} {c0 : Sd} (hs : 0 < s) (hl : s ≤ 250) (hq : ∀ H', D.rt (.bl true) H') :
    St (XL P w K mg base f cdv A0 outer s0 Hx E) (some j) B0 H0 U [c0, .d .jar, .d (dI s), .d (dB p), .no, .no, .no, .no, .no, .no, .no, .no, .no, .no, .no, .no] ((defBody sLaw).drop 4) D := by
  have M := Fa.M
  refine st_setLc 4 (f := fun i : Nat => dRow [((i : Int) + 1) % s]) (own := [("_law_spot", 6)]) (ti_range (te_name (i := 2) rfl) (by omega) M.range) (by rw [List.length_range]; omega) (blkOk_by rfl) (fun s H C cl fp => (pgn 6 scLaw.nd)) (fun i hi => ⟨_, _, tg_name, by simp, fun s H C cl fp => (te_tup (tds_cons (te_op (te_op (te_name (i := 6) rfl) te_int d2_add) (te_name (i := 2) rfl) (d2_mod hs)) tds_nil) (by simp))⟩) ?_
  have e1 : ((List.range s.toNat).map fun i : Nat => dRow [((i : Int) + 1) % s]) = (ringOf s).map dRow := by
    unfold ringOf
    rw [List.map_map]
    rfl
  rw [e1]
  have hl0 : (ringOf s).length = s.toNat := (ring_like hs).len
  refine st_if (tt_cmpP (Pb := fun _ => True) (P := PD 2) (P2 := fun _ y => y = dI 0) (te_draw Fa hr rfl te_int (by decide) (by decide)) (fun _ _ => te_int) fun x y e1 e2 => ?_) (fun c5 => ?_) (fun c6 => ?_)
  · obtain ⟨i, rfl, _⟩ := e1
    subst e2
    exact d2_eqI.weak fun z e => ⟨_, e, trivial⟩
  · refine st_putL (d := dRow []) (c := s.toNat - 1) 4 rfl (te_tup (ds := []) tds_nil (by simp)) (te_neg te_int) ?_ ?_
    · rw [List.length_map, hl0]
      unfold ixN
      rw [if_neg (by decide), if_pos (by omega)]
      congr 1
      omega
    · rw [map_set_row]
      refine st_done ?_ rfl
      exact law_bend Fa hr hs hl (chain_like (ring_like hs) _) hq
  · refine st_done ?_ rfl
    exact law_bend Fa hr hs hl (ring_like hs) hq
theorem law_head (Fa : Facts P w K mg base k) (hr : Room (k + 5) (XL P w K mg base f cdv A0 outer s0 Hx E).A) {ns : List Int} (hn : ns.length ≤ 63) (hq : ∀ H', D.rt (.bl true) H') :
    St (XL P w K mg base f cdv A0 outer s0 Hx E) none B0 H0 U [.d (.d (.list (ns.map .int))), .no, .no, .no, .no, .no, .no, .no, .no, .no, .no, .no, .no, .no, .no, .no] (defBody sLaw) D := by
  have M := Fa.M
  obtain ⟨fj, fdj, Dj⟩ := Fa.jar
  refine st_setL 1 (tl_fn (R := fun ys => ∃ s : Int, ys = [.list (ns.map .int), .int 0, .int 0, .int s, .int 0] ∧ 0 ≤ s ∧ s < seedTop) (Kd.knL Dj (ok_jar (k := k) Dj M) hr (by omega)) (tas_cons (te_name (i := 0) rfl) tas_nil) ⟨ns, rfl, hn, rfl⟩) (fun ys e => ?_)
  obtain ⟨sd, rfl, h0, h1⟩ := e
  refine st_jar 1 rfl (Int.le_refl 0) (Int.le_refl 0) h0 h1 (fun j => ?_)
  refine st_set 2 (P := fun x => ∃ s, x = dI s ∧ 0 < s ∧ s ≤ 250) (te_opP (P := fun y => y = dI 5) (P2 := fun _ y => PD 56 y) te_int (fun _ _ => te_draw Fa hr rfl te_int (by decide) (by decide)) fun x y e1 e2 => ?_) (fun x e => ?_)
  · subst e1
    obtain ⟨i, rfl, i0, i1⟩ := e2
    exact d2_add.weak fun z e => ⟨_, e, by omega, by omega⟩
  obtain ⟨s, rfl, hs, hl⟩ := e
  refine st_set 3 (P := fun x => ∃ p, x = dB p) (te_cmpP (P := PD 4) (P2 := fun _ y => y = dI 0) (te_draw Fa hr rfl te_int (by decide) (by decide)) (fun _ _ => te_int) fun x y e1 e2 => ?_) (fun x e => ?_)
  · obtain ⟨i, rfl, _⟩ := e1
    subst e2
    exact d2_eqI.weak fun z e => ⟨_, e⟩
  obtain ⟨p, rfl⟩ := e
  refine st_if (tt_val (te_name (i := 3) rfl)) (fun c1 => ?_) (fun c2 => ?_)
  · refine st_set 2 (P := fun x => ∃ s, x = dI s ∧ 0 < s ∧ s ≤ 250) (te_opP (P := fun y => y = dI 130) (P2 := fun _ y => PD 121 y) te_int (fun _ _ => te_draw Fa hr rfl te_int (by decide) (by decide)) fun x y e1 e2 => ?_) (fun x e => ?_)
    · subst e1
      obtain ⟨i, rfl, i0, i1⟩ := e2
      exact d2_add.weak fun z e => ⟨_, e, by omega, by omega⟩
    obtain ⟨s, rfl, hs, hl⟩ := e
    refine st_done ?_ rfl
    exact law_webs Fa hr hs hl hq
  · refine st_done ?_ rfl
    exact law_webs Fa hr hs hl hq
end
end SH

set_option Elab.async false
set_option linter.all false
set_option maxRecDepth 100000
set_option maxHeartbeats 1600000
/-! K58q: the promises joined. -/
namespace SH
open PySem PySem.Spec PyProof.Rows L2 PySem.W Evl
def spLaw (K : PySem.W.Frag) : Sp := fun vs H Q _ => ∃ (a : Addr) (ns : List Int), vs = [.ref a] ∧ SqL K H a (ns.map V.int) ∧ ns.length ≤ 63 ∧ ∀ H', Q (.bl true) H'
section
variable {P : Program} {w : World} {K : PySem.W.Frag} {mg : Str → Option Value} {base : Heap} {f : Addr} {fd : FuncData} {k : Nat}
theorem ok_law (F : L2.Fun K "law" "law" sLaw f fd) (Fa : Facts P w K mg base k) : FnOk P w K mg base CX0 (k + 6) f fd ["_law_script"] (spLaw K) := by
  refine F.ok scLaw (fun vs H Q E h => ?_) (fun cdv A outer s H vs Q E hr h => ?_)
  · obtain ⟨a, ns, rfl, _⟩ := h
    rfl
  · obtain ⟨a, ns, rfl, hS, hl, q⟩ := h
    refine ⟨wSs _ (defBody sLaw), pSs, ?_⟩
    have d : DqAll (XL P w K mg base f cdv A outer s H E) none H [V.ref a] [.d (.list (ns.map .int))] := .cons (Dp.lst hS (dp_ints ns)) .nil
    exact law_head (B0 := H) (H0 := H) (U := H) Fa hr hl q (fit_of scLaw.nd hr) _ H H (start_hold (N := nLaw) (ps := ["_law_script"]) rfl rfl rfl scLaw.pre rfl (Ex.refl H) jar_none d)
theorem kd_mk {h : Heap} {x : Str} {st : Stmt} {ps : List Str} (X : K.In h) (G : h.Ns mainGlobals mg) {f : Addr} {oc : Value} {od an : Option Addr} {osl : Array (Option Value)} {kV doc pm cdv ct : Value} (a : PySem.W.nsIn K mainGlobals x = some (some (.ref f))) (l : K.lookup f = some ⟨oc, od, .func (PySem.W.fnOf x x (defArgs st) (defBody st) (defScope st) .none kV doc pm an cdv ct), osl⟩)
    (c : PySem.W.codeIn K cdv x = true) (kp : PySem.W.keepIn K (.ref f) = true) (hb : ∀ us : List Value, us.length = ps.length → bindArgs (PySem.W.fnOf x x (defArgs st) (defBody st) (defScope st) .none kV doc pm an cdv ct) ⟨us, []⟩ = pure (ps.zip us)) : ∃ f fd, Kd K mg x st ps f fd :=
  ⟨f, _, fun_mk l c kp, PySem.W.mg_of X G a, .all hb⟩
end
theorem all_mk {l : PySem.W.OpenLaw} {w : World} {K : PySem.W.Frag} {h : Heap} {mg : Str → Option Value} {fa : Addr} {tk : Tok} (X : K.In h) (G : h.Ns mainGlobals mg) (hfa : mg "law" = some (.ref fa))
    {f0 : Addr} {od0 an0 : Option Addr} {sl0 : Array (Option Value)} {oc0 kV0 dc0 pm0 cd0 ct0 : Value} (a0 : PySem.W.nsIn K mainGlobals "is_whole" = some (some (.ref f0))) (l0 : K.lookup f0 = some ⟨oc0, od0, .func (PySem.W.fnOf "is_whole" "is_whole" (defArgs sWhole) (defBody sWhole) (defScope sWhole) .none kV0 dc0 pm0 an0 cd0 ct0), sl0⟩) (c0 : PySem.W.codeIn K cd0 "is_whole" = true) (k0 : PySem.W.keepIn K (.ref f0) = true)
    {f1 : Addr} {od1 an1 : Option Addr} {sl1 : Array (Option Value)} {oc1 kV1 dc1 pm1 cd1 ct1 : Value} (a1 : PySem.W.nsIn K mainGlobals "is_row" = some (some (.ref f1))) (l1 : K.lookup f1 = some ⟨oc1, od1, .func (PySem.W.fnOf "is_row" "is_row" (defArgs sRow) (defBody sRow) (defScope sRow) .none kV1 dc1 pm1 an1 cd1 ct1), sl1⟩) (c1 : PySem.W.codeIn K cd1 "is_row" = true) (k1 : PySem.W.keepIn K (.ref f1) = true)
    {f2 : Addr} {od2 an2 : Option Addr} {sl2 : Array (Option Value)} {oc2 kV2 dc2 pm2 cd2 ct2 : Value} (a2 : PySem.W.nsIn K mainGlobals "is_web" = some (some (.ref f2))) (l2 : K.lookup f2 = some ⟨oc2, od2, .func (PySem.W.fnOf "is_web" "is_web" (defArgs sWeb) (defBody sWeb) (defScope sWeb) .none kV2 dc2 pm2 an2 cd2 ct2), sl2⟩) (c2 : PySem.W.codeIn K cd2 "is_web" = true) (k2 : PySem.W.keepIn K (.ref f2) = true)
    {f3 : Addr} {od3 an3 : Option Addr} {sl3 : Array (Option Value)} {oc3 kV3 dc3 pm3 cd3 ct3 : Value} (a3 : PySem.W.nsIn K mainGlobals "next_round" = some (some (.ref f3))) (l3 : K.lookup f3 = some ⟨oc3, od3, .func (PySem.W.fnOf "next_round" "next_round" (defArgs sNext) (defBody sNext) (defScope sNext) .none kV3 dc3 pm3 an3 cd3 ct3), sl3⟩) (c3 : PySem.W.codeIn K cd3 "next_round" = true) (k3 : PySem.W.keepIn K (.ref f3) = true)
    {f4 : Addr} {od4 an4 : Option Addr} {sl4 : Array (Option Value)} {oc4 kV4 dc4 pm4 cd4 ct4 : Value} (a4 : PySem.W.nsIn K mainGlobals "all_rounds" = some (some (.ref f4))) (l4 : K.lookup f4 = some ⟨oc4, od4, .func (PySem.W.fnOf "all_rounds" "all_rounds" (defArgs sAll) (defBody sAll) (defScope sAll) .none kV4 dc4 pm4 an4 cd4 ct4), sl4⟩) (c4 : PySem.W.codeIn K cd4 "all_rounds" = true) (k4 : PySem.W.keepIn K (.ref f4) = true)
    {f5 : Addr} {od5 an5 : Option Addr} {sl5 : Array (Option Value)} {oc5 kV5 dc5 pm5 cd5 ct5 : Value} (a5 : PySem.W.nsIn K mainGlobals "need_web" = some (some (.ref f5))) (l5 : K.lookup f5 = some ⟨oc5, od5, .func (PySem.W.fnOf "need_web" "need_web" (defArgs sNeedW) (defBody sNeedW) (defScope sNeedW) .none kV5 dc5 pm5 an5 cd5 ct5), sl5⟩) (c5 : PySem.W.codeIn K cd5 "need_web" = true) (k5 : PySem.W.keepIn K (.ref f5) = true)
    {f6 : Addr} {od6 an6 : Option Addr} {sl6 : Array (Option Value)} {oc6 kV6 dc6 pm6 cd6 ct6 : Value} (a6 : PySem.W.nsIn K mainGlobals "need_row" = some (some (.ref f6))) (l6 : K.lookup f6 = some ⟨oc6, od6, .func (PySem.W.fnOf "need_row" "need_row" (defArgs sNeedR) (defBody sNeedR) (defScope sNeedR) .none kV6 dc6 pm6 an6 cd6 ct6), sl6⟩) (c6 : PySem.W.codeIn K cd6 "need_row" = true) (k6 : PySem.W.keepIn K (.ref f6) = true)
    {f7 : Addr} {od7 an7 : Option Addr} {sl7 : Array (Option Value)} {oc7 kV7 dc7 pm7 cd7 ct7 : Value} (a7 : PySem.W.nsIn K mainGlobals "round_of" = some (some (.ref f7))) (l7 : K.lookup f7 = some ⟨oc7, od7, .func (PySem.W.fnOf "round_of" "round_of" (defArgs sRoundOf) (defBody sRoundOf) (defScope sRoundOf) .none kV7 dc7 pm7 an7 cd7 ct7), sl7⟩) (c7 : PySem.W.codeIn K cd7 "round_of" = true) (k7 : PySem.W.keepIn K (.ref f7) = true)
    {f8 : Addr} {od8 an8 : Option Addr} {sl8 : Array (Option Value)} {oc8 kV8 dc8 pm8 cd8 ct8 : Value} (a8 : PySem.W.nsIn K mainGlobals "first_unlike" = some (some (.ref f8))) (l8 : K.lookup f8 = some ⟨oc8, od8, .func (PySem.W.fnOf "first_unlike" "first_unlike" (defArgs sFirst) (defBody sFirst) (defScope sFirst) .none kV8 dc8 pm8 an8 cd8 ct8), sl8⟩) (c8 : PySem.W.codeIn K cd8 "first_unlike" = true) (k8 : PySem.W.keepIn K (.ref f8) = true)
    {f9 : Addr} {od9 an9 : Option Addr} {sl9 : Array (Option Value)} {oc9 kV9 dc9 pm9 cd9 ct9 : Value} (a9 : PySem.W.nsIn K mainGlobals "like_pairs" = some (some (.ref f9))) (l9 : K.lookup f9 = some ⟨oc9, od9, .func (PySem.W.fnOf "like_pairs" "like_pairs" (defArgs sLike) (defBody sLike) (defScope sLike) .none kV9 dc9 pm9 an9 cd9 ct9), sl9⟩) (c9 : PySem.W.codeIn K cd9 "like_pairs" = true) (k9 : PySem.W.keepIn K (.ref f9) = true)
    {f10 : Addr} {od10 an10 : Option Addr} {sl10 : Array (Option Value)} {oc10 kV10 dc10 pm10 cd10 ct10 : Value} (a10 : PySem.W.nsIn K mainGlobals "parting" = some (some (.ref f10))) (l10 : K.lookup f10 = some ⟨oc10, od10, .func (PySem.W.fnOf "parting" "parting" (defArgs sParting) (defBody sParting) (defScope sParting) .none kV10 dc10 pm10 an10 cd10 ct10), sl10⟩) (c10 : PySem.W.codeIn K cd10 "parting" = true) (k10 : PySem.W.keepIn K (.ref f10) = true)
    {f11 : Addr} {od11 an11 : Option Addr} {sl11 : Array (Option Value)} {oc11 kV11 dc11 pm11 cd11 ct11 : Value} (a11 : PySem.W.nsIn K mainGlobals "pairs_needed" = some (some (.ref f11))) (l11 : K.lookup f11 = some ⟨oc11, od11, .func (PySem.W.fnOf "pairs_needed" "pairs_needed" (defArgs sNeeded) (defBody sNeeded) (defScope sNeeded) .none kV11 dc11 pm11 an11 cd11 ct11), sl11⟩) (c11 : PySem.W.codeIn K cd11 "pairs_needed" = true) (k11 : PySem.W.keepIn K (.ref f11) = true)
    {f12 : Addr} {od12 an12 : Option Addr} {sl12 : Array (Option Value)} {oc12 kV12 dc12 pm12 cd12 ct12 : Value} (a12 : PySem.W.nsIn K mainGlobals "parting_steps" = some (some (.ref f12))) (l12 : K.lookup f12 = some ⟨oc12, od12, .func (PySem.W.fnOf "parting_steps" "parting_steps" (defArgs sSteps) (defBody sSteps) (defScope sSteps) .none kV12 dc12 pm12 an12 cd12 ct12), sl12⟩) (c12 : PySem.W.codeIn K cd12 "parting_steps" = true) (k12 : PySem.W.keepIn K (.ref f12) = true)
    {f13 : Addr} {od13 an13 : Option Addr} {sl13 : Array (Option Value)} {oc13 kV13 dc13 pm13 cd13 ct13 : Value} (a13 : PySem.W.nsIn K mainGlobals "likeness" = some (some (.ref f13))) (l13 : K.lookup f13 = some ⟨oc13, od13, .func (PySem.W.fnOf "likeness" "likeness" (defArgs sLikeness) (defBody sLikeness) (defScope sLikeness) .none kV13 dc13 pm13 an13 cd13 ct13), sl13⟩) (c13 : PySem.W.codeIn K cd13 "likeness" = true) (k13 : PySem.W.keepIn K (.ref f13) = true)
    {f14 : Addr} {od14 an14 : Option Addr} {sl14 : Array (Option Value)} {oc14 kV14 dc14 pm14 cd14 ct14 : Value} (a14 : PySem.W.nsIn K mainGlobals "within" = some (some (.ref f14))) (l14 : K.lookup f14 = some ⟨oc14, od14, .func (PySem.W.fnOf "within" "within" (defArgs sWithin) (defBody sWithin) (defScope sWithin) .none kV14 dc14 pm14 an14 cd14 ct14), sl14⟩) (c14 : PySem.W.codeIn K cd14 "within" = true) (k14 : PySem.W.keepIn K (.ref f14) = true)
    {f15 : Addr} {od15 an15 : Option Addr} {sl15 : Array (Option Value)} {oc15 kV15 dc15 pm15 cd15 ct15 : Value} (a15 : PySem.W.nsIn K mainGlobals "fellows_right" = some (some (.ref f15))) (l15 : K.lookup f15 = some ⟨oc15, od15, .func (PySem.W.fnOf "fellows_right" "fellows_right" (defArgs sFellows) (defBody sFellows) (defScope sFellows) .none kV15 dc15 pm15 an15 cd15 ct15), sl15⟩) (c15 : PySem.W.codeIn K cd15 "fellows_right" = true) (k15 : PySem.W.keepIn K (.ref f15) = true)
    {f16 : Addr} {od16 an16 : Option Addr} {sl16 : Array (Option Value)} {oc16 kV16 dc16 pm16 cd16 ct16 : Value} (a16 : PySem.W.nsIn K mainGlobals "alike_shown" = some (some (.ref f16))) (l16 : K.lookup f16 = some ⟨oc16, od16, .func (PySem.W.fnOf "alike_shown" "alike_shown" (defArgs sAlike) (defBody sAlike) (defScope sAlike) .none kV16 dc16 pm16 an16 cd16 ct16), sl16⟩) (c16 : PySem.W.codeIn K cd16 "alike_shown" = true) (k16 : PySem.W.keepIn K (.ref f16) = true)
    {f17 : Addr} {od17 an17 : Option Addr} {sl17 : Array (Option Value)} {oc17 kV17 dc17 pm17 cd17 ct17 : Value} (a17 : PySem.W.nsIn K mainGlobals "unlike_shown" = some (some (.ref f17))) (l17 : K.lookup f17 = some ⟨oc17, od17, .func (PySem.W.fnOf "unlike_shown" "unlike_shown" (defArgs sUnlike) (defBody sUnlike) (defScope sUnlike) .none kV17 dc17 pm17 an17 cd17 ct17), sl17⟩) (c17 : PySem.W.codeIn K cd17 "unlike_shown" = true) (k17 : PySem.W.keepIn K (.ref f17) = true)
    {f18 : Addr} {od18 an18 : Option Addr} {sl18 : Array (Option Value)} {oc18 kV18 dc18 pm18 cd18 ct18 : Value} (a18 : PySem.W.nsIn K mainGlobals "shows" = some (some (.ref f18))) (l18 : K.lookup f18 = some ⟨oc18, od18, .func (PySem.W.fnOf "shows" "shows" (defArgs sShows) (defBody sShows) (defScope sShows) .none kV18 dc18 pm18 an18 cd18 ct18), sl18⟩) (c18 : PySem.W.codeIn K cd18 "shows" = true) (k18 : PySem.W.keepIn K (.ref f18) = true)
    {f19 : Addr} {od19 an19 : Option Addr} {sl19 : Array (Option Value)} {oc19 kV19 dc19 pm19 cd19 ct19 : Value} (a19 : PySem.W.nsIn K mainGlobals "_law_jar" = some (some (.ref f19))) (l19 : K.lookup f19 = some ⟨oc19, od19, .func (PySem.W.fnOf "_law_jar" "_law_jar" (defArgs sJar) (defBody sJar) (defScope sJar) .none kV19 dc19 pm19 an19 cd19 ct19), sl19⟩) (c19 : PySem.W.codeIn K cd19 "_law_jar" = true) (k19 : PySem.W.keepIn K (.ref f19) = true)
    {f20 : Addr} {od20 an20 : Option Addr} {sl20 : Array (Option Value)} {oc20 kV20 dc20 pm20 cd20 ct20 : Value} (a20 : PySem.W.nsIn K mainGlobals "_law_draw" = some (some (.ref f20))) (l20 : K.lookup f20 = some ⟨oc20, od20, .func (PySem.W.fnOf "_law_draw" "_law_draw" (defArgs sDraw) (defBody sDraw) (defScope sDraw) .none kV20 dc20 pm20 an20 cd20 ct20), sl20⟩) (c20 : PySem.W.codeIn K cd20 "_law_draw" = true) (k20 : PySem.W.keepIn K (.ref f20) = true)
    {f21 : Addr} {od21 an21 : Option Addr} {sl21 : Array (Option Value)} {oc21 kV21 dc21 pm21 cd21 ct21 : Value} (a21 : PySem.W.nsIn K mainGlobals "_law_of" = some (some (.ref f21))) (l21 : K.lookup f21 = some ⟨oc21, od21, .func (PySem.W.fnOf "_law_of" "_law_of" (defArgs sOf) (defBody sOf) (defScope sOf) .none kV21 dc21 pm21 an21 cd21 ct21), sl21⟩) (c21 : PySem.W.codeIn K cd21 "_law_of" = true) (k21 : PySem.W.keepIn K (.ref f21) = true)
    {f22 : Addr} {od22 an22 : Option Addr} {sl22 : Array (Option Value)} {oc22 kV22 dc22 pm22 cd22 ct22 : Value} (a22 : PySem.W.nsIn K mainGlobals "_law_alike_right" = some (some (.ref f22))) (l22 : K.lookup f22 = some ⟨oc22, od22, .func (PySem.W.fnOf "_law_alike_right" "_law_alike_right" (defArgs sLAlike) (defBody sLAlike) (defScope sLAlike) .none kV22 dc22 pm22 an22 cd22 ct22), sl22⟩) (c22 : PySem.W.codeIn K cd22 "_law_alike_right" = true) (k22 : PySem.W.keepIn K (.ref f22) = true)
    {f23 : Addr} {od23 an23 : Option Addr} {sl23 : Array (Option Value)} {oc23 kV23 dc23 pm23 cd23 ct23 : Value} (a23 : PySem.W.nsIn K mainGlobals "_law_needs" = some (some (.ref f23))) (l23 : K.lookup f23 = some ⟨oc23, od23, .func (PySem.W.fnOf "_law_needs" "_law_needs" (defArgs sLNeeds) (defBody sLNeeds) (defScope sLNeeds) .none kV23 dc23 pm23 an23 cd23 ct23), sl23⟩) (c23 : PySem.W.codeIn K cd23 "_law_needs" = true) (k23 : PySem.W.keepIn K (.ref f23) = true)
    {f24 : Addr} {od24 an24 : Option Addr} {sl24 : Array (Option Value)} {oc24 kV24 dc24 pm24 cd24 ct24 : Value} (a24 : PySem.W.nsIn K mainGlobals "_law_unlike_right" = some (some (.ref f24))) (l24 : K.lookup f24 = some ⟨oc24, od24, .func (PySem.W.fnOf "_law_unlike_right" "_law_unlike_right" (defArgs sLUnlike) (defBody sLUnlike) (defScope sLUnlike) .none kV24 dc24 pm24 an24 cd24 ct24), sl24⟩) (c24 : PySem.W.codeIn K cd24 "_law_unlike_right" = true) (k24 : PySem.W.keepIn K (.ref f24) = true)
    {f25 : Addr} {od25 an25 : Option Addr} {sl25 : Array (Option Value)} {oc25 kV25 dc25 pm25 cd25 ct25 : Value} (a25 : PySem.W.nsIn K mainGlobals "_law_paper_right" = some (some (.ref f25))) (l25 : K.lookup f25 = some ⟨oc25, od25, .func (PySem.W.fnOf "_law_paper_right" "_law_paper_right" (defArgs sLPaper) (defBody sLPaper) (defScope sLPaper) .none kV25 dc25 pm25 an25 cd25 ct25), sl25⟩) (c25 : PySem.W.codeIn K cd25 "_law_paper_right" = true) (k25 : PySem.W.keepIn K (.ref f25) = true)
    {f26 : Addr} {od26 an26 : Option Addr} {sl26 : Array (Option Value)} {oc26 kV26 dc26 pm26 cd26 ct26 : Value} (a26 : PySem.W.nsIn K mainGlobals "_law_chains" = some (some (.ref f26))) (l26 : K.lookup f26 = some ⟨oc26, od26, .func (PySem.W.fnOf "_law_chains" "_law_chains" (defArgs sLChains) (defBody sLChains) (defScope sLChains) .none kV26 dc26 pm26 an26 cd26 ct26), sl26⟩) (c26 : PySem.W.codeIn K cd26 "_law_chains" = true) (k26 : PySem.W.keepIn K (.ref f26) = true)
    {f27 : Addr} {od27 an27 : Option Addr} {sl27 : Array (Option Value)} {oc27 kV27 dc27 pm27 cd27 ct27 : Value} (a27 : PySem.W.nsIn K mainGlobals "law" = some (some (.ref f27))) (l27 : K.lookup f27 = some ⟨oc27, od27, .func (PySem.W.fnOf "law" "law" (defArgs sLaw) (defBody sLaw) (defScope sLaw) .none kV27 dc27 pm27 an27 cd27 ct27), sl27⟩) (c27 : PySem.W.codeIn K cd27 "law" = true) (k27 : PySem.W.keepIn K (.ref f27) = true)
    (mw : PySem.W.nsIn K mainGlobals "MOST_WEB" = some (some (.int 512 tk))) (z0 : PySem.W.nsIn K mainGlobals "len" = some none) (z1 : PySem.W.nsIn K mainGlobals "all" = some none) (z2 : PySem.W.nsIn K mainGlobals "any" = some none) (z3 : PySem.W.nsIn K mainGlobals "max" = some none) (z4 : PySem.W.nsIn K mainGlobals "int" = some none) (z5 : PySem.W.nsIn K mainGlobals "bool" = some none) (z6 : PySem.W.nsIn K mainGlobals "tuple" = some none) (z7 : PySem.W.nsIn K mainGlobals "list" = some none) (z8 : PySem.W.nsIn K mainGlobals "dict" = some none) (z9 : PySem.W.nsIn K mainGlobals "set" = some none) (z10 : PySem.W.nsIn K mainGlobals "sorted" = some none) (z11 : PySem.W.nsIn K mainGlobals "enumerate" = some none) (z12 : PySem.W.nsIn K mainGlobals "range" = some none) (z13 : PySem.W.nsIn K mainGlobals "isinstance" = some none) :
    ∃ fd : FuncData, (∀ (s : Shared) (v : Value), BindsTo s fd ⟨[v], []⟩ [("_law_script", v)]) ∧ ∀ base : Heap, K.In base → base.Ns mainGlobals mg → FnOk l.prog w K mg base CX0 6 fa fd ["_law_script"] (spLaw K) := by
  have e := hfa.symm.trans (PySem.W.mg_of X G a27)
  cases e
  have M : MgB mg := ⟨PySem.W.mg_none_of X G z0, PySem.W.mg_none_of X G z1, PySem.W.mg_none_of X G z2, PySem.W.mg_none_of X G z3, PySem.W.mg_none_of X G z4, PySem.W.mg_none_of X G z5, PySem.W.mg_none_of X G z6, PySem.W.mg_none_of X G z7, PySem.W.mg_none_of X G z8, PySem.W.mg_none_of X G z9, PySem.W.mg_none_of X G z10, PySem.W.mg_none_of X G z11, PySem.W.mg_none_of X G z12, PySem.W.mg_none_of X G z13⟩
  have hmw := PySem.W.mg_of X G mw
  obtain ⟨g0, e0, D0⟩ := kd_mk (mg := mg) (ps := ["thing"]) X G a0 l0 c0 k0 (fun us hl => match us, hl with | [_], _ => rfl)
  obtain ⟨g1, e1, D1⟩ := kd_mk (mg := mg) (ps := ["thing", "size"]) X G a1 l1 c1 k1 (fun us hl => match us, hl with | [_, _], _ => rfl)
  obtain ⟨g2, e2, D2⟩ := kd_mk (mg := mg) (ps := ["thing"]) X G a2 l2 c2 k2 (fun us hl => match us, hl with | [_], _ => rfl)
  obtain ⟨g3, e3, D3⟩ := kd_mk (mg := mg) (ps := ["web", "kinds"]) X G a3 l3 c3 k3 (fun us hl => match us, hl with | [_, _], _ => rfl)
  obtain ⟨g4, e4, D4⟩ := kd_mk (mg := mg) (ps := ["web"]) X G a4 l4 c4 k4 (fun us hl => match us, hl with | [_], _ => rfl)
  obtain ⟨g5, e5, D5⟩ := kd_mk (mg := mg) (ps := ["web"]) X G a5 l5 c5 k5 (fun us hl => match us, hl with | [_], _ => rfl)
  obtain ⟨g6, e6, D6⟩ := kd_mk (mg := mg) (ps := ["web", "row"]) X G a6 l6 c6 k6 (fun us hl => match us, hl with | [_, _], _ => rfl)
  obtain ⟨g7, e7, D7⟩ := kd_mk (mg := mg) (ps := ["web", "one", "other"]) X G a7 l7 c7 k7 (fun us hl => match us, hl with | [_, _, _], _ => rfl)
  obtain ⟨g8, e8, D8⟩ := kd_mk (mg := mg) (ps := ["rounds", "one", "other"]) X G a8 l8 c8 k8 (fun us hl => match us, hl with | [_, _, _], _ => rfl)
  obtain ⟨g9, e9, D9⟩ := kd_mk (mg := mg) (ps := ["web", "kinds", "one", "other"]) X G a9 l9 c9 k9 (fun us hl => match us, hl with | [_, _, _, _], _ => rfl)
  obtain ⟨g10, e10, D10⟩ := kd_mk (mg := mg) (ps := ["web", "kinds", "one", "other"]) X G a10 l10 c10 k10 (fun us hl => match us, hl with | [_, _, _, _], _ => rfl)
  obtain ⟨g11, e11, D11⟩ := kd_mk (mg := mg) (ps := ["web", "step"]) X G a11 l11 c11 k11 (fun us hl => match us, hl with | [_, _], _ => rfl)
  obtain ⟨g12, e12, D12⟩ := kd_mk (mg := mg) (ps := ["web", "rounds", "one", "other"]) X G a12 l12 c12 k12 (fun us hl => match us, hl with | [_, _, _, _], _ => rfl)
  obtain ⟨g13, e13, D13⟩ := kd_mk (mg := mg) (ps := ["web", "one", "other"]) X G a13 l13 c13 k13 (fun us hl => match us, hl with | [_, _, _], _ => rfl)
  obtain ⟨g14, e14, D14⟩ := kd_mk (mg := mg) (ps := ["web", "row"]) X G a14 l14 c14 k14 (fun us hl => match us, hl with | [_, _], _ => rfl)
  obtain ⟨g15, e15, D15⟩ := kd_mk (mg := mg) (ps := ["web", "pairs", "one", "other"]) X G a15 l15 c15 k15 (fun us hl => match us, hl with | [_, _, _, _], _ => rfl)
  obtain ⟨g16, e16, D16⟩ := kd_mk (mg := mg) (ps := ["web", "one", "other", "rows"]) X G a16 l16 c16 k16 (fun us hl => match us, hl with | [_, _, _, _], _ => rfl)
  obtain ⟨g17, e17, D17⟩ := kd_mk (mg := mg) (ps := ["web", "one", "other", "rows"]) X G a17 l17 c17 k17 (fun us hl => match us, hl with | [_, _, _, _], _ => rfl)
  obtain ⟨g18, e18, D18⟩ := kd_mk (mg := mg) (ps := ["web", "one", "other", "paper"]) X G a18 l18 c18 k18 (fun us hl => match us, hl with | [_, _, _, _], _ => rfl)
  obtain ⟨g19, e19, D19⟩ := kd_mk (mg := mg) (ps := ["_law_script"]) X G a19 l19 c19 k19 (fun us hl => match us, hl with | [_], _ => rfl)
  obtain ⟨g20, e20, D20⟩ := kd_mk (mg := mg) (ps := ["_law_jar_here", "_law_top"]) X G a20 l20 c20 k20 (fun us hl => match us, hl with | [_, _], _ => rfl)
  obtain ⟨g21, e21, D21⟩ := kd_mk (mg := mg) (ps := ["_law_jar_here", "_law_some"]) X G a21 l21 c21 k21 (fun us hl => match us, hl with | [_, _], _ => rfl)
  obtain ⟨g22, e22, D22⟩ := kd_mk (mg := mg) (ps := ["_law_web", "_law_one", "_law_other", "_law_pairs"]) X G a22 l22 c22 k22 (fun us hl => match us, hl with | [_, _, _, _], _ => rfl)
  obtain ⟨g23, e23, D23⟩ := kd_mk (mg := mg) (ps := ["_law_web", "_law_step"]) X G a23 l23 c23 k23 (fun us hl => match us, hl with | [_, _], _ => rfl)
  obtain ⟨g24, e24, D24⟩ := kd_mk (mg := mg) (ps := ["_law_web", "_law_one", "_law_other", "_law_steps"]) X G a24 l24 c24 k24 (fun us hl => match us, hl with | [_, _, _, _], _ => rfl)
  obtain ⟨g25, e25, D25⟩ := kd_mk (mg := mg) (ps := ["_law_web", "_law_one", "_law_other", "_law_told"]) X G a25 l25 c25 k25 (fun us hl => match us, hl with | [_, _, _, _], _ => rfl)
  obtain ⟨g26, e26, D26⟩ := kd_mk (mg := mg) (ps := ["_law_web", "_law_steps"]) X G a26 l26 c26 k26 (fun us hl => match us, hl with | [_, _], _ => rfl)
  refine ⟨PySem.W.fnOf "law" "law" (defArgs sLaw) (defBody sLaw) (defScope sLaw) .none kV27 dc27 pm27 an27 cd27 ct27, fun s v => .of_eq rfl, fun base _ _ => ok_law (k := 0) (fun_mk (st := sLaw) l27 c27 k27) ⟨M, ⟨_, _, D19⟩, ⟨_, _, D20⟩, ⟨_, _, D21, ok_of D21 D20 M⟩,
    ⟨_, _, D13, ok_likeness D13 D1 D0 D2 D3 D4 D5 D6 D8 D9 D10 D11 D12 hmw M⟩,
    ⟨_, _, D7, ok_roundOf D7 D1 D0 D2 D3 D4 D5 D6 hmw M⟩,
    ⟨_, _, D18, ok_shows D18 D1 D0 D2 D5 D6 D16 D17 D14 D15 D11 hmw M⟩,
    ⟨_, _, D25, ok_lpaper D25 D22 D24 D23 M⟩,
    ⟨_, _, D26, ok_lchains D26 D23 M⟩⟩⟩
end SH

set_option Elab.async false
open PySem PySem.W PyProof.Rows in
set_option maxRecDepth 100000 in
set_option maxHeartbeats 0 in
theorem PySem.Challenge.cw_selfhold_k58_papers_of_long_rows_holds : PySem.Challenge.rw_selfhold_k58_papers_of_long_rows.Holds := by
  w_on; o_law; k_head; (case hw => w_witness2)
  k_fill
  refine L2.walk_of (l := PySem.Challenge.rw_selfhold_k58_papers_of_long_rows) (n := 63) (k := 6) (x := "_law_script") (CX := fun _ => L2.CX0) (sp := fun w => SH.spLaw _) rfl (by decide) rfl ⟨rfl, by decide, by decide⟩ (fun w h Y => PySem.W.kIn_of Y) ?F (fun _ _ a ns hl _ hS => ⟨a, ns, rfl, hS, hl, fun _ => rfl⟩) (fun _ _ _ _ _ h => h)
  case F =>
    intro w mg fa h KX G hmg
    refine' SH.all_mk KX G hmg ?a0 ?l0 ?c0 ?k0 ?a1 ?l1 ?c1 ?k1 ?a2 ?l2 ?c2 ?k2 ?a3 ?l3 ?c3 ?k3 ?a4 ?l4 ?c4 ?k4 ?a5 ?l5 ?c5 ?k5 ?a6 ?l6 ?c6 ?k6 ?a7 ?l7 ?c7 ?k7 ?a8 ?l8 ?c8 ?k8 ?a9 ?l9 ?c9 ?k9 ?a10 ?l10 ?c10 ?k10 ?a11 ?l11 ?c11 ?k11 ?a12 ?l12 ?c12 ?k12 ?a13 ?l13 ?c13 ?k13 ?a14 ?l14 ?c14 ?k14 ?a15 ?l15 ?c15 ?k15 ?a16 ?l16 ?c16 ?k16 ?a17 ?l17 ?c17 ?k17 ?a18 ?l18 ?c18 ?k18 ?a19 ?l19 ?c19 ?k19 ?a20 ?l20 ?c20 ?k20 ?a21 ?l21 ?c21 ?k21 ?a22 ?l22 ?c22 ?k22 ?a23 ?l23 ?c23 ?k23 ?a24 ?l24 ?c24 ?k24 ?a25 ?l25 ?c25 ?k25 ?a26 ?l26 ?c26 ?k26 ?a27 ?l27 ?c27 ?k27 ?mw ?z0 ?z1 ?z2 ?z3 ?z4 ?z5 ?z6 ?z7 ?z8 ?z9 ?z10 ?z11 ?z12 ?z13
    (case a0 => k_is)
    (case l0 => k_is)
    (case c0 => k_is)
    (case k0 => k_is)
    (case a1 => k_is)
    (case l1 => k_is)
    (case c1 => k_is)
    (case k1 => k_is)
    (case a2 => k_is)
    (case l2 => k_is)
    (case c2 => k_is)
    (case k2 => k_is)
    (case a3 => k_is)
    (case l3 => k_is)
    (case c3 => k_is)
    (case k3 => k_is)
    (case a4 => k_is)
    (case l4 => k_is)
    (case c4 => k_is)
    (case k4 => k_is)
    (case a5 => k_is)
    (case l5 => k_is)
    (case c5 => k_is)
    (case k5 => k_is)
    (case a6 => k_is)
    (case l6 => k_is)
    (case c6 => k_is)
    (case k6 => k_is)
    (case a7 => k_is)
    (case l7 => k_is)
    (case c7 => k_is)
    (case k7 => k_is)
    (case a8 => k_is)
    (case l8 => k_is)
    (case c8 => k_is)
    (case k8 => k_is)
    (case a9 => k_is)
    (case l9 => k_is)
    (case c9 => k_is)
    (case k9 => k_is)
    (case a10 => k_is)
    (case l10 => k_is)
    (case c10 => k_is)
    (case k10 => k_is)
    (case a11 => k_is)
    (case l11 => k_is)
    (case c11 => k_is)
    (case k11 => k_is)
    (case a12 => k_is)
    (case l12 => k_is)
    (case c12 => k_is)
    (case k12 => k_is)
    (case a13 => k_is)
    (case l13 => k_is)
    (case c13 => k_is)
    (case k13 => k_is)
    (case a14 => k_is)
    (case l14 => k_is)
    (case c14 => k_is)
    (case k14 => k_is)
    (case a15 => k_is)
    (case l15 => k_is)
    (case c15 => k_is)
    (case k15 => k_is)
    (case a16 => k_is)
    (case l16 => k_is)
    (case c16 => k_is)
    (case k16 => k_is)
    (case a17 => k_is)
    (case l17 => k_is)
    (case c17 => k_is)
    (case k17 => k_is)
    (case a18 => k_is)
    (case l18 => k_is)
    (case c18 => k_is)
    (case k18 => k_is)
    (case a19 => k_is)
    (case l19 => k_is)
    (case c19 => k_is)
    (case k19 => k_is)
    (case a20 => k_is)
    (case l20 => k_is)
    (case c20 => k_is)
    (case k20 => k_is)
    (case a21 => k_is)
    (case l21 => k_is)
    (case c21 => k_is)
    (case k21 => k_is)
    (case a22 => k_is)
    (case l22 => k_is)
    (case c22 => k_is)
    (case k22 => k_is)
    (case a23 => k_is)
    (case l23 => k_is)
    (case c23 => k_is)
    (case k23 => k_is)
    (case a24 => k_is)
    (case l24 => k_is)
    (case c24 => k_is)
    (case k24 => k_is)
    (case a25 => k_is)
    (case l25 => k_is)
    (case c25 => k_is)
    (case k25 => k_is)
    (case a26 => k_is)
    (case l26 => k_is)
    (case c26 => k_is)
    (case k26 => k_is)
    (case a27 => k_is)
    (case l27 => k_is)
    (case c27 => k_is)
    (case k27 => k_is)
    (case mw => k_is)
    (case z0 => k_is)
    (case z1 => k_is)
    (case z2 => k_is)
    (case z3 => k_is)
    (case z4 => k_is)
    (case z5 => k_is)
    (case z6 => k_is)
    (case z7 => k_is)
    (case z8 => k_is)
    (case z9 => k_is)
    (case z10 => k_is)
    (case z11 => k_is)
    (case z12 => k_is)
    (case z13 => k_is)

