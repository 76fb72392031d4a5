import PyProof.Rows.All
import Wide.All
import OpenK.AllK
import Wide.FinOn
import HandS.ForMost
import HandS.Evl
import HandS.IsInst
import HandS.SortInts
import HandS.Zip
import HandS.Style
import HandS.More
import HandS.SortKw
import KE.DataMinMax
import HandS.Strs
import HandS.SetFor
import PySem.Challenge.RW_leadson_k07_answers_by_hand
set_option Elab.async false
set_option linter.all false
set_option maxRecDepth 100000
set_option maxHeartbeats 4000000
/-! Ma: leadings as lists of numbers: a step, many steps, done so often. Plain Lean. -/
namespace Ld
/-- one step -/
def st (L : List Nat) (p : Nat) : Nat := L.getD p 0
/-- so many steps -/
def it (L : List Nat) : Nat → Nat → Nat
  | 0, p => p
  | k + 1, p => it L k (st L p)
def Lead (L : List Nat) : Prop := ∀ x ∈ L, x < L.length
/-- done so often -/
def tm (L : List Nat) (k : Nat) : List Nat := (List.range L.length).map fun p => it L k p

theorem st_get {L : List Nat} {p : Nat} (h : p < L.length) : L[p]? = some (st L p) := by
  unfold st
  rw [List.getD_eq_getElem?_getD, List.getElem?_eq_getElem h]
  rfl
theorem st_eq {L : List Nat} {p : Nat} (h : p < L.length) : st L p = L[p] := by
  have e := st_get h
  rw [List.getElem?_eq_getElem h] at e
  exact (Option.some.inj e).symm
theorem st_mem {L : List Nat} {p : Nat} (h : p < L.length) : st L p ∈ L := by
  rw [st_eq h]
  exact List.getElem_mem h
theorem st_lt {L : List Nat} {p : Nat} (hL : Lead L) (h : p < L.length) : st L p < L.length := hL _ (st_mem h)
theorem it_lt {L : List Nat} (hL : Lead L) : ∀ (k : Nat) {p : Nat}, p < L.length → it L k p < L.length
  | 0, _, h => h
  | k + 1, _, h => it_lt hL k (st_lt hL h)
theorem it_add (L : List Nat) : ∀ (a b p : Nat), it L (a + b) p = it L b (it L a p)
  | 0, b, p => by rw [Nat.zero_add]; rfl
  | a + 1, b, p => by
    rw [show a + 1 + b = (a + b) + 1 by omega]
    show it L (a + b) (st L p) = it L b (it L a (st L p))
    exact it_add L a b _
theorem it_succ (L : List Nat) (k p : Nat) : it L (k + 1) p = st L (it L k p) := it_add L k 1 p
theorem tm_length (L : List Nat) (k : Nat) : (tm L k).length = L.length := by
  unfold tm
  rw [List.length_map, List.length_range]
theorem tm_get {L : List Nat} {k p : Nat} (h : p < L.length) : (tm L k)[p]? = some (it L k p) := by
  unfold tm
  rw [List.getElem?_map, List.getElem?_range h]
  rfl
theorem st_tm {L : List Nat} {k p : Nat} (h : p < L.length) : st (tm L k) p = it L k p := by
  have e := st_get (L := tm L k) (p := p) (by rw [tm_length]; exact h)
  rw [tm_get h] at e
  exact (Option.some.inj e).symm
theorem lead_tm {L : List Nat} (hL : Lead L) (k : Nat) : Lead (tm L k) := fun x hx => by
  rw [tm_length]
  unfold tm at hx
  obtain ⟨p, hp, rfl⟩ := List.mem_map.mp hx
  exact it_lt hL k (List.mem_range.mp hp)
theorem tm_zero (L : List Nat) : tm L 0 = List.range L.length := by
  unfold tm
  show List.map (fun p => p) _ = _
  rw [List.map_id']
theorem tm_one (L : List Nat) : tm L 1 = L := by
  refine List.ext_getElem? fun i => ?_
  by_cases h : i < L.length
  · rw [tm_get h, st_get h]
    rfl
  · rw [List.getElem?_eq_none (by rw [tm_length]; omega), List.getElem?_eq_none (by omega)]
/-- the one, then the other -/
theorem tm_then {L : List Nat} (hL : Lead L) (a b : Nat) : (tm L a).map (fun x => st (tm L b) x) = tm L (a + b) := by
  unfold tm
  rw [List.map_map]
  refine List.map_congr_left fun p hp => ?_
  have hp' := List.mem_range.mp hp
  show st (tm L b) (it L a p) = it L (a + b) p
  rw [st_tm (it_lt hL a hp'), it_add]
theorem it_tm {L : List Nat} (hL : Lead L) (a : Nat) : ∀ (b : Nat) {p : Nat}, p < L.length → it (tm L a) b p = it L (a * b) p
  | 0, _, _ => rfl
  | b + 1, p, h => by
    show it (tm L a) b (st (tm L a) p) = _
    rw [st_tm h, it_tm hL a b (it_lt hL a h), ← it_add, Nat.mul_succ, Nat.add_comm]
theorem tm_tm {L : List Nat} (hL : Lead L) (a b : Nat) : tm (tm L a) b = tm L (a * b) := by
  refine List.ext_getElem? fun i => ?_
  by_cases h : i < L.length
  · rw [tm_get (by rw [tm_length]; exact h), tm_get h, it_tm hL a b h]
  · rw [List.getElem?_eq_none (by rw [tm_length, tm_length]; omega), List.getElem?_eq_none (by rw [tm_length]; omega)]

/-! ### no more than n different numbers below n -/
theorem nodup_erase_len {n : Nat} : ∀ {l : List Nat}, l.Nodup → (∀ x ∈ l, x < n) → l.length ≤ n := by
  induction n with
  | zero =>
    intro l _ h
    cases l with
    | nil => exact Nat.le_refl 0
    | cons x r => exact absurd (h x (List.mem_cons_self ..)) (Nat.not_lt_zero x)
  | succ n ih =>
    intro l nd h
    have h1 : (l.erase n).length ≤ n := ih (nd.erase n) fun x hx => by
      have h2 := h x (List.mem_of_mem_erase hx)
      have h3 : x ≠ n := fun e => by
        subst e
        exact (nd.not_mem_erase) hx
      omega
    have h4 : l.length ≤ (l.erase n).length + 1 := by
      by_cases hm : n ∈ l
      · rw [List.length_erase_of_mem hm]
        omega
      · rw [List.erase_of_not_mem hm]
        omega
    omega
theorem nodup_len {n : Nat} {l : List Nat} (nd : l.Nodup) (h : ∀ x ∈ l, x < n) : l.length ≤ n := nodup_erase_len nd h
/-- injective by numbers: a list by a function -/
theorem nodup_of_inj {m : Nat} {f : Nat → Nat} (h : ∀ i j, i < j → j < m → f i ≠ f j) : ((List.range m).map f).Nodup := by
  rw [List.Nodup, List.pairwise_map]
  refine List.Pairwise.imp_of_mem (fun {a b} ha hb hab => ?_) List.pairwise_lt_range
  exact h a b hab (List.mem_range.mp hb)
theorem inj_of_nodup {m : Nat} {f : Nat → Nat} (h : ((List.range m).map f).Nodup) {i j : Nat} (hi : i < m) (hj : j < m) (e : f i = f j) : i = j := by
  have h1 : ((List.range m).map f)[i]? = some (f i) := by rw [List.getElem?_map, List.getElem?_range hi]; rfl
  have h2 : ((List.range m).map f)[j]? = some (f j) := by rw [List.getElem?_map, List.getElem?_range hj]; rfl
  obtain ⟨l1, e1⟩ := List.getElem?_eq_some_iff.mp h1
  obtain ⟨l2, e2⟩ := List.getElem?_eq_some_iff.mp h2
  exact (List.getElem_inj h).mp (e1.trans (e.trans e2.symm))

/-! ### once round: behind a first meeting all comes again -/
theorem it_period {L : List Nat} {p a d : Nat} (h : it L (a + d) p = it L a p) : ∀ k, it L (a + k * d) p = it L a p
  | 0 => by rw [Nat.zero_mul]; rfl
  | k + 1 => by
    rw [Nat.succ_mul, ← Nat.add_assoc, Nat.add_right_comm, it_add, h, ← it_add]
    exact it_period h k
theorem it_round {L : List Nat} {p a d : Nat} (h : it L (a + d) p = it L a p) (r : Nat) : it L (a + d + r % d) p = it L (a + d + r) p := by
  have e1 : r % d + d * (r / d) = r := Nat.mod_add_div r d
  have e2 : it L (a + d + r) p = it L (r % d) (it L (a + (1 + r / d) * d) p) := by
    rw [← it_add]
    congr 1
    rw [Nat.add_mul, Nat.one_mul, Nat.mul_comm (r / d) d]
    omega
  rw [e2, it_period h, it_add, h]
end Ld
/-! Mb: leadings that can be taken back: no place twice. Plain Lean. -/
namespace Ld
def Inj (L : List Nat) : Prop := ∀ a b, a < L.length → b < L.length → st L a = st L b → a = b
theorem inj_of {L : List Nat} (h : L.Nodup) : Inj L := fun a b ha hb e => by
  rw [st_eq ha, st_eq hb] at e
  exact (List.getElem_inj h).mp e
theorem nodup_of {L : List Nat} (h : Inj L) : L.Nodup := by
  rw [List.Nodup, List.pairwise_iff_getElem]
  intro i j hi hj hij e
  have := h i j hi hj (by rw [st_eq hi, st_eq hj]; exact e)
  omega
theorem surj {L : List Nat} (hL : Lead L) (nd : L.Nodup) {q : Nat} (hq : q < L.length) : q ∈ L := by
  refine Classical.byContradiction fun h => ?_
  have h1 := nodup_len (n := L.length) (l := q :: L) (List.nodup_cons.mpr ⟨h, nd⟩) fun x hx => by
    rcases List.mem_cons.mp hx with rfl | hx
    · exact hq
    · exact hL x hx
  rw [List.length_cons] at h1
  omega
theorem st_set {L : List Nat} {j x p : Nat} (hj : j < L.length) : st (L.set j x) p = if p = j then x else st L p := by
  unfold st
  rw [List.getD_eq_getElem?_getD, List.getD_eq_getElem?_getD, List.getElem?_set]
  by_cases e : p = j
  · subst e
    rw [if_pos rfl, if_pos hj, if_pos rfl]
    rfl
  · rw [if_neg fun q => e q.symm, if_neg e]
theorem set_self {L : List Nat} {j : Nat} (hj : j < L.length) : L.set j (st L j) = L := by
  refine List.ext_getElem? fun i => ?_
  rw [List.getElem?_set]
  by_cases e : j = i
  · subst e
    rw [if_pos rfl, if_pos hj, st_get hj]
  · rw [if_neg e]
/-- two places exchanged -/
theorem swap_inj {L : List Nat} (h : Inj L) {i j : Nat} (hi : i < L.length) (hj : j < L.length) : Inj ((L.set i (st L j)).set j (st L i)) := by
  have hs : ∀ p, st ((L.set i (st L j)).set j (st L i)) p = st L (if p = j then i else if p = i then j else p) := fun p => by
    rw [st_set (by rw [List.length_set]; exact hj)]
    by_cases e : p = j
    · rw [if_pos e, if_pos e]
    · rw [if_neg e, if_neg e, st_set hi]
      by_cases e2 : p = i
      · rw [if_pos e2, if_pos e2]
      · rw [if_neg e2, if_neg e2]
  intro a b ha hb e
  rw [List.length_set, List.length_set] at ha hb
  rw [hs, hs] at e
  have h1 := h _ _ (by split <;> (try split) <;> omega) (by split <;> (try split) <;> omega) e
  split at h1 <;> split at h1 <;> (try split at h1) <;> (try split at h1) <;> omega
/-! ### taken back -/
def inv (L : List Nat) : List Nat := (List.range L.length).map fun q => L.idxOf q
theorem inv_len (L : List Nat) : (inv L).length = L.length := by
  unfold inv
  rw [List.length_map, List.length_range]
theorem inv_st {L : List Nat} {q : Nat} (hq : q < L.length) : st (inv L) q = L.idxOf q := by
  have h := st_get (L := inv L) (p := q) (by rw [inv_len]; exact hq)
  unfold inv at h
  rw [List.getElem?_map, List.getElem?_range hq] at h
  exact (Option.some.inj h).symm
theorem idx_st {L : List Nat} (nd : L.Nodup) {p : Nat} (hp : p < L.length) : L.idxOf (st L p) = p := by
  rw [st_eq hp]
  exact nd.idxOf_getElem p hp
theorem st_idx {L : List Nat} {q : Nat} (h : q ∈ L) : st L (L.idxOf q) = q := by
  have h1 : L.idxOf q < L.length := List.idxOf_lt_length_iff.mpr h
  rw [st_eq h1]
  exact List.getElem_idxOf h1
theorem inv_back {L : List Nat} (hL : Lead L) (nd : L.Nodup) {p : Nat} (hp : p < L.length) : st (inv L) (st L p) = p := by
  rw [inv_st (st_lt hL hp), idx_st nd hp]
theorem inv_fwd {L : List Nat} (hL : Lead L) (nd : L.Nodup) {q : Nat} (hq : q < L.length) : st L (st (inv L) q) = q := by
  rw [inv_st hq, st_idx (surj hL nd hq)]
theorem inv_lead {L : List Nat} (hL : Lead L) (nd : L.Nodup) : Lead (inv L) := fun x hx => by
  rw [inv_len]
  unfold inv at hx
  obtain ⟨q, hq, rfl⟩ := List.mem_map.mp hx
  exact List.idxOf_lt_length_iff.mpr (surj hL nd (List.mem_range.mp hq))
theorem inv_nodup {L : List Nat} (hL : Lead L) (nd : L.Nodup) : (inv L).Nodup := by
  refine nodup_of fun a b ha hb e => ?_
  rw [inv_len] at ha hb
  have h1 := inv_fwd hL nd ha
  rw [e, inv_fwd hL nd hb] at h1
  exact h1.symm
theorem ext_st {A B : List Nat} (hl : A.length = B.length) (h : ∀ p, p < A.length → st A p = st B p) : A = B := by
  refine List.ext_getElem? fun i => ?_
  by_cases hi : i < A.length
  · rw [st_get hi, st_get (by omega), h i hi]
  · rw [List.getElem?_eq_none (by omega), List.getElem?_eq_none (by omega)]
theorem inv_inv {L : List Nat} (hL : Lead L) (nd : L.Nodup) : inv (inv L) = L := by
  refine ext_st (by rw [inv_len, inv_len]) fun p hp => ?_
  rw [inv_len, inv_len] at hp
  have h1 := inv_back (inv_lead hL nd) (inv_nodup hL nd) (p := st L p) (by rw [inv_len]; exact st_lt hL hp)
  rw [inv_back hL nd hp] at h1
  exact h1
theorem st_map {A : List Nat} {f : Nat → Nat} {p : Nat} (hp : p < A.length) : st (A.map f) p = f (st A p) := by
  have h := st_get (L := A.map f) (p := p) (by rw [List.length_map]; exact hp)
  rw [List.getElem?_map, st_get hp] at h
  exact (Option.some.inj h).symm
theorem st_range {n p : Nat} (hp : p < n) : st (List.range n) p = p := by
  have h := st_get (L := List.range n) (p := p) (by rw [List.length_range]; exact hp)
  rw [List.getElem?_range hp] at h
  exact (Option.some.inj h).symm
/-- the one, then the other -/
theorem inv_then {L : List Nat} (hL : Lead L) (nd : L.Nodup) : L.map (st (inv L)) = List.range L.length := by
  refine ext_st (by rw [List.length_map, List.length_range]) fun p hp => ?_
  rw [List.length_map] at hp
  rw [st_map hp, inv_back hL nd hp, st_range hp]
theorem then_inv {L : List Nat} (hL : Lead L) (nd : L.Nodup) : (inv L).map (st L) = List.range L.length := by
  refine ext_st (by rw [List.length_map, List.length_range, inv_len]) fun p hp => ?_
  rw [List.length_map, inv_len] at hp
  rw [st_map (by rw [inv_len]; exact hp), inv_fwd hL nd hp, st_range hp]
/-- all places of a leading that can be taken back, in turn -/
theorem perm_range {L : List Nat} (hL : Lead L) (nd : L.Nodup) : L.Perm (List.range L.length) := by
  refine (List.perm_ext_iff_of_nodup nd List.nodup_range).mpr fun a => ⟨fun h => List.mem_range.mpr (hL a h), fun h => surj hL nd (List.mem_range.mp h)⟩
theorem range_sorted (n : Nat) : ((List.range n).map fun (x : Nat) => (x : Int)).Pairwise (· ≤ ·) := by
  rw [List.pairwise_map]
  exact List.Pairwise.imp (fun {a b} h => by omega) List.pairwise_lt_range
theorem sorted_is {A B : List Int} (h : A.Perm B) (ha : A.Pairwise (· ≤ ·)) (hb : B.Pairwise (· ≤ ·)) : A = B :=
  List.Perm.eq_of_pairwise (fun _ _ _ _ h1 h2 => Int.le_antisymm h1 h2) ha hb h
theorem sorted_range {L : List Nat} (hL : Lead L) (nd : L.Nodup) {A : List Int} (h : A.Perm (L.map fun (x : Nat) => (x : Int))) (ha : A.Pairwise (· ≤ ·)) : A = (List.range L.length).map fun (x : Nat) => (x : Int) :=
  sorted_is (h.trans ((perm_range hL nd).map _)) ha (range_sorted _)
/-! ### a walk that writes the places of a leading where they lead from -/
def back (L : List Nat) (k : Nat) : List Nat := (List.range L.length).map fun q => if L.idxOf q < k then L.idxOf q else 0
theorem back_len (L : List Nat) (k : Nat) : (back L k).length = L.length := by
  unfold back
  rw [List.length_map, List.length_range]
theorem back_st {L : List Nat} {k q : Nat} (hq : q < L.length) : st (back L k) q = if L.idxOf q < k then L.idxOf q else 0 := by
  unfold back
  rw [st_map (by rw [List.length_range]; exact hq), st_range hq]
theorem back_zero (L : List Nat) : back L 0 = List.replicate L.length 0 := by
  unfold back
  rw [List.map_congr_left (g := fun _ => 0) fun q _ => if_neg (Nat.not_lt_zero _), List.map_const', List.length_range]
theorem back_step {L : List Nat} (hL : Lead L) (nd : L.Nodup) {k : Nat} (hk : k < L.length) : (back L k).set (st L k) k = back L (k + 1) := by
  have h1 := st_lt hL hk
  refine ext_st (by rw [List.length_set, back_len, back_len]) fun q hq => ?_
  rw [List.length_set, back_len] at hq
  rw [st_set (by rw [back_len]; exact h1), back_st hq, back_st hq]
  have hm := surj hL nd hq
  by_cases e : q = st L k
  · subst e
    rw [if_pos rfl, idx_st nd hk, if_pos (by omega)]
  · rw [if_neg e]
    have h2 : L.idxOf q ≠ k := fun e2 => by
      have h3 := st_idx hm
      rw [e2] at h3
      exact e h3.symm
    by_cases h4 : L.idxOf q < k
    · rw [if_pos h4, if_pos (by omega)]
    · rw [if_neg h4, if_neg (by omega)]
theorem back_all {L : List Nat} (hL : Lead L) (nd : L.Nodup) : back L L.length = inv L := by
  unfold back inv
  refine List.map_congr_left fun q hq => ?_
  rw [if_pos (List.idxOf_lt_length_iff.mpr (surj hL nd (List.mem_range.mp hq)))]
/-! ### many alike rings -/
def rot (w p : Nat) : Nat := p / w * w + (p % w + 1) % w
theorem rot_div {w p : Nat} (hw : 0 < w) : rot w p / w = p / w := by
  unfold rot
  have h1 := Nat.mod_lt (p % w + 1) hw
  rw [Nat.mul_comm, Nat.mul_add_div hw, Nat.div_eq_of_lt h1, Nat.add_zero]
theorem rot_mod {w p : Nat} (hw : 0 < w) : rot w p % w = (p % w + 1) % w := by
  unfold rot
  rw [Nat.mul_comm, Nat.mul_add_mod, Nat.mod_mod]
theorem succ_mod_inj {w a b : Nat} (ha : a < w) (hb : b < w) (e : (a + 1) % w = (b + 1) % w) : a = b := by
  by_cases h1 : a + 1 = w
  · by_cases h2 : b + 1 = w
    · omega
    · rw [h1, Nat.mod_self, Nat.mod_eq_of_lt (show b + 1 < w by omega)] at e
      omega
  · rw [Nat.mod_eq_of_lt (show a + 1 < w by omega)] at e
    by_cases h2 : b + 1 = w
    · rw [h2, Nat.mod_self] at e
      omega
    · rw [Nat.mod_eq_of_lt (show b + 1 < w by omega)] at e
      omega
theorem rot_inj {w p q : Nat} (hw : 0 < w) (e : rot w p = rot w q) : p = q := by
  have h1 := rot_div (p := p) hw
  have h2 := rot_div (p := q) hw
  have h3 := rot_mod (p := p) hw
  have h4 := rot_mod (p := q) hw
  rw [e] at h1 h3
  have h5 := succ_mod_inj (Nat.mod_lt p hw) (Nat.mod_lt q hw) (h3.symm.trans h4)
  have h6 := Nat.div_add_mod p w
  have h7 := Nat.div_add_mod q w
  rw [← h1, h2, h5] at h6
  omega
theorem rot_lt {w J p : Nat} (hw : 0 < w) (h : p < J * w) : rot w p < J * w := by
  have h1 : rot w p / w < J := by
    rw [rot_div hw]
    exact Nat.div_lt_of_lt_mul (by rw [Nat.mul_comm]; exact h)
  have h2 := (Nat.div_lt_iff_lt_mul hw).mp h1
  exact h2
theorem rot_at {w j i : Nat} (hi : i < w) : rot w (j * w + i) = j * w + (i + 1) % w := by
  have hw : 0 < w := by omega
  unfold rot
  rw [Nat.mul_comm j w, Nat.mul_add_div hw, Nat.div_eq_of_lt hi, Nat.add_zero, Nat.mul_add_mod, Nat.mod_eq_of_lt hi, Nat.mul_comm j w]
def blk (n w k : Nat) : List Nat := (List.range n).map fun p => if p < k then rot w p else p
theorem blk_len (n w k : Nat) : (blk n w k).length = n := by
  unfold blk
  rw [List.length_map, List.length_range]
theorem blk_st {n w k p : Nat} (hp : p < n) : st (blk n w k) p = if p < k then rot w p else p := by
  unfold blk
  rw [st_map (by rw [List.length_range]; exact hp), st_range hp]
theorem blk_zero (n w : Nat) : blk n w 0 = List.range n := by
  unfold blk
  rw [List.map_congr_left (g := fun p => p) fun p _ => if_neg (Nat.not_lt_zero p), List.map_id']
theorem blk_step {n w k : Nat} (hk : k < n) : (blk n w k).set k (rot w k) = blk n w (k + 1) := by
  refine ext_st (by rw [List.length_set, blk_len, blk_len]) fun q hq => ?_
  rw [List.length_set, blk_len] at hq
  rw [st_set (by rw [blk_len]; exact hk), blk_st hq, blk_st hq]
  by_cases e : q = k
  · subst e
    rw [if_pos rfl, if_pos (by omega)]
  · rw [if_neg e]
    by_cases h : q < k
    · rw [if_pos h, if_pos (by omega)]
    · rw [if_neg h, if_neg (by omega)]
theorem blk_lead {n w J : Nat} (hw : 0 < w) (hJ : J * w ≤ n) : Lead (blk n w (J * w)) := fun x hx => by
  rw [blk_len]
  unfold blk at hx
  obtain ⟨p, hp, rfl⟩ := List.mem_map.mp hx
  have hp := List.mem_range.mp hp
  split
  · rename_i h
    have := rot_lt hw h
    omega
  · exact hp
theorem blk_inj {n w J : Nat} (hw : 0 < w) : Inj (blk n w (J * w)) := fun a b ha hb e => by
  rw [blk_len] at ha hb
  rw [blk_st ha, blk_st hb] at e
  split at e <;> split at e
  · exact rot_inj hw e
  · rename_i h1 h2
    have := rot_lt hw h1
    omega
  · rename_i h1 h2
    have := rot_lt hw h2
    omega
  · exact e
end Ld
/-! Mc: the way from a place, sorted lists of places. Plain Lean. -/
namespace Ld
/-- the first m places of the way from p -/
def path (L : List Nat) (p m : Nat) : List Nat := (List.range m).map fun k => it L k p
/-- m: all places that are come to from p -/
structure Orb (L : List Nat) (p m : Nat) : Prop where
  pos : 0 < m
  inj : ∀ i j, i < j → j < m → it L i p ≠ it L j p
  back : ∃ i, i < m ∧ it L m p = it L i p
theorem path_len (L : List Nat) (p m : Nat) : (path L p m).length = m := by
  unfold path
  rw [List.length_map, List.length_range]
theorem mem_path {L : List Nat} {p m x : Nat} : x ∈ path L p m ↔ ∃ i, i < m ∧ x = it L i p := by
  unfold path
  rw [List.mem_map]
  exact ⟨fun ⟨i, h1, h2⟩ => ⟨i, List.mem_range.mp h1, h2.symm⟩, fun ⟨i, h1, h2⟩ => ⟨i, List.mem_range.mpr h1, h2.symm⟩⟩
theorem path_succ (L : List Nat) (p m : Nat) : path L p (m + 1) = path L p m ++ [it L m p] := by
  unfold path
  rw [List.range_succ, List.map_append]
  rfl
theorem path_get {L : List Nat} {p m i : Nat} (h : i < m) : (path L p m)[i]? = some (it L i p) := by
  unfold path
  rw [List.getElem?_map, List.getElem?_range h]
  rfl
theorem path_lt {L : List Nat} (hL : Lead L) {p : Nat} (hp : p < L.length) (m : Nat) {x : Nat} (h : x ∈ path L p m) : x < L.length := by
  obtain ⟨i, _, rfl⟩ := mem_path.mp h
  exact it_lt hL i hp
theorem Orb.mem {L : List Nat} {p m : Nat} (h : Orb L p m) : p ∈ path L p m := mem_path.mpr ⟨0, h.pos, rfl⟩
theorem Orb.shut {L : List Nat} {p m x : Nat} (h : Orb L p m) (hx : x ∈ path L p m) : st L x ∈ path L p m := by
  obtain ⟨i, hi, rfl⟩ := mem_path.mp hx
  rw [← it_succ]
  by_cases e : i + 1 = m
  · obtain ⟨j, hj, ej⟩ := h.back
    rw [e, ej]
    exact mem_path.mpr ⟨j, hj, rfl⟩
  · exact mem_path.mpr ⟨i + 1, by omega, rfl⟩
theorem Orb.nodup {L : List Nat} {p m : Nat} (h : Orb L p m) : (path L p m).Nodup := nodup_of_inj h.inj
theorem Orb.le {L : List Nat} (hL : Lead L) {p m : Nat} (hp : p < L.length) (h : Orb L p m) : m ≤ L.length := by
  have h1 := nodup_len h.nodup fun x hx => path_lt hL hp m hx
  rw [path_len] at h1
  exact h1
theorem inj_le {L : List Nat} (hL : Lead L) {p m : Nat} (hp : p < L.length) (h : ∀ i j, i < j → j < m → it L i p ≠ it L j p) : m ≤ L.length := by
  have h1 := nodup_len (nodup_of_inj h) (n := L.length) fun x hx => by
    obtain ⟨i, _, rfl⟩ := List.mem_map.mp hx
    exact it_lt hL i hp
  rw [List.length_map, List.length_range] at h1
  exact h1
/-- all that is come to -/
theorem Orb.all {L : List Nat} {p m : Nat} (h : Orb L p m) : ∀ k, it L k p ∈ path L p m
  | 0 => h.mem
  | k + 1 => by
    rw [it_succ]
    exact h.shut (h.all k)
theorem path_idx {L : List Nat} {p m x : Nat} (h : x ∈ path L p m) : it L ((path L p m).idxOf x) p = x := by
  have h1 : (path L p m).idxOf x < (path L p m).length := List.idxOf_lt_length_iff.mpr h
  have h2 := st_idx h
  rw [path_len] at h1
  have h3 := path_get (L := L) (p := p) h1
  rw [st_get (by rw [path_len]; exact h1), h2] at h3
  exact (Option.some.inj h3).symm
theorem Orb.uniq {L : List Nat} {p m n : Nat} (hm : Orb L p m) (hn : Orb L p n) : m = n := by
  obtain ⟨i, hi, e⟩ := hm.back
  obtain ⟨j, hj, e2⟩ := hn.back
  by_cases h : m < n
  · exact absurd e.symm (hn.inj i m hi h)
  · by_cases h2 : n < m
    · exact absurd e2.symm (hm.inj j n hj h2)
    · omega
theorem orb_ex {L : List Nat} (hL : Lead L) {p : Nat} (hp : p < L.length) : ∃ m, Orb L p m := by
  have h : ∀ k, (∀ i j, i < j → j < k → it L i p ≠ it L j p) ∨ ∃ m, Orb L p m := fun k => by
    induction k with
    | zero => exact .inl fun i j _ h => absurd h (Nat.not_lt_zero j)
    | succ k ih =>
      rcases ih with ih | ih
      · by_cases hb : ∃ i, i < k ∧ it L k p = it L i p
        · obtain ⟨i, hi, e⟩ := hb
          exact .inr ⟨k, by omega, ih, i, hi, e⟩
        · refine .inl fun i j hij hj e => ?_
          by_cases ej : j = k
          · subst ej
            exact hb ⟨i, hij, e.symm⟩
          · exact ih i j hij (by omega) e
      · exact .inr ih
  rcases h (L.length + 1) with h | h
  · have := inj_le hL hp h
    omega
  · exact h
/-! ### rising -/
def srt (L : List Nat) : List Nat := L.mergeSort fun a b => decide (a ≤ b)
theorem srt_perm (L : List Nat) : (srt L).Perm L := List.mergeSort_perm L _
theorem srt_le (L : List Nat) : (srt L).Pairwise (· ≤ ·) := by
  have h := List.pairwise_mergeSort (le := fun (a b : Nat) => decide (a ≤ b)) (fun a b c h1 h2 => by
    rw [decide_eq_true_eq] at h1 h2 ⊢
    omega) (fun a b => by
    rw [Bool.or_eq_true, decide_eq_true_eq, decide_eq_true_eq]
    omega) L
  exact h.imp fun h => of_decide_eq_true h
theorem srt_cast (L : List Nat) : ((srt L).map fun (x : Nat) => (x : Int)).Pairwise (· ≤ ·) := by
  rw [List.pairwise_map]
  exact (srt_le L).imp fun h => by omega
theorem mem_srt {L : List Nat} {x : Nat} : x ∈ srt L ↔ x ∈ L := (srt_perm L).mem_iff
theorem srt_len (L : List Nat) : (srt L).length = L.length := (srt_perm L).length_eq
/-! ### what the answers' own word asks -/
def shutB (L : List Nat) (p q : Nat) (ps : List Int) : Bool := (decide ((p : Int) ∈ ps) && !decide ((q : Int) ∈ ps)) && ps.all fun x => (decide (0 ≤ x) && decide (x < (L.length : Int))) && decide ((st L x.toNat : Int) ∈ ps)
theorem shutB_nat {L : List Nat} {p q : Nat} {ps : List Nat} (h1 : p ∈ ps) (h2 : q ∉ ps) (h3 : ∀ y ∈ ps, y < L.length ∧ st L y ∈ ps) : shutB L p q (ps.map fun (x : Nat) => (x : Int)) = true := by
  have hm : ∀ i : Nat, (i : Int) ∈ ps.map (fun (x : Nat) => (x : Int)) ↔ i ∈ ps := fun i => by
    rw [List.mem_map]
    refine ⟨fun ⟨j, h1, h2⟩ => ?_, fun h => ⟨i, h, rfl⟩⟩
    have : j = i := by omega
    rw [← this]
    exact h1
  unfold shutB
  rw [decide_eq_true ((hm p).mpr h1), decide_eq_false fun h => h2 ((hm q).mp h), List.all_map]
  show (ps.all _) = true
  refine List.all_eq_true.mpr fun y hy => ?_
  obtain ⟨h4, h5⟩ := h3 y hy
  show ((decide (0 ≤ (y : Int)) && decide ((y : Int) < (L.length : Int))) && decide ((st L (y : Int).toNat : Int) ∈ _)) = true
  rw [decide_eq_true (by omega), decide_eq_true (by omega), Int.toNat_natCast, decide_eq_true ((hm _).mpr h5)]
  rfl
theorem shutB_no {L : List Nat} {p q : Nat} {ps : List Int} (h : (q : Int) ∈ ps) : shutB L p q ps = false := by
  unfold shutB
  rw [decide_eq_true h, Bool.not_true, Bool.and_false, Bool.false_and]
end Ld
/-! Md: ways that meet. Plain Lean. -/
namespace Ld
/-- their ways come to one place -/
def Meets (L : List Nat) (x p : Nat) : Prop := ∃ i j, it L i x = it L j p
theorem meets_self (L : List Nat) (p : Nat) : Meets L p p := ⟨0, 0, rfl⟩
theorem meets_st {L : List Nat} {x p : Nat} : Meets L (st L x) p ↔ Meets L x p := by
  refine ⟨fun ⟨i, j, h⟩ => ⟨i + 1, j, h⟩, fun ⟨i, j, h⟩ => ?_⟩
  cases i with
  | zero => exact ⟨0, j + 1, by rw [it_succ, ← h]; rfl⟩
  | succ i => exact ⟨i, j, h⟩
theorem meets_it {L : List Nat} {x p : Nat} : ∀ k, Meets L (it L k x) p ↔ Meets L x p
  | 0 => Iff.rfl
  | k + 1 => by
    rw [it_succ, meets_st]
    exact meets_it k
theorem path_meets {L : List Nat} {p m x : Nat} (h : x ∈ path L p m) : Meets L x p := by
  obtain ⟨i, _, rfl⟩ := mem_path.mp h
  exact ⟨0, i, rfl⟩
theorem meets_comm {L : List Nat} {x p : Nat} (h : Meets L x p) : Meets L p x := by
  obtain ⟨i, j, h⟩ := h
  exact ⟨j, i, h.symm⟩
/-- where two ways don't meet within their places they never do -/
theorem no_meet {L : List Nat} {p q m n : Nat} (hp : Orb L p m) (hq : Orb L q n) (h : ∀ x ∈ path L q n, x ∉ path L p m) : ¬ Meets L q p := fun ⟨i, j, e⟩ => h _ (hq.all i) (by
  rw [e]
  exact hp.all j)
/-! ### a dict's keys, as they are put in -/
def addK (ks : List Nat) (k : Nat) : List Nat := if k ∈ ks then ks else ks ++ [k]
theorem mem_addK {ks : List Nat} {k x : Nat} : x ∈ addK ks k ↔ x ∈ ks ∨ x = k := by
  unfold addK
  split
  · rename_i h
    exact ⟨.inl, fun h2 => h2.elim id fun e => by rw [e]; exact h⟩
  · rw [List.mem_append, List.mem_singleton]
theorem nodup_addK {ks : List Nat} {k : Nat} (h : ks.Nodup) : (addK ks k).Nodup := by
  unfold addK
  split
  · exact h
  · rename_i hk
    rw [List.nodup_append]
    exact ⟨h, List.nodup_cons.mpr ⟨List.not_mem_nil, List.nodup_nil⟩, fun a ha b hb e => by
      rw [List.mem_singleton] at hb
      subst hb
      subst e
      exact hk ha⟩
theorem addK_new {ks : List Nat} {k : Nat} (h : k ∉ ks) : addK ks k = ks ++ [k] := if_neg h
theorem addK_len (ks : List Nat) (k : Nat) : (addK ks k).length ≤ ks.length + 1 := by
  unfold addK
  split
  · omega
  · rw [List.length_append]
    exact Nat.le_refl _
/-! ### what Apart's own word asks -/
def apartB (L : List Nat) (p q : Nat) (ps : List Int) : Bool := ((decide ((p : Int) ∈ ps) && !decide ((q : Int) ∈ ps)) && ps.all fun x => decide (0 ≤ x) && decide (x < (L.length : Int))) &&
  (List.range L.length).all fun k => decide (decide ((k : Int) ∈ ps) = decide ((st L k : Int) ∈ ps))
theorem mem_castN {ps : List Nat} (i : Nat) : (i : Int) ∈ ps.map (fun (x : Nat) => (x : Int)) ↔ i ∈ ps := by
  rw [List.mem_map]
  refine ⟨fun ⟨j, h1, h2⟩ => ?_, fun h => ⟨i, h, rfl⟩⟩
  have : j = i := by omega
  rw [← this]
  exact h1
theorem apartB_nat {L : List Nat} {p q : Nat} {ps : List Nat} (h1 : p ∈ ps) (h2 : q ∉ ps) (h3 : ∀ y ∈ ps, y < L.length) (h4 : ∀ y, y < L.length → (y ∈ ps ↔ st L y ∈ ps)) : apartB L p q (ps.map fun (x : Nat) => (x : Int)) = true := by
  unfold apartB
  rw [decide_eq_true ((mem_castN p).mpr h1), decide_eq_false fun h => h2 ((mem_castN q).mp h)]
  rw [show (ps.map fun (x : Nat) => (x : Int)).all (fun x => decide (0 ≤ x) && decide (x < (L.length : Int))) = true from List.all_eq_true.mpr fun x hx => by
    obtain ⟨y, hy, rfl⟩ := List.mem_map.mp hx
    have := h3 y hy
    rw [decide_eq_true (by omega), decide_eq_true (by omega)]
    rfl]
  show ((true && !false) && true && _) = true
  rw [Bool.not_false, Bool.and_self, Bool.and_self, Bool.true_and]
  refine List.all_eq_true.mpr fun k hk => ?_
  rw [decide_eq_true_eq]
  exact decide_eq_decide.mpr ((mem_castN k).trans ((h4 k (List.mem_range.mp hk)).trans (mem_castN _).symm))
theorem apartB_no {L : List Nat} {p q : Nat} {ps : List Int} (h : (q : Int) ∈ ps) : apartB L p q ps = false := by
  unfold apartB
  rw [decide_eq_true h, Bool.not_true, Bool.and_false, Bool.false_and, Bool.false_and]
end Ld
/-! Me: rings, and ways into them. Plain Lean. -/
namespace Ld
/-- on a ring -/
def OnR (L : List Nat) (x : Nat) : Prop := ∃ k, 0 < k ∧ it L k x = x
theorem onR_st {L : List Nat} {x : Nat} (h : OnR L x) : OnR L (st L x) := by
  obtain ⟨k, hk, e⟩ := h
  refine ⟨k, hk, ?_⟩
  have h1 : it L (k + 1) x = st L (it L k x) := it_succ L k x
  rw [e] at h1
  exact h1
theorem onR_it {L : List Nat} {x : Nat} (h : OnR L x) : ∀ k, OnR L (it L k x)
  | 0 => h
  | k + 1 => by
    rw [it_succ]
    exact onR_st (onR_it h k)
/-- the steps to a ring -/
def IsWait (L : List Nat) (x k : Nat) : Prop := OnR L (it L k x) ∧ ∀ j, j < k → ¬ OnR L (it L j x)
theorem IsWait.uniq {L : List Nat} {x k j : Nat} (h1 : IsWait L x k) (h2 : IsWait L x j) : k = j := by
  by_cases h : k < j
  · exact absurd h1.1 (h2.2 k h)
  · by_cases h' : j < k
    · exact absurd h2.1 (h1.2 j h')
    · omega
theorem isWait_zero {L : List Nat} {x : Nat} (h : OnR L x) : IsWait L x 0 := ⟨h, fun j hj => absurd hj (Nat.not_lt_zero j)⟩
theorem isWait_succ {L : List Nat} {x k : Nat} (h : ¬ OnR L x) (hw : IsWait L (st L x) k) : IsWait L x (k + 1) := ⟨hw.1, fun j hj => by
  cases j with
  | zero => exact h
  | succ j => exact hw.2 j (by omega)⟩
theorem wait_zero {L : List Nat} {x : Nat} (h : IsWait L x 0) : OnR L x := h.1
/-! ### how many lead to a place, but for some -/
def cnt (L Pr : List Nat) (p : Nat) : Nat := (List.range L.length).countP fun x => decide (st L x = p) && !decide (x ∈ Pr)
theorem cnt_zero {L Pr : List Nat} {p : Nat} : cnt L Pr p = 0 ↔ ∀ x, x < L.length → st L x = p → x ∈ Pr := by
  unfold cnt
  rw [List.countP_eq_zero]
  refine ⟨fun h x hx e => ?_, fun h x hx => ?_⟩
  · have h1 := h x (List.mem_range.mpr hx)
    rw [decide_eq_true e, Bool.true_and, Bool.not_eq_true', decide_eq_false_iff_not] at h1
    exact Classical.byContradiction h1
  · intro e
    rw [Bool.and_eq_true, decide_eq_true_eq, Bool.not_eq_true', decide_eq_false_iff_not] at e
    exact e.2 (h x (List.mem_range.mp hx) e.1)
theorem countP_but {y : Nat} {q q' : Nat → Bool} (hq : ∀ x, x ≠ y → q' x = q x) (hy : q' y = false) (hy2 : q y = true) : ∀ {l : List Nat}, l.Nodup → y ∈ l → l.countP q = l.countP q' + 1
  | a :: r, nd, hm => by
    have nd' := List.nodup_cons.mp nd
    rw [List.countP_cons, List.countP_cons]
    by_cases e : a = y
    · subst e
      have h1 : r.countP q = r.countP q' := by
        refine List.countP_congr fun x hx => ?_
        rw [hq x fun e => nd'.1 (by rw [← e]; exact hx)]
      rw [hy, hy2, h1]
      rfl
    · have hm' : y ∈ r := (List.mem_cons.mp hm).elim (fun h => absurd h.symm e) id
      rw [countP_but hq hy hy2 nd'.2 hm', hq a e]
      omega
theorem cnt_snoc {L Pr : List Nat} {y p : Nat} (hy : y < L.length) (hn : y ∉ Pr) : cnt L (Pr ++ [y]) p = if p = st L y then cnt L Pr p - 1 else cnt L Pr p := by
  by_cases e : p = st L y
  · rw [if_pos e]
    subst e
    have h := countP_but (y := y) (q := fun x => decide (st L x = st L y) && !decide (x ∈ Pr)) (q' := fun x => decide (st L x = st L y) && !decide (x ∈ Pr ++ [y])) (fun x hx => by
      have e : decide (x ∈ Pr ++ [y]) = decide (x ∈ Pr) := decide_eq_decide.mpr (by
        rw [List.mem_append, List.mem_singleton]
        exact ⟨fun h => h.elim id fun h => absurd h hx, .inl⟩)
      rw [e]) (by
      rw [decide_eq_true (show y ∈ Pr ++ [y] from List.mem_append_right _ (List.mem_singleton.mpr rfl)), Bool.not_true, Bool.and_false]) (by
      rw [decide_eq_true rfl, decide_eq_false hn]
      rfl) List.nodup_range (List.mem_range.mpr hy)
    unfold cnt
    omega
  · rw [if_neg e]
    unfold cnt
    refine List.countP_congr fun x hx => ?_
    by_cases e2 : st L x = p
    · have hxy : x ≠ y := fun e3 => e (by rw [← e2, e3])
      have e4 : decide (x ∈ Pr ++ [y]) = decide (x ∈ Pr) := decide_eq_decide.mpr (by
        rw [List.mem_append, List.mem_singleton]
        exact ⟨fun h => h.elim id fun h => absurd h hxy, .inl⟩)
      rw [e4]
    · rw [decide_eq_false e2]
      rfl
theorem cnt_pos {L Pr : List Nat} {y p : Nat} (hy : y < L.length) (hn : y ∉ Pr) (e : st L y = p) : 0 < cnt L Pr p := by
  cases h : cnt L Pr p with
  | zero => exact absurd (cnt_zero.mp h y hy e) hn
  | succ k => omega
theorem map_st (L : List Nat) : (List.range L.length).map (st L) = L := by
  refine ext_st (by rw [List.length_map, List.length_range]) fun p hp => ?_
  rw [List.length_map, List.length_range] at hp
  rw [st_map (by rw [List.length_range]; exact hp), st_range hp]
theorem cnt_nil (L : List Nat) (p : Nat) : L.count p = cnt L [] p := by
  have h : L.count p = ((List.range L.length).map (st L)).count p := by rw [map_st]
  rw [h]
  unfold cnt List.count
  rw [List.countP_map]
  refine List.countP_congr fun x hx => ?_
  show (st L x == p) = true ↔ _
  rw [beq_iff_eq, Bool.and_eq_true, decide_eq_true_eq]
  exact ⟨fun h => ⟨h, rfl⟩, fun h => h.1⟩
/-! ### the places that wait, in turn -/
/-- W: so far; k of them gone through -/
structure Que (L W : List Nat) (k : Nat) : Prop where
  nd : W.Nodup
  lt : ∀ x ∈ W, x < L.length
  all : ∀ p, p < L.length → (p ∈ W ↔ cnt L (W.take k) p = 0)
  ord : ∀ i y, W[i]? = some y → ∀ x, x < L.length → st L x = y → x ∈ W.take i
  le : k ≤ W.length
def que0 (L : List Nat) : List Nat := (List.range L.length).filter fun p => decide (cnt L [] p = 0)
theorem que_start (L : List Nat) : Que L (que0 L) 0 where
  nd := List.Nodup.sublist List.filter_sublist List.nodup_range
  lt := fun x hx => List.mem_range.mp (List.mem_filter.mp hx).1
  all := fun p hp => by
    rw [List.take_zero]
    unfold que0
    rw [List.mem_filter, decide_eq_true_eq]
    exact ⟨fun h => h.2, fun h => ⟨List.mem_range.mpr hp, h⟩⟩
  ord := fun i y hy x hx e => by
    have h1 := (List.mem_filter.mp (List.mem_of_getElem? hy)).2
    rw [decide_eq_true_eq] at h1
    exact absurd (cnt_zero.mp h1 x hx e) List.not_mem_nil
  le := Nat.zero_le _
theorem take_snoc {W : List Nat} {k y : Nat} (h : W[k]? = some y) : W.take (k + 1) = W.take k ++ [y] := by
  rw [List.take_add_one, h]
  rfl
theorem nodup_take {W : List Nat} (nd : W.Nodup) {k y : Nat} (h : W[k]? = some y) : y ∉ W.take k := fun hm => by
  obtain ⟨j, hj⟩ := List.mem_iff_getElem?.mp hm
  rw [List.getElem?_take] at hj
  split at hj
  · rename_i hjk
    obtain ⟨h1, e1⟩ := List.getElem?_eq_some_iff.mp hj
    obtain ⟨h2, e2⟩ := List.getElem?_eq_some_iff.mp h
    have := (List.getElem_inj nd).mp (e1.trans e2.symm)
    omega
  · cases hj
/-- a turn: the place that the next one leads to joins, or not -/
theorem que_step {L W : List Nat} {k y : Nat} (hL : Lead L) (h : Que L W k) (hy : W[k]? = some y) :
    (cnt L (W.take k ++ [y]) (st L y) = 0 → Que L (W ++ [st L y]) (k + 1)) ∧ (cnt L (W.take k ++ [y]) (st L y) ≠ 0 → Que L W (k + 1)) := by
  have hyW : y ∈ W := List.mem_of_getElem? hy
  have hyl := h.lt y hyW
  have hyn := nodup_take h.nd hy
  have hk : k < W.length := (List.getElem?_eq_some_iff.mp hy).1
  have hsl := st_lt hL hyl
  -- the place led to does not stand in W yet
  have hsW : st L y ∉ W := fun hm => by
    have h1 := (h.all _ hsl).mp hm
    exact hyn (cnt_zero.mp h1 y hyl rfl)
  have hcnt : ∀ p, p ≠ st L y → cnt L (W.take k ++ [y]) p = cnt L (W.take k) p := fun p hp => by rw [cnt_snoc hyl hyn, if_neg hp]
  refine ⟨fun hz => ?_, fun hz => ?_⟩
  · have ht : (W ++ [st L y]).take (k + 1) = W.take k ++ [y] := by
      rw [List.take_append_of_le_length (by omega), take_snoc hy]
    refine ⟨?_, fun x hx => ?_, fun p hp => ?_, fun i z hz' x hx e => ?_, ?_⟩
    · rw [List.nodup_append]
      exact ⟨h.nd, List.nodup_cons.mpr ⟨List.not_mem_nil, List.nodup_nil⟩, fun a ha b hb e => by
        rw [List.mem_singleton] at hb
        subst hb
        subst e
        exact hsW ha⟩
    · rcases List.mem_append.mp hx with hx | hx
      · exact h.lt x hx
      · rw [List.mem_singleton.mp hx]
        exact hsl
    · rw [ht, List.mem_append, List.mem_singleton]
      by_cases e : p = st L y
      · subst e
        exact ⟨fun _ => hz, fun _ => .inr rfl⟩
      · rw [hcnt p e, ← h.all p hp]
        exact ⟨fun h => h.elim id fun h => absurd h e, .inl⟩
    · by_cases hi : i < W.length
      · rw [List.getElem?_append_left hi] at hz'
        rw [List.take_append_of_le_length (by omega)]
        exact h.ord i z hz' x hx e
      · have hi2 : i = W.length := by
          have := (List.getElem?_eq_some_iff.mp hz').1
          rw [List.length_append, List.length_singleton] at this
          omega
        subst hi2
        rw [List.getElem?_append_right (Nat.le_refl _), Nat.sub_self] at hz'
        obtain rfl : st L y = z := Option.some.inj hz'
        rw [List.take_append_of_le_length (Nat.le_refl _), List.take_length]
        have h1 := cnt_zero.mp hz x hx e
        rcases List.mem_append.mp h1 with h1 | h1
        · exact List.mem_of_mem_take h1
        · rw [List.mem_singleton.mp h1]
          exact hyW
    · rw [List.length_append, List.length_singleton]
      omega
  · refine ⟨h.nd, h.lt, fun p hp => ?_, h.ord, by omega⟩
    rw [take_snoc hy]
    by_cases e : p = st L y
    · subst e
      exact ⟨fun h => absurd h hsW, fun h => absurd h hz⟩
    · rw [hcnt p e]
      exact h.all p hp
/-! ### at the end those wait that are on no ring -/
theorem que_ring {L W : List Nat} {k : Nat} (hL : Lead L) (h : Que L W k) : ∀ (i x : Nat), W[i]? = some x → ¬ OnR L x := by
  intro i
  induction i using Nat.strongRecOn with
  | ind i ih =>
    intro x hx hr
    obtain ⟨d, hd, e⟩ := hr
    obtain ⟨d, rfl⟩ : ∃ j, d = j + 1 := ⟨d - 1, by omega⟩
    have hxl := h.lt x (List.mem_of_getElem? hx)
    have e1 : st L (it L d x) = x := by
      rw [← it_succ]
      exact e
    have hm := h.ord i x hx _ (it_lt hL d hxl) e1
    obtain ⟨j, hj⟩ := List.mem_iff_getElem?.mp hm
    rw [List.getElem?_take] at hj
    split at hj
    · rename_i hji
      exact ih j hji _ hj (onR_it ⟨d + 1, hd, e⟩ d)
    · cases hj
/-- a way back through places outside -/
theorem back_chain {L W : List Nat} (h : ∀ p, p < L.length → p ∉ W → ∃ y, y < L.length ∧ st L y = p ∧ y ∉ W) {x : Nat} (hx : x < L.length) (hW : x ∉ W) : ∃ z : Nat → Nat, z 0 = x ∧ ∀ i, z i < L.length ∧ z i ∉ W ∧ st L (z (i + 1)) = z i := by
  have hg : ∀ p : { p : Nat // p < L.length ∧ p ∉ W }, ∃ y : { p : Nat // p < L.length ∧ p ∉ W }, st L y.1 = p.1 := fun ⟨p, h1, h2⟩ => by
    obtain ⟨y, h3, h4, h5⟩ := h p h1 h2
    exact ⟨⟨y, h3, h5⟩, h4⟩
  let g := fun p => Classical.choose (hg p)
  have hgs : ∀ p, st L (g p).1 = p.1 := fun p => Classical.choose_spec (hg p)
  let z : Nat → { p : Nat // p < L.length ∧ p ∉ W } := fun i => Nat.rec ⟨x, hx, hW⟩ (fun _ p => g p) i
  exact ⟨fun i => (z i).1, rfl, fun i => ⟨(z i).2.1, (z i).2.2, hgs (z i)⟩⟩
theorem chain_it {L : List Nat} {z : Nat → Nat} (h : ∀ i, st L (z (i + 1)) = z i) : ∀ d i, it L d (z (i + d)) = z i
  | 0, _ => rfl
  | d + 1, i => by
    show it L d (st L (z (i + d + 1))) = z i
    rw [h (i + d)]
    exact chain_it h d i
theorem que_end {L W : List Nat} (hL : Lead L) (h : Que L W W.length) {x : Nat} (hx : x < L.length) : x ∈ W ↔ ¬ OnR L x := by
  refine ⟨fun hm => ?_, fun hr => ?_⟩
  · obtain ⟨i, hi⟩ := List.mem_iff_getElem?.mp hm
    exact que_ring hL h i x hi
  · refine Classical.byContradiction fun hW => ?_
    obtain ⟨z, z0, hz⟩ := back_chain (L := L) (W := W) (fun p hp hpW => by
      refine Classical.byContradiction fun hno => hpW ((h.all p hp).mpr (cnt_zero.mpr fun y hy e => ?_))
      rw [List.take_length]
      exact Classical.byContradiction fun hyW => hno ⟨y, hy, e, hyW⟩) hx hW
    -- two of n + 1 places are one
    have hrep : ∃ i j, i < j ∧ z i = z j := by
      refine Classical.byContradiction fun hno => ?_
      have h1 := nodup_len (nodup_of_inj (m := L.length + 1) (f := z) fun i j hij _ e => hno ⟨i, j, hij, e⟩) (n := L.length) fun y hy => by
        obtain ⟨i, _, rfl⟩ := List.mem_map.mp hy
        exact (hz i).1
      rw [List.length_map, List.length_range] at h1
      omega
    obtain ⟨i, j, hij, e⟩ := hrep
    have hst : ∀ i, st L (z (i + 1)) = z i := fun i => (hz i).2.2
    have h2 := chain_it hst (j - i) i
    rw [show i + (j - i) = j by omega] at h2
    have hor : OnR L (z j) := ⟨j - i, by omega, by rw [h2, e]⟩
    have h3 := chain_it hst j 0
    rw [Nat.zero_add, z0] at h3
    exact hr (by
      rw [← h3]
      exact onR_it hor j)
/-- the waits, told from the last one on: those from k on are told -/
def Told (L W F : List Nat) (k : Nat) : Prop := F.length = L.length ∧ (∀ x, x < L.length → OnR L x → st F x = 0) ∧ ∀ i x, k ≤ i → W[i]? = some x → IsWait L x (st F x)
theorem told_start (L W : List Nat) : Told L W (List.replicate L.length 0) W.length := by
  refine ⟨List.length_replicate, fun x hx _ => ?_, fun i x hi hx => ?_⟩
  · have h := st_get (L := List.replicate L.length 0) (p := x) (by rw [List.length_replicate]; exact hx)
    rw [List.getElem?_replicate, if_pos hx] at h
    exact (Option.some.inj h).symm
  · have := (List.getElem?_eq_some_iff.mp hx).1
    omega
theorem told_step {L W F : List Nat} {k x : Nat} (hL : Lead L) (h : Que L W W.length) (hT : Told L W F (k + 1)) (hx : W[k]? = some x) : Told L W (F.set x (st F (st L x) + 1)) k := by
  obtain ⟨h1, h2, h3⟩ := hT
  have hxW := List.mem_of_getElem? hx
  have hxl := h.lt x hxW
  have hxr := (que_end hL h hxl).mp hxW
  have hsl := st_lt hL hxl
  have hF : x < F.length := by omega
  refine ⟨by rw [List.length_set, h1], fun y hy hr => ?_, fun i y hi hy => ?_⟩
  · rw [st_set hF, if_neg fun e => hxr (by rw [← e]; exact hr)]
    exact h2 y hy hr
  · rw [st_set hF]
    by_cases e : y = x
    · subst e
      rw [if_pos rfl]
      refine isWait_succ hxr ?_
      by_cases hr : OnR L (st L y)
      · rw [h2 _ hsl hr]
        exact isWait_zero hr
      · have hsW := (que_end hL h hsl).mpr hr
        obtain ⟨j, hj⟩ := List.mem_iff_getElem?.mp hsW
        have hm := h.ord j _ hj y hxl rfl
        obtain ⟨j', hj'⟩ := List.mem_iff_getElem?.mp hm
        rw [List.getElem?_take] at hj'
        split at hj'
        · rename_i hlt
          have : j' = k := by
            obtain ⟨a1, b1⟩ := List.getElem?_eq_some_iff.mp hj'
            obtain ⟨a2, b2⟩ := List.getElem?_eq_some_iff.mp hx
            exact (List.getElem_inj h.nd).mp (b1.trans b2.symm)
          exact h3 j _ (by omega) hj
        · cases hj'
    · rw [if_neg e]
      refine h3 i y ?_ hy
      by_cases hik : i = k
      · subst hik
        rw [hx] at hy
        exact absurd (Option.some.inj hy).symm e
      · omega
theorem told_end {L W F : List Nat} (hL : Lead L) (h : Que L W W.length) (hT : Told L W F 0) {x : Nat} (hx : x < L.length) : IsWait L x (st F x) := by
  by_cases hr : OnR L x
  · rw [hT.2.1 x hx hr]
    exact isWait_zero hr
  · obtain ⟨i, hi⟩ := List.mem_iff_getElem?.mp ((que_end hL h hx).mpr hr)
    exact hT.2.2 i x (Nat.zero_le i) hi
/-! ### all rings, each begun with its least place, rising -/
open Classical in
noncomputable def per (L : List Nat) (p : Nat) : Nat := if h : ∃ m, Orb L p m then Classical.choose h else 0
theorem per_orb {L : List Nat} (hL : Lead L) {p : Nat} (hp : p < L.length) : Orb L p (per L p) := by
  unfold per
  rw [dif_pos (orb_ex hL hp)]
  exact Classical.choose_spec (orb_ex hL hp)
noncomputable def ringAt (L : List Nat) (p : Nat) : List Nat := path L p (per L p)
open Classical in
noncomputable def rgs (L : List Nat) : Nat → List (List Nat)
  | 0 => []
  | k + 1 => if OnR L k ∧ k ∉ (rgs L k).flatten then rgs L k ++ [ringAt L k] else rgs L k
/-- on a ring the way comes back to where it began -/
theorem orb_ring {L : List Nat} {p m : Nat} (h : Orb L p m) (hr : OnR L p) : it L m p = p := by
  obtain ⟨d, hd, e⟩ := hr
  obtain ⟨i, hi, e2⟩ := h.back
  -- it m p = it i p, i < m; if 0 < i, one step back both: not different
  cases i with
  | zero => exact e2
  | succ i =>
    have hm : m = (m - 1) + 1 := by omega
    have hback : ∀ a, it L (d - 1) (it L (a + 1) p) = it L a p := fun a => by
      rw [← it_add, show a + 1 + (d - 1) = d + a by omega, it_add, e]
    have h1 := hback (m - 1)
    rw [← hm, e2, hback i] at h1
    exact absurd h1 (h.inj i (m - 1) (by omega) (by omega))
theorem ring_shut_back {L : List Nat} {p m : Nat} (h : Orb L p m) (hr : OnR L p) {x : Nat} (hx : x ∈ path L p m) : OnR L x ∧ ∃ j, it L j x = p := by
  obtain ⟨i, hi, rfl⟩ := mem_path.mp hx
  refine ⟨onR_it hr i, m - i, ?_⟩
  rw [← it_add, show i + (m - i) = m by omega]
  exact orb_ring h hr
/-- what stands in the rings so far is closed, ahead and behind -/
structure Rgs (L : List Nat) (k : Nat) : Prop where
  lt : ∀ r ∈ rgs L k, ∀ x ∈ r, x < L.length ∧ OnR L x
  has : ∀ x, x < k → x < L.length → OnR L x → x ∈ (rgs L k).flatten
  fwd : ∀ x ∈ (rgs L k).flatten, st L x ∈ (rgs L k).flatten
  form : ∀ r ∈ rgs L k, ∃ p, p < k ∧ p < L.length ∧ OnR L p ∧ r = ringAt L p
theorem rgs_yes {L : List Nat} {k : Nat} (h1 : OnR L k) (h2 : k ∉ (rgs L k).flatten) : rgs L (k + 1) = rgs L k ++ [ringAt L k] := if_pos ⟨h1, h2⟩
theorem rgs_no {L : List Nat} {k : Nat} (h : ¬ (OnR L k ∧ k ∉ (rgs L k).flatten)) : rgs L (k + 1) = rgs L k := if_neg h
theorem rgs_ok {L : List Nat} (hL : Lead L) : ∀ k, k ≤ L.length → Rgs L k
  | 0, _ => ⟨fun r hr => (nomatch hr), fun x h => absurd h (Nat.not_lt_zero x), fun x hx => (nomatch hx), fun r hr => (nomatch hr)⟩
  | k + 1, hk => by
    have ih := rgs_ok hL k (by omega)
    have hkl : k < L.length := by omega
    have ho := per_orb hL hkl
    by_cases hc : OnR L k ∧ k ∉ (rgs L k).flatten
    · have e := rgs_yes hc.1 hc.2
      refine ⟨fun r hr => ?_, fun x hx hl hor => ?_, fun x hx => ?_, fun r hr => ?_⟩
      · rw [e] at hr
        rcases List.mem_append.mp hr with hr | hr
        · exact ih.lt r hr
        · rw [List.mem_singleton.mp hr]
          exact fun x hx => ⟨path_lt hL hkl _ hx, (ring_shut_back ho hc.1 hx).1⟩
      · rw [e, List.flatten_append, List.mem_append]
        by_cases e : x = k
        · subst e
          refine .inr ?_
          rw [List.flatten_singleton]
          exact ho.mem
        · exact .inl (ih.has x (by omega) hl hor)
      · rw [e, List.flatten_append, List.mem_append, List.flatten_singleton] at *
        exact hx.elim (fun h => .inl (ih.fwd x h)) fun h => .inr (ho.shut h)
      · rw [e] at hr
        rcases List.mem_append.mp hr with hr | hr
        · obtain ⟨p, h1, h2⟩ := ih.form r hr
          exact ⟨p, by omega, h2⟩
        · exact ⟨k, by omega, hkl, hc.1, List.mem_singleton.mp hr⟩
    · have e := rgs_no hc
      refine ⟨fun r hr => ?_, fun x hx hl hor => ?_, fun x hx => ?_, fun r hr => ?_⟩
      · rw [e] at hr
        exact ih.lt r hr
      · rw [e]
        by_cases e2 : x = k
        · subst e2
          exact Classical.byContradiction fun h => hc ⟨hor, h⟩
        · exact ih.has x (by omega) hl hor
      · rw [e] at *
        exact ih.fwd x hx
      · rw [e] at hr
        obtain ⟨p, h1, h2⟩ := ih.form r hr
        exact ⟨p, by omega, h2⟩
theorem rgs_fwd_it {L : List Nat} {k : Nat} (h : Rgs L k) {x : Nat} (hx : x ∈ (rgs L k).flatten) : ∀ j, it L j x ∈ (rgs L k).flatten
  | 0 => hx
  | j + 1 => by
    rw [it_succ]
    exact h.fwd _ (rgs_fwd_it h hx j)
/-- a new ring has nothing of those before -/
theorem rgs_new {L : List Nat} (hL : Lead L) {k : Nat} (h : Rgs L k) (hk : k < L.length) (hr : OnR L k) (hn : k ∉ (rgs L k).flatten) (j : Nat) : it L j k ∉ (rgs L k).flatten := fun hm => by
  have ho := per_orb hL hk
  obtain ⟨i, hi, e⟩ := mem_path.mp (ho.all j)
  obtain ⟨_, t, e2⟩ := ring_shut_back ho hr (mem_path.mpr ⟨i, hi, rfl⟩)
  rw [e] at hm
  have h1 := rgs_fwd_it h hm t
  rw [e2] at h1
  exact hn h1
end Ld
namespace Ld
/-! ### the counts as a list -/
def cl (L Pr : List Nat) : List Nat := (List.range L.length).map (cnt L Pr)
theorem cl_len (L Pr : List Nat) : (cl L Pr).length = L.length := by
  unfold cl
  rw [List.length_map, List.length_range]
theorem cl_st {L Pr : List Nat} {p : Nat} (hp : p < L.length) : st (cl L Pr) p = cnt L Pr p := by
  unfold cl
  rw [st_map (by rw [List.length_range]; exact hp), st_range hp]
theorem cl_step {L Pr : List Nat} {y : Nat} (hL : Lead L) (hy : y < L.length) (hn : y ∉ Pr) : (cl L Pr).set (st L y) (cnt L Pr (st L y) - 1) = cl L (Pr ++ [y]) := by
  have hs := st_lt hL hy
  refine ext_st (by rw [List.length_set, cl_len, cl_len]) fun p hp => ?_
  rw [List.length_set, cl_len] at hp
  rw [st_set (by rw [cl_len]; exact hs), cl_st hp, cl_st hp, cnt_snoc hy hn]
  by_cases e : p = st L y
  · subst e
    simp only [if_true]
  · rw [if_neg e, if_neg e]
def ct (L : List Nat) (i : Nat) : List Nat := (List.range L.length).map fun p => (L.take i).count p
theorem ct_len (L : List Nat) (i : Nat) : (ct L i).length = L.length := by
  unfold ct
  rw [List.length_map, List.length_range]
theorem ct_st {L : List Nat} {i p : Nat} (hp : p < L.length) : st (ct L i) p = (L.take i).count p := by
  unfold ct
  rw [st_map (by rw [List.length_range]; exact hp), st_range hp]
theorem ct_zero (L : List Nat) : ct L 0 = List.replicate L.length 0 := by
  unfold ct
  rw [List.map_congr_left (g := fun _ => 0) fun p _ => by rw [List.take_zero, List.count_nil], List.map_const', List.length_range]
theorem ct_step {L : List Nat} {i : Nat} (hL : Lead L) (hi : i < L.length) : (ct L i).set (st L i) ((L.take i).count (st L i) + 1) = ct L (i + 1) := by
  have hs := st_lt hL hi
  refine ext_st (by rw [List.length_set, ct_len, ct_len]) fun p hp => ?_
  rw [List.length_set, ct_len] at hp
  rw [st_set (by rw [ct_len]; exact hs), ct_st hp, ct_st hp, List.take_add_one, st_get hi, List.count_append]
  show _ = _ + List.count p [st L i]
  by_cases e : p = st L i
  · subst e
    rw [if_pos rfl, List.count_singleton_self]
  · rw [if_neg e, List.count_singleton, if_neg (by rw [beq_iff_eq]; exact fun h => e h.symm), Nat.add_zero]
theorem ct_all (L : List Nat) : ct L L.length = cl L [] := by
  unfold ct cl
  rw [List.take_length]
  exact List.map_congr_left fun p _ => cnt_nil L p
end Ld
namespace Ld
/-! ### the waits as a list -/
theorem onR_of_orb {L : List Nat} {p m i : Nat} (hi : i < m) (e : it L m p = it L i p) : OnR L (it L i p) := ⟨m - i, by omega, by rw [← it_add, show i + (m - i) = m by omega, e]⟩
theorem wait_ex {L : List Nat} (hL : Lead L) {x : Nat} (hx : x < L.length) : ∃ k, IsWait L x k := by
  obtain ⟨m, hm⟩ := orb_ex hL hx
  obtain ⟨i, hi, e⟩ := hm.back
  have hor := onR_of_orb hi e
  have h : ∀ k, (∀ j, j < k → ¬ OnR L (it L j x)) ∨ ∃ k, IsWait L x k := fun k => by
    induction k with
    | zero => exact .inl fun j h => absurd h (Nat.not_lt_zero j)
    | succ k ih =>
      rcases ih with ih | ih
      · by_cases hk : OnR L (it L k x)
        · exact .inr ⟨k, hk, ih⟩
        · refine .inl fun j hj => ?_
          by_cases e : j = k
          · subst e
            exact hk
          · exact ih j (by omega)
      · exact .inr ih
  rcases h (i + 1) with h | h
  · exact absurd hor (h i (by omega))
  · exact h
open Classical in
noncomputable def wt (L : List Nat) (x : Nat) : Nat := if h : ∃ k, IsWait L x k then Classical.choose h else 0
theorem wt_is {L : List Nat} (hL : Lead L) {x : Nat} (hx : x < L.length) : IsWait L x (wt L x) := by
  unfold wt
  rw [dif_pos (wait_ex hL hx)]
  exact Classical.choose_spec (wait_ex hL hx)
noncomputable def wtl (L : List Nat) : List Nat := (List.range L.length).map (wt L)
theorem wtl_len (L : List Nat) : (wtl L).length = L.length := by
  unfold wtl
  rw [List.length_map, List.length_range]
theorem wtl_st {L : List Nat} {x : Nat} (hx : x < L.length) : st (wtl L) x = wt L x := by
  unfold wtl
  rw [st_map (by rw [List.length_range]; exact hx), st_range hx]
theorem wtl_uniq {L F : List Nat} (hL : Lead L) (h1 : F.length = L.length) (h2 : ∀ x, x < L.length → IsWait L x (st F x)) : F = wtl L := ext_st (by rw [wtl_len, h1]) fun x hx => by
  rw [wtl_st (by omega)]
  exact (h2 x (by omega)).uniq (wt_is hL (by omega))
theorem wt_zero {L : List Nat} (hL : Lead L) {x : Nat} (hx : x < L.length) : wt L x = 0 ↔ OnR L x := by
  refine ⟨fun h => ?_, fun h => ?_⟩
  · have h1 := wt_is hL hx
    rw [h] at h1
    exact wait_zero h1
  · exact (wt_is hL hx).uniq (isWait_zero h)
theorem wt_lt {L : List Nat} (hL : Lead L) {x : Nat} (hx : x < L.length) : wt L x < L.length := by
  obtain ⟨m, hm⟩ := orb_ex hL hx
  obtain ⟨i, hi, e⟩ := hm.back
  have h1 := hm.le hL hx
  have h2 := wt_is hL hx
  have h3 : ¬ i < wt L x := fun h => h2.2 i h (onR_of_orb hi e)
  omega
theorem flat_nodup_len {L : List Nat} (hL : Lead L) {k : Nat} (hk : k ≤ L.length) {ks : List Nat} (nd : ks.Nodup) (h : ∀ x, x ∈ ks → x ∈ (rgs L k).flatten) : ks.length ≤ L.length := nodup_len nd fun x hx => by
  obtain ⟨r, hr, hxr⟩ := List.mem_flatten.mp (h x hx)
  exact ((rgs_ok hL k hk).lt r hr x hxr).1
/-! ### the turns -/
def lc (t m : Nat) : Nat := t / Nat.gcd t m * m
noncomputable def tf (L : List Nat) (i : Nat) : Nat := ((rgs L L.length).take i).foldl (fun t r => lc t r.length) 1
noncomputable def turnsOf (L : List Nat) : Nat := (rgs L L.length).foldl (fun t r => lc t r.length) 1
theorem tf_all (L : List Nat) : tf L (rgs L L.length).length = turnsOf L := by
  unfold tf turnsOf
  rw [List.take_length]
theorem tf_step {L l : List Nat} {i : Nat} (h : (rgs L L.length)[i]? = some l) : tf L (i + 1) = lc (tf L i) l.length := by
  unfold tf
  rw [List.take_add_one, h, List.foldl_append]
  rfl
end Ld
namespace Ld
theorem rgs_len (L : List Nat) : ∀ k, (rgs L k).length ≤ k
  | 0 => Nat.le_refl 0
  | k + 1 => by
    have ih := rgs_len L k
    by_cases h : OnR L k ∧ k ∉ (rgs L k).flatten
    · rw [rgs_yes h.1 h.2, List.length_append, List.length_singleton]
      omega
    · rw [rgs_no h]
      omega
end Ld
/-! Mf: all settles, and when; primes. Plain Lean. -/
namespace Ld
/-! ### the places on rings -/
theorem onR_far {L : List Nat} (hL : Lead L) {p : Nat} (hp : p < L.length) : OnR L (it L L.length p) := by
  have h1 := (wt_is hL hp).1
  have h2 := wt_lt hL hp
  rw [show L.length = wt L p + (L.length - wt L p) by omega, it_add]
  exact onR_it h1 _
theorem onR_from {L : List Nat} (hL : Lead L) {x : Nat} (hx : x < L.length) (h : OnR L x) : ∃ p, p < L.length ∧ it L L.length p = x := by
  obtain ⟨m, hm, e⟩ := h
  have h1 := it_period (L := L) (p := x) (a := 0) (d := m) (by rw [Nat.zero_add]; exact e) L.length
  rw [Nat.zero_add] at h1
  have h2 : L.length ≤ L.length * m := Nat.le_mul_of_pos_right _ hm
  refine ⟨it L (L.length * m - L.length) x, it_lt hL _ hx, ?_⟩
  rw [← it_add, Nat.sub_add_cancel h2, h1]
  rfl
theorem rgs_gap {L : List Nat} {a : Nat} : ∀ d, (∀ y, a ≤ y → y < a + d → ¬ OnR L y) → rgs L (a + d) = rgs L a
  | 0, _ => rfl
  | d + 1, h => by
    rw [show a + (d + 1) = a + d + 1 by omega, rgs_no fun hc => h (a + d) (by omega) (by omega) hc.1]
    exact rgs_gap d fun y h1 h2 => h y h1 (by omega)
theorem srt_lt {ks : List Nat} (nd : ks.Nodup) : (srt ks).Pairwise (· < ·) := by
  have h1 := srt_le ks
  have h2 : (srt ks).Nodup := (srt_perm ks).nodup_iff.mpr nd
  exact (h1.and h2).imp fun h => Nat.lt_of_le_of_ne h.1 h.2
theorem pair_at {ys : List Nat} (h : ys.Pairwise (· < ·)) {i j x y : Nat} (hi : ys[i]? = some x) (hj : ys[j]? = some y) : i < j ↔ x < y := by
  obtain ⟨h1, rfl⟩ := List.getElem?_eq_some_iff.mp hi
  obtain ⟨h2, rfl⟩ := List.getElem?_eq_some_iff.mp hj
  refine ⟨fun h3 => List.pairwise_iff_getElem.mp h i j h1 h2 h3, fun h3 => Classical.byContradiction fun h4 => ?_⟩
  by_cases h5 : i = j
  · subst h5
    omega
  · have := List.pairwise_iff_getElem.mp h j i h2 h1 (by omega)
    omega
/-! ### least common multiples -/
theorem lc_lcm (t m : Nat) : lc t m = Nat.lcm t m := by
  unfold lc Nat.lcm
  exact Nat.div_mul_right_comm (Nat.gcd_dvd_left t m) m
def gl (rs : List (List Nat)) (t : Nat) : Nat := rs.foldl (fun t r => lc t r.length) t
theorem gl_dvd : ∀ (rs : List (List Nat)) (t : Nat), t ∣ gl rs t ∧ ∀ r ∈ rs, r.length ∣ gl rs t
  | [], t => ⟨Nat.dvd_refl t, fun r hr => (nomatch hr)⟩
  | a :: rs, t => by
    obtain ⟨h1, h2⟩ := gl_dvd rs (lc t a.length)
    show t ∣ gl rs (lc t a.length) ∧ _
    have h3 : t ∣ lc t a.length ∧ a.length ∣ lc t a.length := by
      rw [lc_lcm]
      exact ⟨Nat.dvd_lcm_left _ _, Nat.dvd_lcm_right _ _⟩
    refine ⟨Nat.dvd_trans h3.1 h1, fun r hr => ?_⟩
    rcases List.mem_cons.mp hr with rfl | hr
    · exact Nat.dvd_trans h3.2 h1
    · exact h2 r hr
theorem gl_least {k : Nat} : ∀ (rs : List (List Nat)) (t : Nat), t ∣ k → (∀ r ∈ rs, r.length ∣ k) → gl rs t ∣ k
  | [], t, h, _ => h
  | a :: rs, t, h, hr => by
    show gl rs (lc t a.length) ∣ k
    refine gl_least rs _ ?_ fun r h1 => hr r (List.mem_cons_of_mem _ h1)
    rw [lc_lcm]
    exact Nat.lcm_dvd h (hr a List.mem_cons_self)
theorem ring_len {L r : List Nat} (hL : Lead L) (hr : r ∈ rgs L L.length) : ∃ p, p < L.length ∧ OnR L p ∧ r.length = per L p ∧ r = path L p (per L p) := by
  obtain ⟨p, _, h2, h3, h4⟩ := (rgs_ok hL L.length (Nat.le_refl _)).form r hr
  exact ⟨p, h2, h3, by rw [h4]; exact path_len _ _ _, h4⟩
theorem ring_pos {L r : List Nat} (hL : Lead L) (hr : r ∈ rgs L L.length) : 0 < r.length ∧ r.length ≤ L.length := by
  obtain ⟨p, h2, _, h4, _⟩ := ring_len hL hr
  rw [h4]
  exact ⟨(per_orb hL h2).pos, (per_orb hL h2).le hL h2⟩
theorem turns_dvd {L r : List Nat} (hr : r ∈ rgs L L.length) : r.length ∣ turnsOf L := (gl_dvd (rgs L L.length) 1).2 r hr
theorem gl_pos : ∀ (rs : List (List Nat)) (t : Nat), 0 < t → (∀ r ∈ rs, 0 < r.length) → 0 < gl rs t
  | [], t, h, _ => h
  | a :: rs, t, h, hr => by
    show 0 < gl rs (lc t a.length)
    refine gl_pos rs _ ?_ fun r h1 => hr r (List.mem_cons_of_mem _ h1)
    rw [lc_lcm]
    exact Nat.lcm_pos h (hr a List.mem_cons_self)
theorem turns_pos {L : List Nat} (hL : Lead L) : 0 < turnsOf L := gl_pos _ 1 Nat.one_pos fun r hr => (ring_pos hL hr).1
/-! ### all settles -/
theorem it_mul {L : List Nat} {q l : Nat} (h : it L l q = q) (k : Nat) : it L (k * l) q = q := by
  have h1 := it_period (L := L) (p := q) (a := 0) (d := l) (by rw [Nat.zero_add]; exact h) k
  rw [Nat.zero_add] at h1
  exact h1
theorem ring_turn {L : List Nat} (hL : Lead L) {q : Nat} (hq : q < L.length) (h : OnR L q) : it L (turnsOf L) q = q := by
  have hR := rgs_ok hL L.length (Nat.le_refl _)
  obtain ⟨r, hr, hqr⟩ := List.mem_flatten.mp (hR.has q hq hq h)
  obtain ⟨p, h2, h3, h4, h5⟩ := ring_len hL hr
  have ho := per_orb hL h2
  obtain ⟨k, hk⟩ := turns_dvd hr
  rw [h5] at hqr
  obtain ⟨i, hi, rfl⟩ := mem_path.mp hqr
  have e : it L (per L p) (it L i p) = it L i p := by
    rw [← it_add, Nat.add_comm, it_add, orb_ring ho h3]
  rw [hk, h4, Nat.mul_comm]
  exact it_mul e k
theorem settles {L : List Nat} (hL : Lead L) {W : Nat} (hW : ∀ x, x < L.length → wt L x ≤ W) : tm L (W + turnsOf L) = tm L W := by
  unfold tm
  refine List.map_congr_left fun p hp => ?_
  have hp := List.mem_range.mp hp
  have h1 : OnR L (it L W p) := by
    have h2 := hW p hp
    rw [show W = wt L p + (W - wt L p) by omega, it_add]
    exact onR_it (wt_is hL hp).1 _
  rw [it_add]
  exact ring_turn hL (it_lt hL _ hp) h1
theorem orb_back {L : List Nat} {p m t : Nat} (h : Orb L p m) (hr : OnR L p) (e : it L t p = p) : m ∣ t := by
  have h1 : it L (t % m) p = p := by
    have h2 : it L (t / m * m + t % m) p = p := by
      rw [Nat.div_add_mod']
      exact e
    rw [it_add, it_mul (orb_ring h hr)] at h2
    exact h2
  cases hz : t % m with
  | zero => exact Nat.dvd_of_mod_eq_zero hz
  | succ k =>
    rw [hz] at h1
    exact absurd h1.symm (h.inj 0 (k + 1) (Nat.succ_pos k) (by rw [← hz]; exact Nat.mod_lt _ h.pos))
/-- with fewer turns it doesn't settle -/
theorem unsettled {L : List Nat} (hL : Lead L) {W t : Nat} (h0 : 0 < t) (ht : t < turnsOf L) : tm L (W + t) ≠ tm L W := fun e => by
  have h : ∀ r ∈ rgs L L.length, r.length ∣ t := fun r hr => by
    obtain ⟨p, h2, h3, h4, _⟩ := ring_len hL hr
    have ho := per_orb hL h2
    have e1 : it L (W + t) p = it L W p := by
      have := congrArg (fun l => st l p) e
      have this : st (tm L (W + t)) p = st (tm L W) p := this
      rw [st_tm h2, st_tm h2] at this
      exact this
    have hle : W ≤ W * per L p := Nat.le_mul_of_pos_right _ ho.pos
    have e2 := congrArg (it L (W * per L p - W)) e1
    rw [← it_add, ← it_add, show W + t + (W * per L p - W) = W * per L p + t by omega, show W + (W * per L p - W) = W * per L p by omega, it_add, it_mul (orb_ring ho h3)] at e2
    rw [h4]
    exact orb_back ho h3 e2
  have h1 : turnsOf L ∣ t := gl_least _ 1 (Nat.one_dvd t) h
  have := Nat.le_of_dvd h0 h1
  omega
/-! ### primes -/
def IsP (p : Nat) : Prop := 2 ≤ p ∧ ∀ d, d ∣ p → d = 1 ∨ d = p
theorem isP_split {p a b : Nat} (hp : IsP p) (h : p ∣ a * b) : p ∣ a ∨ p ∣ b := by
  rcases hp.2 (Nat.gcd p a) (Nat.gcd_dvd_left p a) with e | e
  · exact .inr (Nat.Coprime.dvd_of_dvd_mul_left e h)
  · exact .inl (by rw [← e]; exact Nat.gcd_dvd_right p a)
theorem isP_ex : ∀ n, 2 ≤ n → ∃ p, IsP p ∧ p ∣ n := fun n => by
  induction n using Nat.strongRecOn with
  | _ n ih =>
    intro h
    by_cases hp : ∀ d, d ∣ n → d = 1 ∨ d = n
    · exact ⟨n, ⟨h, hp⟩, Nat.dvd_refl n⟩
    · obtain ⟨d, hd⟩ := Classical.not_forall.mp hp
      obtain ⟨h1, h2⟩ := Classical.not_imp.mp hd
      obtain ⟨h3, h4⟩ := not_or.mp h2
      have h5 := Nat.le_of_dvd (by omega) h1
      have h6 : 0 < d := Nat.pos_of_dvd_of_pos h1 (by omega)
      obtain ⟨p, hp1, hp2⟩ := ih d (by omega) (by omega)
      exact ⟨p, hp1, Nat.dvd_trans hp2 h1⟩
theorem isP_gl {p : Nat} (hp : IsP p) : ∀ (rs : List (List Nat)) (t : Nat), p ∣ gl rs t → p ∣ t ∨ ∃ r ∈ rs, p ∣ r.length
  | [], t, h => .inl h
  | a :: rs, t, h => by
    rcases isP_gl hp rs (lc t a.length) h with h | ⟨r, hr, h⟩
    · rw [lc_lcm] at h
      rcases isP_split hp (Nat.dvd_trans h (Nat.lcm_dvd_mul t a.length)) with h | h
      · exact .inl h
      · exact .inr ⟨a, List.mem_cons_self, h⟩
    · exact .inr ⟨r, List.mem_cons_of_mem _ hr, h⟩
theorem isP_turns {L : List Nat} {p : Nat} (hp : IsP p) (h : p ∣ turnsOf L) : ∃ r ∈ rgs L L.length, p ∣ r.length := by
  rcases isP_gl hp _ 1 h with h | h
  · have := Nat.le_of_dvd Nat.one_pos h
    have := hp.1
    omega
  · exact h
/-- the primes of N, as far as M and d: F those found -/
structure Prm (N : Nat) (F : List Nat) (M d : Nat) : Prop where
  npos : 0 < N
  two : 2 ≤ d
  pos : 0 < M
  dvd : M ∣ N
  good : ∀ q ∈ F, 2 ≤ q ∧ q ∣ N
  all : ∀ p, IsP p → p ∣ N → p ∣ M ∨ p ∈ F
  low : ∀ p, IsP p → p ∣ M → d ≤ p
  len : F.length + 2 ≤ d
  top : d = 2 ∨ d ≤ N
theorem prm_start {N : Nat} (h : 0 < N) : Prm N [] N 2 := ⟨h, Nat.le_refl 2, h, Nat.dvd_refl N, fun q hq => (nomatch hq), fun p _ h => .inl h, fun p hp _ => hp.1, Nat.le_refl 2, .inl rfl⟩
/-- within a turn of the loop: M by d, so often -/
structure PrmI (N : Nat) (F : List Nat) (M0 d M : Nat) : Prop where
  pos : 0 < M
  dvd : M ∣ M0
  all : ∀ p, IsP p → p ∣ M0 → p ∣ M ∨ p = d
theorem prmI_start {N M d : Nat} {F : List Nat} (h : Prm N F M d) : PrmI N F M d M := ⟨h.pos, Nat.dvd_refl M, fun p _ h => .inl h⟩
theorem prmI_step {N M0 d M : Nat} {F : List Nat} (h : Prm N F M0 d) (hi : PrmI N F M0 d M) (hd : M % d = 0) : PrmI N F M0 d (M / d) ∧ M / d < M := by
  have h2 := h.two
  obtain ⟨k, rfl⟩ := Nat.dvd_of_mod_eq_zero hd
  rw [Nat.mul_div_cancel_left k (by omega)]
  have hp := hi.pos
  have hk : 0 < k := Nat.pos_of_ne_zero fun e => by
    subst e
    omega
  refine ⟨⟨hk, Nat.dvd_trans (Nat.dvd_mul_left k d) hi.dvd, fun p hp h1 => ?_⟩, ?_⟩
  · rcases hi.all p hp h1 with h3 | h3
    · rcases isP_split hp h3 with h4 | h4
      · have h5 := Nat.le_of_dvd (by omega) h4
        have h6 := h.low p hp h1
        exact .inr (by omega)
      · exact .inl h4
    · exact .inr h3
  · have : 2 * k ≤ d * k := Nat.mul_le_mul_right k h2
    omega
/-- the turn's end -/
theorem prm_next {N M0 d M : Nat} {F : List Nat} (h : Prm N F M0 d) (hdd : d * d ≤ M0) (hi : PrmI N F M0 d M) (hd : M % d ≠ 0) : Prm N (if M0 % d = 0 then F ++ [d] else F) M (d + 1) := by
  have h2 := h.two
  have hN := Nat.le_of_dvd h.npos h.dvd
  have hdl : d + 1 ≤ d * d := by
    have : 2 * d ≤ d * d := Nat.mul_le_mul_right d h2
    omega
  have hno : ∀ p, IsP p → p ∣ M → p ≠ d := fun p _ h1 e => hd (Nat.mod_eq_zero_of_dvd (e ▸ h1))
  refine ⟨h.npos, by omega, hi.pos, Nat.dvd_trans hi.dvd h.dvd, fun q hq => ?_, fun p hp h1 => ?_, fun p hp h1 => ?_, ?_, .inr (by omega)⟩
  · split at hq
    · rename_i hz
      rcases List.mem_append.mp hq with hq | hq
      · exact h.good q hq
      · rw [List.mem_singleton.mp hq]
        exact ⟨h2, Nat.dvd_trans (Nat.dvd_of_mod_eq_zero hz) h.dvd⟩
    · exact h.good q hq
  · rcases h.all p hp h1 with h3 | h3
    · rcases hi.all p hp h3 with h4 | h4
      · exact .inl h4
      · subst h4
        rw [if_pos (Nat.mod_eq_zero_of_dvd h3)]
        exact .inr (List.mem_append_right _ (List.mem_singleton.mpr rfl))
    · refine .inr ?_
      split
      · exact List.mem_append_left _ h3
      · exact h3
  · have h3 := h.low p hp (Nat.dvd_trans h1 hi.dvd)
    have h4 := hno p hp h1
    omega
  · have := h.len
    split
    · rw [List.length_append, List.length_singleton]
      omega
    · omega
/-- what _law_primes gives back -/
def primesOf (F : List Nat) (M : Nat) : List Nat := if 1 < M then F ++ [M] else F
structure PrmOk (N : Nat) (F : List Nat) : Prop where
  good : ∀ q ∈ F, 2 ≤ q ∧ q ∣ N
  all : ∀ p, IsP p → p ∣ N → p ∈ F
  len : F.length ≤ N
theorem prm_end {N M d : Nat} {F : List Nat} (h : Prm N F M d) (hdd : M < d * d) : PrmOk N (primesOf F M) := by
  have h2 := h.two
  unfold primesOf
  refine ⟨fun q hq => ?_, fun p hp h1 => ?_, ?_⟩
  · split at hq
    · rcases List.mem_append.mp hq with hq | hq
      · exact h.good q hq
      · rw [List.mem_singleton.mp hq]
        exact ⟨by omega, h.dvd⟩
    · exact h.good q hq
  · rcases h.all p hp h1 with h3 | h3
    · have hpM := Nat.le_of_dvd h.pos h3
      have hp2 := hp.1
      rw [if_pos (by omega)]
      refine List.mem_append_right _ (List.mem_singleton.mpr ?_)
      obtain ⟨k, hk⟩ := h3
      have hkp : 0 < k := Nat.pos_of_ne_zero fun e => by
        subst e
        have := h.pos
        omega
      by_cases hk1 : k = 1
      · rw [hk, hk1, Nat.mul_one]
      · obtain ⟨p2, h4, h5⟩ := isP_ex k (by omega)
        have h6 := h.low p2 h4 (Nat.dvd_trans h5 ⟨p, by rw [hk, Nat.mul_comm]⟩)
        have h7 := Nat.le_of_dvd hkp h5
        have h8 := h.low p hp ⟨k, hk⟩
        have h9 : d * d ≤ p * k := Nat.mul_le_mul h8 (by omega)
        omega
    · split
      · exact List.mem_append_left _ h3
      · exact h3
  · have := h.len
    have := h.top
    have := h.npos
    split
    · rw [List.length_append, List.length_singleton]
      omega
    · omega
/-! ### lengths, each once -/
theorem sum_sub : ∀ {ms ls : List Nat}, ms.Nodup → (∀ x ∈ ms, x ∈ ls) → ms.sum ≤ ls.sum
  | [], ls, _, _ => Nat.zero_le _
  | m :: ms, ls, nd, h => by
    obtain ⟨n1, n2⟩ := List.nodup_cons.mp nd
    have hm := h m List.mem_cons_self
    have hp := (List.perm_cons_erase hm).sum_nat
    have ih := sum_sub (ls := ls.erase m) n2 fun x hx => (List.mem_erase_of_ne fun e => n1 (by rw [← e]; exact hx)).mpr (h x (List.mem_cons_of_mem _ hx))
    rw [List.sum_cons] at hp ⊢
    omega
theorem flat_nodup {L : List Nat} (hL : Lead L) : ∀ k, k ≤ L.length → (rgs L k).flatten.Nodup
  | 0, _ => List.nodup_nil
  | k + 1, hk => by
    have ih := flat_nodup hL k (by omega)
    by_cases hc : OnR L k ∧ k ∉ (rgs L k).flatten
    · rw [rgs_yes hc.1 hc.2, List.flatten_append, List.flatten_singleton, List.nodup_append]
      refine ⟨ih, (per_orb hL (by omega)).nodup, fun x hx y hy e => ?_⟩
      subst e
      obtain ⟨i, _, rfl⟩ := mem_path.mp hy
      exact rgs_new hL (rgs_ok hL k (by omega)) (by omega) hc.1 hc.2 i hx
    · rw [rgs_no hc]
      exact ih
theorem lens_sum {L : List Nat} (hL : Lead L) {ms : List Nat} (nd : ms.Nodup) (h : ∀ x ∈ ms, x ∈ (rgs L L.length).map List.length) : ms.sum ≤ L.length := by
  have h1 := sum_sub nd h
  have h2 : (rgs L L.length).flatten.length ≤ L.length := flat_nodup_len hL (Nat.le_refl _) (flat_nodup hL _ (Nat.le_refl _)) fun x hx => hx
  rw [List.length_flatten] at h2
  omega
/-- once no prime of the lengths goes into what is left, that is one -/
theorem left_one {L : List Nat} {PH : List Nat} {M : Nat} (hd : M ∣ turnsOf L) (h0 : 0 < M) (hall : ∀ p, IsP p → ∀ r ∈ rgs L L.length, p ∣ r.length → p ∈ PH) (hno : ∀ q ∈ PH, 2 ≤ q → ¬ q ∣ M) : M = 1 := by
  refine Classical.byContradiction fun h => ?_
  obtain ⟨p, hp, h1⟩ := isP_ex M (by omega)
  obtain ⟨r, hr, h2⟩ := isP_turns hp (Nat.dvd_trans h1 hd)
  exact hno p (hall p hp r hr h2) hp.1 h1
/-! ### the greatest wait -/
theorem mx_nat : ∀ (l : List Nat) (d : Nat), (l.map fun (x : Nat) => (x : Int)).foldl max (d : Int) = ((l.foldl max d : Nat) : Int)
  | [], d => rfl
  | a :: l, d => by
    rw [List.map_cons, List.foldl_cons, List.foldl_cons, show max (d : Int) (a : Int) = ((max d a : Nat) : Int) by omega]
    exact mx_nat l (max d a)
theorem le_mx : ∀ (l : List Nat) (d : Nat), d ≤ l.foldl max d ∧ ∀ x ∈ l, x ≤ l.foldl max d
  | [], d => ⟨Nat.le_refl d, fun x hx => (nomatch hx)⟩
  | a :: l, d => by
    obtain ⟨h1, h2⟩ := le_mx l (max d a)
    rw [List.foldl_cons]
    refine ⟨by omega, fun x hx => ?_⟩
    rcases List.mem_cons.mp hx with rfl | hx
    · omega
    · exact h2 x hx
end Ld
/-! Mg: roots of what can be taken back. Plain Lean. -/
namespace Ld
/-! ### all places on rings -/
theorem it_inj {L : List Nat} (hL : Lead L) (hI : Inj L) : ∀ (k : Nat) {a b : Nat}, a < L.length → b < L.length → it L k a = it L k b → a = b
  | 0, _, _, _, _, h => h
  | k + 1, a, b, ha, hb, h => by
    rw [it_succ, it_succ] at h
    exact it_inj hL hI k ha hb (hI _ _ (it_lt hL k ha) (it_lt hL k hb) h)
theorem onR_all {L : List Nat} (hL : Lead L) (nd : L.Nodup) {p : Nat} (hp : p < L.length) : OnR L p := by
  have ho := per_orb hL hp
  obtain ⟨i, hi, e⟩ := ho.back
  refine ⟨per L p - i, by omega, it_inj hL (inj_of nd) i (it_lt hL _ hp) hp ?_⟩
  rw [← it_add, Nat.sub_add_cancel (by omega), e]
theorem per_back {L : List Nat} (hL : Lead L) (nd : L.Nodup) {p : Nat} (hp : p < L.length) : it L (per L p) p = p := orb_ring (per_orb hL hp) (onR_all hL nd hp)
/-! ### rings, each once -/
theorem rgs_disj {L : List Nat} (hL : Lead L) : ∀ k, k ≤ L.length → ∀ {r s : List Nat} {p : Nat}, r ∈ rgs L k → s ∈ rgs L k → p ∈ r → p ∈ s → r = s
  | 0, _, r, s, p, h, _, _, _ => nomatch h
  | k + 1, hk, r, s, p, h1, h2, h3, h4 => by
    by_cases hc : OnR L k ∧ k ∉ (rgs L k).flatten
    · have hno : ∀ t ∈ rgs L k, p ∈ t → p ∈ ringAt L k → False := fun t ht hp hq => by
        obtain ⟨i, _, e⟩ := mem_path.mp hq
        exact rgs_new hL (rgs_ok hL k (by omega)) (by omega) hc.1 hc.2 i (by rw [← e]; exact List.mem_flatten.mpr ⟨t, ht, hp⟩)
      rw [rgs_yes hc.1 hc.2, List.mem_append, List.mem_singleton] at h1 h2
      rcases h1 with h1 | h1 <;> rcases h2 with h2 | h2
      · exact rgs_disj hL k (by omega) h1 h2 h3 h4
      · exact (hno r h1 h3 (h2 ▸ h4)).elim
      · exact (hno s h2 h4 (h1 ▸ h3)).elim
      · rw [h1, h2]
    · rw [rgs_no hc] at h1 h2
      exact rgs_disj hL k (by omega) h1 h2 h3 h4
theorem rgs_nodup {L : List Nat} (hL : Lead L) : ∀ k, k ≤ L.length → (rgs L k).Nodup
  | 0, _ => List.nodup_nil
  | k + 1, hk => by
    have ih := rgs_nodup hL k (by omega)
    by_cases hc : OnR L k ∧ k ∉ (rgs L k).flatten
    · rw [rgs_yes hc.1 hc.2, List.nodup_append]
      refine ⟨ih, List.nodup_cons.mpr ⟨List.not_mem_nil, List.nodup_nil⟩, fun x hx y hy e => ?_⟩
      rw [List.mem_singleton] at hy
      subst hy
      subst e
      exact hc.2 (List.mem_flatten.mpr ⟨_, hx, (per_orb hL (by omega)).mem⟩)
    · rw [rgs_no hc]
      exact ih
/-- a ring, as a list -/
structure RingL (L A : List Nat) : Prop where
  pos : 0 < A.length
  nd : A.Nodup
  lt : ∀ a, a < A.length → st A a < L.length
  step : ∀ a, a < A.length → st L (st A a) = st A ((a + 1) % A.length)
theorem path_st {L : List Nat} {p m a : Nat} (h : a < m) : st (path L p m) a = it L a p := by
  have h1 := path_get (L := L) (p := p) h
  rw [st_get (by rw [path_len]; exact h)] at h1
  exact Option.some.inj h1
theorem ring_is {L r : List Nat} (hL : Lead L) (hr : r ∈ rgs L L.length) : RingL L r := by
  obtain ⟨p, h2, h3, h4, h5⟩ := ring_len hL hr
  have ho := per_orb hL h2
  have hb := orb_ring ho h3
  subst h5
  refine ⟨by rw [path_len]; exact ho.pos, ho.nodup, fun a ha => ?_, fun a ha => ?_⟩
  · rw [path_len] at ha
    rw [path_st ha]
    exact it_lt hL _ h2
  · rw [path_len] at ha ⊢
    have hm : (a + 1) % per L p < per L p := Nat.mod_lt _ ho.pos
    rw [path_st ha, path_st hm, ← it_succ]
    by_cases e : a + 1 = per L p
    · rw [e, Nat.mod_self, hb]
      rfl
    · rw [Nat.mod_eq_of_lt (by omega)]
theorem st_inj {A : List Nat} (nd : A.Nodup) {a b : Nat} (ha : a < A.length) (hb : b < A.length) (e : st A a = st A b) : a = b := by
  rw [st_eq ha, st_eq hb] at e
  exact (List.getElem_inj nd).mp e
theorem mem_st {A : List Nat} {x : Nat} (h : x ∈ A) : ∃ a, a < A.length ∧ x = st A a := by
  obtain ⟨a, ha, e⟩ := List.getElem_of_mem h
  exact ⟨a, ha, by rw [st_eq ha, e]⟩
/-! ### two rings, by turns -/
def brF (F A B : List Nat) : Nat → List Nat
  | 0 => F
  | i + 1 => ((brF F A B i).set (st A i) (st B i)).set (st B i) (st A ((i + 1) % A.length))
structure BrA (L A B : List Nat) : Prop where
  a : RingL L A
  b : RingL L B
  len : B.length = A.length
  dis : ∀ x, x ∈ A → x ∈ B → False
structure Br (F A B : List Nat) (i : Nat) (F' : List Nat) : Prop where
  len : F'.length = F.length
  out : ∀ p, p ∉ A → p ∉ B → st F' p = st F p
  one : ∀ a, a < i → st F' (st A a) = st B a
  two : ∀ a, a < i → st F' (st B a) = st A ((a + 1) % A.length)
theorem br_step {L F A B : List Nat} (h : BrA L A B) (hF : F.length = L.length) : ∀ i, i ≤ A.length → Br F A B i (brF F A B i)
  | 0, _ => ⟨rfl, fun _ _ _ => rfl, fun a h => absurd h (Nat.not_lt_zero a), fun a h => absurd h (Nat.not_lt_zero a)⟩
  | i + 1, hi => by
    have ih := br_step h hF i (by omega)
    have hA := h.a.lt i (by omega)
    have hBl : i < B.length := by
      have := h.len
      omega
    have hB := h.b.lt i hBl
    have mA : st A i ∈ A := st_mem (by omega)
    have mB : st B i ∈ B := st_mem hBl
    have hl := ih.len
    have hs : ∀ p, st (brF F A B (i + 1)) p = if p = st B i then st A ((i + 1) % A.length) else if p = st A i then st B i else st (brF F A B i) p := fun p => by
      show st (((brF F A B i).set (st A i) (st B i)).set (st B i) _) p = _
      rw [st_set (by rw [List.length_set]; omega), st_set (by omega)]
    refine ⟨?_, fun p h1 h2 => ?_, fun a ha => ?_, fun a ha => ?_⟩
    · show (((brF F A B i).set _ _).set _ _).length = _
      rw [List.length_set, List.length_set]
      exact hl
    · have n1 : p ≠ st B i := fun e => h2 (by rw [e]; exact mB)
      have n2 : p ≠ st A i := fun e => h1 (by rw [e]; exact mA)
      rw [hs, if_neg n1, if_neg n2]
      exact ih.out p h1 h2
    · have n1 : st A a ≠ st B i := fun e => h.dis _ (st_mem (L := A) (p := a) (by omega)) (by rw [e]; exact mB)
      rw [hs, if_neg n1]
      by_cases e : a = i
      · rw [if_pos (by rw [e]), e]
      · rw [if_neg fun e2 => e (st_inj h.a.nd (by omega) (by omega) e2)]
        exact ih.one a (by omega)
    · rw [hs]
      by_cases e : a = i
      · rw [if_pos (by rw [e]), e]
      · have n2 : st B a ≠ st A i := fun e2 => h.dis (st B a) (by rw [e2]; exact mA) (st_mem (L := B) (p := a) (by omega))
        rw [if_neg fun e2 => e (st_inj h.b.nd (by omega) (by omega) e2), if_neg n2]
        exact ih.two a (by omega)
/-! ### a ring of odd length -/
def hvF (F A : List Nat) : Nat → List Nat
  | 0 => F
  | i + 1 => (hvF F A i).set (st A i) (st A ((i + (A.length + 1) / 2) % A.length))
structure Hv (F A : List Nat) (i : Nat) (F' : List Nat) : Prop where
  len : F'.length = F.length
  out : ∀ p, p ∉ A → st F' p = st F p
  one : ∀ a, a < i → st F' (st A a) = st A ((a + (A.length + 1) / 2) % A.length)
theorem hv_step {L F A : List Nat} (h : RingL L A) (hF : F.length = L.length) : ∀ i, i ≤ A.length → Hv F A i (hvF F A i)
  | 0, _ => ⟨rfl, fun _ _ => rfl, fun a h => absurd h (Nat.not_lt_zero a)⟩
  | i + 1, hi => by
    have ih := hv_step h hF i (by omega)
    have hA := h.lt i (by omega)
    have mA : st A i ∈ A := st_mem (by omega)
    have hl := ih.len
    have hs : ∀ p, st (hvF F A (i + 1)) p = if p = st A i then st A ((i + (A.length + 1) / 2) % A.length) else st (hvF F A i) p := fun p => by
      show st ((hvF F A i).set (st A i) _) p = _
      rw [st_set (by omega)]
    refine ⟨?_, fun p h1 => ?_, fun a ha => ?_⟩
    · show ((hvF F A i).set _ _).length = _
      rw [List.length_set]
      exact hl
    · have n2 : p ≠ st A i := fun e => h1 (by rw [e]; exact mA)
      rw [hs, if_neg n2]
      exact ih.out p h1
    · rw [hs]
      by_cases e : a = i
      · rw [if_pos (by rw [e]), e]
      · rw [if_neg fun e2 => e (st_inj h.nd (by omega) (by omega) e2)]
        exact ih.one a (by omega)
/-! ### half of the way, ring by ring -/
structure Half (L F : List Nat) (Hl : List (List Nat)) : Prop where
  len : F.length = L.length
  sub : ∀ r ∈ Hl, r ∈ rgs L L.length
  ok : ∀ r ∈ Hl, ∀ p ∈ r, (∃ s ∈ Hl, st F p ∈ s) ∧ st F (st F p) = st L p
theorem Half.far {L F : List Nat} {Hl : List (List Nat)} (hL : Lead L) (h : Half L F Hl) {A : List Nat} (hA : A ∈ rgs L L.length) (hn : A ∉ Hl) {r : List Nat} (hr : r ∈ Hl) {p : Nat} (hp : p ∈ r) : p ∉ A := fun hq =>
  hn (rgs_disj hL _ (Nat.le_refl _) hA (h.sub r hr) hq hp ▸ hr)
theorem half_braid {L F F' A B : List Nat} {Hl : List (List Nat)} (hL : Lead L) (h : Half L F Hl) (hA : A ∈ rgs L L.length) (hB : B ∈ rgs L L.length) (hab : BrA L A B) (nA : A ∉ Hl) (nB : B ∉ Hl) (hb : Br F A B A.length F') : Half L F' (Hl ++ [A, B]) := by
  have mA : A ∈ Hl ++ [A, B] := List.mem_append_right _ List.mem_cons_self
  have mB : B ∈ Hl ++ [A, B] := List.mem_append_right _ (List.mem_cons_of_mem _ List.mem_cons_self)
  have hl := hab.len
  have hpos := hab.a.pos
  refine ⟨hb.len.trans h.len, fun r hr => ?_, fun r hr p hp => ?_⟩
  · rcases List.mem_append.mp hr with hr | hr
    · exact h.sub r hr
    · rcases List.mem_cons.mp hr with rfl | hr
      · exact hA
      · rw [List.mem_singleton.mp hr]
        exact hB
  · rcases List.mem_append.mp hr with hr | hr
    · obtain ⟨⟨s, hs, h1⟩, h2⟩ := h.ok r hr p hp
      have e1 : st F' p = st F p := hb.out p (h.far hL hA nA hr hp) (h.far hL hB nB hr hp)
      have e2 : st F' (st F p) = st F (st F p) := hb.out _ (h.far hL hA nA hs h1) (h.far hL hB nB hs h1)
      rw [e1, e2]
      exact ⟨⟨s, List.mem_append_left _ hs, h1⟩, h2⟩
    · rcases List.mem_cons.mp hr with rfl | hr
      · obtain ⟨a, ha, rfl⟩ := mem_st hp
        rw [hb.one a ha, hb.two a ha, hab.a.step a ha]
        exact ⟨⟨B, mB, st_mem (by omega)⟩, rfl⟩
      · rw [List.mem_singleton.mp hr] at hp
        obtain ⟨a, ha, rfl⟩ := mem_st hp
        have ha' : a < A.length := by omega
        have hm := Nat.mod_lt (a + 1) hpos
        rw [hb.two a ha', hb.one _ hm, hab.b.step a ha, hl]
        exact ⟨⟨A, mA, st_mem hm⟩, rfl⟩
theorem half_halve {L F F' A : List Nat} {Hl : List (List Nat)} (hL : Lead L) (h : Half L F Hl) (hA : A ∈ rgs L L.length) (hodd : A.length % 2 = 1) (nA : A ∉ Hl) (hb : Hv F A A.length F') : Half L F' (Hl ++ [A]) := by
  have mA : A ∈ Hl ++ [A] := List.mem_append_right _ List.mem_cons_self
  have hR := ring_is hL hA
  have hpos := hR.pos
  refine ⟨hb.len.trans h.len, fun r hr => ?_, fun r hr p hp => ?_⟩
  · rcases List.mem_append.mp hr with hr | hr
    · exact h.sub r hr
    · rw [List.mem_singleton.mp hr]
      exact hA
  · rcases List.mem_append.mp hr with hr | hr
    · obtain ⟨⟨s, hs, h1⟩, h2⟩ := h.ok r hr p hp
      have e1 : st F' p = st F p := hb.out p (h.far hL hA nA hr hp)
      have e2 : st F' (st F p) = st F (st F p) := hb.out _ (h.far hL hA nA hs h1)
      rw [e1, e2]
      exact ⟨⟨s, List.mem_append_left _ hs, h1⟩, h2⟩
    · rw [List.mem_singleton.mp hr] at hp
      obtain ⟨a, ha, rfl⟩ := mem_st hp
      have hm := Nat.mod_lt (a + (A.length + 1) / 2) hpos
      rw [hb.one a ha, hb.one _ hm, hR.step a ha]
      refine ⟨⟨A, mA, st_mem hm⟩, ?_⟩
      rw [Nat.mod_add_mod, show a + (A.length + 1) / 2 + (A.length + 1) / 2 = a + 1 + A.length by omega, Nat.add_mod_right]
theorem half_all {L F : List Nat} {Hl : List (List Nat)} (hL : Lead L) (nd : L.Nodup) (h : Half L F Hl) (hall : ∀ r ∈ rgs L L.length, r ∈ Hl) : Lead F ∧ F.length = L.length ∧ F.map (st F) = L := by
  have hR := rgs_ok hL L.length (Nat.le_refl _)
  have hp : ∀ p, p < L.length → st F p < L.length ∧ st F (st F p) = st L p := fun p hp => by
    obtain ⟨r, hr, hpr⟩ := List.mem_flatten.mp (hR.has p hp hp (onR_all hL nd hp))
    obtain ⟨⟨s, hs, h1⟩, h2⟩ := h.ok r (hall r hr) p hpr
    exact ⟨(hR.lt s (h.sub s hs) _ h1).1, h2⟩
  refine ⟨fun x hx => ?_, h.len, ext_st (by rw [List.length_map]; exact h.len) fun p hp2 => ?_⟩
  · obtain ⟨a, ha, rfl⟩ := mem_st hx
    rw [h.len] at ha ⊢
    exact (hp a ha).1
  · rw [List.length_map] at hp2
    rw [st_map hp2]
    exact (hp p (h.len ▸ hp2)).2
/-! ### rings of a length -/
noncomputable def ofLen (L : List Nat) (m : Nat) : List (List Nat) := (rgs L L.length).filter fun r => decide (r.length = m)
theorem mem_ofLen {L r : List Nat} {m : Nat} : r ∈ ofLen L m ↔ r ∈ rgs L L.length ∧ r.length = m := by
  unfold ofLen
  rw [List.mem_filter, decide_eq_true_eq]
theorem ofLen_nodup {L : List Nat} (hL : Lead L) (m : Nat) : (ofLen L m).Nodup := List.Nodup.sublist List.filter_sublist (rgs_nodup hL _ (Nat.le_refl _))
theorem nodup_takeG {α : Type} {W : List α} (nd : W.Nodup) {k : Nat} {y : α} (h : W[k]? = some y) : y ∉ W.take k := fun hm => by
  obtain ⟨j, hj⟩ := List.mem_iff_getElem?.mp hm
  rw [List.getElem?_take] at hj
  split at hj
  · obtain ⟨h1, e1⟩ := List.getElem?_eq_some_iff.mp hj
    obtain ⟨h2, e2⟩ := List.getElem?_eq_some_iff.mp h
    have := (List.getElem_inj nd).mp (e1.trans e2.symm)
    omega
  · cases hj
end Ld
/-! Mh: what is done twice has rings of each even length in even number. Plain Lean. -/
namespace Ld
theorem even_inv {α : Type} [DecidableEq α] (f : α → α) : ∀ (n : Nat) (l : List α), l.length ≤ n → l.Nodup → (∀ x ∈ l, f x ∈ l ∧ f (f x) = x ∧ f x ≠ x) → l.length % 2 = 0
  | _, [], _, _, _ => rfl
  | 0, x :: t, h, _, _ => by
    rw [List.length_cons] at h
    omega
  | n + 1, x :: t, h, nd, hf => by
    obtain ⟨n1, n2⟩ := List.nodup_cons.mp nd
    obtain ⟨h1, h2, h3⟩ := hf x List.mem_cons_self
    have hm : f x ∈ t := (List.mem_cons.mp h1).resolve_left h3
    have hl := List.length_erase_of_mem hm
    have hpos : 0 < t.length := List.length_pos_of_mem hm
    rw [List.length_cons] at h
    have ih := even_inv f n (t.erase (f x)) (by omega) (n2.erase _) fun y hy => by
      obtain ⟨hy1, hy2⟩ := (List.Nodup.mem_erase_iff n2).mp hy
      obtain ⟨g1, g2, g3⟩ := hf y (List.mem_cons_of_mem _ hy2)
      refine ⟨(List.Nodup.mem_erase_iff n2).mpr ⟨fun e => ?_, (List.mem_cons.mp g1).resolve_left fun e => ?_⟩, g2, g3⟩
      · have e2 := congrArg f e
        rw [g2, h2] at e2
        exact n1 (e2 ▸ hy2)
      · have e2 := congrArg f e
        rw [g2] at e2
        exact hy1 e2
    rw [List.length_cons]
    omega
def twice (L : List Nat) : List Nat := L.map (st L)
theorem twice_len (L : List Nat) : (twice L).length = L.length := List.length_map _
theorem twice_st {L : List Nat} {p : Nat} (hp : p < L.length) : st (twice L) p = st L (st L p) := st_map hp
theorem twice_lead {L : List Nat} (hL : Lead L) : Lead (twice L) := fun x hx => by
  rw [twice_len]
  obtain ⟨y, hy, rfl⟩ := List.mem_map.mp hx
  exact st_lt hL (hL y hy)
theorem twice_it {L : List Nat} (hL : Lead L) : ∀ (k : Nat) {p : Nat}, p < L.length → it (twice L) k p = it L (2 * k) p
  | 0, _, _ => rfl
  | k + 1, p, hp => by
    rw [it_succ, twice_it hL k hp, twice_st (it_lt hL _ hp), show 2 * (k + 1) = 2 * k + 1 + 1 by omega, it_succ, it_succ]
theorem twice_nodup {L : List Nat} (hL : Lead L) (nd : L.Nodup) : (twice L).Nodup := nodup_of fun a b ha hb e => by
  rw [twice_len] at ha hb
  rw [twice_st ha, twice_st hb] at e
  exact inj_of nd _ _ ha hb (inj_of nd _ _ (st_lt hL ha) (st_lt hL hb) e)
theorem twice_swap {L : List Nat} (hL : Lead L) {p : Nat} (hp : p < L.length) (k : Nat) : it (twice L) k (st L p) = st L (it (twice L) k p) := by
  rw [twice_it hL k (st_lt hL hp), twice_it hL k hp, ← it_succ, show st L p = it L 1 p from rfl, ← it_add, Nat.add_comm]
/-- rings of what is done twice: that of a place, and what stands on it -/
theorem ring_of {T : List Nat} (hL : Lead T) (nd : T.Nodup) {q : Nat} (hq : q < T.length) : ∃ s ∈ rgs T T.length, q ∈ s ∧ (∀ x, x ∈ s ↔ ∃ b, x = it T b q) ∧ it T s.length q = q ∧ ∀ t, it T t q = q → s.length ∣ t := by
  have hR := rgs_ok hL T.length (Nat.le_refl _)
  obtain ⟨s, hs, hqs⟩ := List.mem_flatten.mp (hR.has q hq hq (onR_all hL nd hq))
  obtain ⟨p, h2, h3, h4, h5⟩ := ring_len hL hs
  have ho := per_orb hL h2
  have hb := orb_ring ho h3
  rw [h5] at hqs
  obtain ⟨j, hj, rfl⟩ := mem_path.mp hqs
  refine ⟨s, hs, by rw [h5]; exact hqs, fun x => ?_, ?_, fun t ht => ?_⟩
  · rw [h5]
    constructor
    · intro hx
      obtain ⟨i, hi, rfl⟩ := mem_path.mp hx
      refine ⟨per T p - j + i, ?_⟩
      rw [← it_add, show j + (per T p - j + i) = per T p + i by omega, it_add, hb]
    · rintro ⟨b, rfl⟩
      rw [← it_add]
      exact ho.all _
  · rw [h4, ← it_add, Nat.add_comm, it_add, hb]
  · rw [h4]
    refine orb_back ho h3 (it_inj hL (inj_of nd) j (it_lt hL _ h2) h2 ?_)
    rw [← it_add, Nat.add_comm, it_add]
    exact ht
open Classical in
noncomputable def mate (L : List Nat) (m : Nat) (r : List Nat) : List Nat := if h : ∃ s ∈ ofLen (twice L) m, st L (st r 0) ∈ s then choose h else r
theorem mate_is {L r s : List Nat} {m : Nat} (hL : Lead L) (hs : s ∈ ofLen (twice L) m) (h : st L (st r 0) ∈ s) : mate L m r = s := by
  have hex : ∃ s ∈ ofLen (twice L) m, st L (st r 0) ∈ s := ⟨s, hs, h⟩
  unfold mate
  rw [dif_pos hex]
  obtain ⟨h1, h2⟩ := Classical.choose_spec hex
  exact rgs_disj (twice_lead hL) _ (Nat.le_refl _) (mem_ofLen.mp h1).1 (mem_ofLen.mp hs).1 h2 h
theorem twice_even {L : List Nat} (hL : Lead L) (nd : L.Nodup) {m : Nat} (hm : m % 2 = 0) : (ofLen (twice L) m).length % 2 = 0 := by
  have hT := twice_lead hL
  have ndT := twice_nodup hL nd
  have hlen := twice_len L
  refine even_inv (mate L m) _ _ (Nat.le_refl _) (ofLen_nodup hT m) fun r hr => ?_
  obtain ⟨hr1, hr2⟩ := mem_ofLen.mp hr
  have hRr := ring_is hT hr1
  have hp := hRr.lt 0 hRr.pos
  have mp : st r 0 ∈ r := st_mem hRr.pos
  generalize ep : st r 0 = p at hp mp
  have hpL : p < L.length := by omega
  -- r is the ring of p
  obtain ⟨r', k1, k2, k3, k4, k5⟩ := ring_of hT ndT hp
  have er : r' = r := rgs_disj hT _ (Nat.le_refl _) k1 hr1 k2 mp
  subst er
  rw [hr2] at k4 k5
  -- the ring of L p
  have hq : st L p < (twice L).length := by
    rw [hlen]
    exact st_lt hL hpL
  obtain ⟨s, g1, g2, g3, g4, g5⟩ := ring_of hT ndT hq
  have hsm : s.length = m := by
    refine Nat.dvd_antisymm (g5 m ?_) (k5 s.length ?_)
    · rw [twice_swap hL hpL, k4]
    · rw [twice_swap hL hpL] at g4
      exact inj_of nd _ _ (hlen ▸ it_lt hT _ hp) hpL g4
  have hs : s ∈ ofLen (twice L) m := mem_ofLen.mpr ⟨g1, hsm⟩
  have e1 : mate L m r' = s := mate_is hL hs (by rw [ep]; exact g2)
  rw [e1]
  refine ⟨hs, ?_, fun e => ?_⟩
  · have hRs := ring_is hT g1
    obtain ⟨b, hb⟩ := (g3 (st s 0)).mp (st_mem hRs.pos)
    refine mate_is hL hr ?_
    rw [hb, twice_swap hL hpL, ← twice_st (hlen ▸ it_lt hT b hp), ← it_succ]
    exact (k3 _).mpr ⟨b + 1, rfl⟩
  · rw [e] at g2
    obtain ⟨a, ha⟩ := (k3 _).mp g2
    rw [twice_it hL a hpL] at ha
    have hu : ∃ u, u % 2 = 1 ∧ it L u p = p := by
      cases a with
      | zero => exact ⟨1, rfl, ha⟩
      | succ a =>
        refine ⟨2 * a + 1, by omega, ?_⟩
        rw [show 2 * (a + 1) = 2 * a + 1 + 1 by omega, it_succ] at ha
        exact (inj_of nd _ _ hpL (it_lt hL _ hpL) ha).symm
    obtain ⟨u, hu1, hu2⟩ := hu
    have hd := k5 u (by rw [twice_it hL u hpL, show 2 * u = u + u by omega, it_add, hu2, hu2])
    have := Nat.mod_mod_of_dvd u (Nat.dvd_of_mod_eq_zero hm)
    obtain ⟨c, hc⟩ := Nat.dvd_trans (Nat.dvd_of_mod_eq_zero hm) hd
    omega
/-- places exchanged: one ring, of length two -/
theorem swap_rings : ofLen [1, 0] 2 = [[0, 1]] := by
  have hL : Lead [1, 0] := fun x hx => by
    rcases List.mem_cons.mp hx with rfl | hx
    · decide
    · rw [List.mem_singleton.mp hx]
      decide
  have hO : Orb [1, 0] 0 2 := ⟨by decide, fun i j hij hj => by
    have hi : i = 0 := by omega
    have hj : j = 1 := by omega
    subst hi
    subst hj
    decide, 0, by decide, rfl⟩
  have hper : per [1, 0] 0 = 2 := (per_orb hL (by decide)).uniq hO
  have hr0 : OnR [1, 0] 0 := ⟨2, by decide, rfl⟩
  have hring : ringAt [1, 0] 0 = [0, 1] := by
    unfold ringAt
    rw [hper]
    rfl
  have e1 : rgs [1, 0] 1 = [[0, 1]] := by
    rw [rgs_yes hr0 (fun h => (nomatch h)), hring]
    rfl
  have e2 : rgs [1, 0] 2 = [[0, 1]] := by
    rw [rgs_no (fun h => h.2 (by rw [e1]; decide)), e1]
  unfold ofLen
  rw [show ([1, 0] : List Nat).length = 2 from rfl, e2]
  rfl
theorem swap_odd : (∀ m, m % 2 = 0 → (ofLen [1, 0] m).length % 2 = 0) → False := fun h => by
  have h2 := h 2 rfl
  rw [swap_rings] at h2
  cases h2
end Ld
/-! Evx: what readings evaluate to: further rules over Evl. -/
namespace Ld
open PySem L2 Evl
/-! ### names of the built-ins -/
theorem bo_len : bootBuiltins "len" = some (.builtin "len") := by decide +kernel
theorem bo_sum : bootBuiltins "sum" = some (.builtin "sum") := by decide +kernel
theorem bo_all : bootBuiltins "all" = some (.builtin "all") := by decide +kernel
theorem bo_any : bootBuiltins "any" = some (.builtin "any") := by decide +kernel
theorem bo_max : bootBuiltins "max" = some (.builtin "max") := by decide +kernel
theorem bo_min : bootBuiltins "min" = some (.builtin "min") := by decide +kernel
theorem bo_sorted : bootBuiltins "sorted" = some (.builtin "sorted") := by decide +kernel
theorem bo_isinstance : bootBuiltins "isinstance" = some (.builtin "isinstance") := by decide +kernel
theorem bo_list : bootBuiltins "list" = some (.type "list") := by decide +kernel
theorem bo_int : bootBuiltins "int" = some (.type "int") := by decide +kernel
theorem bo_bool : bootBuiltins "bool" = some (.type "bool") := by decide +kernel
theorem bo_str : bootBuiltins "str" = some (.type "str") := by decide +kernel
theorem bo_tuple : bootBuiltins "tuple" = some (.type "tuple") := by decide +kernel
/-- no built-in that the texts call is another thing -/
structure Bl (mg : Str → Option Value) : Prop where
  len_ : mg "len" = none
  sum_ : mg "sum" = none
  range_ : mg "range" = none
  list_ : mg "list" = none
  enumerate_ : mg "enumerate" = none
  isinstance_ : mg "isinstance" = none
  int_ : mg "int" = none
  bool_ : mg "bool" = none
  all_ : mg "all" = none
  any_ : mg "any" = none
  max_ : mg "max" = none
  min_ : mg "min" = none
  sorted_ : mg "sorted" = none
  set_ : mg "set" = none
  reversed_ : mg "reversed" = none
  tuple_ : mg "tuple" = none

/-! ### a def that keeps its promise, wherever it stands -/
structure Dk (P : Program) (w : World) (K : PySem.W.Frag) (mg : Str → Option Value) (base : Heap) (CX : CXT) (k : Nat) (x : Str) (ps : List Str) (sp : Sp) : Prop where
  ex : ∃ (f : Addr) (fd : FuncData), FnOk P w K mg base CX k f fd ps sp ∧ mg x = some (.ref f) ∧ PySem.W.keepIn K (.ref f) = true ∧ Binds K fd ps []
theorem pe_callD {X : Cx} {CX : CXT} {k : Nat} {x : Str} {ps : List Str} {sp : Sp} {E : XK} {e : Expr} {es : List Expr} {t : TA} {p pos : Pos} (D : Dk X.prog X.w X.K X.mg X.base CX k x ps sp) (hr : Room k X.A) (hg : Gl X x) (hx : Passes CX X E)
    (ha : PA X (e :: es) t) (hdb : (x == ("__debug__" : Str)) = false := by decide) (he : starEach (e :: es) X.env = (false, eval e X.env) :: starEach es X.env := by rfl) (hpl : (backTo pos (starEach es X.env)).any (·.1) = false := by rfl) :
    PE X (.Call (.Name x p) (e :: es) [] pos) (tCall sp [] E t) := by
  obtain ⟨f, fd, F, m, kp, b⟩ := D.ex
  exact pe_call F hr hg m kp b .nil hx ha hdb he hpl

/-! ### rules with the written part named -/
section
variable {X : Cx} {K : PySem.W.Frag}
def rLen1 (K : PySem.W.Frag) : List V → Hp → VK → Prop := fun xs H Q => ∃ p ys, xs = [V.ref p] ∧ (SqL K H p ys ∨ SqT K H p ys) ∧ Q (.int ys.length) H
def rList1 (K : PySem.W.Frag) : List V → Hp → VK → Prop := fun xs H Q => ∃ p ys, xs = [V.ref p] ∧ (SqL K H p ys ∨ SqT K H p ys) ∧ ∀ l, H l = none → Q (.ref l) (upd H l (.lst ys))
theorem call_lenK (h : X.K = K) : CallR X (.builtin "len") (rLen1 K) := by
  subst h
  exact call_len_seq
theorem call_listK (h : X.K = K) : CallR X (.type "list") (rList1 K) := by
  subst h
  exact call_list_of
theorem cr_sumK (h : X.K = K) (hc : X.calm = true) : CallR X (.builtin "sum") (rSum K) := by
  subst h
  exact cr_sum hc
theorem cr_allK (h : X.K = K) (hc : X.calm = true) : CallR X (.builtin "all") (rAll K) := by
  subst h
  exact cr_all hc
theorem cr_anyK (h : X.K = K) (hc : X.calm = true) : CallR X (.builtin "any") (rAny K) := by
  subst h
  exact cr_any hc
theorem cr_sortedK (h : X.K = K) : CallR X (.builtin "sorted") (rSortedI K) := by
  subst h
  exact cr_sortedI
theorem call_isiK' (h : X.K = K) : CallR X (.builtin "isinstance") (rIsi K) := by
  subst h
  exact call_isi
theorem ix_listK (h : X.K = K) : IxR X (rIxL K) := by
  subst h
  exact ix_list
theorem ix_tupK (h : X.K = K) : IxR X (rIxT K) := by
  subst h
  exact ix_tup
theorem op_inK (h : X.K = K) : OpR X (compareOp .In) (rIn K false) := by
  subst h
  exact op_in_seq
theorem op_notInK (h : X.K = K) : OpR X (compareOp .NotIn) (rIn K true) := by
  subst h
  exact op_notIn_seq
theorem op_eqK (h : X.K = K) (hu : X.A.units + 64 < cLine) : OpR X (compareOp .Eq) (rEqD K) := by
  subst h
  exact op_eqD hu
theorem op_neK (h : X.K = K) (hu : X.A.units + 64 < cLine) : OpR X (compareOp .NotEq) (rNeD K) := by
  subst h
  exact op_neD hu
theorem sl_listK (h : X.K = K) : SlR X (rSlL K) := by
  subst h
  exact sl_list
end

/-! ### lists of numbers -/
def nl (L : List Nat) : List V := L.map fun (x : Nat) => V.int (x : Int)
def il (L : List Int) : List V := L.map V.int
theorem nl_len (L : List Nat) : (nl L).length = L.length := by unfold nl; rw [List.length_map]
theorem il_len (L : List Int) : (il L).length = L.length := by unfold il; rw [List.length_map]
theorem nl_il (L : List Nat) : nl L = il (L.map fun (x : Nat) => (x : Int)) := by
  unfold nl il
  rw [List.map_map]
  rfl
theorem nl_get {L : List Nat} {i : Nat} {x : Nat} (h : L[i]? = some x) : (nl L)[i]? = some (.int (x : Int)) := by
  unfold nl
  rw [List.getElem?_map, h]
  rfl
theorem nl_st {L : List Nat} {p : Nat} (h : p < L.length) : (nl L)[p]? = some (.int (st L p : Int)) := nl_get (st_get h)
theorem at_nl {L : List Nat} {p : Nat} (h : p < L.length) : atI (nl L) (p : Int) = some (.int (st L p : Int)) := atI_nat (nl_st h)
theorem nl_inv {L : List Nat} {i : Nat} {x : V} (h : (nl L)[i]? = some x) : ∃ (y : Nat), L[i]? = some y ∧ x = .int (y : Int) ∧ i < L.length := by
  unfold nl at h
  rw [List.getElem?_map] at h
  cases e : L[i]? with
  | none =>
    rw [e] at h
    cases h
  | some y =>
    rw [e] at h
    exact ⟨y, rfl, (Option.some.inj h).symm, (List.getElem?_eq_some_iff.mp e).1⟩
theorem il_inv {L : List Int} {i : Nat} {x : V} (h : (il L)[i]? = some x) : ∃ (y : Int), L[i]? = some y ∧ x = .int y ∧ i < L.length := by
  unfold il at h
  rw [List.getElem?_map] at h
  cases e : L[i]? with
  | none =>
    rw [e] at h
    cases h
  | some y =>
    rw [e] at h
    exact ⟨y, rfl, (Option.some.inj h).symm, (List.getElem?_eq_some_iff.mp e).1⟩

section
variable {K : PySem.W.Frag} {σ : L2.St} {H H' : Hp} {ta tb tc te tx td ty : TE} {t u : TT} {x y z v : V} {r r' : R2} {p q : Addr}
/-! ### comparisons -/
theorem rv_dec {g : Int → Int → V} {i j : Int} {w : V} (e : g i j = w) : RV (rI0 g) (.int i) (.int j) H w := by
  rw [← e]
  exact rv_I0
theorem rv_IW {C : Int → Int → Prop} {g : Int → Int → V} {i j : Int} {w : V} (hc : C i j) (e : g i j = w) : RV (rI C g) (.int i) (.int j) H w := by
  rw [← e]
  exact rv_I hc
theorem ev_chain {b c : Bool} (ha : Ev ta σ H x) (hb : Ev tb σ H y) (hc : Ev tc σ H z) (h1 : RV r x y H (.bl b)) (h2 : RV r' y z H (.bl c)) : Ev (tChain r r' ta tb tc) σ H (.bl (b && c)) := fun H1 e Q q =>
  ha H1 e _ fun H2 e2 => hb H2 (e.trans e2) _ fun H3 e3 => h1 H3 ((e.trans e2).trans e3) _ fun H4 e4 => ⟨b, rfl, by
    cases b with
    | true =>
      rw [if_pos rfl]
      exact hc H4 (((e.trans e2).trans e3).trans e4) _ fun H5 e5 => h2 H5 ((((e.trans e2).trans e3).trans e4).trans e5) Q fun H6 e6 => q H6 ((((e2.trans e3).trans e4).trans e5).trans e6)
    | false =>
      rw [if_neg Bool.false_ne_true]
      exact q H4 ((e2.trans e3).trans e4)⟩
theorem dpAll_int {K : PySem.W.Frag} {H : Hp} : ∀ L : List Int, DpAll K H (il L) (L.map PyData.int)
  | [] => .nil
  | x :: r => .cons (.int x) (dpAll_int r)
theorem dp_il {L : List Int} (h : SqL K H p (il L)) : Dp K H (.ref p) (.list (L.map PyData.int)) := .lst h (dpAll_int L)
theorem eqvAll_int : ∀ A B : List Int, PyData.eqvAll (A.map PyData.int) (B.map PyData.int) = decide (A = B)
  | [], [] => rfl
  | [], _ :: _ => rfl
  | _ :: _, [] => rfl
  | a :: r, b :: s => by
    show (PyData.eqv (.int a) (.int b) && PyData.eqvAll (r.map PyData.int) (s.map PyData.int)) = _
    rw [eqvAll_int r s]
    show ((a == b) && decide (r = s)) = decide (a :: r = b :: s)
    rw [Bool.eq_iff_iff]
    simp
theorem eqv_int (A B : List Int) : PyData.eqv (.list (A.map PyData.int)) (.list (B.map PyData.int)) = decide (A = B) := eqvAll_int A B
theorem canAll_int : ∀ A : List Int, PyData.canLayAll0 (A.map PyData.int) = true
  | [] => rfl
  | a :: r => by
    show (PyData.canLay0 (.int a) && PyData.canLayAll0 (r.map PyData.int)) = true
    rw [canAll_int r]
    rfl

theorem depthAll_int : ∀ A : List Int, PyData.depthAll (A.map PyData.int) = 0
  | [] => rfl
  | a :: r => by
    show max (PyData.depth (.int a)) (PyData.depthAll (r.map PyData.int)) = 0
    rw [depthAll_int r]
    rfl
theorem shaped_int (A : List Int) : SeqAt.shaped (.list (A.map PyData.int)) = true := by
  unfold SeqAt.shaped
  have h1 : PyData.canLay0 (.list (A.map PyData.int)) = true := canAll_int A
  have h2 : PyData.depth (.list (A.map PyData.int)) = 1 := by
    show PyData.depthAll (A.map PyData.int) + 1 = 1
    rw [depthAll_int]
  rw [h1, h2]
  rfl
theorem rv_eqI {A B : List Int} (h1 : SqL K H p (il A)) (h2 : SqL K H q (il B)) : RV (rEqD K) (.ref p) (.ref q) H (.bl (decide (A = B))) := fun H1 e Q k =>
  ⟨_, _, dp_il (ex_l e h1), dp_il (ex_l e h2), shaped_int A, shaped_int B, by
    rw [eqv_int]
    exact k H1 (Ex.refl H1)⟩
theorem rv_neI {A B : List Int} (h1 : SqL K H p (il A)) (h2 : SqL K H q (il B)) : RV (rNeD K) (.ref p) (.ref q) H (.bl (!decide (A = B))) := fun H1 e Q k =>
  ⟨_, _, dp_il (ex_l e h1), dp_il (ex_l e h2), shaped_int A, shaped_int B, by
    rw [eqv_int]
    exact k H1 (Ex.refl H1)⟩
theorem cast_inj {A B : List Nat} : (A.map fun (x : Nat) => (x : Int)) = (B.map fun (x : Nat) => (x : Int)) ↔ A = B := by
  refine ⟨fun h => ?_, fun h => by rw [h]⟩
  refine List.map_inj_right (fun x y e => ?_) |>.mp h
  omega
theorem rv_eqN {A B : List Nat} (h1 : SqL K H p (nl A)) (h2 : SqL K H q (nl B)) : RV (rEqD K) (.ref p) (.ref q) H (.bl (decide (A = B))) := by
  rw [nl_il] at h1 h2
  have h := rv_eqI h1 h2
  rw [decide_eq_decide.mpr cast_inj] at h
  exact h
theorem rv_neN {A B : List Nat} (h1 : SqL K H p (nl A)) (h2 : SqL K H q (nl B)) : RV (rNeD K) (.ref p) (.ref q) H (.bl (!decide (A = B))) := by
  rw [nl_il] at h1 h2
  have h := rv_neI h1 h2
  rw [decide_eq_decide.mpr cast_inj] at h
  exact h
theorem rv_neN0 {A B : List Nat} (h1 : SqL K H p (nl A)) (h2 : SqL K H q (nl B)) (e : A = B) : RV (rNeD K) (.ref p) (.ref q) H (.bl false) := by
  have h := rv_neN h1 h2
  rw [decide_eq_true e] at h
  exact h
theorem rv_eqN1 {A B : List Nat} (h1 : SqL K H p (nl A)) (h2 : SqL K H q (nl B)) (e : A = B) : RV (rEqD K) (.ref p) (.ref q) H (.bl true) := by
  have h := rv_eqN h1 h2
  rw [decide_eq_true e] at h
  exact h
/-- one number from a list of numbers, by its place -/
theorem rv_ixN {L : List Nat} {j : Nat} (h : SqL K H p (nl L)) (hj : j < L.length) : RV (rIxL K) (.ref p) (.int (j : Int)) H (.int (st L j : Int)) := rv_ixL h (at_nl hj)

/-! ### tests -/
theorem et_yes : EvT tYes σ H true := fun H1 _ _ q => q H1 (Ex.refl H1)
theorem et_orF {tt uu : TT} (h1 : EvT tt σ H false) (h2 : EvT uu σ H false) : EvT (tOr tt uu) σ H false := et_or h1 fun _ => h2
theorem et_notT {tt : TT} (h1 : EvT tt σ H true) : EvT (tNot tt) σ H false := et_not h1
theorem et_notF {tt : TT} (h1 : EvT tt σ H false) : EvT (tNot tt) σ H true := et_not h1
theorem et_andT {tt uu : TT} (h1 : EvT tt σ H true) (h2 : EvT uu σ H true) : EvT (tAnd tt uu) σ H true := et_and h1 fun _ => h2
theorem ev_andT (h1 : Ev ta σ H (.bl true)) (h2 : Ev tb σ H (.bl true)) : Ev (tAndV ta tb) σ H (.bl true) := ev_andV h1 fun _ => h2
theorem ev_notF (h1 : Ev ta σ H (.bl false)) : Ev (tNotV ta) σ H (.bl true) := ev_notV h1

/-! ### calls on values -/
theorem ev_isi {c : V} {t u : Value} {b : Bool} (ha : Ev ta σ H x) (hc : Ev tb σ H c) (hk : ClsV c u) (ht : ∀ H1, Ex H H1 → TyX K H1 x t) (hb : PySem.W.kitOne K t u = some b) : Ev (tCB (rIsi K) (tCons ta (tCons tb tNil))) σ H (.bl b) := fun H1 e Q q =>
  ha H1 e _ fun H2 e2 => hc H2 (e.trans e2) _ fun H3 e3 => ⟨x, c, t, u, b, rfl, hk, ht H3 ((e.trans e2).trans e3), hb, q H3 (e2.trans e3)⟩
theorem ev_isiInt {i : Int} (ha : Ev ta σ H (.int i)) : Ev (tCB (rIsi K) (tCons ta (tCons (tC (.ty "int")) tNil))) σ H (.bl true) := ev_isi ha ev_c (.ty "int") (fun _ _ => .base (.int i)) (kit_ty (by decide +kernel))
theorem ev_isiBool {i : Int} (ha : Ev ta σ H (.int i)) : Ev (tCB (rIsi K) (tCons ta (tCons (tC (.ty "bool")) tNil))) σ H (.bl false) := ev_isi ha ev_c (.ty "bool") (fun _ _ => .base (.int i)) (kit_ty (by decide +kernel))
theorem ty_list {xs : List V} (h : Rd H p (.lst xs)) {H1 : Hp} (e : Ex H H1) : TyX K H1 (.ref p) (.type "list") := by
  rcases h with h | ⟨o, h⟩
  · exact .base (.lst (e _ _ h))
  · exact .base (.frz (e _ _ h))
theorem ev_isiList {xs : List V} (ha : Ev ta σ H (.ref p)) (h : Rd H p (.lst xs)) : Ev (tCB (rIsi K) (tCons ta (tCons (tC (.ty "list")) tNil))) σ H (.bl true) := ev_isi ha ev_c (.ty "list") (fun _ e => ty_list h e) (kit_ty (by decide +kernel))
theorem ev_lenL {xs : List V} (ha : Ev ta σ H (.ref p)) (h : SqL K H p xs) : Ev (tCB (rLen1 K) (tCons ta tNil)) σ H (.int (xs.length : Int)) := ev_len ha h
theorem ev_lenNl {L : List Nat} (ha : Ev ta σ H (.ref p)) (h : SqL K H p (nl L)) : Ev (tCB (rLen1 K) (tCons ta tNil)) σ H (.int (L.length : Int)) := by
  have h1 := ev_lenL ha h
  rw [nl_len] at h1
  exact h1
theorem ev_lenIl {L : List Int} (ha : Ev ta σ H (.ref p)) (h : SqL K H p (il L)) : Ev (tCB (rLen1 K) (tCons ta tNil)) σ H (.int (L.length : Int)) := by
  have h1 := ev_lenL ha h
  rw [il_len] at h1
  exact h1
theorem el_listOf {xs : List V} (ha : Ev ta σ H (.ref p)) (h : SqL K H p xs) : EvL (tCB (rList1 K) (tCons ta tNil)) σ H xs := el_list ha h
theorem ev_sum {ns : List Int} (ha : Ev ta σ H (.ref p)) (h : SqL K H p (il ns)) : Ev (tCB (rSum K) (tCons ta tNil)) σ H (.int ns.sum) := fun H1 e Q q =>
  ha H1 e _ fun H2 e2 => ⟨p, ns, rfl, ex_l (e.trans e2) h, q H2 e2⟩
theorem ev_all {bs : List Bool} (ha : EvL ta σ H (bs.map V.bl)) : Ev (tCB (rAll K) (tCons ta tNil)) σ H (.bl (bs.all id)) := fun H1 e Q q =>
  ha H1 e _ fun p H2 _ e2 h2 => ⟨p, bs, rfl, sq_of h2, q H2 e2⟩
theorem ev_allT {n : Nat} (ha : EvL ta σ H (List.replicate n (V.bl true))) : Ev (tCB (rAll K) (tCons ta tNil)) σ H (.bl true) := by
  have e : List.replicate n (V.bl true) = (List.replicate n true).map V.bl := by rw [List.map_replicate]
  rw [e] at ha
  have h := ev_all (K := K) ha
  rw [show (List.replicate n true).all id = true from List.all_eq_true.mpr fun x hx => (List.mem_replicate.mp hx).2] at h
  exact h
/-- a call of a def: a value, a new list -/
theorem ev_callV {sp : Sp} {vs : List V} {E : XK} {ta : TA} (h : EvA ta σ H vs) (hs : SpV sp vs H z) : Ev (tCall sp [] E ta) σ H z := ev_call h (by rw [List.append_nil]; exact hs)
theorem el_callL {sp : Sp} {vs xs : List V} {E : XK} {ta : TA} (h : EvA ta σ H vs) (hs : SpL sp vs H xs) : EvL (tCall sp [] E ta) σ H xs := el_call h (by rw [List.append_nil]; exact hs)
/-- .. one of whose arguments is a new list -/
theorem ev_callN1 {sp : Sp} {xs : List V} {E : XK} (h : EvL ta σ H xs) (hs : ∀ p H1, Ex H H1 → H1 p = some (.lst xs) → SpV sp [.ref p] H1 z) : Ev (tCall sp [] E (tCons ta tNil)) σ H z := fun H1 e Q q =>
  h H1 e _ fun p H2 _ e2 hp => hs p H2 (e.trans e2) hp H2 (Ex.refl H2) Q (fun H3 e3 => q H3 (e2.trans e3)) E

/-! ### dicts with numbers for keys -/
def valI (kvs : List (Key × V)) (k : Int) : Option V := valV kvs (.inl k)
theorem valI_put (kvs : List (Key × V)) (k j : Int) (y : V) : valI (putK kvs (.inl k) y) j = if j = k then some y else valI kvs j := by
  unfold valI
  rw [valV_put]
  by_cases e : j = k
  · subst e
    rw [if_pos rfl, if_pos rfl]
  · rw [if_neg e, if_neg fun q => e (Sum.inl.inj q)]
theorem putK_len (kvs : List (Key × V)) (k : Key) (v : V) : (putK kvs k v).length ≤ kvs.length + 1 := by
  unfold putK
  split
  · rw [List.length_map]
    omega
  · rw [List.length_append]
    exact Nat.le_refl _
/-- a dict at d: n entries at most, its values by M -/
def DM (H : Hp) (d : Addr) (n : Nat) (M : Int → Option V) : Prop := ∃ kvs : List (Key × V), H d = some (.dK kvs) ∧ kvs.length ≤ n ∧ ∀ k : Int, valI kvs k = M k
theorem DM.ex {n : Nat} {M : Int → Option V} (h : DM H p n M) (e : Ex H H') : DM H' p n M := by
  obtain ⟨kvs, h1, h2, h3⟩ := h
  exact ⟨kvs, e _ _ h1, h2, h3⟩
theorem dm_nil : DM (upd H p (.dK [])) p 0 (fun _ => none) := ⟨[], upd_same, Nat.le_refl 0, fun _ => rfl⟩
theorem DM.get {n : Nat} {M : Int → Option V} {k : Int} (h : DM H p n M) : DGet H p (.int k) (M k) := by
  obtain ⟨kvs, h1, h2, h3⟩ := h
  rw [← h3 k]
  exact DGet.k (k := Sum.inl k) h1
theorem ev_din {n : Nat} {M : Int → Option V} {k : Int} (hk : Ev ty σ H (.int k)) (hd : Ev td σ H (.ref p)) (h : DM H p n M) : Ev (tDIn ty td) σ H (.bl (M k).isSome) := fun H1 e Q q =>
  hk H1 e _ fun H2 e2 => hd H2 (e.trans e2) _ fun H3 e3 => ⟨p, M k, rfl, (h.ex ((e.trans e2).trans e3)).get, q H3 (e2.trans e3)⟩
theorem ev_dnotin {n : Nat} {M : Int → Option V} {k : Int} (hk : Ev ty σ H (.int k)) (hd : Ev td σ H (.ref p)) (h : DM H p n M) : Ev (tDNotIn ty td) σ H (.bl (!(M k).isSome)) := fun H1 e Q q =>
  hk H1 e _ fun H2 e2 => hd H2 (e.trans e2) _ fun H3 e3 => ⟨p, M k, rfl, (h.ex ((e.trans e2).trans e3)).get, q H3 (e2.trans e3)⟩
theorem ev_dget {n : Nat} {M : Int → Option V} {k : Int} (hd : Ev td σ H (.ref p)) (hk : Ev ty σ H (.int k)) (h : DM H p n M) (hm : M k = some v) : Ev (tDGet td ty) σ H v := fun H1 e Q q =>
  hd H1 e _ fun H2 e2 => hk H2 (e.trans e2) _ fun H3 e3 => ⟨p, v, rfl, by
    rw [← hm]
    exact (h.ex ((e.trans e2).trans e3)).get, q H3 (e2.trans e3)⟩
variable {D : Ends} {tu tw tz : TS}
theorem s_dput {n : Nat} {M : Int → Option V} {k : Int} (hv : Ev tx σ H v) (hd : Ev td σ H (.ref p)) (hk : Ev ty σ H (.int k)) (h : DM H p n M) (hn : n < 100000)
    (go : ∀ H1, Ex H H1 → ∀ o, DM (upd H1 p o) p (n + 1) (fun j => if j = k then some v else M j) → D.nx σ (upd H1 p o)) : sDPut td ty tx D σ H :=
  hv H (Ex.refl H) _ fun H1 e1 => hd H1 e1 _ fun H2 e2 => hk H2 (e1.trans e2) _ fun H3 e3 => by
    obtain ⟨kvs, h1, h2, h3⟩ := h
    have h4 := ((e1.trans e2).trans e3) _ _ h1
    refine ⟨p, _, rfl, DPut.k (k := Sum.inl k) h4 (sz_lt (by omega)), ?_⟩
    refine go H3 ((e1.trans e2).trans e3) _ ⟨_, upd_same, Nat.le_trans (putK_len _ _ _) (by omega), fun j => ?_⟩
    rw [valI_put, h3]
theorem q_dput {n : Nat} {M : Int → Option V} {k : Int} (hv : Ev tx σ H v) (hd : Ev td σ H (.ref p)) (hk : Ev ty σ H (.int k)) (h : DM H p n M) (hn : n < 100000)
    (go : ∀ H1, Ex H H1 → ∀ o, DM (upd H1 p o) p (n + 1) (fun j => if j = k then some v else M j) → tz D σ (upd H1 p o)) : tSeq (sDPut td ty tx) tz D σ H := s_dput (D := { D with nx := tz D }) hv hd hk h hn go
theorem q_dnew {i : Nat} (k : ∀ d H1, H d = none → Ex H H1 → DM H1 d 0 (fun _ => none) → tz D (σ.set i (some (.ref d))) H1) : tSeq (tAsg tDNewK (gName i)) tz D σ H := fun d hd => k d _ hd (Ex.new hd) dm_nil

/-! ### statements -/
/-- an if whose test never holds -/
theorem q_skip (h : EvT t σ H false) (k : ∀ H1, Ex H H1 → tz D σ H1) : tSeq (tIfS t tu tNext) tz D σ H := q_when h (fun b => nomatch b) fun _ H1 e => k H1 e
theorem s_skip (h : EvT t σ H false) (k : ∀ H1, Ex H H1 → D.nx σ H1) : tIfS t tu tNext D σ H := s_when h (fun b => nomatch b) fun _ H1 e => k H1 e
/-- a def's end by a list, by a value -/
theorem ret_L {xs : List V} {H0 : Hp} {rt : VK} (q : RetL xs H0 rt) (e : Ex H0 H) (h : EvL te σ H xs) : te σ H rt := h H (Ex.refl H) _ fun p H2 n e2 h2 => q.go e n e2 h2
theorem ret_V {H0 : Hp} {rt : VK} (q : RetV v H0 rt) (e : Ex H0 H) (h : Ev te σ H v) : te σ H rt := h H (Ex.refl H) _ fun H2 e2 => q H2 (e.trans e2)
/-- a name that holds a list made here is given back -/
theorem ret_N {xs : List V} {H0 : Hp} {rt : VK} {i : Nat} (q : RetL xs H0 rt) (e : Ex H0 H) (n : H0 p = none) (h : H p = some (.lst xs)) (hi : σ[i]? = some (some (.ref p))) : tVar i σ H rt := ⟨_, hi, q p H n e h⟩

/-! ### comprehensions -/
theorem wipe1 (σ : L2.St) (j : Nat) (x : V) : wipe ((wipe σ [j]).set j (some x)) [j] = wipe σ [j] := by
  show (((σ.set j none).set j (some x)).set j none) = σ.set j none
  rw [List.set_set, List.set_set]
theorem given_all (n : Nat) (v : Nat → V) : given n (fun _ => true) v = (List.range n).map v := by
  unfold given
  rw [List.filter_eq_self.mpr fun _ _ => rfl]
/-- [e for x in xs], xs a list of numbers -/
theorem el_mapN {L : List Nat} {tl : TE} {j : Nat} (g : Nat → V) (h : Ev tl σ H (.ref p)) (hx : SqL K H p (nl L)) (hz : L.length ≤ 40000)
    (he : ∀ (x : Nat) H1, Ex H H1 → x ∈ L → Ev te ((wipe σ [j]).set j (some (.int (x : Int)))) H1 (g x)) : EvL (tLc (iList K tl) (gName j) tYes te [j]) σ H (L.map g) := by
  have h1 := el_lcL (j := j) (te := te) (vs := [j]) (t := tYes) (fun _ => true) (fun i => g (st L i)) h hx (by rw [nl_len]; exact hz) (fun x => wipe1 σ j x) (fun _ _ _ _ _ => et_yes) (fun i x H1 e hi _ => by
    obtain ⟨y, h2, rfl, h3⟩ := nl_inv hi
    have h4 : st L i = y := by
      rw [st_get h3] at h2
      exact Option.some.inj h2
    rw [h4]
    exact he y H1 e (List.mem_of_getElem? h2))
  rw [given_all, nl_len] at h1
  have e : (List.range L.length).map (fun i => g (st L i)) = L.map g := by
    refine List.ext_getElem? fun i => ?_
    rw [List.getElem?_map, List.getElem?_map]
    by_cases hi : i < L.length
    · rw [List.getElem?_range hi, st_get hi]
      rfl
    · rw [List.getElem?_eq_none (by rw [List.length_range]; omega), List.getElem?_eq_none (by omega)]
      rfl
  rw [e] at h1
  exact h1
/-- .. all items alike -/
theorem el_mapNc {L : List Nat} {tl : TE} {j : Nat} (h : Ev tl σ H (.ref p)) (hx : SqL K H p (nl L)) (hz : L.length ≤ 40000)
    (he : ∀ (x : Nat) H1, Ex H H1 → x ∈ L → Ev te ((wipe σ [j]).set j (some (.int (x : Int)))) H1 v) : EvL (tLc (iList K tl) (gName j) tYes te [j]) σ H (List.replicate L.length v) := by
  have h1 := el_mapN (fun _ => v) h hx hz he
  rw [List.map_const'] at h1
  exact h1
theorem el_mapI {L : List Int} {tl : TE} {j : Nat} (g : Int → V) (h : Ev tl σ H (.ref p)) (hx : SqL K H p (il L)) (hz : L.length ≤ 40000)
    (he : ∀ (x : Int) H1, Ex H H1 → x ∈ L → Ev te ((wipe σ [j]).set j (some (.int x))) H1 (g x)) : EvL (tLc (iList K tl) (gName j) tYes te [j]) σ H (L.map g) := by
  have h1 := el_lcL (j := j) (te := te) (vs := [j]) (t := tYes) (fun _ => true) (fun i => g (L.getD i 0)) h hx (by rw [il_len]; exact hz) (fun x => wipe1 σ j x) (fun _ _ _ _ _ => et_yes) (fun i x H1 e hi _ => by
    obtain ⟨y, h2, rfl, h3⟩ := il_inv hi
    have h4 : L.getD i 0 = y := by
      rw [List.getD_eq_getElem?_getD, h2]
      rfl
    rw [h4]
    exact he y H1 e (List.mem_of_getElem? h2))
  rw [given_all, il_len] at h1
  have e : (List.range L.length).map (fun i => g (L.getD i 0)) = L.map g := by
    refine List.ext_getElem? fun i => ?_
    rw [List.getElem?_map, List.getElem?_map]
    by_cases hi : i < L.length
    · rw [List.getElem?_range hi, List.getElem?_eq_getElem hi]
      show some (g (L.getD i 0)) = some (g L[i])
      rw [List.getD_eq_getElem?_getD, List.getElem?_eq_getElem hi]
      rfl
    · rw [List.getElem?_eq_none (by rw [List.length_range]; omega), List.getElem?_eq_none (by omega)]
      rfl
  rw [e] at h1
  exact h1
theorem el_mapIc {L : List Int} {tl : TE} {j : Nat} (h : Ev tl σ H (.ref p)) (hx : SqL K H p (il L)) (hz : L.length ≤ 40000)
    (he : ∀ (x : Int) H1, Ex H H1 → x ∈ L → Ev te ((wipe σ [j]).set j (some (.int x))) H1 v) : EvL (tLc (iList K tl) (gName j) tYes te [j]) σ H (List.replicate L.length v) := by
  have h1 := el_mapI (fun _ => v) h hx hz he
  rw [List.map_const'] at h1
  exact h1
/-- [e for k in range(n)] -/
theorem el_mapR {ta : TA} {j n : Nat} (g : Nat → V) (h : EvA ta σ H [.int (n : Int)]) (hz : n ≤ 40000)
    (he : ∀ (i : Nat) H1, Ex H H1 → i < n → Ev te ((wipe σ [j]).set j (some (.int (i : Int)))) H1 (g i)) : EvL (tLc (iRng1 ta) (gName j) tYes te [j]) σ H ((List.range n).map g) := by
  have h1 := el_lcR1 (j := j) (te := te) (vs := [j]) (t := tYes) (fun _ => true) g h (by omega) (fun x => wipe1 σ j x) (fun _ _ _ _ => et_yes) (fun i H1 e hi _ => he i H1 e (by omega))
  rw [given_all, Int.toNat_natCast] at h1
  exact h1
/-- [e for k in range(n) if t] -/
theorem el_filR {ta : TA} {j n : Nat} (f : Nat → Bool) (g : Nat → V) (h : EvA ta σ H [.int (n : Int)]) (hz : n ≤ 40000)
    (ht : ∀ (i : Nat) H1, Ex H H1 → i < n → EvT t ((wipe σ [j]).set j (some (.int (i : Int)))) H1 (f i))
    (he : ∀ (i : Nat) H1, Ex H H1 → i < n → Ev te ((wipe σ [j]).set j (some (.int (i : Int)))) H1 (g i)) : EvL (tLc (iRng1 ta) (gName j) t te [j]) σ H (((List.range n).filter f).map g) := by
  have h1 := el_lcR1 (j := j) (te := te) (vs := [j]) (t := t) f g h (by omega) (fun x => wipe1 σ j x) (fun i H1 e hi => ht i H1 e (by omega)) (fun i H1 e hi _ => he i H1 e (by omega))
  rw [Int.toNat_natCast] at h1
  exact h1
theorem ea1 (h : Ev ta σ H x) : EvA (tCons ta tNil) σ H [x] := ea_cons h ea_nil
theorem ea2 (h : Ev ta σ H x) (h2 : Ev tb σ H y) : EvA (tCons ta (tCons tb tNil)) σ H [x, y] := ea_cons h (ea1 h2)
theorem ea3 (h : Ev ta σ H x) (h2 : Ev tb σ H y) (h3 : Ev tc σ H z) : EvA (tCons ta (tCons tb (tCons tc tNil))) σ H [x, y, z] := ea_cons h (ea2 h2 h3)

/-! ### enumerate -/
theorem for_enum {a : Addr} {xs : List V} {g : TG} {tb : TS} {D : Ends} {σ : L2.St} {H : Hp} (Pv : Nat → L2.St → Hp → Prop) (h0 : Pv 0 σ H) (hl : ∀ i σ H, i ≤ xs.length → Pv i σ H → SqL K H a xs)
    (hs : ∀ i x σ H T, xs[i]? = some x → Pv i σ H → H T = none → g (.ref T) σ (upd H T (.tup [.int (i : Nat), x])) fun σ2 H2 => tb { D with nx := Pv (i + 1), ct := Pv (i + 1), bk := D.nx } σ2 H2) (hd : ∀ σ H, Pv xs.length σ H → D.nx σ H) :
    ∃ W : Nat → Nat → L2.St → Hp → Prop, (∃ m, W 0 m σ H) ∧ ∀ i m σ H, W i m σ H →
      ((Ite K a).stop i H ∧ D.nx σ H) ∨ ((Ite K a).go i H ∧ ∃ N : L2.St → Hp → Prop, (∀ σ' H', N σ' H' → ∃ m', m' < m ∧ W (i + 1) m' σ' H') ∧ ∀ x H', (Ite K a).yld i H x H' → g x σ H' fun σ2 H2 => tb { D with nx := N, ct := N, bk := D.nx } σ2 H2) := by
  refine ⟨fun i m σ H => m = xs.length - i ∧ i ≤ xs.length ∧ Pv i σ H, ⟨xs.length, by simp, Nat.zero_le _, h0⟩, ?_⟩
  rintro i m σ H ⟨rfl, hi, p⟩
  have q := hl i σ H hi p
  by_cases hlt : i < xs.length
  · refine .inr ⟨⟨xs, xs[i], q, by simp [hlt]⟩, Pv (i + 1), fun σ' H' p' => ⟨xs.length - (i + 1), by omega, rfl, hlt, p'⟩, fun v H' y => ?_⟩
    obtain ⟨T, x, rfl, nT, rfl, f⟩ := y
    exact hs i x σ H T (f xs q) p nT
  · have e : i = xs.length := by omega
    subst e
    exact .inl ⟨⟨xs, q, Nat.le_refl _⟩, hd σ H p⟩
theorem lc_enum {a : Addr} {xs : List V} {g : TG} {tt : TT} {te : TE} {vs : List Nat} {σ : L2.St} {H1 : Hp} {D : Addr} {Qd : Hp → Prop} (Pv : Nat → Hp → Prop) (h0 : Pv 0 (upd H1 D (.lst []))) (hl : ∀ i H, i ≤ xs.length → Pv i H → SqL K H a xs)
    (hs : ∀ i x H T, xs[i]? = some x → Pv i H → H T = none → g (.ref T) (wipe σ vs) (upd H T (.tup [.int (i : Nat), x])) fun σ2 H2 => wipe σ2 vs = wipe σ vs ∧ tt σ2 H2 fun b H3 =>
      if b = true then te σ2 H3 fun y H4 => ∃ acc, H4 D = some (.lst acc) ∧ acc.length < sizeLine ∧ Pv (i + 1) (upd H4 D (.lst (acc ++ [y]))) else Pv (i + 1) H3) (hd : ∀ H, Pv xs.length H → Qd H) :
    ∃ W : Nat → Nat → Hp → Prop, (∃ m, W 0 m (upd H1 D (.lst []))) ∧ ∀ i m H, W i m H →
      ((Ite K a).stop i H ∧ Qd H) ∨ ((Ite K a).go i H ∧ ∃ Nx : Hp → Prop, (∀ H', Nx H' → ∃ m', m' < m ∧ W (i + 1) m' H') ∧ ∀ x H', (Ite K a).yld i H x H' → g x (wipe σ vs) H' fun σ2 H2 => wipe σ2 vs = wipe σ vs ∧ tt σ2 H2 fun b H3 =>
        if b = true then te σ2 H3 fun y H4 => ∃ acc, H4 D = some (.lst acc) ∧ acc.length < sizeLine ∧ Nx (upd H4 D (.lst (acc ++ [y]))) else Nx H3) := by
  refine ⟨fun i m H => m = xs.length - i ∧ i ≤ xs.length ∧ Pv i H, ⟨xs.length, by simp, Nat.zero_le _, h0⟩, ?_⟩
  rintro i m H ⟨rfl, hi, p⟩
  have q := hl i H hi p
  by_cases hlt : i < xs.length
  · refine .inr ⟨⟨xs, xs[i], q, by simp [hlt]⟩, Pv (i + 1), fun H' p' => ⟨xs.length - (i + 1), by omega, rfl, hlt, p'⟩, fun v H' y => ?_⟩
    obtain ⟨T, x, rfl, nT, rfl, f⟩ := y
    exact hs i x H T (f xs q) p nT
  · have e : i = xs.length := by omega
    subst e
    exact .inl ⟨⟨xs, q, Nat.le_refl _⟩, hd H p⟩
/-- two names from a pair -/
abbrev g2 (K : PySem.W.Frag) (i j : Nat) : TG := gTup K 2 (gCons (gName i) (gCons (gName j) gNil))
theorem g2_go {i j : Nat} {T : Addr} {a b : V} {Q : L2.St → Hp → Prop} (h : SqT K H T [a, b]) (q : Q ((σ.set i (some a)).set j (some b)) H) : g2 K i j (.ref T) σ H Q :=
  ⟨T, [a, b], rfl, h, rfl, a, [b], rfl, b, [], rfl, rfl, q⟩
/-- for i, x in enumerate(xs) -/
theorem s_forE {a : Addr} {xs : List V} {tl : TE} {i j : Nat} (h : Ev tl σ H (.ref a)) (hx : SqL K H a xs) (Pv : Nat → L2.St → Hp → Prop) (h0 : ∀ H1, Ex H H1 → Pv 0 σ H1) (hl : ∀ i σ' H', i ≤ xs.length → Pv i σ' H' → SqL K H' a xs)
    (hs : ∀ k x σ' H' H2, xs[k]? = some x → Pv k σ' H' → Ex H' H2 → (∀ b, H2 b = none → H' b = none) → tu { D with nx := Pv (k + 1), ct := Pv (k + 1), bk := D.nx } ((σ'.set i (some (.int (k : Int)))).set j (some x)) H2) (hd : ∀ σ' H', Pv xs.length σ' H' → D.nx σ' H') :
    tFor (iEnum K (tCons tl tNil)) (g2 K i j) tu D σ H :=
  h H (Ex.refl H) _ fun H1 e => ⟨a, xs, rfl, ex_l e hx, for_enum Pv (h0 H1 e) hl (fun k x σ' H' T hk p nT => g2_go (st_of upd_same) (hs k x σ' H' _ hk p (Ex.new nT) fun b hb => fresh_back (Ex.new nT) hb)) hd⟩
theorem q_forE {a : Addr} {xs : List V} {tl : TE} {i j : Nat} (h : Ev tl σ H (.ref a)) (hx : SqL K H a xs) (Pv : Nat → L2.St → Hp → Prop) (h0 : ∀ H1, Ex H H1 → Pv 0 σ H1) (hl : ∀ i σ' H', i ≤ xs.length → Pv i σ' H' → SqL K H' a xs)
    (hs : ∀ k x σ' H' H2, xs[k]? = some x → Pv k σ' H' → Ex H' H2 → (∀ b, H2 b = none → H' b = none) → tu { D with nx := Pv (k + 1), ct := Pv (k + 1), bk := tz D } ((σ'.set i (some (.int (k : Int)))).set j (some x)) H2) (hd : ∀ σ' H', Pv xs.length σ' H' → tz D σ' H') :
    tSeq (tFor (iEnum K (tCons tl tNil)) (g2 K i j) tu) tz D σ H := s_forE (D := { D with nx := tz D }) h hx Pv h0 hl hs hd
theorem wipe2 (σ : L2.St) (i j : Nat) (hij : i ≠ j) (x y : V) : wipe (((wipe σ [i, j]).set i (some x)).set j (some y)) [i, j] = wipe σ [i, j] := by
  show ((((((σ.set j none).set i none).set i (some x)).set j (some y)).set j none).set i none) = (σ.set j none).set i none
  rw [List.set_set, List.set_set, List.set_comm _ _ hij.symm, List.set_set, List.set_comm _ _ hij.symm, List.set_set]
  first
    | done
    | rw [List.set_comm _ _ hij, List.set_set]
/-- [e for i, x in enumerate(xs) if t] -/
theorem el_lcE {a : Addr} {xs : List V} {tl : TE} {i j : Nat} (hij : i ≠ j) (f : Nat → Bool) (g : Nat → V) (h : Ev tl σ H (.ref a)) (hx : SqL K H a xs) (hz : xs.length ≤ 40000)
    (ht : ∀ (k : Nat) (x : V) H1, Ex H H1 → xs[k]? = some x → EvT t (((wipe σ [i, j]).set i (some (.int (k : Int)))).set j (some x)) H1 (f k))
    (he : ∀ (k : Nat) (x : V) H1, Ex H H1 → xs[k]? = some x → f k = true → Ev te (((wipe σ [i, j]).set i (some (.int (k : Int)))).set j (some x)) H1 (g k)) :
    EvL (tLc (iEnum K (tCons tl tNil)) (g2 K i j) t te [i, j]) σ H (given xs.length f g) := fun H0 e Q q => h H0 e _ fun H1 e1 => ⟨a, xs, rfl, ex_l (e.trans e1) hx, fun Dl hD =>
  lc_enum (xs := xs) (Cw H1 f g Dl) ⟨hD, Ex.new hD, upd_same⟩ (fun i H' _ p => ex_l ((e.trans e1).trans p.2.1) hx) (fun k x H' T hk p nT => g2_go (st_of upd_same) ⟨wipe2 σ i j hij _ _, by
    have hT : Dl ≠ T := ne_of_none p.2.2 nT
    refine cw_turn (p := ⟨p.1, p.2.1.trans (Ex.new nT), by rw [upd_ne hT]; exact p.2.2⟩) (by have := (List.getElem?_eq_some_iff.mp hk).1; omega) (ht k x H1 (e.trans e1) hk) (fun hf => he k x H1 (e.trans e1) hk hf)⟩)
    (fun H' p => q Dl H' (fresh_back e1 p.1) (e1.trans p.2.1) p.2.2)⟩

/-! ### numbers that are not negative -/
theorem vdiv (x m : Nat) : V.int ((x : Int).fdiv (m : Int)) = V.int ((x / m : Nat) : Int) := by
  rw [Int.fdiv_eq_ediv_of_nonneg _ (Int.natCast_nonneg m), Int.natCast_ediv]
theorem vmod (x m : Nat) : V.int ((x : Int).fmod (m : Int)) = V.int ((x % m : Nat) : Int) := by
  rw [Int.fmod_eq_emod_of_nonneg _ (Int.natCast_nonneg m), Int.natCast_emod]
theorem vadd (x m : Nat) : V.int ((x : Int) + (m : Int)) = V.int ((x + m : Nat) : Int) := by rw [Int.natCast_add]
theorem rv_eqB {i j : Int} {b : Bool} (e : decide (i = j) = b) : RV rEq (.int i) (.int j) H (.bl b) := by
  have h := rv_eq (H := H) (x := .int i) (y := .int j) rfl
  rw [show decide (V.int i = V.int j) = b by
    rw [← e]
    exact decide_eq_decide.mpr ⟨fun h => V.int.inj h, fun h => by rw [h]⟩] at h
  exact h
theorem rv_neB {i j : Int} {b : Bool} (e : (!decide (i = j)) = b) : RV rNe (.int i) (.int j) H (.bl b) := by
  have h := rv_ne (H := H) (x := .int i) (y := .int j) rfl
  rw [show decide (V.int i = V.int j) = decide (i = j) from decide_eq_decide.mpr ⟨fun h => V.int.inj h, fun h => by rw [h]⟩, e] at h
  exact h
/-- a number within, by % of any number -/
theorem fmod_lt (x : Int) {m : Nat} (h : 0 < m) : ∃ r : Nat, x.fmod (m : Int) = (r : Int) ∧ r < m := by
  have h1 : (0 : Int) < m := by omega
  have h2 := Int.fmod_nonneg_of_pos x h1
  have h3 := Int.fmod_lt_of_pos x h1
  exact ⟨(x.fmod m).toNat, by omega, by omega⟩

/-- .. enumerate of a new list -/
theorem el_lcNE {xs : List V} {tl : TE} {i j : Nat} (hij : i ≠ j) (f : Nat → Bool) (g : Nat → V) (h : EvL tl σ H xs) (hz : xs.length ≤ 40000)
    (ht : ∀ (k : Nat) (x : V) H1, Ex H H1 → xs[k]? = some x → EvT t (((wipe σ [i, j]).set i (some (.int (k : Int)))).set j (some x)) H1 (f k))
    (he : ∀ (k : Nat) (x : V) H1, Ex H H1 → xs[k]? = some x → f k = true → Ev te (((wipe σ [i, j]).set i (some (.int (k : Int)))).set j (some x)) H1 (g k)) :
    EvL (tLc (iEnum K (tCons tl tNil)) (g2 K i j) t te [i, j]) σ H (given xs.length f g) := fun H0 e Q q => h H0 e _ fun a H1 ha e1 hx => ⟨a, xs, rfl, sq_of hx, fun Dl hD =>
  lc_enum (xs := xs) (Cw H1 f g Dl) ⟨hD, Ex.new hD, upd_same⟩ (fun i H' _ p => sq_of (p.2.1 a _ hx)) (fun k x H' T hk p nT => g2_go (st_of upd_same) ⟨wipe2 σ i j hij _ _, by
    have hT : Dl ≠ T := ne_of_none p.2.2 nT
    refine cw_turn (p := ⟨p.1, p.2.1.trans (Ex.new nT), by rw [upd_ne hT]; exact p.2.2⟩) (by have := (List.getElem?_eq_some_iff.mp hk).1; omega) (ht k x H1 (e.trans e1) hk) (fun hf => he k x H1 (e.trans e1) hk hf)⟩)
    (fun H' p => q Dl H' (fresh_back e1 p.1) (e1.trans p.2.1) p.2.2)⟩
/-- a name is given what a call gives back -/
theorem q_asgX {sp : Sp} {vs : List V} {E : XK} {ta : TA} {i : Nat} (h : EvA ta σ H vs) (hs : ∀ H1, Ex H H1 → sp vs H1 (fun v H2 => tz D (σ.set i (some v)) H2) E) : tSeq (tAsg (tCall sp [] E ta) (gName i)) tz D σ H :=
  h H (Ex.refl H) _ fun H1 e => by
    rw [List.append_nil]
    exact hs H1 e
theorem nl_set {L : List Nat} {j x : Nat} : (nl L).set j (.int (x : Int)) = nl (L.set j x) := by
  unfold nl
  rw [List.map_set]
theorem lead_of {n : Nat} (v : Nat → Int) (h : ∀ k, k < n → 0 ≤ v k ∧ v k < n) : ∃ L, Lead L ∧ L.length = n ∧ (List.range n).map (fun k => V.int (v k)) = nl L := by
  refine ⟨(List.range n).map fun k => (v k).toNat, fun x hx => ?_, by rw [List.length_map, List.length_range], ?_⟩
  · rw [List.length_map, List.length_range]
    obtain ⟨k, hk, rfl⟩ := List.mem_map.mp hx
    have := h k (List.mem_range.mp hk)
    omega
  · unfold nl
    rw [List.map_map]
    refine List.map_congr_left fun k hk => ?_
    have := h k (List.mem_range.mp hk)
    show V.int (v k) = V.int ((v k).toNat : Int)
    rw [Int.toNat_of_nonneg this.1]
theorem Lead.set {L : List Nat} (h : Lead L) {j x : Nat} (hx : x < L.length) : Lead (L.set j x) := fun y hy => by
  rw [List.length_set]
  rcases List.mem_or_eq_of_mem_set hy with h1 | rfl
  · exact h y h1
  · exact hx

theorem ev_ifOr {b : Bool} {i j : Int} (h : EvT t σ H b) (h1 : Ev ta σ H (.int i)) (h2 : Ev tb σ H (.int j)) : Ev (tIf t ta tb) σ H (.int (if b = true then i else j)) := by
  cases b with
  | true => exact ev_if h (fun _ => h1) (fun b => nomatch b)
  | false => exact ev_if h (fun b => nomatch b) (fun _ => h2)
theorem cutV_mem {xs : List V} {lo hi : Option Int} {i : Nat} {x : V} (h : (cutV xs lo hi)[i]? = some x) : x ∈ xs := by
  have h1 := List.mem_of_getElem? h
  unfold cutV at h1
  exact List.mem_of_mem_drop (List.mem_of_mem_take h1)
theorem mem_il {ns : List Int} {x : V} (h : x ∈ il ns) : ∃ z, z ∈ ns ∧ x = .int z := by
  unfold il at h
  obtain ⟨z, h1, h2⟩ := List.mem_map.mp h
  exact ⟨z, h1, h2.symm⟩
theorem nl_tm (L : List Nat) (n : Nat) : (List.range L.length).map (fun i => V.int (it L n i : Int)) = nl (tm L n) := by
  unfold nl tm
  rw [List.map_map]
  rfl
theorem pos_of_mem {ns : List Int} {z : Int} (h : z ∈ ns) : 0 < ns.length := List.length_pos_of_mem h

theorem el_callN2 {sp : Sp} {xs zs : List V} {E : XK} (h : EvL ta σ H xs) (h2 : Ev tb σ H y) (hs : ∀ p H1, Ex H H1 → H1 p = some (.lst xs) → SpL sp [.ref p, y] H1 zs) : EvL (tCall sp [] E (tCons ta (tCons tb tNil))) σ H zs := fun H1 e Q q =>
  h H1 e _ fun p H2 _ e2 hp => h2 H2 (e.trans e2) _ fun H3 e3 => hs p H3 ((e.trans e2).trans e3) (e3 _ _ hp) H3 (Ex.refl H3) Q (fun r H4 n4 e4 h4 => q r H4 (fresh_back (e2.trans e3) n4) ((e2.trans e3).trans e4) h4) E

theorem s_forNLn {xs : List V} {tl : TE} {j : Nat} (h : EvL tl σ H xs) (Pv : Addr → Nat → L2.St → Hp → Prop) (h0 : ∀ p H1, H p = none → Ex H H1 → H1 p = some (.lst xs) → Pv p 0 σ H1) (hl : ∀ p i σ' H', i ≤ xs.length → Pv p i σ' H' → SqL K H' p xs)
    (hs : ∀ p i x σ' H', xs[i]? = some x → Pv p i σ' H' → tu { D with nx := Pv p (i + 1), ct := Pv p (i + 1), bk := D.nx } (σ'.set j (some x)) H') (hd : ∀ p σ' H', Pv p xs.length σ' H' → D.nx σ' H') : tFor (iList K tl) (gName j) tu D σ H :=
  s_forNL h Pv h0 hl hs hd
end
end Ld
/-! Evy: sets' lengths, lists of lists compared, ranges with a step, sorted. -/
namespace Ld
open PySem L2 Evl
section
variable {X : Cx} {K : PySem.W.Frag}
theorem pe_revLK {e : Expr} {te : TE} {k : Nat} {p1 p2 p3 pos : Pos} (h : X.K = K) (he : PE X e te) : PE X (.Subscript e (.Slice none none (some (.UnaryOp .USub (.Constant (.int 1) k p1) p2)) p3) pos) (tRevL K te) := by
  subst h
  exact pe_revL he
theorem pe_lenSetK {a : Expr} {ta : TE} {p p2 q pos : Pos} (h : X.K = K) (hg : Gl X "len") (hm : X.mg "len" = none) (hg2 : Gl X "set") (hm2 : X.mg "set" = none) (ha : PE X a ta) (hc : X.calm = true)
    (na : starEach [a] X.env = (false, eval a X.env) :: starEach [] X.env := by rfl) : PE X (.Call (.Name "len" p) [.Call (.Name "set" p2) [a] [] q] [] pos) (RZ.tLenSetI K ta) := by
  subst h
  exact RZ.pe_lenSetI hg hm hg2 hm2 ha hc na
end
section
variable {K : PySem.W.Frag} {σ : L2.St} {H H' : Hp} {ta tb tc te tx td ty : TE} {t u : TT} {x y z v : V} {r r' : R2} {p q : Addr}
theorem el_rev {xs : List V} (ha : Ev ta σ H (.ref p)) (h : SqL K H p xs) : EvL (tRevL K ta) σ H xs.reverse := fun H1 e Q k =>
  ha H1 e _ fun H2 e2 => ⟨p, xs, rfl, ex_l (e.trans e2) h, fun r hr => k r _ (fresh_back e2 hr) (e2.trans (Ex.new hr)) upd_same⟩
theorem il_rev (L : List Int) : (il L).reverse = il L.reverse := by
  unfold il
  rw [List.map_reverse]
theorem nodup_cast {L : List Nat} (h : L.Nodup) : (L.map fun (x : Nat) => (x : Int)).Nodup := by
  rw [List.Nodup, List.pairwise_map]
  exact List.Pairwise.imp (fun {a b} hab e => hab (by omega)) h
theorem ev_lenSet {L : List Nat} (ha : Ev ta σ H (.ref p)) (h : SqL K H p (nl L)) (nd : L.Nodup) (hz : L.length ≤ 4000) : Ev (RZ.tLenSetI K ta) σ H (.int (L.length : Int)) := fun H1 e Q k =>
  ha H1 e _ fun H2 e2 => ⟨p, L.map fun (x : Nat) => (x : Int), rfl, by
    have h2 := ex_l (e.trans e2) h
    rw [nl_il] at h2
    exact h2, nodup_cast nd, by rw [List.length_map]; exact hz, by
    rw [List.length_map]
    exact k H2 e2⟩
/-- a call of two new lists -/
theorem el_callNN {sp : Sp} {xs ys zs : List V} {E : XK} (h : EvL ta σ H xs) (h2 : EvL tb σ H ys) (hs : ∀ p q H1, Ex H H1 → H1 p = some (.lst xs) → H1 q = some (.lst ys) → SpL sp [.ref p, .ref q] H1 zs) : EvL (tCall sp [] E (tCons ta (tCons tb tNil))) σ H zs := fun H1 e Q k =>
  h H1 e _ fun p H2 _ e2 hp => h2 H2 (e.trans e2) _ fun q H3 _ e3 hq => hs p q H3 ((e.trans e2).trans e3) (e3 _ _ hp) hq H3 (Ex.refl H3) Q (fun r H4 n4 e4 h4 => k r H4 (fresh_back (e2.trans e3) n4) ((e2.trans e3).trans e4) h4) E
theorem el_callN1 {sp : Sp} {xs zs : List V} {E : XK} (h : EvL ta σ H xs) (hs : ∀ p H1, Ex H H1 → H1 p = some (.lst xs) → SpL sp [.ref p] H1 zs) : EvL (tCall sp [] E (tCons ta tNil)) σ H zs := fun H1 e Q k =>
  h H1 e _ fun p H2 _ e2 hp => hs p H2 (e.trans e2) hp H2 (Ex.refl H2) Q (fun r H4 n4 e4 h4 => k r H4 (fresh_back e2 n4) (e2.trans e4) h4) E
/-- [e for x in a new list of numbers] -/
theorem el_mapIN {L : List Int} {tl : TE} {j : Nat} (g : Int → V) (h : EvL tl σ H (il L)) (hz : L.length ≤ 40000)
    (he : ∀ (x : Int) H1, Ex H H1 → x ∈ L → Ev te ((wipe σ [j]).set j (some (.int x))) H1 (g x)) : EvL (tLc (iList K tl) (gName j) tYes te [j]) σ H (L.map g) := by
  have h1 := el_lcNL (K := K) (j := j) (te := te) (vs := [j]) (t := tYes) (fun _ => true) (fun i => g (L.getD i 0)) h (by rw [il_len]; exact hz) (fun x => wipe1 σ j x) (fun _ _ _ _ _ => et_yes) (fun i x H1 e hi _ => by
    obtain ⟨y, h2, rfl, h3⟩ := il_inv hi
    have h4 : L.getD i 0 = y := by
      rw [List.getD_eq_getElem?_getD, h2]
      rfl
    rw [h4]
    exact he y H1 e (List.mem_of_getElem? h2))
  rw [given_all, il_len] at h1
  have e : (List.range L.length).map (fun i => g (L.getD i 0)) = L.map g := by
    refine List.ext_getElem? fun i => ?_
    rw [List.getElem?_map, List.getElem?_map]
    by_cases hi : i < L.length
    · rw [List.getElem?_range hi, List.getElem?_eq_getElem hi]
      show some (g (L.getD i 0)) = some (g L[i])
      rw [List.getD_eq_getElem?_getD, List.getElem?_eq_getElem hi]
      rfl
    · rw [List.getElem?_eq_none (by rw [List.length_range]; omega), List.getElem?_eq_none (by omega)]
      rfl
  rw [e] at h1
  exact h1
/-- sorted(xs): the rising list of the same numbers -/
theorem el_sorted {A ns : List Int} (ha : Ev ta σ H (.ref p)) (h : SqL K H p (il ns)) (hA : A.Perm ns) (hs : A.Pairwise (· ≤ ·)) : EvL (tCB (rSortedI K) (tCons ta tNil)) σ H (il A) := fun H1 e Q k =>
  ha H1 e _ fun H2 e2 => ⟨p, ns, rfl, ex_l (e.trans e2) h, fun B r h1 h2 hr => k r _ (fresh_back e2 hr) (e2.trans (Ex.new hr)) (by
    rw [upd_same, sorted_is (h1.trans hA.symm) h2 hs]
    rfl)⟩
theorem ev_min2 {i j : Int} (ha : Ev ta σ H (.int i)) (hb : Ev tb σ H (.int j)) : Ev (tCB (fun xs H Q => ∃ i j : Int, xs = [V.int i, V.int j] ∧ Q (.int (if j < i then j else i)) H) (tCons ta (tCons tb tNil))) σ H (.int (if j < i then j else i)) := fun H1 e Q q =>
  ha H1 e _ fun H2 e2 => hb H2 (e.trans e2) _ fun H3 e3 => ⟨i, j, rfl, q H3 (e2.trans e3)⟩
theorem ev_max2' {i j : Int} (ha : Ev ta σ H (.int i)) (hb : Ev tb σ H (.int j)) : Ev (tCB (fun xs H Q => ∃ i j : Int, xs = [V.int i, V.int j] ∧ Q (.int (if j > i then j else i)) H) (tCons ta (tCons tb tNil))) σ H (.int (if j > i then j else i)) := fun H1 e Q q =>
  ha H1 e _ fun H2 e2 => hb H2 (e.trans e2) _ fun H3 e3 => ⟨i, j, rfl, q H3 (e2.trans e3)⟩

/-! ### lists of lists -/
def LLs (K : PySem.W.Frag) (H : Hp) : List Addr → List (List Nat) → Prop := Paired fun r l => SqL K H r (nl l)
theorem LLs.ex {rs : List Addr} {Ls : List (List Nat)} (h : LLs K H rs Ls) (e : Ex H H') : LLs K H' rs Ls := Paired.mapP h fun _ _ q => ex_l e q
theorem dp_nl {L : List Nat} (h : SqL K H p (nl L)) : Dp K H (.ref p) (.list (L.map fun (x : Nat) => PyData.int (x : Int))) := by
  rw [nl_il] at h
  have h1 := dp_il h
  rw [List.map_map] at h1
  exact h1
def dl (l : List Nat) : PyData := .list (l.map fun (x : Nat) => PyData.int (x : Int))
theorem dl_eq (l : List Nat) : dl l = .list ((l.map fun (x : Nat) => (x : Int)).map PyData.int) := by
  unfold dl
  rw [List.map_map]
  rfl
theorem dpAll_ll : ∀ {rs : List Addr} {Ls : List (List Nat)}, LLs K H rs Ls → DpAll K H (rs.map V.ref) (Ls.map dl)
  | _, _, .nil => .nil
  | _, _, .cons h t => .cons (dp_nl h) (dpAll_ll t)
theorem eqvAll_ll : ∀ A B : List (List Nat), PyData.eqvAll (A.map dl) (B.map dl) = decide (A = B)
  | [], [] => rfl
  | [], _ :: _ => rfl
  | _ :: _, [] => rfl
  | a :: r, b :: s => by
    show (PyData.eqv (dl a) (dl b) && PyData.eqvAll (r.map dl) (s.map dl)) = _
    rw [eqvAll_ll r s, dl_eq, dl_eq, eqv_int]
    rw [Bool.eq_iff_iff, Bool.and_eq_true, decide_eq_true_eq, decide_eq_true_eq, decide_eq_true_eq, cast_inj, List.cons.injEq]
theorem canAll_ll : ∀ A : List (List Nat), PyData.canLayAll0 (A.map dl) = true
  | [] => rfl
  | a :: r => by
    show (PyData.canLay0 (dl a) && PyData.canLayAll0 (r.map dl)) = true
    rw [canAll_ll r, dl_eq]
    show (PyData.canLayAll0 ((a.map fun (x : Nat) => (x : Int)).map PyData.int) && true) = true
    rw [canAll_int]
    rfl
theorem depthAll_ll : ∀ A : List (List Nat), PyData.depthAll (A.map dl) ≤ 1
  | [] => Nat.zero_le 1
  | a :: r => by
    show max (PyData.depth (dl a)) (PyData.depthAll (r.map dl)) ≤ 1
    have h1 : PyData.depth (dl a) = 1 := by
      rw [dl_eq]
      show PyData.depthAll ((a.map fun (x : Nat) => (x : Int)).map PyData.int) + 1 = 1
      rw [depthAll_int]
    have h2 := depthAll_ll r
    rw [h1]
    omega
theorem shaped_ll (A : List (List Nat)) : SeqAt.shaped (.list (A.map dl)) = true := by
  unfold SeqAt.shaped
  have h1 : PyData.canLay0 (.list (A.map dl)) = true := canAll_ll A
  have h2 : PyData.depth (.list (A.map dl)) ≤ 64 := by
    show PyData.depthAll (A.map dl) + 1 ≤ 64
    have := depthAll_ll A
    omega
  rw [h1, decide_eq_true h2]
  rfl
/-- a list of lists of numbers at p -/
def IsLL (K : PySem.W.Frag) (H : Hp) (p : Addr) (Ls : List (List Nat)) : Prop := ∃ rs : List Addr, SqL K H p (rs.map V.ref) ∧ LLs K H rs Ls
theorem IsLL.ex {Ls : List (List Nat)} (h : IsLL K H p Ls) (e : Ex H H') : IsLL K H' p Ls := by
  obtain ⟨rs, h1, h2⟩ := h
  exact ⟨rs, ex_l e h1, h2.ex e⟩
theorem IsLL.dp {Ls : List (List Nat)} (h : IsLL K H p Ls) : Dp K H (.ref p) (.list (Ls.map dl)) := by
  obtain ⟨rs, h1, h2⟩ := h
  exact .lst h1 (dpAll_ll h2)
theorem rv_eqLL {A B : List (List Nat)} (h1 : IsLL K H p A) (h2 : IsLL K H q B) : RV (rEqD K) (.ref p) (.ref q) H (.bl (decide (A = B))) := fun H1 e Q k =>
  ⟨_, _, (h1.ex e).dp, (h2.ex e).dp, shaped_ll A, shaped_ll B, by
    rw [show PyData.eqv (.list (A.map dl)) (.list (B.map dl)) = decide (A = B) from eqvAll_ll A B]
    exact k H1 (Ex.refl H1)⟩
theorem rv_neLL {A B : List (List Nat)} (h1 : IsLL K H p A) (h2 : IsLL K H q B) : RV (rNeD K) (.ref p) (.ref q) H (.bl (!decide (A = B))) := fun H1 e Q k =>
  ⟨_, _, (h1.ex e).dp, (h2.ex e).dp, shaped_ll A, shaped_ll B, by
    rw [show PyData.eqv (.list (A.map dl)) (.list (B.map dl)) = decide (A = B) from eqvAll_ll A B]
    exact k H1 (Ex.refl H1)⟩
theorem rv_neLL0 {A B : List (List Nat)} (h1 : IsLL K H p A) (h2 : IsLL K H q B) (e : A = B) : RV (rNeD K) (.ref p) (.ref q) H (.bl false) := by
  have h := rv_neLL h1 h2
  rw [decide_eq_true e] at h
  exact h
/-- [a, b] of two new lists -/
theorem tl_two {xs ys : List V} {Q : VK} (h1 : EvL ta σ H xs) (h2 : EvL tb σ H ys) (k : ∀ p q r H2, H r = none → Ex H H2 → H2 p = some (.lst xs) → H2 q = some (.lst ys) → H2 r = some (.lst [.ref p, .ref q]) → Q (.ref r) H2) : tLst (tCons ta (tCons tb tNil)) σ H Q :=
  h1 H (Ex.refl H) _ fun p H1 _ e1 hp => h2 H1 e1 _ fun q H2 _ e2 hq => ⟨by show 2 ≤ sizeLine; decide, fun r hr => k p q r _ (fresh_back (e1.trans e2) hr) ((e1.trans e2).trans (Ex.new hr)) (Ex.new hr _ _ (e2 _ _ hp)) (Ex.new hr _ _ hq) upd_same⟩

/-! ### for i in range(a, b, c) -/
variable {D : Ends} {tu tw tz : TS}
theorem rg_up {n w : Nat} (hw : 0 < w) (hw2 : w < 1000) (hn : n ≤ 1000) : RgC 0 ((n : Int) - (w : Int) + 1) (w : Int) (n / w) := by
  have hsz : Builtin.Range.rangeSize 0 ((n : Int) - (w : Int) + 1) (w : Int) = ((n / w : Nat) : Int) := by
    unfold Builtin.Range.rangeSize
    rw [if_pos (by omega)]
    by_cases h : w ≤ n
    · rw [if_pos (by omega)]
      have e : (n : Int) - (w : Int) + 1 - 0 - 1 = ((n - w : Nat) : Int) := by omega
      rw [e, ← Int.natCast_ediv]
      have h2 : n / w = (n - w) / w + 1 := by
        rw [Nat.div_eq_sub_div hw h]
      rw [h2, Int.natCast_add]
      rfl
    · rw [if_neg (by omega), Nat.div_eq_of_lt (by omega)]
      rfl
  refine ⟨by omega, by omega, ?_, hsz⟩
  unfold Builtin.Range.small
  rw [hsz]
  have h1 : n / w * w ≤ n := Nat.div_mul_le_self n w
  have h2 : n / w ≤ n := Nat.div_le_self n w
  simp only [Builtin.Range.rangeFitsLong, Bool.and_eq_true, Bool.or_eq_true, decide_eq_true_eq, beq_iff_eq]
  rw [if_pos (by omega)]
  generalize n / w = m at h1 h2 ⊢
  refine ⟨by omega, .inr ?_⟩
  rw [Bool.and_eq_true, decide_eq_true_eq, decide_eq_true_eq]
  omega
theorem s_forR3 {ta : TA} {j : Nat} {a b c : Int} {n : Nat} (h : EvA ta σ H [.int a, .int b, .int c]) (hn : RgC a b c n) (Pv : Nat → L2.St → Hp → Prop) (h0 : ∀ H1, Ex H H1 → Pv 0 σ H1)
    (hs : ∀ (i : Nat) σ' H', i < n → Pv i σ' H' → tu { D with nx := Pv (i + 1), ct := Pv (i + 1), bk := D.nx } (σ'.set j (some (.int (a + (i : Nat) * c)))) H') (hd : ∀ σ' H', Pv n σ' H' → D.nx σ' H') : tFor (iRng3 ta) (gName j) tu D σ H :=
  h H (Ex.refl H) _ fun H1 e => ⟨a, b, c, n, rfl, hn, for_rangeC Pv (h0 H1 e) hs hd⟩
theorem q_forR3 {ta : TA} {j : Nat} {a b c : Int} {n : Nat} (h : EvA ta σ H [.int a, .int b, .int c]) (hn : RgC a b c n) (Pv : Nat → L2.St → Hp → Prop) (h0 : ∀ H1, Ex H H1 → Pv 0 σ H1)
    (hs : ∀ (i : Nat) σ' H', i < n → Pv i σ' H' → tu { D with nx := Pv (i + 1), ct := Pv (i + 1), bk := tz D } (σ'.set j (some (.int (a + (i : Nat) * c)))) H') (hd : ∀ σ' H', Pv n σ' H' → tz D σ' H') : tSeq (tFor (iRng3 ta) (gName j) tu) tz D σ H :=
  s_forR3 (D := { D with nx := tz D }) h hn Pv h0 hs hd

theorem nl_map_st (A : List Nat) (f : Nat → Nat) : (List.range A.length).map (fun i => V.int (f (st A i) : Int)) = nl (A.map f) := by
  unfold nl
  rw [List.map_map]
  refine List.ext_getElem? fun i => ?_
  rw [List.getElem?_map, List.getElem?_map]
  by_cases hi : i < A.length
  · rw [List.getElem?_range hi, st_get hi]
    rfl
  · rw [List.getElem?_eq_none (by rw [List.length_range]; omega), List.getElem?_eq_none (by omega)]
    rfl
theorem nl_map (A : List Nat) (f : Nat → Nat) : A.map (fun x => V.int (f x : Int)) = nl (A.map f) := by
  unfold nl
  rw [List.map_map]
  rfl
/-- a name is given what a call of a new list gives back -/
theorem q_asgXN {sp : Sp} {xs : List V} {E : XK} {i : Nat} (h : EvL ta σ H xs) (hs : ∀ p H1, H p = none → Ex H H1 → H1 p = some (.lst xs) → sp [.ref p] H1 (fun v H2 => tz D (σ.set i (some v)) H2) E) : tSeq (tAsg (tCall sp [] E (tCons ta tNil)) (gName i)) tz D σ H :=
  h H (Ex.refl H) _ fun p H1 n e h1 => hs p H1 n e h1
theorem q_two {xs ys : List V} {i : Nat} (h1 : EvL ta σ H xs) (h2 : EvL tb σ H ys) (k : ∀ p q r H2, H r = none → Ex H H2 → H2 p = some (.lst xs) → H2 q = some (.lst ys) → H2 r = some (.lst [.ref p, .ref q]) → tz D (σ.set i (some (.ref r))) H2) : tSeq (tAsg (tLst (tCons ta (tCons tb tNil))) (gName i)) tz D σ H :=
  tl_two (Q := fun x H1 => tz D (σ.set i (some x)) H1) h1 h2 k
end
end Ld
/-! Evz: classes and their instances, slices with a step, places in lists. -/
namespace Ld
open PySem L2 Evl
/-! ### slices with a step -/
def stepV {α : Type} (xs : List α) (lo hi st : Option Int) : List α :=
  (PySem.sliceRange (PySem.sliceBounds lo hi st xs.length).1 (PySem.sliceBounds lo hi st xs.length).2.1 (PySem.sliceBounds lo hi st xs.length).2.2).filterMap (xs[·]?)
theorem stepV_mem {α : Type} {xs : List α} {lo hi st : Option Int} {y : α} (h : y ∈ stepV xs lo hi st) : y ∈ xs := by
  unfold stepV at h
  obtain ⟨i, _, e⟩ := List.mem_filterMap.mp h
  exact List.mem_of_getElem? e
theorem vals_pick {xs : List V} {us : List Value} (r : Vals xs us) : ∀ R : List Nat, Vals (R.filterMap (xs[·]?)) (R.filterMap (us.toArray[·]?))
  | [] => .nil
  | i :: R => by
    have ih := vals_pick r R
    rw [List.filterMap_cons, List.filterMap_cons]
    cases h : xs[i]? with
    | none =>
      have h2 : us.toArray[i]? = none := by
        rw [List.getElem?_toArray]
        exact Vals.none_of r h
      rw [h2]
      exact ih
    | some x =>
      obtain ⟨u, h2, rx⟩ := Vals.get r h
      have h3 : us.toArray[i]? = some u := by
        rw [List.getElem?_toArray]
        exact h2
      rw [h3]
      exact .cons rx ih
theorem vals_step {xs : List V} {us : List Value} {lo hi st : Option Int} (r : Vals xs us) : Vals (stepV xs lo hi st) (PySem.slicePick us.toArray lo hi st).toList := by
  unfold stepV PySem.slicePick
  rw [r.length, List.size_toArray]
  exact vals_pick r _
def tStepL (K : PySem.W.Frag) (te : TE) (l c : Int) : TE := fun σ H Q => te σ H fun x H1 => ∃ a xs, x = .ref a ∧ c ≠ 0 ∧ SqL K H1 a xs ∧ ∀ p, H1 p = none → Q (.ref p) (upd H1 p (.lst (stepV xs (some l) none (some c))))
open PySem.Spec PyProof.Rows in
theorem pe_stepL {X : Cx} {e : Expr} {te : TE} {l c : Int} {k0 k : Nat} {p0 p1 p3 pos : Pos} (he : PE X e te) :
    PE X (.Subscript e (.Slice (some (.Constant (.int l) k0 p0)) none (some (.Constant (.int c) k p1)) p3) pos) (tStepL X.K te l c) := by
  refine ⟨fun pins s σ H Q I h => ?_⟩
  refine Subscript_ (thn (he.run pins s σ H _ I h) fun v s1 ⟨x, H1, I1, r1, q1⟩ => ?_)
  obtain ⟨a, xs, ex, hc, hx, q⟩ := q1
  subst ex
  cases r1
  have hlo : PO X (some (.Constant (.int l) k0 p0)) (tPart (tC (.int l))) := po_some pe_int
  have hst : PO X (some (.Constant (.int c) k p1)) (tPart (tC (.int c))) := po_some pe_int
  refine PySem.wpAny_Slice (thn (hlo.run pins s1 σ H1 (fun o H2 => o = some l ∧ H2 = H1) I1 ⟨l, rfl, rfl, rfl⟩) fun vl s2 ⟨o1, H2, I2, pl, el, e2⟩ => ?_)
  subst el e2
  refine thn (po_none.run pins s2 σ H2 (fun o H3 => o = none ∧ H3 = H2) I2 ⟨rfl, rfl⟩) fun vu s3 ⟨u, H3, I3, pu, eu, e3⟩ => ?_
  subst eu e3
  refine thn (hst.run pins s3 σ H3 (fun o H4 => o = some c ∧ H4 = H3) I3 ⟨c, rfl, rfl, rfl⟩) fun vs s4 ⟨o, H4, I4, ps, eo, e4⟩ => ?_
  subst eo e4
  have I5 : Inv X pins σ H4 { s4 with heap := s4.heap.push { cls := .type "slice", data := .fields #[vl, vu, vs] } } := I4.kept (t' := s4.toks) fun b ob q => Heap.get?_push_of_some _ q
  obtain ⟨its, r, ht, hz⟩ := I5.list hx
  have hlen := r.length
  have hv := vals_step (lo := some l) (hi := none) (st := some c) r
  have hsz := PySem.slicePick_size_le its.toArray (some l) none (some c)
  show wpAny (model X.prog X.w) X.A (subscriptTail e (.Slice (some (.Constant (.int l) k0 p0)) none (some (.Constant (.int c) k p1)) p3) (.ref a) (.ref s4.heap.objs.size)) (EP X pins σ Q) X.xe { s4 with heap := s4.heap.push { cls := .type "slice", data := .fields #[vl, vu, vs] } }
  refine tail_any (ops := [.ref a, .ref s4.heap.objs.size]) ht.isList.typeIs (PySem.slot_list_getitem.lookup) ?_ (by with_unfolding_all rfl)
  refine PySem.wpAny_getItem_list_slice ht.isList (Heap.IsSliceOf.new _ vl vu vs) pl pu ps (fun z => hc (Option.some.inj z)) ?_ (by rw [List.size_toArray]; omega)
  refine ⟨.ref _, _, I5.laid (t' := s4.toks) (o := .lst (stepV xs (some l) none (some c))) (fun b ob q => Heap.get?_push_of_some _ q) (Nat.le_refl _) ?_, rfl, q _ (I5.hok.fresh (Nat.le_refl _))⟩
  refine ⟨?_, (PySem.slicePick its.toArray (some l) none (some c)).toList, 0, hv, ?_⟩
  · have h5 : its.toArray.size = its.length := List.size_toArray
    rw [hv.length, Array.length_toList]
    omega
  · rw [Array.toArray_toList]
    exact Heap.get?_push_size _ rfl
theorem pe_stepLK {X : Cx} {K : PySem.W.Frag} {e : Expr} {te : TE} {l c : Int} {k0 k : Nat} {p0 p1 p3 pos : Pos} (h : X.K = K) (he : PE X e te) :
    PE X (.Subscript e (.Slice (some (.Constant (.int l) k0 p0)) none (some (.Constant (.int c) k p1)) p3) pos) (tStepL K te l c) := by
  subst h
  exact pe_stepL he

/-! ### classes -/
/-- what is asked of a class of the text -/
structure Ck (K : PySem.W.Frag) (mg : Str → Option Value) (x : Str) (C : Addr) : Prop where
  cl : Cls K C
  g : mg x = some (.ref C)
  ha : PySem.W.findIn K (.ref C) "__class__" = some (some (.builtin "object.__class__"))
  hn : PySem.W.specialIn K (.builtin "object.__class__") "__get__" = some (some (.builtin "getset_descriptor.__get__"))
  htk : PySem.W.takesIn K (.builtin "object.__class__") = some true
  hm : PySem.W.mroIn K C (.type "object") = some true
/-- a method that keeps its promise; a class made by an __init__ that keeps its promise -/
structure Mt (P : Program) (w : World) (K : PySem.W.Frag) (mg : Str → Option Value) (base : Heap) (CX : CXT) (k : Nat) (C : Addr) (m : Str) (ps : List Str) (sp : Sp) : Prop where
  ex : ∃ (f : Addr) (fd : FuncData), FnOk P w K mg base CX k f fd ps sp ∧ Meth K C m f ∧ Binds K fd ps []
structure Cn (P : Program) (w : World) (K : PySem.W.Frag) (mg : Str → Option Value) (base : Heap) (CX : CXT) (k : Nat) (x : Str) (C : Addr) (ps : List Str) (sp : Sp) : Prop where
  ex : ∃ (f : Addr) (fd : FuncData), FnOk P w K mg base CX k f fd ps sp ∧ Mk K C f ∧ Binds K fd ps []
  g : mg x = some (.ref C)
section
variable {X : Cx} {K : PySem.W.Frag}
theorem pe_methD {CX : CXT} {k : Nat} {C : Addr} {m : Str} {ps : List Str} {sp : Sp} {E : XK} {o e : Expr} {es : List Expr} {ta : TE} {t : TA} {apos pos : Pos} {pl : Sem Bool} (c : Cls X.K C) (D : Mt X.prog X.w X.K X.mg X.base CX k C m ps sp) (hr : Room k X.A) (hx : Passes CX X E) (he : PE X o ta)
    (ha : PA X (e :: es) t) (hst : starEach (e :: es) X.env = (false, eval e X.env) :: starEach es X.env := by rfl) (hpl : (backTo pos (starEach es X.env)).any (·.1) = false := by rfl)
    (ht : eval (.Call (.Attribute o m apos) (e :: es) [] pos) X.env = (do
      let ov ← eval o X.env
      standAt apos.atName
      let (f, first) ← holding [ov] (getMethod ov m pl)
      callWith pos f first (backTo pos (starEach (e :: es) X.env)) (backToKw pos (keywordEach [] X.env))) := by rfl) : PE X (.Call (.Attribute o m apos) (e :: es) [] pos) (tMeth C m sp [] E ta t) := by
  obtain ⟨f, fd, F, M, b⟩ := D.ex
  exact pe_meth he c M F hr b .nil hx ha hst hpl ht
theorem pe_makeD {CX : CXT} {k : Nat} {x : Str} {C : Addr} {ps : List Str} {sp : Sp} {E : XK} {e : Expr} {es : List Expr} {t : TA} {p pos : Pos} (D : Cn X.prog X.w X.K X.mg X.base CX k x C ps sp) (hr : Room (k + 1) X.A) (hg : Gl X x) (hx : Passes CX X E)
    (ha : PA X (e :: es) t) (hdb : (x == ("__debug__" : Str)) = false := by decide) (he : starEach (e :: es) X.env = (false, eval e X.env) :: starEach es X.env := by rfl) (hpl : (backTo pos (starEach es X.env)).any (·.1) = false := by rfl) :
    PE X (.Call (.Name x p) (e :: es) [] pos) (tMake C sp [] E t) := by
  obtain ⟨f, fd, F, M, b⟩ := D.ex
  exact pe_make M F hr hg D.g b .nil hx ha hdb he hpl
/-- one of two readings -/
def tOr2 (t1 t2 : TE) : TE := fun σ H Q => t1 σ H Q ∨ t2 σ H Q
theorem pe_or2 {e : Expr} {t1 t2 : TE} (h1 : PE X e t1) (h2 : PE X e t2) : PE X e (tOr2 t1 t2) := ⟨fun pins s σ H Q I h => by
  rcases h with h | h
  · exact h1.run pins s σ H Q I h
  · exact h2.run pins s σ H Q I h⟩
theorem pe_fldK {e : Expr} {ta : TE} {f : Str} {pos : Pos} (h : X.K = K) (he : PE X e ta) (hb : attributeBase e f X.env (eval e X.env) = eval e X.env) : PE X (.Attribute e f pos) (tFld K ta f) := by
  subst h
  exact pe_fld he hb
theorem ps_fldK {o value : Expr} {ta tv : TE} {f : Str} {pos pos' : Pos} (h : X.K = K) (ha : PE X o ta) (hv : PE X value tv) (hs : swapsWith value (some (.Attribute o f pos')) pos.line X.env = pure false) : PS X (.Assign [.Attribute o f pos'] value pos) (sFld K ta tv f) := by
  subst h
  exact ps_fld ha hv hs
theorem mt_indexK (h : X.K = K) : MtR X "list.index" (rIndex K) := by
  subst h
  exact mt_index
end
/-- all but x as it was -/
def ExB (x : Addr) (H H' : Hp) : Prop := ∀ b o, b ≠ x → H b = some o → H' b = some o
theorem ex_made {H H' : Hp} {x dx : Addr} {o o' : HO} (nx : H x = none) (nd : H dx = none) (h : ExB x (upd (upd H dx o') x o) H') : Ex H H' := fun b u e => by
  have h1 : b ≠ x := ne_of_none e nx
  exact h b u h1 (by rw [upd_ne h1, upd_ne (ne_of_none e nd)]; exact e)
theorem look1 {f : Str} {v : V} : List.lookup f [(f, v)] = some v := by
  unfold List.lookup
  rw [beq_self_eq_true]
theorem lookA {f : Str} {v : V} {r : List (Str × V)} : List.lookup f ((f, v) :: r) = some v := by
  unfold List.lookup
  rw [beq_self_eq_true]
theorem lookB {f g : Str} {v w : V} (h : (f == g) = false) : List.lookup f [(g, v), (f, w)] = some w := by
  unfold List.lookup
  rw [h]
  exact lookA
theorem putB {f g : Str} {v w : V} (h : ¬ g = f) : putF f w [(g, v)] = [(g, v), (f, w)] := by
  show (if g = f then [(g, w)] else (g, v) :: putF f w []) = _
  rw [if_neg h]
  rfl
section
variable {K : PySem.W.Frag} {mg : Str → Option Value} {σ : L2.St} {H H' : Hp} {ta tb tc te tx td ty : TE} {t u : TT} {x y z v : V} {r r' : R2} {p q : Addr} {D : Ends} {tu tw tz : TS}
theorem el_step {xs : List V} {l c : Int} (ha : Ev ta σ H (.ref p)) (h : SqL K H p xs) (hc : c ≠ 0) : EvL (tStepL K ta l c) σ H (stepV xs (some l) none (some c)) := fun H1 e Q k =>
  ha H1 e _ fun H2 e2 => ⟨p, xs, rfl, hc, ex_l (e.trans e2) h, fun r hr => k r _ (fresh_back e2 hr) (e2.trans (Ex.new hr)) upd_same⟩
/-- xs + ys of two new lists -/
theorem el_cat {xs ys : List V} (ha : EvL ta σ H xs) (hb : EvL tb σ H ys) (hz : xs.length + ys.length ≤ 100000) : EvL (tOp rCat ta tb) σ H (xs ++ ys) := fun H1 e Q k =>
  ha H1 e _ fun p H2 _ e2 hp => hb H2 (e.trans e2) _ fun q H3 _ e3 hq => ⟨p, q, xs, ys, rfl, rfl, e3 _ _ hp, hq, sz_of hz, fun r hr => k r _ (fresh_back (e2.trans e3) hr) ((e2.trans e3).trans (Ex.new hr)) upd_same⟩
theorem inV_il (i : Int) : ∀ L : List Int, inV (.int i) (il L) = decide (i ∈ L)
  | [] => rfl
  | a :: r => by
    have ih := inV_il i r
    unfold inV at ih ⊢
    show (eqV (.int a) (.int i) || (il r).any fun y => eqV y (.int i)) = _
    rw [ih]
    show ((a == i) || decide (i ∈ r)) = _
    rw [Bool.eq_iff_iff, Bool.or_eq_true, decide_eq_true_eq, decide_eq_true_eq, List.mem_cons, beq_iff_eq]
    exact ⟨fun h => h.imp Eq.symm id, fun h => h.imp Eq.symm id⟩
theorem flat_il : ∀ L : List Int, (il L).all flatV = true
  | [] => rfl
  | a :: r => by
    show (flatV (.int a) && (il r).all flatV) = true
    rw [flat_il r]
    rfl
theorem mem_cast {i : Nat} {L : List Nat} : (i : Int) ∈ L.map (fun (x : Nat) => (x : Int)) ↔ i ∈ L := by
  rw [List.mem_map]
  refine ⟨fun ⟨j, h1, h2⟩ => ?_, fun h => ⟨i, h, rfl⟩⟩
  have : j = i := by omega
  rw [← this]
  exact h1
theorem rv_inI {i : Int} {L : List Int} {b : Bool} (h : SqL K H p (il L)) (e : decide (i ∈ L) = b) : RV (rIn K false) (.int i) (.ref p) H (.bl b) := by
  have h1 := rv_isL (x := .int i) h rfl (flat_il L)
  rw [inV_il, e] at h1
  exact h1
theorem rv_ninI {i : Int} {L : List Int} {b : Bool} (h : SqL K H p (il L)) (e : (!decide (i ∈ L)) = b) : RV (rIn K true) (.int i) (.ref p) H (.bl b) := by
  have h1 := rv_niL (x := .int i) h rfl (flat_il L)
  rw [inV_il, e] at h1
  exact h1
theorem rv_inN {i : Nat} {L : List Nat} {b : Bool} (h : SqL K H p (nl L)) (e : decide (i ∈ L) = b) : RV (rIn K false) (.int (i : Int)) (.ref p) H (.bl b) := by
  rw [nl_il] at h
  exact rv_inI h (by rw [← e]; exact decide_eq_decide.mpr mem_cast)
theorem rv_ninN {i : Nat} {L : List Nat} {b : Bool} (h : SqL K H p (nl L)) (e : (!decide (i ∈ L)) = b) : RV (rIn K true) (.int (i : Int)) (.ref p) H (.bl b) := by
  rw [nl_il] at h
  exact rv_ninI h (by rw [← e]; rw [decide_eq_decide.mpr mem_cast])
/-- xs.index(x), x in xs -/
theorem ev_index {i : Nat} {L : List Nat} (ha : Ev ta σ H (.ref p)) (hL : Rd H p (.lst (nl L))) (hb : Ev tb σ H (.int (i : Int))) (hi : i ∈ L) : Ev (tBM K "list" (rIndex K) ta (tCons tb tNil)) σ H (.int (L.idxOf i : Int)) := fun H1 e Q k =>
  ha H1 e _ fun H2 e2 => ⟨.inl ⟨rfl, _, .inl (ex_rd (e.trans e2) hL)⟩, hb H2 (e.trans e2) _ fun H3 e3 => by
    have h1 : L.idxOf i < L.length := List.idxOf_lt_length_iff.mpr hi
    refine ⟨p, nl L, .int (i : Int), L.idxOf i, .int (i : Int), rfl, rfl, .inl (ex_rd ((e.trans e2).trans e3) hL), rfl, by rw [nl_il]; exact flat_il _, ?_, ?_, ?_, k H3 (e2.trans e3)⟩
    · have h2 := nl_st h1
      rw [st_idx hi] at h2
      exact h2
    · show ((i : Int) == (i : Int)) = true
      exact beq_self_eq_true _
    · intro m z hm hz
      obtain ⟨y, hy, rfl, hl⟩ := nl_inv hz
      show ((y : Int) == (i : Int)) = false
      refine beq_eq_false_iff_ne.mpr fun e => ?_
      have e2 : y = i := by omega
      subst e2
      have h3 := List.not_of_lt_findIdx (p := (· == y)) (xs := L) (i := m) (by exact hm)
      have h4 : L[m] = y := by
        rw [List.getElem?_eq_getElem hl] at hy
        exact Option.some.inj hy
      rw [h4] at h3
      simp at h3⟩
/-! ### instances -/
theorem ty_ins {C dx : Addr} {x : Str} {fs : List (Str × V)} (c : Ck K mg x C) (h : H p = some (.ins C dx fs)) {H1 : Hp} (e : Ex H H1) : TyX K H1 (.ref p) (.ref C) := .base (.ins (e _ _ h) c.cl c.ha c.hn c.htk c.hm)
theorem ev_isiC {C C2 dx : Addr} {x : Str} {fs : List (Str × V)} {b : Bool} (c : Ck K mg x C) (ha : Ev ta σ H (.ref p)) (h : H p = some (.ins C dx fs)) (hb : PySem.W.kitOne K (.ref C) (.ref C2) = some b) : Ev (tCB (rIsi K) (tCons ta (tCons (tC (.ref C2)) tNil))) σ H (.bl b) :=
  ev_isi ha ev_c (.own C2) (fun _ e => ty_ins c h e) hb
theorem ev_fld {C dx : Addr} {f : Str} {fs : List (Str × V)} (c : Cls K C) (n : NoAttr K C f) (ha : Ev ta σ H (.ref p)) (h : H p = some (.ins C dx fs)) (hl : fs.lookup f = some v) : Ev (tFld K ta f) σ H v := fun H1 e Q k =>
  ha H1 e _ fun H2 e2 => ⟨p, C, dx, fs, v, rfl, (e.trans e2) _ _ h, c, n, hl, k H2 e2⟩
theorem ev_meth {C dx : Addr} {m : Str} {fs : List (Str × V)} {sp : Sp} {E : XK} {ta' : TA} {vs : List V} (ha : Ev ta σ H (.ref p)) (h : H p = some (.ins C dx fs)) (hl : fs.lookup m = none) (hv : EvA ta' σ H vs) (hs : SpV sp (.ref p :: vs) H z) : Ev (tMeth C m sp [] E ta ta') σ H z := fun H1 e Q k =>
  ha H1 e _ fun H2 e2 => ⟨p, dx, fs, rfl, (e.trans e2) _ _ h, hl, hv H2 (e.trans e2) _ fun H3 e3 => by
    rw [List.append_nil]
    exact hs H3 ((e.trans e2).trans e3) Q (fun H4 e4 => k H4 ((e2.trans e3).trans e4)) E⟩
theorem ev_or2l (h : Ev ta σ H v) : Ev (tOr2 ta tb) σ H v := fun H1 e Q k => .inl (h H1 e Q k)
theorem ev_or2r (h : Ev tb σ H v) : Ev (tOr2 ta tb) σ H v := fun H1 e Q k => .inr (h H1 e Q k)
/-- o.f = e in an __init__ -/
theorem s_fld {C dx : Addr} {f : Str} {fs : List (Str × V)} (c : Cls K C) (n : NoAttr K C f) (hv : Ev tx σ H v) (ha : Ev ta σ H (.ref p)) (h : H p = some (.ins C dx fs)) (hz : fs.length < 1000) (k : ∀ H1, Ex H H1 → D.nx σ (upd H1 p (.ins C dx (putF f v fs)))) : sFld K ta tx f D σ H :=
  hv H (Ex.refl H) _ fun H1 e1 => ha H1 e1 _ fun H2 e2 => ⟨p, C, dx, fs, rfl, (e1.trans e2) _ _ h, c, n, hz, k H2 (e1.trans e2)⟩
theorem s_fldL {C dx : Addr} {f : Str} {fs : List (Str × V)} {xs : List V} (c : Cls K C) (n : NoAttr K C f) (hv : EvL tx σ H xs) (ha : Ev ta σ H (.ref p)) (h : H p = some (.ins C dx fs)) (hz : fs.length < 1000)
    (k : ∀ l H1, H l = none → Ex H H1 → H1 l = some (.lst xs) → D.nx σ (upd H1 p (.ins C dx (putF f (.ref l) fs)))) : sFld K ta tx f D σ H :=
  hv H (Ex.refl H) _ fun l H1 nl e1 hl => ha H1 e1 _ fun H2 e2 => ⟨p, C, dx, fs, rfl, (e1.trans e2) _ _ h, c, n, hz, k l H2 nl (e1.trans e2) (e2 _ _ hl)⟩
theorem q_fld {C dx : Addr} {f : Str} {fs : List (Str × V)} (c : Cls K C) (n : NoAttr K C f) (hv : Ev tx σ H v) (ha : Ev ta σ H (.ref p)) (h : H p = some (.ins C dx fs)) (hz : fs.length < 1000) (k : ∀ H1, Ex H H1 → tz D σ (upd H1 p (.ins C dx (putF f v fs)))) : tSeq (sFld K ta tx f) tz D σ H :=
  s_fld (D := { D with nx := tz D }) c n hv ha h hz k
theorem DM.upd {n : Nat} {M : Int → Option V} {o : HO} (h : DM H p n M) (hne : p ≠ q) : DM (upd H q o) p n M := by
  obtain ⟨kvs, h1, h2, h3⟩ := h
  exact ⟨kvs, by rw [upd_ne hne]; exact h1, h2, h3⟩
/-- for i, x in enumerate(a new list) -/
theorem s_forNE {xs : List V} {tl : TE} {i j : Nat} (h : EvL tl σ H xs) (Pv : Addr → Nat → L2.St → Hp → Prop) (h0 : ∀ p H1, H p = none → Ex H H1 → H1 p = some (.lst xs) → Pv p 0 σ H1) (hl : ∀ p i σ' H', i ≤ xs.length → Pv p i σ' H' → SqL K H' p xs)
    (hs : ∀ p k x σ' H' H2, xs[k]? = some x → Pv p k σ' H' → Ex H' H2 → (∀ b, H2 b = none → H' b = none) → tu { D with nx := Pv p (k + 1), ct := Pv p (k + 1), bk := D.nx } ((σ'.set i (some (.int (k : Int)))).set j (some x)) H2) (hd : ∀ p σ' H', Pv p xs.length σ' H' → D.nx σ' H') :
    tFor (iEnum K (tCons tl tNil)) (g2 K i j) tu D σ H :=
  h H (Ex.refl H) _ fun p H1 n e hp => ⟨p, xs, rfl, sq_of hp, for_enum (Pv p) (h0 p H1 n e hp) (hl p) (fun k x σ' H' T hk pv nT => g2_go (st_of upd_same) (hs p k x σ' H' _ hk pv (Ex.new nT) fun b hb => fresh_back (Ex.new nT) hb)) (hd p)⟩
theorem q_forNE {xs : List V} {tl : TE} {i j : Nat} (h : EvL tl σ H xs) (Pv : Addr → Nat → L2.St → Hp → Prop) (h0 : ∀ p H1, H p = none → Ex H H1 → H1 p = some (.lst xs) → Pv p 0 σ H1) (hl : ∀ p i σ' H', i ≤ xs.length → Pv p i σ' H' → SqL K H' p xs)
    (hs : ∀ p k x σ' H' H2, xs[k]? = some x → Pv p k σ' H' → Ex H' H2 → (∀ b, H2 b = none → H' b = none) → tu { D with nx := Pv p (k + 1), ct := Pv p (k + 1), bk := tz D } ((σ'.set i (some (.int (k : Int)))).set j (some x)) H2) (hd : ∀ p σ' H', Pv p xs.length σ' H' → tz D σ' H') :
    tSeq (tFor (iEnum K (tCons tl tNil)) (g2 K i j) tu) tz D σ H := s_forNE (D := { D with nx := tz D }) h Pv h0 hl hs hd
/-- some cells of the script: the first ones, then each some places on -/
def cells (ns : List Int) (k l c : Int) : List V := cutV (il ns) none (some k) ++ stepV (il ns) (some l) none (some c)
theorem mem_cells {ns : List Int} {k l c : Int} {i : Nat} {x : V} (h : (cells ns k l c)[i]? = some x) : ∃ z, z ∈ ns ∧ x = .int z := by
  have h1 := List.mem_of_getElem? h
  unfold cells at h1
  rcases List.mem_append.mp h1 with h1 | h1
  · unfold cutV at h1
    exact mem_il (List.mem_of_mem_drop (List.mem_of_mem_take h1))
  · exact mem_il (stepV_mem h1)
theorem stepV_len (xs : List V) (l c : Int) (hc : 0 < c) : (stepV xs (some l) none (some c)).length ≤ xs.length := by
  have hb : PySem.sliceBounds (some l) none (some c) xs.length = (max 0 (min (if l < 0 then l + xs.length else l) xs.length), (xs.length : Int), c) := by
    unfold PySem.sliceBounds
    dsimp only [Option.getD]
    rw [if_pos (show c > 0 from hc), if_pos (show c > 0 from hc)]
  unfold stepV
  rw [hb]
  refine Nat.le_trans (List.length_filterMap_le _ _) (PySem.sliceRange_length_le _ _ _ xs.length (fun _ => ⟨?_, Int.le_refl _⟩) fun h => absurd hc h)
  show (0 : Int) ≤ max 0 (min (if l < 0 then l + xs.length else l) xs.length)
  omega
theorem cells_len (ns : List Int) (k l c : Int) (hc : 0 < c) : (cells ns k l c).length ≤ 2 * ns.length := by
  unfold cells
  rw [List.length_append]
  have h1 := cutV_length (il ns) none (some k)
  have h2 := stepV_len (il ns) l c hc
  rw [il_len] at h1 h2
  omega
theorem el_cells {ns : List Int} {k l c : Int} {tk : TE} (ha : Ev ta σ H (.ref p)) (ha2 : Ev tb σ H (.ref p)) (h : SqL K H p (il ns)) (hk : Ev tk σ H (.int k)) (hc : 0 < c) (h63 : ns.length ≤ 63) : EvL (tOp rCat (tSl (rSlL K) ta tNoPart (tPart tk)) (tStepL K tb l c)) σ H (cells ns k l c) :=
  el_cat (el_sl ha eo_none (eo_some hk) h) (el_step ha2 h (by omega)) (by
    have h1 := cutV_length (il ns) none (some k)
    have h2 := stepV_len (il ns) l c hc
    rw [il_len] at h1 h2
    omega)
/-- a method of what a call gives back -/
theorem ev_methC {C : Addr} {m : Str} {sp sp1 : Sp} {E E1 : XK} {t1 t2 : TA} {vs ws : List V} (h : EvA t1 σ H vs) (h2 : EvA t2 σ H ws)
    (hs : ∀ H1, Ex H H1 → ∀ R : VK, (∀ x dx fs H2, Ex H1 H2 → H2 x = some (.ins C dx fs) → fs.lookup m = none → SpV sp (.ref x :: ws) H2 z → R (.ref x) H2) → sp1 vs H1 R E1) : Ev (tMeth C m sp [] E (tCall sp1 [] E1 t1) t2) σ H z := fun H1 e Q k =>
  h H1 e _ fun H2 e2 => by
    rw [List.append_nil]
    exact hs H2 (e.trans e2) _ fun x dx fs H3 e3 hx hl hsp => ⟨x, dx, fs, rfl, hx, hl, h2 H3 ((e.trans e2).trans e3) _ fun H4 e4 => by
      rw [List.append_nil]
      exact hsp H4 e4 Q (fun H5 e5 => k H5 (((e2.trans e3).trans e4).trans e5)) E⟩
/-! ### is True, any -/
theorem rv_isB {a b c : Bool} (e : decide (a = b) = c) : RV rIsB (.bl a) (.bl b) H (.bl c) := fun H1 _ _ q => ⟨a, b, rfl, rfl, by
  rw [e]
  exact q H1 (Ex.refl H1)⟩
theorem rv_isnB {a b c : Bool} (e : (!decide (a = b)) = c) : RV rNotB (.bl a) (.bl b) H (.bl c) := fun H1 _ _ q => ⟨a, b, rfl, rfl, by
  rw [e]
  exact q H1 (Ex.refl H1)⟩
theorem rv_eqBl {a b c : Bool} (e : decide (a = b) = c) : RV rEq (.bl a) (.bl b) H (.bl c) := by
  have h := rv_eq (H := H) (x := .bl a) (y := .bl b) rfl
  rw [show decide (V.bl a = V.bl b) = c by
    rw [← e]
    exact decide_eq_decide.mpr ⟨fun h => V.bl.inj h, fun h => by rw [h]⟩] at h
  exact h
theorem ev_any {bs : List Bool} (ha : Ev ta σ H (.ref p)) (h : SqL K H p (bs.map V.bl)) : Ev (tCB (rAny K) (tCons ta tNil)) σ H (.bl (bs.any id)) := fun H1 e Q q =>
  ha H1 e _ fun H2 e2 => ⟨p, bs, rfl, ex_l (e.trans e2) h, q H2 e2⟩
theorem ev_allB {α : Type} {L : List α} {f : α → Bool} (ha : EvL ta σ H (L.map fun x => V.bl (f x))) : Ev (tCB (rAll K) (tCons ta tNil)) σ H (.bl (L.all f)) := by
  have e : (L.map fun x => V.bl (f x)) = (L.map f).map V.bl := by
    rw [List.map_map]
    rfl
  rw [e] at ha
  have h := ev_all (K := K) ha
  rw [List.all_map] at h
  exact h
end
end Ld
/-! Evd: dicts by their keys, pairs walked, what a call gives back asked for its class. -/
namespace Ld
open PySem L2 Evl
section
variable {K : PySem.W.Frag} {mg : Str → Option Value} {σ : L2.St} {H H' : Hp} {ta tb tc te tx td ty : TE} {t u : TT} {x y z v : V} {r r' : R2} {p q : Addr} {D : Ends} {tu tw tz : TS}
/-- a dict whose keys are ks, in their turn -/
def DKs (H : Hp) (d : Addr) (ks : List Nat) : Prop := ∃ kvs : List (Key × V), H d = some (.dK kvs) ∧ kvs.map (·.1) = ks.map fun (k : Nat) => (Sum.inl (k : Int) : Key)
theorem DKs.ex {ks : List Nat} (h : DKs H p ks) (e : Ex H H') : DKs H' p ks := by
  obtain ⟨kvs, h1, h2⟩ := h
  exact ⟨kvs, e _ _ h1, h2⟩
theorem DKs.upd {ks : List Nat} {o : HO} (h : DKs H p ks) (hne : p ≠ q) : DKs (upd H q o) p ks := by
  obtain ⟨kvs, h1, h2⟩ := h
  exact ⟨kvs, by rw [upd_ne hne]; exact h1, h2⟩
theorem DKs.some {ks : List Nat} (h : DKs H p ks) : ∃ kvs, H p = some (.dK kvs) := by
  obtain ⟨kvs, h1, h2⟩ := h
  exact ⟨kvs, h1⟩
theorem keyMem {kvs : List (Key × V)} {ks : List Nat} (h : kvs.map (·.1) = ks.map fun (k : Nat) => (Sum.inl (k : Int) : Key)) (k : Nat) : (valV kvs (Sum.inl (k : Int) : Key)).isSome = decide (k ∈ ks) := by
  rw [← valV_any, Bool.eq_iff_iff, List.any_eq_true, decide_eq_true_eq]
  refine ⟨fun ⟨kv, h1, h2⟩ => ?_, fun hk => ?_⟩
  · have h3 : kv.1 ∈ kvs.map (·.1) := List.mem_map.mpr ⟨kv, h1, rfl⟩
    rw [h] at h3
    obtain ⟨j, hj, e⟩ := List.mem_map.mp h3
    have h4 : (Sum.inl (j : Int) : Key) = Sum.inl (k : Int) := e.trans (of_decide_eq_true h2)
    have h5 : j = k := by
      have := Sum.inl.inj h4
      omega
    rw [← h5]
    exact hj
  · have h3 : (Sum.inl (k : Int) : Key) ∈ kvs.map (·.1) := by
      rw [h]
      exact List.mem_map.mpr ⟨k, hk, rfl⟩
    obtain ⟨kv, h4, h5⟩ := List.mem_map.mp h3
    exact ⟨kv, h4, decide_eq_true h5⟩
theorem keyPut {kvs : List (Key × V)} {ks : List Nat} (h : kvs.map (·.1) = ks.map fun (k : Nat) => (Sum.inl (k : Int) : Key)) (k : Nat) (v : V) : (putK kvs (Sum.inl (k : Int)) v).map (·.1) = (addK ks k).map fun (k : Nat) => (Sum.inl (k : Int) : Key) := by
  have hm := keyMem h k
  unfold putK addK
  rw [valV_any, hm]
  by_cases hk : k ∈ ks
  · rw [decide_eq_true hk, if_pos rfl, if_pos hk, List.map_map, ← h]
    refine List.map_congr_left fun kv _ => ?_
    show (if kv.1 = (Sum.inl (k : Int) : Key) then (kv.1, v) else kv).1 = kv.1
    split <;> rfl
  · rw [decide_eq_false hk, if_neg Bool.false_ne_true, if_neg hk, List.map_append, List.map_append, h]
    rfl
theorem DKs.getI {ks : List Nat} {k : Nat} (h : DKs H p ks) : ∃ o : Option V, DGet H p (.int (k : Int)) o ∧ o.isSome = decide (k ∈ ks) := by
  obtain ⟨kvs, h1, h2⟩ := h
  exact ⟨_, DGet.k (k := Sum.inl (k : Int)) h1, keyMem h2 k⟩
theorem ev_dinK {ks : List Nat} {k : Nat} {b : Bool} (hk : Ev ty σ H (.int (k : Int))) (hd : Ev td σ H (.ref p)) (h : DKs H p ks) (e : decide (k ∈ ks) = b) : Ev (tDIn ty td) σ H (.bl b) := fun H1 e1 Q q =>
  hk H1 e1 _ fun H2 e2 => hd H2 (e1.trans e2) _ fun H3 e3 => by
    obtain ⟨o, h1, h2⟩ := (h.ex ((e1.trans e2).trans e3)).getI (k := k)
    refine ⟨p, o, rfl, h1, ?_⟩
    rw [h2, e]
    exact q H3 (e2.trans e3)
theorem ev_dnotinK {ks : List Nat} {k : Nat} {b : Bool} (hk : Ev ty σ H (.int (k : Int))) (hd : Ev td σ H (.ref p)) (h : DKs H p ks) (e : (!decide (k ∈ ks)) = b) : Ev (tDNotIn ty td) σ H (.bl b) := fun H1 e1 Q q =>
  hk H1 e1 _ fun H2 e2 => hd H2 (e1.trans e2) _ fun H3 e3 => by
    obtain ⟨o, h1, h2⟩ := (h.ex ((e1.trans e2).trans e3)).getI (k := k)
    refine ⟨p, o, rfl, h1, ?_⟩
    rw [h2, e]
    exact q H3 (e2.trans e3)
theorem s_dputK {ks : List Nat} {k : Nat} (hv : Ev tx σ H v) (hd : Ev td σ H (.ref p)) (hk : Ev ty σ H (.int (k : Int))) (h : DKs H p ks) (hn : ks.length < 100000)
    (go : ∀ H1, Ex H H1 → ∀ o, DKs (L2.upd H1 p o) p (addK ks k) → D.nx σ (L2.upd H1 p o)) : sDPut td ty tx D σ H :=
  hv H (Ex.refl H) _ fun H1 e1 => hd H1 e1 _ fun H2 e2 => hk H2 (e1.trans e2) _ fun H3 e3 => by
    obtain ⟨kvs, h1, h2⟩ := h
    have h4 := ((e1.trans e2).trans e3) _ _ h1
    have h5 : kvs.length = ks.length := by
      have := congrArg List.length h2
      rw [List.length_map, List.length_map] at this
      exact this
    refine ⟨p, _, rfl, DPut.k (k := Sum.inl (k : Int)) h4 (sz_lt (by omega)), ?_⟩
    exact go H3 ((e1.trans e2).trans e3) _ ⟨_, upd_same, keyPut h2 k v⟩
theorem q_dputK {ks : List Nat} {k : Nat} (hv : Ev tx σ H v) (hd : Ev td σ H (.ref p)) (hk : Ev ty σ H (.int (k : Int))) (h : DKs H p ks) (hn : ks.length < 100000)
    (go : ∀ H1, Ex H H1 → ∀ o, DKs (L2.upd H1 p o) p (addK ks k) → tz D σ (L2.upd H1 p o)) : tSeq (sDPut td ty tx) tz D σ H := s_dputK (D := { D with nx := tz D }) hv hd hk h hn go
theorem q_dnewK {i : Nat} (k : ∀ d H1, H d = none → Ex H H1 → DKs H1 d [] → tz D (σ.set i (some (.ref d))) H1) : tSeq (tAsg tDNewK (gName i)) tz D σ H := fun d hd => k d _ hd (Ex.new hd) ⟨[], upd_same, rfl⟩
/-- sorted(d) -/
theorem el_sortedD {ks : List Nat} (ha : Ev ta σ H (.ref p)) (h : DKs H p ks) (hz : ks.length < 64) : EvL (tCB (fun xs H Q => ∃ (a : Addr) (kvs : List (Key × V)) (ks : List Int), xs = [V.ref a] ∧ Rd H a (.dK kvs) ∧ kvs.map (·.1) = ks.map Sum.inl ∧ ks.length < 64 ∧
    ∀ (ys : List Int) (p : Addr), ys.Perm ks → ys.Pairwise (· ≤ ·) → H p = none → Q (.ref p) (L2.upd H p (.lst (ys.map V.int)))) (tCons ta tNil)) σ H (nl (srt ks)) := fun H1 e Q k =>
  ha H1 e _ fun H2 e2 => by
    obtain ⟨kvs, h1, h2⟩ := h.ex (e.trans e2)
    refine ⟨p, kvs, ks.map fun (k : Nat) => (k : Int), rfl, .inl h1, by rw [h2, List.map_map]; rfl, by rw [List.length_map]; exact hz, fun ys r h3 h4 hr => ?_⟩
    refine k r _ (fresh_back e2 hr) (e2.trans (Ex.new hr)) ?_
    rw [upd_same, nl_il, sorted_is (h3.trans ((srt_perm ks).map _).symm) h4 (srt_cast ks)]
    rfl
/-- for a, b in [(..), (..)] -/
theorem s_forTT {a b c d : V} {i j : Nat} (h1 : EvU ta σ H [a, b]) (h2 : EvU tb σ H [c, d]) (Pv : Hp → Nat → L2.St → Hp → Prop) (hex : ∀ G k σ' H', Pv G k σ' H' → Ex G H') (h0 : ∀ G, Ex H G → Pv G 0 σ G)
    (hs0 : ∀ G σ' H', Ex H G → Pv G 0 σ' H' → tu { D with nx := Pv G 1, ct := Pv G 1, bk := D.nx } ((σ'.set i (some a)).set j (some b)) H')
    (hs1 : ∀ G σ' H', Ex H G → Pv G 1 σ' H' → tu { D with nx := Pv G 2, ct := Pv G 2, bk := D.nx } ((σ'.set i (some c)).set j (some d)) H') (hd : ∀ G σ' H', Ex H G → Pv G 2 σ' H' → D.nx σ' H') :
    tFor (iList K (tLst (tCons ta (tCons tb tNil)))) (g2 K i j) tu D σ H :=
  h1 H (Ex.refl H) _ fun p H1 _ e1 hp => h2 H1 e1 _ fun q H2 _ e2 hq => ⟨by show 2 ≤ sizeLine; decide, fun r hr => by
    have eG : Ex H (L2.upd H2 r (.lst [.ref p, .ref q])) := (e1.trans e2).trans (Ex.new hr)
    have hpG : L2.upd H2 r (.lst [.ref p, .ref q]) p = some (.tup [a, b]) := Ex.new hr _ _ (e2 _ _ hp)
    have hqG : L2.upd H2 r (.lst [.ref p, .ref q]) q = some (.tup [c, d]) := Ex.new hr _ _ hq
    refine ⟨r, rfl, ⟨_, sq_of upd_same⟩, for_list (xs := [.ref p, .ref q]) (Pv (L2.upd H2 r (.lst [.ref p, .ref q]))) (h0 _ eG) (fun k σ' H' _ hP => sq_of (hex _ _ _ _ hP _ _ upd_same)) (fun k x σ' H' hx hP => ?_) (fun σ' H' hP => hd _ σ' H' eG hP)⟩
    match k, hx with
    | 0, hx =>
      obtain rfl : V.ref p = x := Option.some.inj hx
      exact g2_go (st_of (hex _ _ _ _ hP _ _ hpG)) (hs0 _ σ' H' eG hP)
    | 1, hx =>
      obtain rfl : V.ref q = x := Option.some.inj hx
      exact g2_go (st_of (hex _ _ _ _ hP _ _ hqG)) (hs1 _ σ' H' eG hP)
    | k + 2, hx => cases hx⟩
theorem q_forTT {a b c d : V} {i j : Nat} (h1 : EvU ta σ H [a, b]) (h2 : EvU tb σ H [c, d]) (Pv : Hp → Nat → L2.St → Hp → Prop) (hex : ∀ G k σ' H', Pv G k σ' H' → Ex G H') (h0 : ∀ G, Ex H G → Pv G 0 σ G)
    (hs0 : ∀ G σ' H', Ex H G → Pv G 0 σ' H' → tu { D with nx := Pv G 1, ct := Pv G 1, bk := tz D } ((σ'.set i (some a)).set j (some b)) H')
    (hs1 : ∀ G σ' H', Ex H G → Pv G 1 σ' H' → tu { D with nx := Pv G 2, ct := Pv G 2, bk := tz D } ((σ'.set i (some c)).set j (some d)) H') (hd : ∀ G σ' H', Ex H G → Pv G 2 σ' H' → tz D σ' H') :
    tSeq (tFor (iList K (tLst (tCons ta (tCons tb tNil)))) (g2 K i j) tu) tz D σ H := s_forTT (D := { D with nx := tz D }) h1 h2 Pv hex h0 hs0 hs1 hd
/-- for x in reversed(xs) -/
theorem for_rev {a : Addr} {xs : List V} {g : TG} {tb : TS} {D : Ends} {σ : L2.St} {H : Hp} (Pv : Nat → L2.St → Hp → Prop) (h0 : Pv 0 σ H) (hl : ∀ i σ H, i ≤ xs.length → Pv i σ H → SqL K H a xs)
    (hs : ∀ i x σ H, i < xs.length → xs[xs.length - 1 - i]? = some x → Pv i σ H → g x σ H fun σ2 H2 => tb { D with nx := Pv (i + 1), ct := Pv (i + 1), bk := D.nx } σ2 H2) (hd : ∀ σ H, Pv xs.length σ H → D.nx σ H) :
    ∃ W : Nat → Nat → L2.St → Hp → Prop, (∃ m, W 0 m σ H) ∧ ∀ i m σ H, W i m σ H →
      ((Itv K a xs.length).stop i H ∧ D.nx σ H) ∨ ((Itv K a xs.length).go i H ∧ ∃ N : L2.St → Hp → Prop, (∀ σ' H', N σ' H' → ∃ m', m' < m ∧ W (i + 1) m' σ' H') ∧ ∀ x H', (Itv K a xs.length).yld i H x H' → g x σ H' fun σ2 H2 => tb { D with nx := N, ct := N, bk := D.nx } σ2 H2) := by
  refine ⟨fun i m σ H => m = xs.length - i ∧ i ≤ xs.length ∧ Pv i σ H, ⟨xs.length, by simp, Nat.zero_le _, h0⟩, ?_⟩
  rintro i m σ H ⟨rfl, hi, p⟩
  have q := hl i σ H hi p
  by_cases hlt : i < xs.length
  · refine .inr ⟨⟨hlt, xs, xs[xs.length - 1 - i], q, List.getElem?_eq_getElem (by omega)⟩, Pv (i + 1), fun σ' H' p' => ⟨xs.length - (i + 1), by omega, rfl, hlt, p'⟩, fun x H' y => ?_⟩
    obtain ⟨rfl, f⟩ := y
    exact hs i x σ _ hlt (f xs q) p
  · exact .inl ⟨by show xs.length ≤ i; omega, hd σ H (by rw [show xs.length = i by omega]; exact p)⟩
theorem s_forRev {a : Addr} {xs : List V} {tl : TE} {j : Nat} (h : Ev tl σ H (.ref a)) (hx : SqL K H a xs) (Pv : Nat → L2.St → Hp → Prop) (h0 : ∀ H1, Ex H H1 → Pv 0 σ H1) (hl : ∀ i σ' H', i ≤ xs.length → Pv i σ' H' → SqL K H' a xs)
    (hs : ∀ i x σ' H', i < xs.length → xs[xs.length - 1 - i]? = some x → Pv i σ' H' → tu { D with nx := Pv (i + 1), ct := Pv (i + 1), bk := D.nx } (σ'.set j (some x)) H') (hd : ∀ σ' H', Pv xs.length σ' H' → D.nx σ' H') : tFor (iRev K (tCons tl tNil)) (gName j) tu D σ H :=
  h H (Ex.refl H) _ fun H1 e => ⟨a, xs, rfl, ex_l e hx, for_rev Pv (h0 H1 e) hl hs hd⟩
theorem q_forRev {a : Addr} {xs : List V} {tl : TE} {j : Nat} (h : Ev tl σ H (.ref a)) (hx : SqL K H a xs) (Pv : Nat → L2.St → Hp → Prop) (h0 : ∀ H1, Ex H H1 → Pv 0 σ H1) (hl : ∀ i σ' H', i ≤ xs.length → Pv i σ' H' → SqL K H' a xs)
    (hs : ∀ i x σ' H', i < xs.length → xs[xs.length - 1 - i]? = some x → Pv i σ' H' → tu { D with nx := Pv (i + 1), ct := Pv (i + 1), bk := tz D } (σ'.set j (some x)) H') (hd : ∀ σ' H', Pv xs.length σ' H' → tz D σ' H') : tSeq (tFor (iRev K (tCons tl tNil)) (gName j) tu) tz D σ H :=
  s_forRev (D := { D with nx := tz D }) h hx Pv h0 hl hs hd
/-- isinstance(a call, C) -/
theorem ev_isiR {C2 : Addr} {sp1 : Sp} {E1 : XK} {t1 : TA} {vs : List V} {b : Bool} (h : EvA t1 σ H vs)
    (hs : ∀ H1, Ex H H1 → ∀ R : VK, (∀ x dx fs C nm H2, Ex H1 H2 → H2 x = some (.ins C dx fs) → Ck K mg nm C → PySem.W.kitOne K (.ref C) (.ref C2) = some b → R (.ref x) H2) → sp1 vs H1 R E1) : Ev (tCB (rIsi K) (tCons (tCall sp1 [] E1 t1) (tCons (tC (.ref C2)) tNil))) σ H (.bl b) := fun H1 e Q k =>
  h H1 e _ fun H2 e2 => by
    rw [List.append_nil]
    exact hs H2 (e.trans e2) _ fun x dx fs C nm H3 e3 hx hc hb => ⟨.ref x, .ref C2, .ref C, .ref C2, b, rfl, .own C2, ty_ins hc hx (Ex.refl _), hb, k H3 (e2.trans e3)⟩
end
end Ld
/-! Evs: max with a default, lists of lists made, two names at once. -/
namespace Ld
open PySem L2 Evl
/-! ### max(xs, default=d) -/
def mx (d : Int) : List Int → Int
  | [] => d
  | n :: r => r.foldl max n
def rMaxDef (K : PySem.W.Frag) : List V → List V → Hp → VK → Prop := fun xs zs H Q => ∃ (a : Addr) (ns : List Int) (d : Int), xs = [V.ref a] ∧ zs = [V.int d] ∧ SqL K H a (il ns) ∧ Q (.int (mx d ns)) H
theorem readsInts {h : Heap} : ∀ {us : List Value} {ns : List Int}, Vals (il ns) us → ReadsAll h us (ns.map PyData.int) []
  | _, [], .nil => .nil
  | _, n :: r, .cons q t => by
    obtain ⟨k, rfl⟩ := q
    exact ReadsAll.cons (as := []) (bs := []) (Reads.int n k) (readsInts (ns := r) t)
theorem cr_maxDef {X : Cx} {K : PySem.W.Frag} (hK : X.K = K) (hc : X.calm = true) (hu : X.A.units + 1 < cLine) : CallRK X (.builtin "max") ["default"] (rMaxDef K) := by
  subst hK
  intro pins s σ H xs zs us ws Q I rx rz h
  obtain ⟨a, ns, d, rfl, rfl, hs, q⟩ := h
  obtain ⟨its, rv, hl, _⟩ := I.list hs
  rw [Vals.ref1 rx]
  obtain ⟨w1, rfl, t, rfl⟩ := vals1 rz
  refine PySem.W.max_list_default (xs := ns.map PyData.int) (as := []) (I.ok.hd hc) hl.isList (readsInts rv) ⟨fun x hx y hy => ?_, fun x hx => ?_⟩ (by rw [depthAll_int]; exact hu) (fun e h' tk hk => ?_) (fun y ys i v h' tk bs e hv hr hk => ?_)
  · obtain ⟨i, _, rfl⟩ := List.mem_map.mp hx
    obtain ⟨j, _, rfl⟩ := List.mem_map.mp hy
    rfl
  · obtain ⟨i, _, rfl⟩ := List.mem_map.mp hx
    exact fun z => nomatch z
  · have e2 : ns = [] := List.map_eq_nil_iff.mp e
    subst e2
    exact ⟨.int d, H, I.kept hk, ⟨_, rfl⟩, q⟩
  · cases ns with
    | nil => cases e
    | cons n r =>
      rw [List.map_cons, List.cons.injEq] at e
      obtain ⟨rfl, rfl⟩ := e
      rw [PySem.W.maxD_ints] at hr
      cases hr with
      | int => exact ⟨.int _, H, I.kept hk, ⟨_, rfl⟩, q⟩
section
variable {K : PySem.W.Frag} {mg : Str → Option Value} {σ : L2.St} {H H' : Hp} {ta tb tc te tx td ty : TE} {t u : TT} {x y z v : V} {r r' : R2} {p q : Addr} {D : Ends} {tu tw tz : TS}
theorem ev_maxDef {ns : List Int} {d : Int} (h : EvL ta σ H (il ns)) (hd : Ev tb σ H (.int d)) : Ev (tCKw (rMaxDef K) (tCons ta tNil) (tCons tb tNil)) σ H (.int (mx d ns)) := fun H1 e Q k =>
  h H1 e _ fun p H2 _ e2 hp => hd H2 (e.trans e2) _ fun H3 e3 => ⟨p, ns, d, rfl, rfl, sq_of (e3 _ _ hp), k H3 (e2.trans e3)⟩
theorem ev_maxDefR {ns : List Int} {d : Int} (h : Ev ta σ H (.ref p)) (hp : SqL K H p (il ns)) (hd : Ev tb σ H (.int d)) : Ev (tCKw (rMaxDef K) (tCons ta tNil) (tCons tb tNil)) σ H (.int (mx d ns)) := fun H1 e Q k =>
  h H1 e _ fun H2 e2 => hd H2 (e.trans e2) _ fun H3 e3 => ⟨p, ns, d, rfl, rfl, ex_l ((e.trans e2).trans e3) hp, k H3 (e2.trans e3)⟩
/-! ### a new list of new lists -/
def AllAt (H : Hp) : List Addr → List (List Nat) → Prop := Paired fun r l => H r = some (.lst (nl l))
theorem AllAt.ex {rs : List Addr} {Ls : List (List Nat)} (h : AllAt H rs Ls) (e : Ex H H') : AllAt H' rs Ls := Paired.mapP h fun _ _ q => e _ _ q
theorem AllAt.upd {o : HO} : ∀ {rs : List Addr} {Ls : List (List Nat)}, AllAt H rs Ls → p ∉ rs → AllAt (upd H p o) rs Ls
  | _, _, .nil, _ => .nil
  | r :: rs, _, .cons h t, hn => .cons (by
      rw [upd_ne fun e => hn (by rw [e]; exact List.mem_cons_self)]
      exact h) (AllAt.upd t fun h => hn (List.mem_cons_of_mem _ h))
theorem AllAt.lls {rs : List Addr} {Ls : List (List Nat)} (h : AllAt H rs Ls) : LLs K H rs Ls := Paired.mapP h fun _ _ q => sq_of q
theorem AllAt.mem : ∀ {rs : List Addr} {Ls : List (List Nat)}, AllAt H rs Ls → ∀ {r : Addr}, r ∈ rs → ∃ l, l ∈ Ls ∧ H r = some (.lst (nl l))
  | _, _, .nil, _, h => (nomatch h)
  | r :: rs, l :: ls, .cons h t, r', hm => by
    rcases List.mem_cons.mp hm with rfl | hm
    · exact ⟨l, List.mem_cons_self, h⟩
    · obtain ⟨l', h1, h2⟩ := AllAt.mem t hm
      exact ⟨l', List.mem_cons_of_mem _ h1, h2⟩
theorem AllAt.get : ∀ {rs : List Addr} {Ls : List (List Nat)}, AllAt H rs Ls → ∀ {i : Nat} {r : Addr}, rs[i]? = some r → ∃ l, Ls[i]? = some l ∧ H r = some (.lst (nl l))
  | _, _, .nil, _, _, h => by simp at h
  | r :: rs, l :: ls, .cons h t, 0, r', hi => by
    obtain rfl := Option.some.inj hi
    exact ⟨l, rfl, h⟩
  | r :: rs, l :: ls, .cons h t, i + 1, r', hi => AllAt.get t (i := i) hi
theorem AllAt.len {rs : List Addr} {Ls : List (List Nat)} (h : AllAt H rs Ls) : rs.length = Ls.length := Paired.length h
/-- p: a new list of the new lists rs, which hold Ls -/
structure NLL (H0 H2 : Hp) (p : Addr) (rs : List Addr) (Ls : List (List Nat)) : Prop where
  fp : H0 p = none
  frs : ∀ r ∈ rs, H0 r = none
  top : H2 p = some (.lst (rs.map V.ref))
  el : AllAt H2 rs Ls
  nd : (p :: rs).Nodup
theorem NLL.back {H0 H1 H2 : Hp} {rs : List Addr} {Ls : List (List Nat)} (h : NLL H1 H2 p rs Ls) (e : Ex H0 H1) : NLL H0 H2 p rs Ls := ⟨fresh_back e h.fp, fun r hr => fresh_back e (h.frs r hr), h.top, h.el, h.nd⟩
theorem NLL.ll {H0 H2 : Hp} {rs : List Addr} {Ls : List (List Nat)} (h : NLL H0 H2 p rs Ls) : IsLL K H2 p Ls := ⟨rs, sq_of h.top, h.el.lls⟩
def RetLL (Ls : List (List Nat)) (H : Hp) (Q : VK) : Prop := ∀ p rs H2, Ex H H2 → NLL H H2 p rs Ls → Q (.ref p) H2
theorem RetLL.mv {Ls : List (List Nat)} {Q : VK} (k : RetLL Ls H Q) (e : Ex H H') : RetLL Ls H' Q := fun p rs H2 e2 h => k p rs H2 (e.trans e2) (h.back e)
/-- what a call gives back is given back -/
theorem ret_X {sp : Sp} {vs : List V} {E : XK} {t1 : TA} {rt : VK} (h : EvA t1 σ H vs) (hs : ∀ H1, Ex H H1 → sp vs H1 rt E) : tCall sp [] E t1 σ H rt := h H (Ex.refl H) _ fun H1 e1 => by
  rw [List.append_nil]
  exact hs H1 e1
/-- for x in a call's new list of lists -/
theorem q_forLL {Ls : List (List Nat)} {sp : Sp} {vs : List V} {E : XK} {t1 : TA} {j : Nat} (h : EvA t1 σ H vs) (hs : ∀ H1, Ex H H1 → ∀ R, RetLL Ls H1 R → sp vs H1 R E) (Pv : Hp → Addr → List Addr → Nat → L2.St → Hp → Prop)
    (h0 : ∀ p rs G, Ex H G → NLL H G p rs Ls → Pv G p rs 0 σ G) (hl : ∀ G p rs i σ' H', NLL H G p rs Ls → Pv G p rs i σ' H' → SqL K H' p (rs.map V.ref))
    (hst : ∀ G p rs i r l σ' H', Ex H G → NLL H G p rs Ls → rs[i]? = some r → Ls[i]? = some l → Pv G p rs i σ' H' → tu { D with nx := Pv G p rs (i + 1), ct := Pv G p rs (i + 1), bk := tz D } (σ'.set j (some (.ref r))) H')
    (hd : ∀ G p rs σ' H', Ex H G → NLL H G p rs Ls → Pv G p rs Ls.length σ' H' → tz D σ' H') : tSeq (tFor (iList K (tCall sp [] E t1)) (gName j) tu) tz D σ H :=
  h H (Ex.refl H) _ fun H1 e1 => by
    rw [List.append_nil]
    refine hs H1 e1 _ fun p rs G eG hN => ?_
    have hN' := hN.back e1
    have eHG := e1.trans eG
    refine ⟨p, rfl, ⟨_, sq_of hN.top⟩, for_list (xs := rs.map V.ref) (Pv G p rs) (h0 p rs G eHG hN') (fun i σ' H' _ hP => hl G p rs i σ' H' hN' hP) (fun i x σ' H' hx hP => ?_) (fun σ' H' hP => ?_)⟩
    · rw [List.getElem?_map] at hx
      cases hr : rs[i]? with
      | none =>
        rw [hr] at hx
        cases hx
      | some r =>
        rw [hr] at hx
        obtain rfl : V.ref r = x := Option.some.inj hx
        obtain ⟨l, h1, _⟩ := hN.el.get hr
        exact hst G p rs i r l σ' H' eHG hN' hr h1 hP
    · rw [List.length_map, hN.el.len] at hP
      exact hd G p rs σ' H' eHG hN' hP
/-- a, b = e, f -/
theorem s_par {i j : Nat} {ta : TA} (h : EvA ta σ H [x, y]) (k : ∀ H1, Ex H H1 → D.nx ((σ.set i (some x)).set j (some y)) H1) : tPar i j ta D σ H := h H (Ex.refl H) _ fun H1 e => ⟨x, y, rfl, k H1 e⟩
end
end Ld
/-! Evt: the set of a list of ints, sorted. -/
namespace Ld
open PySem PySem.Spec PyProof.Rows L2 Evl
section
variable {P : Program} {w : World} {A : Around} {E : Value → Shared → Prop} {s : Shared}
abbrev void (w : World) : Obj := { cls := .type "set", dict := none, data := .set #[] 0 (.fresh 0 0 (!w.params.followText "set-order")) }

/-- what set.__init__ leaves behind when it is handed a list of ints -/
theorem fill_set {B : Around} {N l : Addr} {its : Array Value} {ns : List Int} {R : Result → Shared → Prop} (nh : A.handled = none)
    (at0 : s.heap.get? N = some (void w)) (il : s.heap.IsList l its) (nl : l ≠ N) (ni : IntsAre its.toList ns) (few : ns.length + 1 < scanBound)
    (k : ∀ (h' : Heap) (tk c : Nat), SetR w h' N (fun j => decide (j ∈ ns)) c → c ≤ ns.length → (∀ b o, b ≠ N → s.heap.get? b = some o → h'.get? b = some o) → R (.ok (.ret .none)) { s with heap := h', toks := tk }) :
    wpAny (model P w) A (Builtin.«set.__init__» ⟨[.ref N, .ref l], []⟩) (fun fin s' => match fin with | .done f => R (.ok f) s' | .again c' => c'.quiet = true ∧ codeAny (model P w) B c' R s') (fun e s' => R (.error e) s') s := by
  have size : its.size = ns.length := by rw [← Array.length_toList]; exact IntsAre.length ni
  have lN := Heap.lt_size at0
  have ⟨⟨lc, ld, ldat, lsl⟩, gl, ec, lk, ed⟩ := il
  cases ec
  cases ed
  have no1 := F.sub_list_set
  have no2 := F.sub_list_frozenset
  have no3 : (Value.type "list" == Value.type "dict") = false := by decide
  have tN : s.TypeIs (.ref N) "set" := ⟨_, at0, rfl⟩
  unfold Builtin.«set.__init__» noKeywords Builtin.Frozenset.updateFrom
  generalize gi : pyIter = it0
  wp_walk
  subst gi
  refine wpAny_pyIter_list il (wpAny_bind (wpAny_runValue ?_))
  let I : Addr := s.heap.objs.size
  let h1 : Heap := s.heap.push { cls := .type "list_iterator", data := .fields #[.ref l, .int 0 0] }
  have g1 : h1.get? N = some (void w) := Heap.get?_push_of_some _ at0
  have lI : l ≠ I := Nat.ne_of_lt (Heap.lt_size gl)
  have NI : N ≠ I := Nat.ne_of_lt lN
  have far : N ∉ [I, l] := by
    intro z
    rcases List.mem_cons.mp z with z | z
    · exact NI z
    · exact nl (List.mem_singleton.mp z).symm
  have vals : ∀ (i : Nat) (v : Value), its[i]? = some v → ∃ k t, ns[i]? = some k ∧ v = .int k t := fun i v e => by
    obtain ⟨t, q⟩ := IntsAre.int_at ni i v (by rw [Array.getElem?_toList]; exact e)
    have li : i < ns.length := size ▸ (Array.getElem?_eq_some_iff.mp e).1
    exact ⟨ns.getD i 0, t, by rw [List.getD_eq_getElem?_getD, List.getElem?_eq_getElem li] <;> rfl, q⟩
  refine set_update_ints (Walks.list (by simp [nh]) I l lI its).toS N far ns size few vals its.size 0 _ (Nat.sub_zero _) (Nat.zero_le _) ⟨⟨_, Heap.get?_push_size _ rfl, rfl, rfl⟩, il.push _⟩
    ⟨0, Nat.zero_le _, setR_new_at g1⟩ fun s' c mv cn made => ?_
  have same : s' = { s with heap := s'.heap, toks := s'.toks } := by
    have a1 : s'.gens = s.gens := mv.gens
    have a2 : s'.drawn = s.drawn := mv.drawn
    have a3 : s'.os = s.os := mv.os
    cases s'
    cases a1
    cases a2
    cases a3
    rfl
  rw [same]
  refine wpAny_pure (wpAny_pure (k s'.heap s'.toks c made (size ▸ cn) fun b o bn e => mv.heap b o (fun z => ?_) (Heap.get?_push_of_some _ e)))
  rcases List.mem_cons.mp z with z | z
  · exact bn z
  · exact Nat.lt_irrefl _ ((List.mem_singleton.mp z) ▸ Heap.lt_size e)

def Filled (w : World) (s : Shared) (ns : List Int) : Value → Shared → Prop := fun v s' => v = .none ∧ ∃ h' tk c, s' = { s with heap := h', toks := tk } ∧ SetR w h' s.heap.objs.size (fun j => decide (j ∈ ns)) c ∧ c ≤ ns.length ∧ ∀ b o, s.heap.get? b = some o → h'.get? b = some o
/-- set(xs), xs a list of ints -/
theorem made_set {l : Addr} {its : Array Value} {ns : List Int} {Q : Value → Shared → Prop} (nh : A.handled = none)
    (il : s.heap.IsList l its) (ni : IntsAre its.toList ns) (few : ns.length + 1 < scanBound)
    (k : ∀ (h' : Heap) (tk c : Nat), SetR w h' s.heap.objs.size (fun j => decide (j ∈ ns)) c → c ≤ ns.length → (∀ b o, s.heap.get? b = some o → h'.get? b = some o) → Q (.ref s.heap.objs.size) { s with heap := h', toks := tk }) :
    wpAny (model P w) A (call (.type "set") [.ref l]) Q E s := by
  have ⟨c, tl, m0⟩ := F.called_set.mro
  have m1 := F.called_set.made
  have m2 := F.called_set.sub
  have m3 := F.called_set.notType
  have m4 := F.called_set.canCreate
  have m5 := F.typeCall_set_1 (.ref l)
  refine wpAny_call (codeAny_of_tree (wpAny_pure ⟨Code.quiet_builtin _ (by decide +kernel), codeAny_builtin F.entry_type_call ?_⟩))
  rw [Around.under_plain (weight_type_call_type "set" [.ref l] []) rfl]
  repeat (any_goals (first | assumption | wp_step))
  let s1 : Shared := { s with heap := s.heap.push (void w) }
  refine codeAny_mono (code_set_led1 (.ref l) (E := E) (Q₁ := fun v s' => v = .ref s.heap.objs.size ∧ s' = s1) ⟨rfl, rfl⟩) fun r s' fact => ?_
  match r, fact with
  | .error e, fact => exact fact
  | .ok (.ret v), fact =>
    cases fact.1
    cases fact.2
    have at0 : s1.heap.get? s.heap.objs.size = some (void w) := Heap.get?_push_size _ rfl
    have tN : s1.TypeIs (.ref s.heap.objs.size) "set" := ⟨_, at0, rfl⟩
    have ⟨_, gl, _⟩ := il
    have m6 := F.called_set.init.lookup
    have m7 := F.called_set.init.bind (.ref s.heap.objs.size)
    repeat (any_goals (first | assumption | wp_step))
    refine codeAny_mono (codeAny_call_builtin (R := wants (Filled w s ns) E) F.called_set.init.plain F.entry_set_init (check_set_init_1 tN ?_)) fun r s' fact => ?_
    · exact fill_set (P := P) (A := A.in1.in1) (B := A.in1) (R := wants (Filled w s ns) E) nh at0 (il.push _) (Nat.ne_of_lt (Heap.lt_size gl)) ni few fun h' tk c made cn kept =>
        ⟨rfl, h', tk, c, rfl, made, cn, fun b o e => kept b o (Nat.ne_of_lt (Heap.lt_size e)) (Heap.get?_push_of_some _ e)⟩
    match r, fact with
    | .error e, fact => exact fact
    | .ok (.ret v), fact =>
      obtain ⟨rfl, h', tk, c, rfl, made, cn, kept⟩ := fact
      repeat (any_goals (first | assumption | wp_step))
      exact k h' tk c made cn kept
end

section
variable {X : Cx} {a : Expr} {ta : TE} {p p2 q pos : Pos}
/-- sorted(set(xs)), fewer than 64 ints in xs -/
def tSortedSet (K : PySem.W.Frag) (ta : TE) : TE := fun σ H Q => ta σ H fun x H1 => ∃ (l : Addr) (ns : List Int), x = V.ref l ∧ SqL K H1 l (ns.map V.int) ∧ ns.length < 64 ∧
  ∀ (ms : List Int) (r : Addr), ms.Pairwise (· < ·) → (∀ k : Int, k ∈ ms ↔ k ∈ ns) → H1 r = none → Q (.ref r) (upd H1 r (.lst (ms.map V.int)))
theorem pe_sortedSet (hc : X.calm = true) (hg : Gl X "sorted") (hm : X.mg "sorted" = none) (hg2 : Gl X "set") (hm2 : X.mg "set" = none) (ha : PE X a ta)
    (na : starEach [a] X.env = (false, eval a X.env) :: starEach [] X.env := by rfl) : PE X (.Call (.Name "sorted" p) [.Call (.Name "set" p2) [a] [] q] [] pos) (tSortedSet X.K ta) := by
  refine ⟨fun pins s σ H Q I h => ?_⟩
  refine Call_ (ld_blt I hg hm boot_sorted ?_)
  refine PyProof.Rows.callWith_builtin1 (PyProof.Rows.args_cons ?_ rfl) rfl rfl
  refine Call_ (ld_blt I hg2 hm2 boot_set ?_)
  refine callWith_type1 (args_cons (thn (ha.run pins s σ H _ I h) fun v s1 ⟨x, H1, I1, r1, q1⟩ => args_nil ?_) na) na rfl
  obtain ⟨l, ns, rfl, hq, few, q1⟩ := q1
  cases r1
  have ⟨its, r, pl, hz⟩ := I1.list hq
  refine made_set (I1.ok.hd hc) pl.isList (ns := ns) (by simpa using r.ints) (by unfold scanBound; omega) fun h' tk c made cn kept => args_nil ?_
  have I2 : Inv X pins σ H1 { s1 with heap := h', toks := tk } := I1.kept kept
  refine sorted_set made (I2.ok.hd hc) (by omega) fun s2 r out cc ms kp g o hp hg hi hs hm hl => ?_
  have fit : (ms.map V.int).length ≤ sizeLine := by rw [List.length_map, hl, sizeLine_eq]; omega
  have fresh : H1 r = none := I2.hok.fresh hp
  have obj : ObjOk X.prog X.w (upd H1 r (.lst (ms.map V.int))) s2.heap r (.lst (ms.map V.int)) := ⟨fit, out.toList, cc, vals_of_ints hi, hg⟩
  have J : Inv X pins σ (upd H1 r (.lst (ms.map V.int))) { s2 with os := s1.os } :=
    I2.call (ch := []) (s := { s1 with heap := h', toks := tk }) (h' := s2.heap) (g' := s2.gens) (t' := s2.toks) (d' := s2.drawn) (Un.laid kp hp fresh) (I2.hok.laid kp hp obj) (by rw [g]; exact I2.bare) (fun _ z => nomatch z)
  have e : s2 = { s2 with os := s1.os } := by
    cases s2
    cases o
    rfl
  rw [e]
  exact ⟨.ref r, _, J, rfl, q1 ms r hs (fun k => (hm k).trans (by rw [decide_eq_true_eq])) fresh⟩
theorem pe_sortedSetK {K : PySem.W.Frag} (h : X.K = K) (hc : X.calm = true) (hg : Gl X "sorted") (hm : X.mg "sorted" = none) (hg2 : Gl X "set") (hm2 : X.mg "set" = none) (ha : PE X a ta)
    (na : starEach [a] X.env = (false, eval a X.env) :: starEach [] X.env := by rfl) : PE X (.Call (.Name "sorted" p) [.Call (.Name "set" p2) [a] [] q] [] pos) (tSortedSet K ta) := by
  subst h
  exact pe_sortedSet hc hg hm hg2 hm2 ha na
end

/-- the members, once each, rising -/
def sset (L : List Nat) : List Nat := (List.range (L.sum + 1)).filter fun x => decide (x ∈ L)
theorem le_sum : ∀ {L : List Nat} {x : Nat}, x ∈ L → x ≤ L.sum
  | a :: L, x, h => by
    rw [List.sum_cons]
    rcases List.mem_cons.mp h with rfl | h
    · omega
    · have := le_sum h
      omega
theorem mem_sset {L : List Nat} {x : Nat} : x ∈ sset L ↔ x ∈ L := by
  unfold sset
  rw [List.mem_filter, List.mem_range, decide_eq_true_eq]
  exact ⟨fun h => h.2, fun h => ⟨by have := le_sum h; omega, h⟩⟩
theorem sset_lt (L : List Nat) : (sset L).Pairwise (· < ·) := List.Pairwise.filter _ List.pairwise_lt_range
theorem sset_nodup (L : List Nat) : (sset L).Nodup := (sset_lt L).imp fun h => Nat.ne_of_lt h
theorem sset_is {L : List Nat} {ms : List Int} (h1 : ms.Pairwise (· < ·)) (h2 : ∀ k : Int, k ∈ ms ↔ k ∈ L.map fun (x : Nat) => (x : Int)) : ms = (sset L).map fun (x : Nat) => (x : Int) := by
  have n1 : ms.Nodup := h1.imp fun h => Int.ne_of_lt h
  have p2 : ((sset L).map fun (x : Nat) => (x : Int)).Pairwise (· < ·) := List.pairwise_map.mpr ((sset_lt L).imp fun h => Int.ofNat_lt.mpr h)
  have n2 : ((sset L).map fun (x : Nat) => (x : Int)).Nodup := p2.imp fun h => Int.ne_of_lt h
  refine sorted_is ((List.perm_ext_iff_of_nodup n1 n2).mpr fun k => ?_) (h1.imp fun h => Int.le_of_lt h) (p2.imp fun h => Int.le_of_lt h)
  rw [h2 k, List.mem_map, List.mem_map]
  exact ⟨fun ⟨x, hx, e⟩ => ⟨x, mem_sset.mpr hx, e⟩, fun ⟨x, hx, e⟩ => ⟨x, mem_sset.mp hx, e⟩⟩
section
variable {K : PySem.W.Frag} {σ : L2.St} {H H' : Hp} {p : Addr} {ta tb : TE} {t : TT} {rt : VK}
theorem el_sset {L : List Nat} (ha : Ev ta σ H (.ref p)) (h : SqL K H p (nl L)) (hz : L.length < 64) : EvL (tSortedSet K ta) σ H (nl (sset L)) := fun H1 e Q k =>
  ha H1 e _ fun H2 e2 => ⟨p, L.map fun (x : Nat) => (x : Int), rfl, by rw [← il, ← nl_il]; exact ex_l (e.trans e2) h, by rw [List.length_map]; exact hz, fun ms r h1 h2 hr => k r _ (fresh_back e2 hr) (e2.trans (Ex.new hr)) (by
    rw [upd_same, nl_il, sset_is h1 h2]
    rfl)⟩
theorem el_ssetL {L : List Nat} (ha : EvL ta σ H (nl L)) (hz : L.length < 64) : EvL (tSortedSet K ta) σ H (nl (sset L)) := fun H1 e Q k =>
  ha H1 e _ fun p H2 _ e2 hp => ⟨p, L.map fun (x : Nat) => (x : Int), rfl, by rw [← il, ← nl_il]; exact sq_of hp, by rw [List.length_map]; exact hz, fun ms r h1 h2 hr => k r _ (fresh_back e2 hr) (e2.trans (Ex.new hr)) (by
    rw [upd_same, nl_il, sset_is h1 h2]
    rfl)⟩
theorem el_catV {xs ys : List V} (ha : Ev ta σ H (.ref p)) (hp : H p = some (.lst xs)) (hb : EvL tb σ H ys) (hz : xs.length + ys.length ≤ 100000) : EvL (tOp rCat ta tb) σ H (xs ++ ys) := fun H1 e Q k =>
  ha H1 e _ fun H2 e2 => hb H2 (e.trans e2) _ fun q H3 _ e3 hq => ⟨p, q, xs, ys, rfl, rfl, ((e.trans e2).trans e3) _ _ hp, hq, sz_of hz, fun r hr => k r _ (fresh_back (e2.trans e3) hr) ((e2.trans e3).trans (Ex.new hr)) upd_same⟩
/-- what an if gives back -/
theorem ret_if {b : Bool} (h : EvT t σ H b) (h1 : b = true → ∀ H1, Ex H H1 → ta σ H1 rt) (h2 : b = false → ∀ H1, Ex H H1 → tb σ H1 rt) : tIf t ta tb σ H rt := h H (Ex.refl H) _ fun H2 e2 => by
  cases b with
  | true => exact h1 rfl H2 e2
  | false => exact h2 rfl H2 e2
/-- xs != [] -/
theorem ev_neNil {L : List Nat} {b : Bool} (ha : Ev ta σ H (.ref p)) (h : SqL K H p (nl L)) (hb : (!decide (L = [])) = b) : Ev (tOp (rNeD K) ta (tLst tNil)) σ H (.bl b) := fun H1 e Q q =>
  ha H1 e _ fun H2 e2 => (el_lst (σ := σ) (H := H) ea_nil (Nat.zero_le _)) H2 (e.trans e2) _ fun r H3 _ e3 hr => by
    subst hb
    exact rv_neN (A := L) (B := []) (ex_l ((e.trans e2).trans e3) h) (sq_of hr) H3 (Ex.refl H3) _ fun H4 e4 => q H4 ((e2.trans e3).trans e4)
end
section
variable {K : PySem.W.Frag} {mg : Str → Option Value} {σ : L2.St} {H H' : Hp} {ta tb tc te tx td ty : TE} {t u : TT} {x y z v : V} {r r' : R2} {p q : Addr} {D : Ends} {tu tw tz : TS}
/-- [e for x in xs], xs any list -/
theorem el_mapX {xs : List V} {tl : TE} {j : Nat} (g : Nat → V) (h : Ev tl σ H (.ref p)) (hx : SqL K H p xs) (hz : xs.length ≤ 40000)
    (he : ∀ (k : Nat) (x : V) H1, Ex H H1 → xs[k]? = some x → Ev te ((wipe σ [j]).set j (some x)) H1 (g k)) : EvL (tLc (iList K tl) (gName j) tYes te [j]) σ H ((List.range xs.length).map g) := by
  have h1 := el_lcL (j := j) (te := te) (vs := [j]) (t := tYes) (fun _ => true) g h hx hz (fun x => wipe1 σ j x) (fun _ _ _ _ _ => et_yes) (fun i x H1 e hi _ => he i x H1 e hi)
  rw [given_all] at h1
  exact h1
/-- two names are given what a call gives back -/
theorem q_asg2X {sp : Sp} {vs : List V} {E : XK} {ta : TA} {i j : Nat} (h : EvA ta σ H vs) (hs : ∀ H1, Ex H H1 → sp vs H1 (fun v H2 => g2 K i j v σ H2 fun σ2 H3 => tz D σ2 H3) E) : tSeq (tAsg (tCall sp [] E ta) (g2 K i j)) tz D σ H :=
  h H (Ex.refl H) _ fun H1 e => by
    rw [List.append_nil]
    exact hs H1 e
theorem q_asg2 {i j : Nat} {a b : V} (h : Ev te σ H (.ref p)) (hT : SqT K H p [a, b]) (k : ∀ H1, Ex H H1 → tz D ((σ.set i (some a)).set j (some b)) H1) : tSeq (tAsg te (g2 K i j)) tz D σ H :=
  h H (Ex.refl H) _ fun H1 e => g2_go (ex_t e hT) (k H1 e)
theorem ev_isiTup {xs : List V} (ha : Ev ta σ H (.ref p)) (h : H p = some (.tup xs)) : Ev (tCB (rIsi K) (tCons ta (tCons (tC (.ty "tuple")) tNil))) σ H (.bl true) := ev_isi ha ev_c (.ty "tuple") (fun _ e => .base (.tup (e _ _ h))) (kit_ty (by decide +kernel))
theorem el_listOfT {xs : List V} (ha : Ev ta σ H (.ref p)) (h : SqT K H p xs) : EvL (tCB (rList1 K) (tCons ta tNil)) σ H xs := fun H1 e Q q =>
  ha H1 e _ fun H2 e2 => ⟨p, xs, rfl, .inr (ex_t (e.trans e2) h), fun l hl => q l _ (fresh_back e2 hl) (e2.trans (Ex.new hl)) upd_same⟩
theorem ev_lenT {xs : List V} (ha : Ev ta σ H (.ref p)) (h : SqT K H p xs) : Ev (tCB (rLen1 K) (tCons ta tNil)) σ H (.int (xs.length : Int)) := fun H1 e Q q =>
  ha H1 e _ fun H2 e2 => ⟨p, xs, rfl, .inr (ex_t (e.trans e2) h), q H2 e2⟩
theorem rv_eqTT {A B : List Int} (h1 : SqT K H p (il A)) (h2 : SqT K H q (il B)) : RV (rEqD K) (.ref p) (.ref q) H (.bl (decide (A = B))) := fun H1 e Q k =>
  ⟨.tuple (A.map PyData.int), .tuple (B.map PyData.int), .tup (ex_t e h1) (dpAll_int A), .tup (ex_t e h2) (dpAll_int B), shaped_int A, shaped_int B, by
    rw [show PyData.eqv (.tuple (A.map PyData.int)) (.tuple (B.map PyData.int)) = decide (A = B) from eqvAll_int A B]
    exact k H1 (Ex.refl H1)⟩
theorem el_mapXc {xs : List V} {tl : TE} {j : Nat} (h : Ev tl σ H (.ref p)) (hx : SqL K H p xs) (hz : xs.length ≤ 40000)
    (he : ∀ (k : Nat) (x : V) H1, Ex H H1 → xs[k]? = some x → Ev te ((wipe σ [j]).set j (some x)) H1 v) : EvL (tLc (iList K tl) (gName j) tYes te [j]) σ H (List.replicate xs.length v) := by
  have h1 := el_mapX (fun _ => v) h hx hz he
  rw [List.map_const', List.length_range] at h1
  exact h1
theorem ref_at {rs : List Addr} {k : Nat} {x : V} (h : (rs.map V.ref)[k]? = some x) : ∃ r, rs[k]? = some r ∧ x = .ref r := by
  rw [List.getElem?_map] at h
  cases hr : rs[k]? with
  | none =>
    rw [hr] at h
    cases h
  | some r =>
    rw [hr] at h
    exact ⟨r, rfl, (Option.some.inj h).symm⟩
theorem lens_nl {rs : List Addr} {Ls : List (List Nat)} (h : rs.length = Ls.length) : (List.range (rs.map V.ref).length).map (fun k => V.int ((Ls.getD k []).length : Int)) = nl (Ls.map List.length) := by
  refine List.ext_getElem? fun k => ?_
  unfold nl
  rw [List.getElem?_map, List.getElem?_map, List.getElem?_map, List.length_map, h]
  by_cases hk : k < Ls.length
  · rw [List.getElem?_range hk, List.getElem?_eq_getElem hk]
    show some (V.int ((Ls.getD k []).length : Int)) = some (V.int (Ls[k].length : Int))
    rw [List.getD_eq_getElem?_getD, List.getElem?_eq_getElem hk]
    rfl
  · rw [List.getElem?_eq_none (by rw [List.length_range]; omega), List.getElem?_eq_none (by omega)]
    rfl
/-- a name is given a list and what a call gives back behind it -/
theorem s_catX {G : List V → Prop} {xs : List V} {sp : Sp} {vs : List V} {E : XK} {t1 : TA} {i : Nat} (ha : Ev ta σ H (.ref p)) (hp : H p = some (.lst xs)) (h : EvA t1 σ H vs)
    (hs : ∀ H1, Ex H H1 → ∀ Q : VK, (∀ ys r H2, H1 r = none → Ex H1 H2 → H2 r = some (.lst ys) → G ys → Q (.ref r) H2) → sp vs H1 Q E) (hz : ∀ ys, G ys → xs.length + ys.length ≤ 100000)
    (k : ∀ ys r H2, H r = none → Ex H H2 → G ys → H2 r = some (.lst (xs ++ ys)) → D.nx (σ.set i (some (.ref r))) H2) : tAsg (tOp rCat ta (tCall sp [] E t1)) (gName i) D σ H :=
  ha H (Ex.refl H) _ fun H1 e1 => h H1 e1 _ fun H2 e2 => by
    rw [List.append_nil]
    exact hs H2 (e1.trans e2) _ fun ys r H3 nr e3 hr g => ⟨p, r, xs, ys, rfl, rfl, ((e1.trans e2).trans e3) _ _ hp, hr, sz_of (hz ys g), fun s hs' => k ys s _ (fresh_back ((e1.trans e2).trans e3) hs') (((e1.trans e2).trans e3).trans (Ex.new hs')) g upd_same⟩
end
end Ld
/-! Evu: dicts of lists. -/
namespace Ld
open PySem L2 Evl
section
variable {K : PySem.W.Frag} {mg : Str → Option Value} {σ : L2.St} {H H' : Hp} {ta tb tc te tx td ty : TE} {t u : TT} {x y z v : V} {r r' : R2} {p q : Addr} {D : Ends} {tu tw tz : TS}
/-- a list, new or not -/
def EvS (te : TE) (σ : L2.St) (H : Hp) (xs : List V) : Prop := ∀ H1, Ex H H1 → ∀ Q : VK, (∀ q H2, Ex H1 H2 → H2 q = some (.lst xs) → Q (.ref q) H2) → te σ H1 Q
theorem el_catS {xs ys : List V} (ha : EvS ta σ H xs) (hb : EvL tb σ H ys) (hz : xs.length + ys.length ≤ 100000) : EvL (tOp rCat ta tb) σ H (xs ++ ys) := fun H1 e Q k =>
  ha H1 e _ fun p H2 e2 hp => hb H2 (e.trans e2) _ fun q H3 _ e3 hq => ⟨p, q, xs, ys, rfl, rfl, e3 _ _ hp, hq, sz_of hz, fun r hr => k r _ (fresh_back (e2.trans e3) hr) ((e2.trans e3).trans (Ex.new hr)) upd_same⟩
/-- d.get(k, []) -/
theorem evs_dget2 {kvs : List (Key × V)} {m : Nat} {xs : List V} (hd : Ev td σ H (.ref p)) (hk : Ev ty σ H (.int (m : Int))) (h : H p = some (.dK kvs))
    (hv : (∃ lr, valV kvs (.inl (m : Int)) = some (.ref lr) ∧ H lr = some (.lst xs)) ∨ (valV kvs (.inl (m : Int)) = none ∧ xs = [])) : EvS (tDGet2 td ty (tLst tNil)) σ H xs := fun H1 e Q k =>
  hd H1 e _ fun H2 e2 => ⟨p, rfl, .inl ⟨kvs, .inl ((e.trans e2) _ _ h)⟩, hk H2 (e.trans e2) _ fun H3 e3 => (el_lst (σ := σ) (H := H) ea_nil (Nat.zero_le _)) H3 ((e.trans e2).trans e3) _ fun z H4 nz e4 hz => by
    have e' := ((e.trans e2).trans e3).trans e4
    refine ⟨valV kvs (.inl (m : Int)), .inl ⟨kvs, .inl (m : Int), .inl (e' _ _ h), rfl, rfl⟩, ?_⟩
    rcases hv with ⟨lr, h1, h2⟩ | ⟨h1, h2⟩
    · rw [h1]
      exact k lr H4 ((e2.trans e3).trans e4) (e' _ _ h2)
    · rw [h1]
      subst h2
      exact k z H4 ((e2.trans e3).trans e4) hz⟩
theorem s_dputX {kvs : List (Key × V)} {m : Nat} {xs : List V} (hv : EvL tx σ H xs) (hd : Ev td σ H (.ref p)) (hk : Ev ty σ H (.int (m : Int))) (h : H p = some (.dK kvs)) (hn : kvs.length < 100000)
    (go : ∀ q H1, H q = none → Ex H H1 → H1 q = some (.lst xs) → D.nx σ (L2.upd H1 p (.dK (putK kvs (.inl (m : Int)) (.ref q))))) : sDPut td ty tx D σ H :=
  hv H (Ex.refl H) _ fun q H1 nq e1 hq => hd H1 e1 _ fun H2 e2 => hk H2 (e1.trans e2) _ fun H3 e3 =>
    ⟨p, _, rfl, DPut.k (k := Sum.inl (m : Int)) (((e1.trans e2).trans e3) _ _ h) (sz_lt hn), go q H3 nq ((e1.trans e2).trans e3) ((e2.trans e3) _ _ hq)⟩
theorem ev_dgetV {kvs : List (Key × V)} {m : Nat} (hd : Ev td σ H (.ref p)) (hk : Ev ty σ H (.int (m : Int))) (h : H p = some (.dK kvs)) (hm : valV kvs (.inl (m : Int)) = some v) : Ev (tDGet td ty) σ H v := fun H1 e Q q =>
  hd H1 e _ fun H2 e2 => hk H2 (e.trans e2) _ fun H3 e3 => ⟨p, v, rfl, .inl ⟨kvs, .inl (m : Int), .inl (((e.trans e2).trans e3) _ _ h), rfl, hm.symm⟩, q H3 (e2.trans e3)⟩
/-! ### rings by their lengths -/
/-- the dict at d: its keys ks; to each the list of those of R that are so long -/
def ByLen (H : Hp) (d : Addr) (ks : List Nat) (R : List (List Nat)) : Prop := ∃ kvs : List (Key × V), H d = some (.dK kvs) ∧ kvs.map (·.1) = ks.map (fun (k : Nat) => (Sum.inl (k : Int) : Key)) ∧ ks.Nodup ∧ (∀ m, m ∈ ks ↔ ∃ r ∈ R, r.length = m) ∧
  ∀ m ∈ ks, ∃ (lr : Addr) (rs : List Addr), valV kvs (Sum.inl (m : Int)) = some (.ref lr) ∧ H lr = some (.lst (rs.map V.ref)) ∧ AllAt H rs (R.filter fun r => decide (r.length = m))
theorem ByLen.ex {d : Addr} {ks : List Nat} {R : List (List Nat)} (h : ByLen H d ks R) (e : Ex H H') : ByLen H' d ks R := by
  obtain ⟨kvs, h1, h2, h3, h4, h5⟩ := h
  exact ⟨kvs, e _ _ h1, h2, h3, h4, fun m hm => by
    obtain ⟨lr, rs, g1, g2, g3⟩ := h5 m hm
    exact ⟨lr, rs, g1, e _ _ g2, g3.ex e⟩⟩
theorem AllAt.exB {d : Addr} {rs : List Addr} {Ls : List (List Nat)} (h : AllAt H rs Ls) (e : ExB d H H') (hn : d ∉ rs) : AllAt H' rs Ls := by
  have h1 : ∀ {rs : List Addr} {Ls : List (List Nat)}, AllAt H rs Ls → d ∉ rs → AllAt H' rs Ls := by
    intro rs Ls h
    induction h with
    | nil => exact fun _ => .nil
    | cons a t ih => exact fun hn => .cons (e _ _ (fun z => hn (by rw [z]; exact List.mem_cons_self)) a) (ih fun z => hn (List.mem_cons_of_mem _ z))
  exact h1 h hn
theorem ByLen.exB {f d : Addr} {ks : List Nat} {R : List (List Nat)} (h : ByLen H d ks R) (e : ExB f H H') (hf : ∃ F : List Nat, H f = some (.lst (nl F))) (hd : ∀ m ∈ ks, ∀ kvs, H d = some (.dK kvs) → ∀ lr, valV kvs (Sum.inl (m : Int)) = some (.ref lr) → f ≠ lr ∧ ∀ rs : List Addr, H lr = some (.lst (rs.map V.ref)) → f ∉ rs) : ByLen H' d ks R := by
  obtain ⟨kvs, h1, h2, h3, h4, h5⟩ := h
  obtain ⟨F, hF⟩ := hf
  have hne : d ≠ f := ne_of h1 hF (fun z => by cases z)
  refine ⟨kvs, e _ _ hne h1, h2, h3, h4, fun m hm => ?_⟩
  obtain ⟨lr, rs, g1, g2, g3⟩ := h5 m hm
  obtain ⟨n1, n2⟩ := hd m hm kvs h1 lr g1
  exact ⟨lr, rs, g1, e _ _ n1.symm g2, g3.exB e (n2 rs g2)⟩
theorem byLen_step {d q rg : Addr} {kvs : List (Key × V)} {ks : List Nat} {R : List (List Nat)} {l : List Nat} {old : List Addr} {H1 : Hp} (h : ByLen H d ks R) (hk : H d = some (.dK kvs)) (e : Ex H H1) (hr : H rg = some (.lst (nl l)))
    (ho : (∃ lr, valV kvs (.inl (l.length : Int)) = some (.ref lr) ∧ H lr = some (.lst (old.map V.ref))) ∨ (valV kvs (.inl (l.length : Int)) = none ∧ old = [])) (nq : H q = none) (hq : H1 q = some (.lst (old.map V.ref ++ [.ref rg]))) :
    ByLen (L2.upd H1 d (.dK (putK kvs (.inl (l.length : Int)) (.ref q)))) d (addK ks l.length) (R ++ [l]) := by
  obtain ⟨kvs', h1, h2, h3, h4, h5⟩ := h
  rw [hk] at h1
  cases h1
  have hdn : ∀ {rs : List Addr} {Ls : List (List Nat)}, AllAt H rs Ls → d ∉ rs := fun ha hd => by
    obtain ⟨l, _, h⟩ := ha.mem hd
    rw [hk] at h
    cases h
  have hdq : d ≠ q := ne_of_none hk nq
  have hdr : d ≠ rg := ne_of hk hr (fun z => by cases z)
  refine ⟨_, upd_same, keyPut h2 _ _, nodup_addK h3, fun m => ?_, fun m hm => ?_⟩
  · rw [mem_addK, h4 m]
    refine ⟨fun h => h.elim (fun ⟨r, h1, h2⟩ => ⟨r, List.mem_append_left _ h1, h2⟩) fun h => ⟨l, List.mem_append_right _ (List.mem_singleton.mpr rfl), h.symm⟩, fun ⟨r, h1, h2⟩ => ?_⟩
    rcases List.mem_append.mp h1 with h1 | h1
    · exact .inl ⟨r, h1, h2⟩
    · rw [List.mem_singleton.mp h1] at h2
      exact .inr h2.symm
  · have hval : valV (putK kvs (.inl (l.length : Int)) (.ref q)) (.inl (m : Int)) = if (m : Int) = (l.length : Int) then some (.ref q) else valV kvs (.inl (m : Int)) := valI_put kvs _ _ _
    by_cases em : m = l.length
    · subst em
      rw [if_pos rfl] at hval
      refine ⟨q, old ++ [rg], hval, by rw [upd_ne hdq.symm, hq, List.map_append]; rfl, ?_⟩
      rw [List.filter_append, show [l].filter (fun r => decide (r.length = l.length)) = [l] by rw [List.filter_cons, if_pos (decide_eq_true rfl)]; rfl]
      refine Paired.snoc ?_ (by rw [upd_ne hdr.symm]; exact e _ _ hr)
      rcases ho with ⟨lr, g1, g2⟩ | ⟨g1, g2⟩
      · have hmem : l.length ∈ ks := by
          have := keyMem h2 l.length
          rw [g1] at this
          exact of_decide_eq_true this.symm
        obtain ⟨lr', rs, k1, k2, k3⟩ := h5 _ hmem
        rw [g1] at k1
        cases k1
        rw [g2] at k2
        have e3 : old = rs := by
          have h6 : old.map V.ref = rs.map V.ref := by
            injection k2 with k2
            injection k2
          exact (List.map_inj_right fun a b h => by cases h; rfl).mp h6
        subst e3
        exact (k3.ex e).upd (hdn k3)
      · subst g2
        have hnm : l.length ∉ ks := fun hm => by
          have := keyMem h2 l.length
          rw [g1, decide_eq_true hm] at this
          cases this
        rw [show R.filter (fun r => decide (r.length = l.length)) = [] from List.filter_eq_nil_iff.mpr fun r hr h => hnm ((h4 _).mpr ⟨r, hr, of_decide_eq_true h⟩)]
        exact .nil
    · rw [if_neg (by omega)] at hval
      have hmk : m ∈ ks := by
        rcases mem_addK.mp hm with h | h
        · exact h
        · exact absurd h em
      obtain ⟨lr, rs, k1, k2, k3⟩ := h5 m hmk
      have hdl : d ≠ lr := ne_of hk k2 (fun z => by cases z)
      refine ⟨lr, rs, hval.trans k1, by rw [upd_ne hdl.symm]; exact e _ _ k2, ?_⟩
      rw [List.filter_append, show [l].filter (fun r => decide (r.length = m)) = [] by rw [List.filter_cons, if_neg (by rw [decide_eq_true_eq]; exact fun h => em h.symm)]; rfl, List.append_nil]
      exact (k3.ex e).upd (hdn k3)
theorem sq_ins {C dx b : Addr} {fs : List (Str × V)} {xs : List V} {o : HO} (hx : H p = some (.ins C dx fs)) (h : SqL K H b xs) : SqL K (L2.upd H p o) b xs := by
  rcases h with (h | ⟨o', h⟩) | h
  · refine .inl (.inl ?_)
    rw [upd_ne (ne_of h hx fun z => by cases z)]
    exact h
  · refine .inl (.inr ⟨o', ?_⟩)
    rw [upd_ne (ne_of h hx fun z => by cases z)]
    exact h
  · exact .inr h
/-! ### new lists of new lists -/
def EvLL (te : TE) (σ : L2.St) (H : Hp) (Ls : List (List Nat)) : Prop := ∀ H1, Ex H H1 → ∀ Q : VK, (∀ p rs H2, Ex H1 H2 → NLL H1 H2 p rs Ls → Q (.ref p) H2) → te σ H1 Q
theorem ell_map {srcs : List Addr} {Ls : List (List Nat)} {tl : TE} {j : Nat} (h : Ev tl σ H (.ref p)) (hx : SqL K H p (srcs.map V.ref)) (hsl : srcs.length = Ls.length) (hz : srcs.length ≤ 40000)
    (he : ∀ (i : Nat) (r : Addr) (l : List Nat) H1, Ex H H1 → srcs[i]? = some r → Ls[i]? = some l → EvL te ((wipe σ [j]).set j (some (.ref r))) H1 (nl l)) : EvLL (tLc (iList K tl) (gName j) tYes te [j]) σ H Ls := fun H0 e0 Q q => h H0 e0 _ fun H1 e1 =>
  ⟨p, rfl, ⟨_, ex_l (e0.trans e1) hx⟩, fun Dl hD => lc_list (xs := srcs.map V.ref) (fun i H' => Ex H1 H' ∧ ∃ rs : List Addr, H' Dl = some (.lst (rs.map V.ref)) ∧ AllAt H' rs (Ls.take i) ∧ (∀ r ∈ rs, H1 r = none) ∧ (Dl :: rs).Nodup)
    ⟨Ex.new hD, [], upd_same, .nil, fun r hr => (nomatch hr), List.nodup_cons.mpr ⟨List.not_mem_nil, List.nodup_nil⟩⟩ (fun i H' _ hP => ex_l ((e0.trans e1).trans hP.1) hx) (fun i x H' hi hP => ⟨wipe1 σ j x, by
      obtain ⟨eH, rs, h1, h2, h3, h4⟩ := hP
      obtain ⟨r, hr, rfl⟩ := ref_at hi
      have hil : i < Ls.length := by
        have := (List.getElem?_eq_some_iff.mp hr).1
        omega
      have hl : Ls[i]? = some Ls[i] := List.getElem?_eq_getElem hil
      have hrl : rs.length = i := by
        rw [h2.len, List.length_take]
        omega
      refine he i r _ H' ((e0.trans e1).trans eH) hr hl H' (Ex.refl H') _ fun q2 H2 nq e2 hq => ?_
      have hq0 : H1 q2 = none := fresh_back eH nq
      have hqD : Dl ≠ q2 := ne_of_none h1 nq
      have hDr : Dl ∉ rs := (List.nodup_cons.mp h4).1
      have hqr : q2 ∉ rs := fun hm => by
        obtain ⟨l, _, h⟩ := h2.mem hm
        rw [h] at nq
        cases nq
      refine ⟨_, e2 _ _ h1, sz_lt (by rw [List.length_map]; omega), Ex.mut (eH.trans e2) hD, rs ++ [q2], by rw [upd_same, List.map_append]; rfl, ?_, fun z hz => ?_, ?_⟩
      · rw [List.take_add_one, hl]
        exact Paired.snoc ((h2.ex e2).upd hDr) (by rw [upd_ne hqD.symm]; exact hq)
      · rcases List.mem_append.mp hz with hz | hz
        · exact h3 z hz
        · rw [List.mem_singleton.mp hz]
          exact hq0
      · rw [← List.cons_append, List.nodup_append]
        exact ⟨h4, List.nodup_cons.mpr ⟨List.not_mem_nil, List.nodup_nil⟩, fun z hz y hy e => by
          rw [List.mem_singleton] at hy
          subst hy
          subst e
          rcases List.mem_cons.mp hz with h | h
          · exact hqD h.symm
          · exact hqr h⟩⟩)
    (fun H' hP => by
      obtain ⟨eH, rs, h1, h2, h3, h4⟩ := hP
      rw [List.length_map, hsl, List.take_length] at h2
      exact q Dl rs H' (e1.trans eH) ⟨fresh_back e1 hD, fun r hr => fresh_back e1 (h3 r hr), h1, h2, h4⟩)⟩
theorem s_fldLL {C dx : Addr} {f : Str} {fs : List (Str × V)} {Ls : List (List Nat)} (c : Cls K C) (n : NoAttr K C f) (hv : EvLL tx σ H Ls) (ha : Ev ta σ H (.ref p)) (h : H p = some (.ins C dx fs)) (hz : fs.length < 1000)
    (k : ∀ l rs H1, Ex H H1 → NLL H H1 l rs Ls → D.nx σ (L2.upd H1 p (.ins C dx (putF f (.ref l) fs)))) : sFld K ta tx f D σ H :=
  hv H (Ex.refl H) _ fun l rs H1 e1 hN => ha H1 e1 _ fun H2 e2 => ⟨p, C, dx, fs, rfl, (e1.trans e2) _ _ h, c, n, hz, k l rs H2 (e1.trans e2) ⟨hN.fp, hN.frs, e2 _ _ hN.top, hN.el.ex e2, hN.nd⟩⟩
end
end Ld
namespace Ld
open PySem L2 Evl
def topS (i : Nat) : Stmt := PySem.Challenge.pw_leadson_k07_answers_by_hand.main.body.getD i (.Pass ⟨0, 0, 0, 0⟩)
structure Cs where
  Answer : Addr
  Steps : Addr
  Shut : Addr
  Met : Addr
  Apart : Addr
  Root : Addr
  Odd : Addr
structure Cl (K : PySem.W.Frag) (mg : Str → Option Value) (c : Cs) : Prop where
  Answer : Ck K mg "Answer" c.Answer
  Steps : Ck K mg "Steps" c.Steps
  Shut : Ck K mg "Shut" c.Shut
  Met : Ck K mg "Met" c.Met
  Apart : Ck K mg "Apart" c.Apart
  Root : Ck K mg "Root" c.Root
  Odd : Ck K mg "Odd" c.Odd
  na_Steps_many : NoAttr K c.Steps "many"
  k_Steps_Answer : PySem.W.kitOne K (.ref c.Steps) (.ref c.Answer) = some true
  k_Steps_Steps : PySem.W.kitOne K (.ref c.Steps) (.ref c.Steps) = some true
  k_Steps_Shut : PySem.W.kitOne K (.ref c.Steps) (.ref c.Shut) = some false
  k_Steps_Met : PySem.W.kitOne K (.ref c.Steps) (.ref c.Met) = some false
  k_Steps_Apart : PySem.W.kitOne K (.ref c.Steps) (.ref c.Apart) = some false
  k_Steps_Root : PySem.W.kitOne K (.ref c.Steps) (.ref c.Root) = some false
  k_Steps_Odd : PySem.W.kitOne K (.ref c.Steps) (.ref c.Odd) = some false
  na_Shut_places : NoAttr K c.Shut "places"
  k_Shut_Answer : PySem.W.kitOne K (.ref c.Shut) (.ref c.Answer) = some true
  k_Shut_Steps : PySem.W.kitOne K (.ref c.Shut) (.ref c.Steps) = some false
  k_Shut_Shut : PySem.W.kitOne K (.ref c.Shut) (.ref c.Shut) = some true
  k_Shut_Met : PySem.W.kitOne K (.ref c.Shut) (.ref c.Met) = some false
  k_Shut_Apart : PySem.W.kitOne K (.ref c.Shut) (.ref c.Apart) = some false
  k_Shut_Root : PySem.W.kitOne K (.ref c.Shut) (.ref c.Root) = some false
  k_Shut_Odd : PySem.W.kitOne K (.ref c.Shut) (.ref c.Odd) = some false
  na_Met_mine : NoAttr K c.Met "mine"
  na_Met_theirs : NoAttr K c.Met "theirs"
  k_Met_Answer : PySem.W.kitOne K (.ref c.Met) (.ref c.Answer) = some true
  k_Met_Steps : PySem.W.kitOne K (.ref c.Met) (.ref c.Steps) = some false
  k_Met_Shut : PySem.W.kitOne K (.ref c.Met) (.ref c.Shut) = some false
  k_Met_Met : PySem.W.kitOne K (.ref c.Met) (.ref c.Met) = some true
  k_Met_Apart : PySem.W.kitOne K (.ref c.Met) (.ref c.Apart) = some false
  k_Met_Root : PySem.W.kitOne K (.ref c.Met) (.ref c.Root) = some false
  k_Met_Odd : PySem.W.kitOne K (.ref c.Met) (.ref c.Odd) = some false
  na_Apart_places : NoAttr K c.Apart "places"
  k_Apart_Answer : PySem.W.kitOne K (.ref c.Apart) (.ref c.Answer) = some true
  k_Apart_Steps : PySem.W.kitOne K (.ref c.Apart) (.ref c.Steps) = some false
  k_Apart_Shut : PySem.W.kitOne K (.ref c.Apart) (.ref c.Shut) = some false
  k_Apart_Met : PySem.W.kitOne K (.ref c.Apart) (.ref c.Met) = some false
  k_Apart_Apart : PySem.W.kitOne K (.ref c.Apart) (.ref c.Apart) = some true
  k_Apart_Root : PySem.W.kitOne K (.ref c.Apart) (.ref c.Root) = some false
  k_Apart_Odd : PySem.W.kitOne K (.ref c.Apart) (.ref c.Odd) = some false
  na_Root_leading : NoAttr K c.Root "leading"
  k_Root_Answer : PySem.W.kitOne K (.ref c.Root) (.ref c.Answer) = some true
  k_Root_Steps : PySem.W.kitOne K (.ref c.Root) (.ref c.Steps) = some false
  k_Root_Shut : PySem.W.kitOne K (.ref c.Root) (.ref c.Shut) = some false
  k_Root_Met : PySem.W.kitOne K (.ref c.Root) (.ref c.Met) = some false
  k_Root_Apart : PySem.W.kitOne K (.ref c.Root) (.ref c.Apart) = some false
  k_Root_Root : PySem.W.kitOne K (.ref c.Root) (.ref c.Root) = some true
  k_Root_Odd : PySem.W.kitOne K (.ref c.Root) (.ref c.Odd) = some false
  na_Odd_length : NoAttr K c.Odd "length"
  na_Odd_rings : NoAttr K c.Odd "rings"
  k_Odd_Answer : PySem.W.kitOne K (.ref c.Odd) (.ref c.Answer) = some true
  k_Odd_Steps : PySem.W.kitOne K (.ref c.Odd) (.ref c.Steps) = some false
  k_Odd_Shut : PySem.W.kitOne K (.ref c.Odd) (.ref c.Shut) = some false
  k_Odd_Met : PySem.W.kitOne K (.ref c.Odd) (.ref c.Met) = some false
  k_Odd_Apart : PySem.W.kitOne K (.ref c.Odd) (.ref c.Apart) = some false
  k_Odd_Root : PySem.W.kitOne K (.ref c.Odd) (.ref c.Root) = some false
  k_Odd_Odd : PySem.W.kitOne K (.ref c.Odd) (.ref c.Odd) = some true
section
variable {P : Program} {w : World} {K : PySem.W.Frag} {mg : Str → Option Value} {base : Heap} {c : Cs}
def IsLd (H : Hp) (a : Addr) (L : List Nat) : Prop := Rd H a (.lst (nl L)) ∧ Lead L ∧ L.length ≤ 63
theorem IsLd.ex {H H' : Hp} {a : Addr} {L : List Nat} (h : IsLd H a L) (e : Ex H H') : IsLd H' a L := ⟨ex_rd e h.1, h.2⟩
theorem IsLd.sq {K : PySem.W.Frag} {H : Hp} {a : Addr} {L : List Nat} (h : IsLd H a L) : SqL K H a (nl L) := .inl h.1

/-! ### answers -/
/-- an __init__ that keeps its argument; one that keeps a copy of a list -/
def spInit1 (C : Addr) (f : Str) : Sp := fun vs H Q _ => ∃ (x dx : Addr) (v : V), vs = [.ref x, v] ∧ H x = some (.ins C dx []) ∧ ∀ H', ExB x H H' → H' x = some (.ins C dx [(f, v)]) → Q .non H'
def spInitL (K : PySem.W.Frag) (C : Addr) (f : Str) : Sp := fun vs H Q _ => ∃ (x dx b : Addr) (xs : List V), vs = [.ref x, .ref b] ∧ H x = some (.ins C dx []) ∧ SqL K H b xs ∧ ∀ H' l, ExB x H H' → H l = none → H' x = some (.ins C dx [(f, .ref l)]) → H' l = some (.lst xs) → Q .non H'
/-- C(v), C(a list) -/
theorem tmk1 {σ : L2.St} {H : Hp} {C : Addr} {f : Str} {E : XK} {ta : TE} {v : V} {Q : VK} (h : Ev ta σ H v) (k : ∀ x dx H2, H x = none → Ex H H2 → H2 x = some (.ins C dx [(f, v)]) → Q (.ref x) H2) : tMake C (spInit1 C f) [] E (tCons ta tNil) σ H Q :=
  h H (Ex.refl H) _ fun H1 e1 x dx nx ndx ne => ⟨x, dx, v, rfl, upd_same, fun H' eB hx => ⟨rfl, k x dx H' (fresh_back e1 nx) (e1.trans (ex_made nx ndx eB)) hx⟩⟩
theorem tmkL {K : PySem.W.Frag} {σ : L2.St} {H : Hp} {C : Addr} {f : Str} {E : XK} {ta : TE} {xs : List V} {Q : VK} (h : EvL ta σ H xs) (k : ∀ x dx l H2, H x = none → H l = none → Ex H H2 → H2 x = some (.ins C dx [(f, .ref l)]) → H2 l = some (.lst xs) → Q (.ref x) H2) : tMake C (spInitL K C f) [] E (tCons ta tNil) σ H Q :=
  h H (Ex.refl H) _ fun b H1 nb e1 hb x dx nx ndx ne => ⟨x, dx, b, xs, rfl, upd_same, sq_of (by
    rw [upd_ne (ne_of_none hb nx), upd_ne (ne_of_none hb ndx)]
    exact hb), fun H' l eB hl hx hl2 => ⟨rfl, k x dx l H' (fresh_back e1 nx) (fresh_back e1 (by
      have h1 : l ≠ x := fun e => by
        rw [e, upd_same] at hl
        cases hl
      rw [upd_ne h1] at hl
      by_cases h2 : l = dx
      · rw [h2, upd_same] at hl
        cases hl
      · rw [upd_ne h2] at hl
        exact hl)) (e1.trans (ex_made nx ndx eB)) hx hl2⟩⟩
/-- C(a list that stands) -/
theorem tmkR {K : PySem.W.Frag} {σ : L2.St} {H : Hp} {C b : Addr} {f : Str} {E : XK} {ta : TE} {xs : List V} {Q : VK} (h : Ev ta σ H (.ref b)) (hb : SqL K H b xs) (k : ∀ x dx l H2, H x = none → H l = none → Ex H H2 → H2 x = some (.ins C dx [(f, .ref l)]) → H2 l = some (.lst xs) → Q (.ref x) H2) : tMake C (spInitL K C f) [] E (tCons ta tNil) σ H Q :=
  h H (Ex.refl H) _ fun H1 e1 x dx nx ndx ne => ⟨x, dx, b, xs, rfl, upd_same, ex_l (fun c o e => by rw [upd_ne (ne_of_none e nx), upd_ne (ne_of_none e ndx)]; exact e) (ex_l e1 hb), fun H' l eB hl hx hl2 => ⟨rfl, k x dx l H' (fresh_back e1 nx) (fresh_back e1 (by
      have h1 : l ≠ x := fun e => by
        rw [e, upd_same] at hl
        cases hl
      rw [upd_ne h1] at hl
      by_cases h2 : l = dx
      · rw [h2, upd_same] at hl
        cases hl
      · rw [upd_ne h2] at hl
        exact hl)) (e1.trans (ex_made nx ndx eB)) hx hl2⟩⟩
/-- C(a call that gives back some new list) -/
theorem tmkC {K : PySem.W.Frag} {σ : L2.St} {H : Hp} {C : Addr} {f : Str} {E E1 : XK} {sp1 : Sp} {t1 : TA} {vs : List V} {Q : VK} (Good : List Nat → Prop) (h : EvA t1 σ H vs)
    (hs : ∀ H1, Ex H H1 → ∀ R : VK, (∀ ps, Good ps → RetL (nl ps) H1 R) → sp1 vs H1 R E1) (k : ∀ ps x dx l H2, Good ps → H x = none → H l = none → Ex H H2 → H2 x = some (.ins C dx [(f, .ref l)]) → H2 l = some (.lst (nl ps)) → Q (.ref x) H2) :
    tMake C (spInitL K C f) [] E (tCons (tCall sp1 [] E1 t1) tNil) σ H Q :=
  h H (Ex.refl H) _ fun H0 e0 => by
    rw [List.append_nil]
    exact hs H0 e0 _ fun ps hg b H1 nb e1 hb x dx nx ndx ne => ⟨x, dx, b, nl ps, rfl, upd_same, sq_of (by
      rw [upd_ne (ne_of_none hb nx), upd_ne (ne_of_none hb ndx)]
      exact hb), fun H' l eB hl hx hl2 => ⟨rfl, k ps x dx l H' hg (fresh_back (e0.trans e1) nx) (fresh_back (e0.trans e1) (by
        have h1 : l ≠ x := fun e => by
          rw [e, upd_same] at hl
          cases hl
        rw [upd_ne h1] at hl
        by_cases h2 : l = dx
        · rw [h2, upd_same] at hl
          cases hl
        · rw [upd_ne h2] at hl
          exact hl)) ((e0.trans e1).trans (ex_made nx ndx eB)) hx hl2⟩⟩

abbrev s_is_number : Stmt := topS 6
abbrev N_is_number : List Str := ["thing", "least", "most"]
theorem sc_is_number : FnScope N_is_number ["thing", "least", "most"] (defScope s_is_number) := ⟨rfl, rfl, rfl, by decide +kernel, rfl, by decide +kernel, by decide +kernel⟩
def spIsNum : Sp := fun vs H Q _ => ∃ i lo hi : Int, vs = [.int i, .int lo, .int hi] ∧ RetV (.bl (decide (lo ≤ i) && decide (i ≤ hi))) H Q
theorem sv_is_number {H : Hp} {i lo hi : Int} {b : Bool} (e : (decide (lo ≤ i) && decide (i ≤ hi)) = b) : SpV spIsNum [.int i, .int lo, .int hi] H (.bl b) := fun H1 _ Q q E => ⟨i, lo, hi, rfl, by
  rw [e]
  exact q⟩
theorem ok_is_number {f : Addr} {fd : FuncData} (F : Fun K "is_number" "is_number" s_is_number f fd) (B : Bl mg) : FnOk P w K mg base CX0 1 f fd ["thing", "least", "most"] spIsNum := by
  refine F.ok sc_is_number (fun vs H Q E h => ?_) (fun cdv A outer s H vs Q E hr h => ?_)
  · obtain ⟨i, lo, hi, rfl, _⟩ := h
    rfl
  · obtain ⟨i, lo, hi, rfl, q⟩ := h
    refine ⟨_, (pss_one (ps_ret (pe_and (pe_callB (call_isiK' (K := K) rfl) (by rfl) B.isinstance_ bo_isinstance (pa_cons (pv 0) (pa_cons (pe_bltn (v := .ty "int") (by rfl) B.int_ bo_int rfl) pa_nil))) (pe_and (pe_not (pe_callB (call_isiK' (K := K) rfl) (by rfl) B.isinstance_ bo_isinstance (pa_cons (pv 0) (pa_cons (pe_bltn (v := .ty "bool") (by rfl) B.bool_ bo_bool rfl) pa_nil)))) (pe_one (pe_chain op_le op_le (pv 1) (pv 0) (pv 2))))))), ?_⟩
    exact ret_V q (Ex.refl H) (ev_andV (a := true) (ev_isiInt (ev_var rfl)) fun _ => ev_andV (a := true) (ev_notF (ev_isiBool (ev_var rfl))) fun _ => ev_chain (ev_var rfl) (ev_var rfl) (ev_var rfl) rv_I0 rv_I0)
abbrev s_asked_leading : Stmt := topS 7
abbrev N_asked_leading : List Str := ["leading", "place"]
theorem sc_asked_leading : FnScope N_asked_leading ["leading"] (defScope s_asked_leading) := ⟨rfl, rfl, rfl, by decide +kernel, rfl, by decide +kernel, by decide +kernel⟩
def spAskedL : Sp := fun vs H Q _ => ∃ (a : Addr) (L : List Nat), vs = [.ref a] ∧ IsLd H a L ∧ RetV .non H Q
theorem sv_asked_leading {H : Hp} {a : Addr} {L : List Nat} (h : IsLd H a L) : SpV spAskedL [.ref a] H .non := fun _ e _ q _ => ⟨a, L, rfl, h.ex e, q⟩
theorem ok_asked_leading {f : Addr} {fd : FuncData} (F : Fun K "asked_leading" "asked_leading" s_asked_leading f fd) (B : Bl mg) (D_is_number : Dk P w K mg base CX0 1 "is_number" ["thing", "least", "most"] spIsNum) :
    FnOk P w K mg base CX0 2 f fd ["leading"] spAskedL := by
  refine F.ok sc_asked_leading (fun vs H Q E h => ?_) (fun cdv A outer s H vs Q E hr h => ?_)
  · obtain ⟨a, L, rfl, _⟩ := h
    rfl
  · obtain ⟨a, L, rfl, hL, q⟩ := h
    refine ⟨_, (pss_one (ps_if (PW.pt (pw_or (pt_not (pt_val (pe_callB (call_isiK' (K := K) rfl) (by rfl) B.isinstance_ bo_isinstance (pa_cons (pv 0) (pa_cons (pe_bltn (v := .ty "list") (by rfl) B.list_ bo_list rfl) pa_nil))))) (pw_or1 (pt_not (pt_val (pe_callB (cr_allK (K := K) rfl rfl) (by rfl) B.all_ bo_all (pa_cons (pe_lc (own := [("place", 1)]) (g := gName 1) (tt := tYes) rfl sc_asked_leading.nd (pi_list (pv 0)) (blkOk_by (N := N_asked_leading) (sc := defScope s_asked_leading) (by decide +kernel)) (fun _ _ _ _ _ => (pg_name (i := 1) sc_asked_leading.nd rfl (Or.inl rfl))) (fun _ _ _ _ _ => pts_nil) (fun _ _ _ _ _ => (pe_callD D_is_number (hr.mono (by decide)) (by rfl) pass0 (pa_cons (pv 1) (pa_cons pe_int (pa_cons (pe_op op_sub (pe_callB (call_lenK (K := K) rfl) (by rfl) B.len_ bo_len (pa_cons (pv 0) pa_nil)) pe_int) pa_nil)))))) pa_nil)))))))
    (pss_one ps_never)
    pss_nil)), ?_⟩
    refine s_skip (et_orF (et_notT (et_B (ev_isiList (ev_var rfl) hL.1))) (et_notT (et_B (ev_allT (el_mapNc (ev_var rfl) hL.sq (by have := hL.2.2; omega) fun x H1 e hx => ev_callV (ea3 (ev_var rfl) ev_c (ev_op (ev_lenNl (ev_var rfl) (hL.ex e).sq) ev_c rv_I0)) (sv_is_number ?_)))))) fun H1 e => q H1 e
    have h1 := hL.2.1 x hx
    rw [Bool.and_eq_true, decide_eq_true_eq, decide_eq_true_eq]
    omega
abbrev s_asked_place : Stmt := topS 8
abbrev N_asked_place : List Str := ["leading", "place"]
theorem sc_asked_place : FnScope N_asked_place ["leading", "place"] (defScope s_asked_place) := ⟨rfl, rfl, rfl, by decide +kernel, rfl, by decide +kernel, by decide +kernel⟩
def spAskedP : Sp := fun vs H Q _ => ∃ (a : Addr) (L : List Nat) (p : Nat), vs = [.ref a, .int (p : Int)] ∧ IsLd H a L ∧ p < L.length ∧ RetV .non H Q
theorem sv_asked_place {H : Hp} {a : Addr} {L : List Nat} {p : Nat} (h : IsLd H a L) (hp : p < L.length) : SpV spAskedP [.ref a, .int (p : Int)] H .non := fun _ e _ q _ => ⟨a, L, p, rfl, h.ex e, hp, q⟩
theorem ok_asked_place {f : Addr} {fd : FuncData} (F : Fun K "asked_place" "asked_place" s_asked_place f fd) (B : Bl mg) (D_is_number : Dk P w K mg base CX0 1 "is_number" ["thing", "least", "most"] spIsNum) :
    FnOk P w K mg base CX0 2 f fd ["leading", "place"] spAskedP := by
  refine F.ok sc_asked_place (fun vs H Q E h => ?_) (fun cdv A outer s H vs Q E hr h => ?_)
  · obtain ⟨a, L, p, rfl, _⟩ := h
    rfl
  · obtain ⟨a, L, p, rfl, hL, hp, q⟩ := h
    refine ⟨_, (pss_one (ps_if (pt_not (pt_val (pe_callD D_is_number (hr.mono (by decide)) (by rfl) pass0 (pa_cons (pv 1) (pa_cons pe_int (pa_cons (pe_op op_sub (pe_callB (call_lenK (K := K) rfl) (by rfl) B.len_ bo_len (pa_cons (pv 0) pa_nil)) pe_int) pa_nil))))))
    (pss_one ps_never)
    pss_nil)), ?_⟩
    refine s_skip (et_notT (et_B (ev_callV (ea3 (ev_var rfl) ev_c (ev_op (ev_lenNl (ev_var rfl) hL.sq) ev_c rv_I0)) (sv_is_number ?_)))) fun H1 e => q H1 e
    rw [Bool.and_eq_true, decide_eq_true_eq, decide_eq_true_eq]
    omega
abbrev s_asked_back : Stmt := topS 9
abbrev N_asked_back : List Str := ["leading"]
theorem sc_asked_back : FnScope N_asked_back ["leading"] (defScope s_asked_back) := ⟨rfl, rfl, rfl, by decide +kernel, rfl, by decide +kernel, by decide +kernel⟩
def spAskedB : Sp := fun vs H Q _ => ∃ (a : Addr) (L : List Nat), vs = [.ref a] ∧ IsLd H a L ∧ L.Nodup ∧ RetV .non H Q
theorem sv_asked_back {H : Hp} {a : Addr} {L : List Nat} (h : IsLd H a L) (nd : L.Nodup) : SpV spAskedB [.ref a] H .non := fun _ e _ q _ => ⟨a, L, rfl, h.ex e, nd, q⟩
theorem ok_asked_back {f : Addr} {fd : FuncData} (F : Fun K "asked_back" "asked_back" s_asked_back f fd) (B : Bl mg) : FnOk P w K mg base CX0 1 f fd ["leading"] spAskedB := by
  refine F.ok sc_asked_back (fun vs H Q E h => ?_) (fun cdv A outer s H vs Q E hr h => ?_)
  · obtain ⟨a, L, rfl, _⟩ := h
    rfl
  · obtain ⟨a, L, rfl, hL, nd, q⟩ := h
    refine ⟨_, (pss_one (ps_if (pt_cmpR op_ne (pe_lenSetK (K := K) rfl (by rfl) B.len_ (by rfl) B.set_ (pv 0) rfl) (pe_callB (call_lenK (K := K) rfl) (by rfl) B.len_ bo_len (pa_cons (pv 0) pa_nil)) (nomark _))
    (pss_one ps_never)
    pss_nil)), ?_⟩
    have h64 := hL.2.2
    exact s_skip (et_test (ev_op (ev_lenSet (ev_var rfl) hL.sq nd (by omega)) (ev_lenNl (ev_var rfl) hL.sq) (rv_neB (by rw [decide_eq_true rfl]; rfl)))) fun H1 e => q H1 e
abbrev s_done : Stmt := topS 10
abbrev N_done : List Str := ["leading", "steps", "found", "twice", "left", "place"]
theorem sc_done : FnScope N_done ["leading", "steps"] (defScope s_done) := ⟨rfl, rfl, rfl, by decide +kernel, rfl, by decide +kernel, by decide +kernel⟩
def spDone : Sp := fun vs H Q _ => ∃ (a : Addr) (L : List Nat) (n : Nat), vs = [.ref a, .int (n : Int)] ∧ IsLd H a L ∧ RetL (nl (tm L n)) H Q
theorem sl_done {H : Hp} {a : Addr} {L : List Nat} {n : Nat} (h : IsLd H a L) : SpL spDone [.ref a, .int (n : Int)] H (nl (tm L n)) := fun _ e _ q _ => ⟨a, L, n, rfl, h.ex e, q⟩
theorem ok_done {f : Addr} {fd : FuncData} (F : Fun K "done" "done" s_done f fd) (B : Bl mg) : FnOk P w K mg base CX0 1 f fd ["leading", "steps"] spDone := by
  refine F.ok sc_done (fun vs H Q E h => ?_) (fun cdv A outer s H vs Q E hr h => ?_)
  · obtain ⟨a, L, n, rfl, _⟩ := h
    rfl
  · obtain ⟨a, L, n, rfl, hL, q⟩ := h
    refine ⟨_, (pss_cons (ps_setLc (i := 2) (own := [("place", 5)]) (g := gName 5) (tt := tYes) rfl sc_done.nd rfl rfl (sw_true rfl rfl rfl (by decide +kernel)) (pi_range1 (by rfl) B.range_ (pa_cons (pe_callB (call_lenK (K := K) rfl) (by rfl) B.len_ bo_len (pa_cons (pv 0) pa_nil)) pa_nil)) (blkOk_by (N := N_done) (sc := defScope s_done) (by decide +kernel)) (fun _ _ _ _ _ => (pg_name (i := 5) sc_done.nd rfl (Or.inl rfl))) (fun _ _ _ _ _ => pts_nil) (fun _ _ _ _ _ => (pv 5)))
    (pss_cons (ps_set (i := 3) sc_done.nd rfl (Or.inr rfl) (pe_callTy (call_listK (K := K) rfl) (by rfl) B.list_ bo_list (pa_cons (pv 0) pa_nil)))
    (pss_cons (ps_set (i := 4) sc_done.nd rfl (Or.inl rfl) (pv 1))
    (pss_cons (ps_while PassesOwn.never (pt_cmpR op_gt (pv 4) pe_int (nomark _))
    (pss_cut (ps_if (pt_cmpR op_eq (pe_op op_modN (pv 4) pe_int) pe_int (nomark _))
    (pss_one (ps_setLc (i := 2) (own := [("place", 5)]) (g := gName 5) (tt := tYes) rfl sc_done.nd rfl rfl (sw_true rfl rfl rfl (by decide +kernel)) (pi_list (pv 2)) (blkOk_by (N := N_done) (sc := defScope s_done) (by decide +kernel)) (fun _ _ _ _ _ => (pg_name (i := 5) sc_done.nd rfl (Or.inl rfl))) (fun _ _ _ _ _ => pts_nil) (fun _ _ _ _ _ => (pe_ix (ix_listK (K := K) rfl) (pv 3) (pv 5) (fun _ _ => rfl)))))
    pss_nil)
    (pss_cons (ps_set (i := 3) sc_done.nd rfl (Or.inr rfl) (pe_lc (own := [("place", 5)]) (g := gName 5) (tt := tYes) rfl sc_done.nd (pi_list (pv 3)) (blkOk_by (N := N_done) (sc := defScope s_done) (by decide +kernel)) (fun _ _ _ _ _ => (pg_name (i := 5) sc_done.nd rfl (Or.inl rfl))) (fun _ _ _ _ _ => pts_nil) (fun _ _ _ _ _ => (pe_ix (ix_listK (K := K) rfl) (pv 3) (pv 5) (fun _ _ => rfl)))))
    (pss_one (ps_set (i := 4) sc_done.nd rfl (Or.inl rfl) (pe_op op_fdivN (pv 4) pe_int))))))
    (pss_one (ps_ret (pv 2))))))), ?_⟩
    have h64 := hL.2.2
    -- found = [place for place in range(len(leading))]
    refine q_asgL (el_mapR (fun i => V.int i) (ea1 (ev_lenNl (ev_var rfl) hL.sq)) (by omega) fun i H1 e hi => ev_var rfl) fun pf H1 nf e1 h1 => ?_
    -- twice = list(leading)
    refine q_asgL (el_listOf (ev_var rfl) (hL.ex e1).sq) fun pt H2 nt e2 h2 => ?_
    refine q_asg (ev_var rfl) fun H3 e3 => ?_
    refine q_while (fun m σ' H' => ∃ (x y : Nat) (pf pt : Addr) (z : Option V), σ' = [some (.ref a), some (.int (n : Int)), some (.ref pf), some (.ref pt), some (.int (m : Int)), z] ∧ x + y * m = n ∧ Ex H H' ∧ H pf = none ∧ H' pf = some (.lst (nl (tm L x))) ∧ H' pt = some (.lst (nl (tm L y)))) n
      ⟨0, 1, pf, pt, none, rfl, by omega, (e1.trans e2).trans e3, nf, ?_, ?_⟩ fun m σ' H' hw => ?_
    · rw [tm_zero]
      exact e3 _ _ (e2 _ _ h1)
    · rw [tm_one]
      exact e3 _ _ h2
    obtain ⟨x, y, pf, pt, z, rfl, exy, eH, nf, hf, ht⟩ := hw
    refine ⟨decide ((0 : Int) < m), et_test (ev_op (ev_var rfl) ev_c rv_I0), fun hb H4 e4 => ?_, fun hb H4 e4 => ?_⟩
    · have hm : (0 : Int) < m := of_decide_eq_true hb
      refine ⟨_, fun σ2 H2 h => h, ?_⟩
      -- if left % 2 == 1: found = [twice[place] for place in found]
      refine q_cut (M := fun σ' H' => ∃ (x' : Nat) (pf : Addr) (z : Option V), σ' = [some (.ref a), some (.int (n : Int)), some (.ref pf), some (.ref pt), some (.int (m : Int)), z] ∧ x' = x + (if m % 2 = 1 then y else 0) ∧ Ex H H' ∧ H pf = none ∧ H' pf = some (.lst (nl (tm L x'))) ∧ H' pt = some (.lst (nl (tm L y)))) ?_ fun σ' H' hM => ?_
      · refine s_if (et_test (ev_op (ev_op (ev_var rfl) ev_c (rv_IW (by decide) (vmod m 2))) ev_c (rv_eqB rfl))) (fun hb H5 e5 => ?_) (fun hb H5 e5 => ?_)
        · have h2 : m % 2 = 1 := by
            have := of_decide_eq_true hb
            omega
          refine s_asgL (el_mapN (L := tm L x) (fun v => V.int (st (tm L y) v : Int)) (ev_var rfl) (sq_of (e5 _ _ (e4 _ _ hf))) (by rw [tm_length]; omega) fun v H6 e6 hv => ev_op (ev_var rfl) (ev_var rfl) (rv_ixN (sq_of (e6 _ _ (e5 _ _ (e4 _ _ ht)))) ?_)) fun pn H6 nn e6 h6 => ?_
          · rw [tm_length, ← tm_length L x]
            exact lead_tm hL.2.1 x v hv
          · refine ⟨x + y, pn, z, rfl, by rw [if_pos h2], ((eH.trans e4).trans e5).trans e6, fresh_back ((eH.trans e4).trans e5) nn, ?_, e6 _ _ (e5 _ _ (e4 _ _ ht))⟩
            rw [h6, ← tm_then hL.2.1]
            unfold nl
            rw [List.map_map]
            rfl
        · have h2 : ¬ m % 2 = 1 := by
            have := of_decide_eq_false hb
            omega
          exact ⟨x, pf, z, rfl, by rw [if_neg h2, Nat.add_zero], (eH.trans e4).trans e5, nf, e5 _ _ (e4 _ _ hf), e5 _ _ (e4 _ _ ht)⟩
      · obtain ⟨x', pf, z, rfl, ex', eH, nf, hf, ht⟩ := hM
        -- twice = [twice[place] for place in twice]
        refine q_asgL (el_mapN (L := tm L y) (fun v => V.int (st (tm L y) v : Int)) (ev_var rfl) (sq_of ht) (by rw [tm_length]; omega) fun v H6 e6 hv => ev_op (ev_var rfl) (ev_var rfl) (rv_ixN (sq_of (e6 _ _ ht)) ?_)) fun pn H6 nn e6 h6 => ?_
        · exact lead_tm hL.2.1 y v hv
        refine s_asg (ev_op (ev_var rfl) ev_c (rv_IW ⟨by decide, by decide⟩ (vdiv m 2))) fun H7 e7 => ?_
        refine ⟨m / 2, by omega, x', y + y, pf, pn, z, rfl, ?_, (eH.trans e6).trans e7, nf, e7 _ _ (e6 _ _ hf), ?_⟩
        · have h3 := Nat.mod_add_div m 2
          have h4 : y * m = y * (m % 2) + y * (2 * (m / 2)) := by rw [← Nat.mul_add, h3]
          have h5 : y * (2 * (m / 2)) = (y + y) * (m / 2) := by
            rw [← Nat.mul_assoc, Nat.mul_two]
          split at ex'
          · rename_i h6
            rw [h6, Nat.mul_one] at h4
            omega
          · have h6 : m % 2 = 0 := by omega
            rw [h6, Nat.mul_zero] at h4
            omega
        · rw [e7 _ _ h6, ← tm_then hL.2.1]
          unfold nl
          rw [List.map_map]
          rfl
    · have hm : m = 0 := by
        have := of_decide_eq_false hb
        omega
      subst hm
      rw [Nat.mul_zero, Nat.add_zero] at exy
      subst exy
      exact ret_N q (eH.trans e4) nf (e4 _ _ hf) rfl
abbrev s_is_place : Stmt := topS 13
abbrev N_is_place : List Str := ["leading", "place"]
theorem sc_is_place : FnScope N_is_place ["leading", "place"] (defScope s_is_place) := ⟨rfl, rfl, rfl, by decide +kernel, rfl, by decide +kernel, by decide +kernel⟩
def spIsPlace : Sp := fun vs H Q _ => ∃ (a : Addr) (L : List Nat) (i : Int), vs = [.ref a, .int i] ∧ IsLd H a L ∧ RetV (.bl (decide (0 ≤ i) && decide (i < (L.length : Int)))) H Q
theorem sv_is_place {H : Hp} {a : Addr} {L : List Nat} {i : Int} (h : IsLd H a L) : SpV spIsPlace [.ref a, .int i] H (.bl (decide (0 ≤ i) && decide (i < (L.length : Int)))) := fun _ e _ q _ => ⟨a, L, i, rfl, h.ex e, q⟩
theorem ok_is_place {f : Addr} {fd : FuncData} (F : Fun K "is_place" "is_place" s_is_place f fd) (B : Bl mg) : FnOk P w K mg base CX0 1 f fd ["leading", "place"] spIsPlace := by
  refine F.ok sc_is_place (fun vs H Q E h => ?_) (fun cdv A outer s H vs Q E hr h => ?_)
  · obtain ⟨a, L, i, rfl, _⟩ := h
    rfl
  · obtain ⟨a, L, i, rfl, hL, q⟩ := h
    refine ⟨_, (pss_one (ps_ret (pe_chain op_le op_lt pe_int (pv 1) (pe_callB (call_lenK (K := K) rfl) (by rfl) B.len_ bo_len (pa_cons (pv 0) pa_nil))))), ?_⟩
    exact ret_V q (Ex.refl H) (ev_chain ev_c (ev_var rfl) (ev_lenNl (ev_var rfl) hL.sq) rv_I0 rv_I0)
abbrev s_Steps___init__ : Stmt := inClass (topS 14) 0
abbrev N_Steps___init__ : List Str := ["self", "many"]
theorem sc_Steps___init__ : FnScope N_Steps___init__ ["self", "many"] (defScope s_Steps___init__) := ⟨rfl, rfl, rfl, by decide +kernel, rfl, by decide +kernel, by decide +kernel⟩
theorem ok_Steps___init__ {f : Addr} {fd : FuncData} (F : Fun K "__init__" "Steps.__init__" s_Steps___init__ f fd) (C : Cl K mg c) : FnOk P w K mg base CX0 1 f fd ["self", "many"] (spInit1 c.Steps "many") := by
  refine F.ok sc_Steps___init__ (fun vs H Q E h => ?_) (fun cdv A outer s H vs Q E hr h => ?_)
  · obtain ⟨x, dx, v, rfl, _⟩ := h
    rfl
  · obtain ⟨x, dx, v, rfl, hx, q⟩ := h
    refine ⟨_, (pss_one (ps_fldK (K := K) rfl (pv 0) (pv 1) rfl)), ?_⟩
    exact s_fld C.Steps.cl C.na_Steps_many (ev_var rfl) (ev_var rfl) hx (by decide) fun H1 e => q _ (fun b o hb h => by rw [upd_ne hb]; exact e _ _ h) upd_same
abbrev s_Steps_shows : Stmt := inClass (topS 14) 1
abbrev N_Steps_shows : List Str := ["self", "leading", "one", "other"]
theorem sc_Steps_shows : FnScope N_Steps_shows ["self", "leading", "one", "other"] (defScope s_Steps_shows) := ⟨rfl, rfl, rfl, by decide +kernel, rfl, by decide +kernel, by decide +kernel⟩
def spStepsShows (C : Addr) : Sp := fun vs H Q _ => ∃ (x dx a : Addr) (L : List Nat) (p q : Nat) (m : Int), vs = [.ref x, .ref a, .int (p : Int), .int (q : Int)] ∧ H x = some (.ins C dx [("many", .int m)]) ∧ IsLd H a L ∧ p < L.length ∧ RetV (.bl (decide (0 ≤ m) && decide (it L m.toNat p = q))) H Q
theorem sv_Steps_shows {H : Hp} {C x dx a : Addr} {L : List Nat} {p q : Nat} {m : Int} {b : Bool} (h : H x = some (.ins C dx [("many", .int m)])) (hL : IsLd H a L) (hp : p < L.length) (e : (decide (0 ≤ m) && decide (it L m.toNat p = q)) = b) : SpV (spStepsShows C) [.ref x, .ref a, .int (p : Int), .int (q : Int)] H (.bl b) :=
  fun _ e1 _ k _ => ⟨x, dx, a, L, p, q, m, rfl, e1 _ _ h, hL.ex e1, hp, by rw [e]; exact k⟩
theorem ok_Steps_shows {f : Addr} {fd : FuncData} (F : Fun K "shows" "Steps.shows" s_Steps_shows f fd) (C : Cl K mg c) (D_done : Dk P w K mg base CX0 1 "done" ["leading", "steps"] spDone) : FnOk P w K mg base CX0 2 f fd ["self", "leading", "one", "other"] (spStepsShows c.Steps) := by
  refine F.ok sc_Steps_shows (fun vs H Q E h => ?_) (fun cdv A outer s H vs Q E hr h => ?_)
  · obtain ⟨x, dx, a, L, p, q, m, rfl, _⟩ := h
    rfl
  · obtain ⟨x, dx, a, L, p, q, m, rfl, hx, hL, hp, k⟩ := h
    refine ⟨_, (pss_one (ps_ret (pe_and (pe_cmpR op_ge (pe_fldK (K := K) rfl (pv 0) rfl) pe_int (nomark _)) (pe_one (pe_cmpR op_eq (pe_ix (ix_listK (K := K) rfl) (pe_callD D_done (hr.mono (by decide)) (by rfl) pass0 (pa_cons (pv 1) (pa_cons (pe_fldK (K := K) rfl (pv 0) rfl) pa_nil))) (pv 2) (fun _ _ => rfl)) (pv 3) (nomark _)))))), ?_⟩
    refine ret_V k (Ex.refl H) (ev_andV (ev_op (ev_fld C.Steps.cl C.na_Steps_many (ev_var rfl) hx look1) ev_c rv_I0) fun hm => ?_)
    have hm := of_decide_eq_true hm
    obtain ⟨n, rfl⟩ := Int.eq_ofNat_of_zero_le hm
    refine ev_op (ev_opL1 (el_callL (ea2 (ev_var rfl) (ev_fld C.Steps.cl C.na_Steps_many (ev_var rfl) hx look1)) (sl_done (n := n) hL)) (fun H1 e1 => ev_var rfl) fun r H1 h1 e1 => rv_ixN (j := p) (sq_of h1) (by rw [tm_length]; exact hp)) (ev_var rfl) (rv_eqB (by
      rw [st_tm hp]
      exact decide_eq_decide.mpr ⟨fun h => by show it L (n : Int).toNat p = q; rw [Int.toNat_natCast]; omega, fun h => by have h : it L (n : Int).toNat p = q := h; rw [Int.toNat_natCast] at h; omega⟩))
abbrev s_Shut___init__ : Stmt := inClass (topS 15) 0
abbrev N_Shut___init__ : List Str := ["self", "places"]
theorem sc_Shut___init__ : FnScope N_Shut___init__ ["self", "places"] (defScope s_Shut___init__) := ⟨rfl, rfl, rfl, by decide +kernel, rfl, by decide +kernel, by decide +kernel⟩
theorem ok_Shut___init__ {f : Addr} {fd : FuncData} (F : Fun K "__init__" "Shut.__init__" s_Shut___init__ f fd) (B : Bl mg) (C : Cl K mg c) : FnOk P w K mg base CX0 1 f fd ["self", "places"] (spInitL K c.Shut "places") := by
  refine F.ok sc_Shut___init__ (fun vs H Q E h => ?_) (fun cdv A outer s H vs Q E hr h => ?_)
  · obtain ⟨x, dx, b, xs, rfl, _⟩ := h
    rfl
  · obtain ⟨x, dx, b, xs, rfl, hx, hb, q⟩ := h
    refine ⟨_, (pss_one (ps_fldK (K := K) rfl (pv 0) (pe_callTy (call_listK (K := K) rfl) (by rfl) B.list_ bo_list (pa_cons (pv 1) pa_nil)) rfl)), ?_⟩
    exact s_fldL C.Shut.cl C.na_Shut_places (el_listOf (ev_var rfl) hb) (ev_var rfl) hx (by decide) fun l H1 nl e hl => q _ l (fun b o hb h => by rw [upd_ne hb]; exact e _ _ h) nl upd_same (by rw [upd_ne (fun z => by rw [z, hx] at nl; cases nl)]; exact hl)
abbrev s_Shut_shows : Stmt := inClass (topS 15) 1
abbrev N_Shut_shows : List Str := ["self", "leading", "one", "other", "place"]
theorem sc_Shut_shows : FnScope N_Shut_shows ["self", "leading", "one", "other"] (defScope s_Shut_shows) := ⟨rfl, rfl, rfl, by decide +kernel, rfl, by decide +kernel, by decide +kernel⟩
def spShutShows (K : PySem.W.Frag) (C : Addr) : Sp := fun vs H Q _ => ∃ (x dx a l : Addr) (L : List Nat) (p q : Nat) (ps : List Int), vs = [.ref x, .ref a, .int (p : Int), .int (q : Int)] ∧ H x = some (.ins C dx [("places", .ref l)]) ∧ SqL K H l (il ps) ∧ ps.length ≤ 40000 ∧ IsLd H a L ∧ RetV (.bl (shutB L p q ps)) H Q
theorem sv_Shut_shows {K : PySem.W.Frag} {H : Hp} {C x dx a l : Addr} {L : List Nat} {p q : Nat} {ps : List Int} {b : Bool} (h : H x = some (.ins C dx [("places", .ref l)])) (hl : SqL K H l (il ps)) (hz : ps.length ≤ 40000) (hL : IsLd H a L) (e : shutB L p q ps = b) : SpV (spShutShows K C) [.ref x, .ref a, .int (p : Int), .int (q : Int)] H (.bl b) :=
  fun _ e1 _ k _ => ⟨x, dx, a, l, L, p, q, ps, rfl, e1 _ _ h, ex_l e1 hl, hz, hL.ex e1, by rw [e]; exact k⟩
theorem ok_Shut_shows {f : Addr} {fd : FuncData} (F : Fun K "shows" "Shut.shows" s_Shut_shows f fd) (B : Bl mg) (C : Cl K mg c) (D_is_place : Dk P w K mg base CX0 1 "is_place" ["leading", "place"] spIsPlace) : FnOk P w K mg base CX0 2 f fd ["self", "leading", "one", "other"] (spShutShows K c.Shut) := by
  refine F.ok sc_Shut_shows (fun vs H Q E h => ?_) (fun cdv A outer s H vs Q E hr h => ?_)
  · obtain ⟨x, dx, a, l, L, p, q, ps, rfl, _⟩ := h
    rfl
  · obtain ⟨x, dx, a, l, L, p, q, ps, rfl, hx, hl, hz, hL, k⟩ := h
    refine ⟨_, (pss_cons (ps_if (PW.pt (pw_or (pt_cmpR (op_notInK (K := K) rfl) (pv 2) (pe_fldK (K := K) rfl (pv 0) rfl) (by rfl)) (pw_or1 (pt_cmpR (op_inK (K := K) rfl) (pv 3) (pe_fldK (K := K) rfl (pv 0) rfl) (by rfl)))))
    (pss_one (ps_ret pe_bl))
    pss_nil)
    (pss_one (ps_ret (pe_callB (cr_allK (K := K) rfl rfl) (by rfl) B.all_ bo_all (pa_cons (pe_lc (own := [("place", 4)]) (g := gName 4) (tt := tYes) rfl sc_Shut_shows.nd (pi_list (pe_fldK (K := K) rfl (pv 0) rfl)) (blkOk_by (N := N_Shut_shows) (sc := defScope s_Shut_shows) (by decide +kernel)) (fun _ _ _ _ _ => (pg_name (i := 4) sc_Shut_shows.nd rfl (Or.inl rfl))) (fun _ _ _ _ _ => pts_nil) (fun _ _ _ _ _ => (pe_and (pe_callD D_is_place (hr.mono (by decide)) (by rfl) pass0 (pa_cons (pv 1) (pa_cons (pv 4) pa_nil))) (pe_one (pe_cmpR (op_inK (K := K) rfl) (pe_ix (ix_listK (K := K) rfl) (pv 1) (pv 4) (fun _ _ => rfl)) (pe_fldK (K := K) rfl (pv 0) rfl) (by rfl)))))) pa_nil))))), ?_⟩
    have hf : ∀ {σ : L2.St} {H' : Hp}, Ex H H' → σ[0]? = some (some (.ref x)) → Ev (tFld K (tVar 0) "places") σ H' (.ref l) := fun e h0 => ev_fld C.Shut.cl C.na_Shut_places (ev_var h0) (e _ _ hx) look1
    refine q_when (et_or (et_test (ev_op (ev_var rfl) (hf (Ex.refl H) rfl) (rv_ninI hl rfl))) fun _ => et_test (ev_op (ev_var rfl) (hf (Ex.refl H) rfl) (rv_inI hl rfl))) (fun hb H1 e1 => ?_) (fun hb H1 e1 => ?_)
    · have e : shutB L p q ps = false := by
        unfold shutB
        rw [show (decide ((p : Int) ∈ ps) && !decide ((q : Int) ∈ ps)) = false by
          revert hb
          cases decide ((p : Int) ∈ ps) <;> cases decide ((q : Int) ∈ ps) <;> simp, Bool.false_and]
      rw [e] at k
      exact s_ret ev_c fun H2 e2 => k H2 (e1.trans e2)
    · have e : shutB L p q ps = ps.all fun x => (decide (0 ≤ x) && decide (x < (L.length : Int))) && decide ((st L x.toNat : Int) ∈ ps) := by
        unfold shutB
        rw [show (decide ((p : Int) ∈ ps) && !decide ((q : Int) ∈ ps)) = true by
          revert hb
          cases decide ((p : Int) ∈ ps) <;> cases decide ((q : Int) ∈ ps) <;> simp, Bool.true_and]
      rw [e] at k
      refine ret_V k e1 (ev_allB (el_mapI (fun x => V.bl ((decide (0 ≤ x) && decide (x < (L.length : Int))) && decide ((st L x.toNat : Int) ∈ ps))) (hf e1 rfl) (ex_l e1 hl) hz fun y H2 e2 hy => ?_))
      refine ev_andV (ev_callV (ea2 (ev_var rfl) (ev_var rfl)) (sv_is_place (hL.ex (e1.trans e2)))) fun hb2 => ?_
      rw [Bool.and_eq_true, decide_eq_true_eq, decide_eq_true_eq] at hb2
      obtain ⟨n, rfl⟩ := Int.eq_ofNat_of_zero_le hb2.1
      exact ev_op (ev_op (ev_var rfl) (ev_var rfl) (rv_ixN (j := n) (hL.ex (e1.trans e2)).sq (by omega))) (hf (e1.trans e2) rfl) (rv_inI (ex_l (e1.trans e2) hl) rfl)
abbrev s_Met___init__ : Stmt := inClass (topS 16) 0
abbrev N_Met___init__ : List Str := ["self", "mine", "theirs"]
theorem sc_Met___init__ : FnScope N_Met___init__ ["self", "mine", "theirs"] (defScope s_Met___init__) := ⟨rfl, rfl, rfl, by decide +kernel, rfl, by decide +kernel, by decide +kernel⟩
theorem met_look (i j : V) : List.lookup ("theirs" : Str) ([("mine", i), ("theirs", j)] : List (Str × V)) = some j := lookB (by decide +kernel)
theorem met_put (i j : V) : putF "theirs" j ([("mine", i)] : List (Str × V)) = ([("mine", i), ("theirs", j)] : List (Str × V)) := putB (f := ("theirs" : Str)) (g := ("mine" : Str)) (by decide +kernel)
def spInitM (C : Addr) : Sp := fun vs H Q _ => ∃ (x dx : Addr) (v u : V), vs = [.ref x, v, u] ∧ H x = some (.ins C dx []) ∧ ∀ H', ExB x H H' → H' x = some (.ins C dx [("mine", v), ("theirs", u)]) → Q .non H'
theorem tmkM {σ : L2.St} {H : Hp} {C : Addr} {E : XK} {ta tb : TE} {v u : V} {Q : VK} (h : Ev ta σ H v) (h2 : Ev tb σ H u) (k : ∀ x dx H2, H x = none → Ex H H2 → H2 x = some (.ins C dx [("mine", v), ("theirs", u)]) → Q (.ref x) H2) : tMake C (spInitM C) [] E (tCons ta (tCons tb tNil)) σ H Q :=
  h H (Ex.refl H) _ fun H0 e0 => h2 H0 e0 _ fun H1 e1 x dx nx ndx ne => ⟨x, dx, v, u, rfl, upd_same, fun H' eB hx => ⟨rfl, k x dx H' (fresh_back (e0.trans e1) nx) ((e0.trans e1).trans (ex_made nx ndx eB)) hx⟩⟩
theorem ok_Met___init__ {f : Addr} {fd : FuncData} (F : Fun K "__init__" "Met.__init__" s_Met___init__ f fd) (C : Cl K mg c) : FnOk P w K mg base CX0 1 f fd ["self", "mine", "theirs"] (spInitM c.Met) := by
  refine F.ok sc_Met___init__ (fun vs H Q E h => ?_) (fun cdv A outer s H vs Q E hr h => ?_)
  · obtain ⟨x, dx, v, u, rfl, _⟩ := h
    rfl
  · obtain ⟨x, dx, v, u, rfl, hx, q⟩ := h
    refine ⟨_, (pss_cons (ps_fldK (K := K) rfl (pv 0) (pv 1) rfl)
    (pss_one (ps_fldK (K := K) rfl (pv 0) (pv 2) rfl))), ?_⟩
    refine q_fld C.Met.cl C.na_Met_mine (ev_var rfl) (ev_var rfl) hx (by decide) fun H1 e1 => ?_
    refine s_fld C.Met.cl C.na_Met_theirs (ev_var rfl) (ev_var rfl) upd_same (by show 1 < 1000; decide) fun H2 e2 => ?_
    refine q _ (fun b o hb h => ?_) ?_
    · rw [upd_ne hb]
      exact e2 _ _ (by rw [upd_ne hb]; exact e1 _ _ h)
    · rw [upd_same]
      exact congrArg (fun z => some (HO.ins c.Met dx z)) (met_put v u)
abbrev s_Met_shows : Stmt := inClass (topS 16) 1
abbrev N_Met_shows : List Str := ["self", "leading", "one", "other"]
theorem sc_Met_shows : FnScope N_Met_shows ["self", "leading", "one", "other"] (defScope s_Met_shows) := ⟨rfl, rfl, rfl, by decide +kernel, rfl, by decide +kernel, by decide +kernel⟩
def spMetShows (C : Addr) : Sp := fun vs H Q _ => ∃ (x dx a : Addr) (L : List Nat) (p q : Nat) (m t : Int), vs = [.ref x, .ref a, .int (p : Int), .int (q : Int)] ∧ H x = some (.ins C dx [("mine", .int m), ("theirs", .int t)]) ∧ IsLd H a L ∧ p < L.length ∧ q < L.length ∧
  RetV (.bl ((decide (0 ≤ m) && decide (0 ≤ t)) && decide (it L m.toNat p = it L t.toNat q))) H Q
theorem sv_Met_shows {H : Hp} {C x dx a : Addr} {L : List Nat} {p q : Nat} {m t : Int} {b : Bool} (h : H x = some (.ins C dx [("mine", .int m), ("theirs", .int t)])) (hL : IsLd H a L) (hp : p < L.length) (hq : q < L.length)
    (e : ((decide (0 ≤ m) && decide (0 ≤ t)) && decide (it L m.toNat p = it L t.toNat q)) = b) : SpV (spMetShows C) [.ref x, .ref a, .int (p : Int), .int (q : Int)] H (.bl b) :=
  fun _ e1 _ k _ => ⟨x, dx, a, L, p, q, m, t, rfl, e1 _ _ h, hL.ex e1, hp, hq, by rw [e]; exact k⟩
theorem ok_Met_shows {f : Addr} {fd : FuncData} (F : Fun K "shows" "Met.shows" s_Met_shows f fd) (C : Cl K mg c) (D_done : Dk P w K mg base CX0 1 "done" ["leading", "steps"] spDone) : FnOk P w K mg base CX0 2 f fd ["self", "leading", "one", "other"] (spMetShows c.Met) := by
  refine F.ok sc_Met_shows (fun vs H Q E h => ?_) (fun cdv A outer s H vs Q E hr h => ?_)
  · obtain ⟨x, dx, a, L, p, q, m, t, rfl, _⟩ := h
    rfl
  · obtain ⟨x, dx, a, L, p, q, m, t, rfl, hx, hL, hp, hq, k⟩ := h
    refine ⟨_, (pss_cons (ps_if (PW.pt (pw_or (pt_cmpR op_lt (pe_fldK (K := K) rfl (pv 0) rfl) pe_int (nomark _)) (pw_or1 (pt_cmpR op_lt (pe_fldK (K := K) rfl (pv 0) rfl) pe_int (nomark _)))))
    (pss_one (ps_ret pe_bl))
    pss_nil)
    (pss_one (ps_ret (pe_cmpR op_eq (pe_ix (ix_listK (K := K) rfl) (pe_callD D_done (hr.mono (by decide)) (by rfl) pass0 (pa_cons (pv 1) (pa_cons (pe_fldK (K := K) rfl (pv 0) rfl) pa_nil))) (pv 2) (fun _ _ => rfl)) (pe_ix (ix_listK (K := K) rfl) (pe_callD D_done (hr.mono (by decide)) (by rfl) pass0 (pa_cons (pv 1) (pa_cons (pe_fldK (K := K) rfl (pv 0) rfl) pa_nil))) (pv 3) (fun _ _ => rfl)) (nomark _))))), ?_⟩
    have hm : ∀ {σ : L2.St} {H' : Hp}, Ex H H' → σ[0]? = some (some (.ref x)) → Ev (tFld K (tVar 0) "mine") σ H' (.int m) := fun e h0 => ev_fld C.Met.cl C.na_Met_mine (ev_var h0) (e _ _ hx) lookA
    have ht : ∀ {σ : L2.St} {H' : Hp}, Ex H H' → σ[0]? = some (some (.ref x)) → Ev (tFld K (tVar 0) "theirs") σ H' (.int t) := fun e h0 => ev_fld C.Met.cl C.na_Met_theirs (ev_var h0) (e _ _ hx) (met_look _ _)
    refine q_when (et_or (et_test (ev_op (hm (Ex.refl H) rfl) ev_c rv_I0)) fun _ => et_test (ev_op (ht (Ex.refl H) rfl) ev_c rv_I0)) (fun hb H1 e1 => ?_) (fun hb H1 e1 => ?_)
    · have e : ((decide (0 ≤ m) && decide (0 ≤ t)) && decide (it L m.toNat p = it L t.toNat q)) = false := by
        rw [Bool.or_eq_true, decide_eq_true_eq, decide_eq_true_eq] at hb
        rcases hb with hb | hb
        · rw [decide_eq_false (show ¬ 0 ≤ m by omega)]
          rfl
        · rw [decide_eq_false (show ¬ 0 ≤ t by omega), Bool.and_false]
          rfl
      rw [e] at k
      exact s_ret ev_c fun H2 e2 => k H2 (e1.trans e2)
    · rw [Bool.or_eq_false_iff, decide_eq_false_iff_not, decide_eq_false_iff_not] at hb
      obtain ⟨n, rfl⟩ := Int.eq_ofNat_of_zero_le (show 0 ≤ m by omega)
      obtain ⟨j, rfl⟩ := Int.eq_ofNat_of_zero_le (show 0 ≤ t by omega)
      refine ret_V k e1 (ev_op (ev_opL1 (el_callL (ea2 (ev_var rfl) (hm e1 rfl)) (sl_done (n := n) (hL.ex e1))) (fun H2 e2 => ev_var rfl) fun r H2 h2 e2 => rv_ixN (j := p) (sq_of h2) (by rw [tm_length]; exact hp))
        (ev_opL1 (el_callL (ea2 (ev_var rfl) (ht e1 rfl)) (sl_done (n := j) (hL.ex e1))) (fun H2 e2 => ev_var rfl) fun r H2 h2 e2 => rv_ixN (j := q) (sq_of h2) (by rw [tm_length]; exact hq)) (rv_eqB ?_))
      rw [st_tm hp, st_tm hq, decide_eq_true (show (0 : Int) ≤ (n : Int) by omega), decide_eq_true (show (0 : Int) ≤ (j : Int) by omega)]
      show _ = decide (it L (n : Int).toNat p = it L (j : Int).toNat q)
      rw [Int.toNat_natCast, Int.toNat_natCast]
      exact decide_eq_decide.mpr ⟨fun h => by omega, fun h => by omega⟩
abbrev s_Apart___init__ : Stmt := inClass (topS 17) 0
abbrev N_Apart___init__ : List Str := ["self", "places"]
theorem sc_Apart___init__ : FnScope N_Apart___init__ ["self", "places"] (defScope s_Apart___init__) := ⟨rfl, rfl, rfl, by decide +kernel, rfl, by decide +kernel, by decide +kernel⟩
theorem ok_Apart___init__ {f : Addr} {fd : FuncData} (F : Fun K "__init__" "Apart.__init__" s_Apart___init__ f fd) (B : Bl mg) (C : Cl K mg c) : FnOk P w K mg base CX0 1 f fd ["self", "places"] (spInitL K c.Apart "places") := by
  refine F.ok sc_Apart___init__ (fun vs H Q E h => ?_) (fun cdv A outer s H vs Q E hr h => ?_)
  · obtain ⟨x, dx, b, xs, rfl, _⟩ := h
    rfl
  · obtain ⟨x, dx, b, xs, rfl, hx, hb, q⟩ := h
    refine ⟨_, (pss_one (ps_fldK (K := K) rfl (pv 0) (pe_callTy (call_listK (K := K) rfl) (by rfl) B.list_ bo_list (pa_cons (pv 1) pa_nil)) rfl)), ?_⟩
    exact s_fldL C.Apart.cl C.na_Apart_places (el_listOf (ev_var rfl) hb) (ev_var rfl) hx (by decide) fun l H1 nl e hl => q _ l (fun b o hb h => by rw [upd_ne hb]; exact e _ _ h) nl upd_same (by rw [upd_ne (fun z => by rw [z, hx] at nl; cases nl)]; exact hl)
abbrev s_Apart_shows : Stmt := inClass (topS 17) 1
abbrev N_Apart_shows : List Str := ["self", "leading", "one", "other", "place", "there"]
theorem sc_Apart_shows : FnScope N_Apart_shows ["self", "leading", "one", "other"] (defScope s_Apart_shows) := ⟨rfl, rfl, rfl, by decide +kernel, rfl, by decide +kernel, by decide +kernel⟩
def spApartShows (K : PySem.W.Frag) (C : Addr) : Sp := fun vs H Q _ => ∃ (x dx a l : Addr) (L : List Nat) (p q : Nat) (ps : List Int), vs = [.ref x, .ref a, .int (p : Int), .int (q : Int)] ∧ H x = some (.ins C dx [("places", .ref l)]) ∧ SqL K H l (il ps) ∧ ps.length ≤ 40000 ∧ IsLd H a L ∧ RetV (.bl (apartB L p q ps)) H Q
theorem sv_Apart_shows {K : PySem.W.Frag} {H : Hp} {C x dx a l : Addr} {L : List Nat} {p q : Nat} {ps : List Int} {b : Bool} (h : H x = some (.ins C dx [("places", .ref l)])) (hl : SqL K H l (il ps)) (hz : ps.length ≤ 40000) (hL : IsLd H a L) (e : apartB L p q ps = b) : SpV (spApartShows K C) [.ref x, .ref a, .int (p : Int), .int (q : Int)] H (.bl b) :=
  fun _ e1 _ k _ => ⟨x, dx, a, l, L, p, q, ps, rfl, e1 _ _ h, ex_l e1 hl, hz, hL.ex e1, by rw [e]; exact k⟩
theorem ok_Apart_shows {f : Addr} {fd : FuncData} (F : Fun K "shows" "Apart.shows" s_Apart_shows f fd) (B : Bl mg) (C : Cl K mg c) (D_is_place : Dk P w K mg base CX0 1 "is_place" ["leading", "place"] spIsPlace) : FnOk P w K mg base CX0 2 f fd ["self", "leading", "one", "other"] (spApartShows K c.Apart) := by
  refine F.ok sc_Apart_shows (fun vs H Q E h => ?_) (fun cdv A outer s H vs Q E hr h => ?_)
  · obtain ⟨x, dx, a, l, L, p, q, ps, rfl, _⟩ := h
    rfl
  · obtain ⟨x, dx, a, l, L, p, q, ps, rfl, hx, hl, hz, hL, k⟩ := h
    refine ⟨_, (pss_cons (ps_if (PW.pt (pw_or (pt_cmpR (op_notInK (K := K) rfl) (pv 2) (pe_fldK (K := K) rfl (pv 0) rfl) (by rfl)) (pw_or1 (pt_cmpR (op_inK (K := K) rfl) (pv 3) (pe_fldK (K := K) rfl (pv 0) rfl) (by rfl)))))
    (pss_one (ps_ret pe_bl))
    pss_nil)
    (pss_cons (ps_if (pt_not (pt_val (pe_callB (cr_allK (K := K) rfl rfl) (by rfl) B.all_ bo_all (pa_cons (pe_lc (own := [("place", 4)]) (g := gName 4) (tt := tYes) rfl sc_Apart_shows.nd (pi_list (pe_fldK (K := K) rfl (pv 0) rfl)) (blkOk_by (N := N_Apart_shows) (sc := defScope s_Apart_shows) (by decide +kernel)) (fun _ _ _ _ _ => (pg_name (i := 4) sc_Apart_shows.nd rfl (Or.inl rfl))) (fun _ _ _ _ _ => pts_nil) (fun _ _ _ _ _ => (pe_callD D_is_place (hr.mono (by decide)) (by rfl) pass0 (pa_cons (pv 1) (pa_cons (pv 4) pa_nil))))) pa_nil))))
    (pss_one (ps_ret pe_bl))
    pss_nil)
    (pss_one (ps_ret (pe_callB (cr_allK (K := K) rfl rfl) (by rfl) B.all_ bo_all (pa_cons (pe_lc (own := [("place", 4), ("there", 5)]) (g := gTup K 2 (gCons (gName 4) (gCons (gName 5) gNil))) (tt := tYes) rfl sc_Apart_shows.nd (pi_enum (by rfl) B.enumerate_ (pa_cons (pv 1) pa_nil)) (blkOk_by (N := N_Apart_shows) (sc := defScope s_Apart_shows) (by decide +kernel)) (fun _ _ _ _ _ => (pg_tup (by rfl) (pgs_cons (pg_name (i := 4) sc_Apart_shows.nd rfl (Or.inl rfl)) (pgs_cons (pg_name (i := 5) sc_Apart_shows.nd rfl (Or.inl rfl)) pgs_nil)))) (fun _ _ _ _ _ => pts_nil) (fun _ _ _ _ _ => (pe_cmpR op_eq (pe_cmpR (op_inK (K := K) rfl) (pv 4) (pe_fldK (K := K) rfl (pv 0) rfl) (by rfl)) (pe_cmpR (op_inK (K := K) rfl) (pv 5) (pe_fldK (K := K) rfl (pv 0) rfl) (by rfl)) (nomark _)))) pa_nil)))))), ?_⟩
    have hf : ∀ {σ : L2.St} {H' : Hp}, Ex H H' → σ[0]? = some (some (.ref x)) → Ev (tFld K (tVar 0) "places") σ H' (.ref l) := fun e h0 => ev_fld C.Apart.cl C.na_Apart_places (ev_var h0) (e _ _ hx) look1
    refine q_when (et_or (et_test (ev_op (ev_var rfl) (hf (Ex.refl H) rfl) (rv_ninI hl rfl))) fun _ => et_test (ev_op (ev_var rfl) (hf (Ex.refl H) rfl) (rv_inI hl rfl))) (fun hb H1 e1 => ?_) (fun hb H1 e1 => ?_)
    · have e : apartB L p q ps = false := by
        unfold apartB
        rw [show (decide ((p : Int) ∈ ps) && !decide ((q : Int) ∈ ps)) = false by
          revert hb
          cases decide ((p : Int) ∈ ps) <;> cases decide ((q : Int) ∈ ps) <;> simp, Bool.false_and, Bool.false_and]
      rw [e] at k
      exact s_ret ev_c fun H2 e2 => k H2 (e1.trans e2)
    · have e : apartB L p q ps = ((ps.all fun x => decide (0 ≤ x) && decide (x < (L.length : Int))) && (List.range L.length).all fun k => decide (decide ((k : Int) ∈ ps) = decide ((st L k : Int) ∈ ps))) := by
        unfold apartB
        rw [show (decide ((p : Int) ∈ ps) && !decide ((q : Int) ∈ ps)) = true by
          revert hb
          cases decide ((p : Int) ∈ ps) <;> cases decide ((q : Int) ∈ ps) <;> simp, Bool.true_and]
      rw [e] at k
      refine q_when (et_not (et_B (ev_allB (el_mapI (fun x => V.bl (decide (0 ≤ x) && decide (x < (L.length : Int)))) (hf e1 rfl) (ex_l e1 hl) hz fun y H2 e2 hy => ev_callV (ea2 (ev_var rfl) (ev_var rfl)) (sv_is_place (hL.ex (e1.trans e2))))))) (fun hb2 H2 e2 => ?_) (fun hb2 H2 e2 => ?_)
      · rw [Bool.not_eq_true'] at hb2
        rw [hb2, Bool.false_and] at k
        exact s_ret ev_c fun H3 e3 => k H3 ((e1.trans e2).trans e3)
      · rw [Bool.not_eq_false'] at hb2
        rw [hb2, Bool.true_and] at k
        have e12 := e1.trans e2
        have h64 := hL.2.2
        refine ret_V k e12 (ev_allB (L := List.range L.length) (f := fun k => decide (decide ((k : Int) ∈ ps) = decide ((st L k : Int) ∈ ps))) ?_)
        rw [← nl_len L, ← given_all]
        refine el_lcE (by decide) (fun _ => true) _ (ev_var rfl) (hL.ex e12).sq (by rw [nl_len]; omega) (fun _ _ _ _ _ => et_yes) fun k x H3 e3 hk _ => ?_
        obtain ⟨y, hy, rfl, hl2⟩ := nl_inv hk
        have ey : y = st L k := by
          rw [st_get hl2] at hy
          exact (Option.some.inj hy).symm
        subst ey
        exact ev_op (ev_op (ev_var rfl) (hf (e12.trans e3) rfl) (rv_inI (ex_l (e12.trans e3) hl) rfl)) (ev_op (ev_var rfl) (hf (e12.trans e3) rfl) (rv_inI (ex_l (e12.trans e3) hl) rfl)) (rv_eqBl rfl)
abbrev s_Root___init__ : Stmt := inClass (topS 18) 0
abbrev N_Root___init__ : List Str := ["self", "leading"]
theorem sc_Root___init__ : FnScope N_Root___init__ ["self", "leading"] (defScope s_Root___init__) := ⟨rfl, rfl, rfl, by decide +kernel, rfl, by decide +kernel, by decide +kernel⟩
theorem ok_Root___init__ {f : Addr} {fd : FuncData} (F : Fun K "__init__" "Root.__init__" s_Root___init__ f fd) (B : Bl mg) (C : Cl K mg c) : FnOk P w K mg base CX0 1 f fd ["self", "leading"] (spInitL K c.Root "leading") := by
  refine F.ok sc_Root___init__ (fun vs H Q E h => ?_) (fun cdv A outer s H vs Q E hr h => ?_)
  · obtain ⟨x, dx, b, xs, rfl, _⟩ := h
    rfl
  · obtain ⟨x, dx, b, xs, rfl, hx, hb, q⟩ := h
    refine ⟨_, (pss_one (ps_fldK (K := K) rfl (pv 0) (pe_callTy (call_listK (K := K) rfl) (by rfl) B.list_ bo_list (pa_cons (pv 1) pa_nil)) rfl)), ?_⟩
    exact s_fldL C.Root.cl C.na_Root_leading (el_listOf (ev_var rfl) hb) (ev_var rfl) hx (by decide) fun l H1 nl e hl => q _ l (fun b o hb h => by rw [upd_ne hb]; exact e _ _ h) nl upd_same (by rw [upd_ne (fun z => by rw [z, hx] at nl; cases nl)]; exact hl)
abbrev s_Root_shows : Stmt := inClass (topS 18) 1
abbrev N_Root_shows : List Str := ["self", "leading", "place"]
theorem sc_Root_shows : FnScope N_Root_shows ["self", "leading"] (defScope s_Root_shows) := ⟨rfl, rfl, rfl, by decide +kernel, rfl, by decide +kernel, by decide +kernel⟩
def rootB (L : List Nat) (ns : List Int) : Bool := decide (ns.length = L.length) && ((ns.all fun x => decide (0 ≤ x) && decide (x < (L.length : Int))) && decide (ns.map (fun x => ns.getD x.toNat 0) = L.map fun (x : Nat) => (x : Int)))
def spRootShows (K : PySem.W.Frag) (C : Addr) : Sp := fun vs H Q _ => ∃ (x dx a l : Addr) (L : List Nat) (ns : List Int), vs = [.ref x, .ref a] ∧ H x = some (.ins C dx [("leading", .ref l)]) ∧ SqL K H l (il ns) ∧ ns.length ≤ 40000 ∧ IsLd H a L ∧ RetV (.bl (rootB L ns)) H Q
theorem sv_Root_shows {K : PySem.W.Frag} {H : Hp} {C x dx a l : Addr} {L : List Nat} {ns : List Int} {b : Bool} (h : H x = some (.ins C dx [("leading", .ref l)])) (hl : SqL K H l (il ns)) (hz : ns.length ≤ 40000) (hL : IsLd H a L) (e : rootB L ns = b) : SpV (spRootShows K C) [.ref x, .ref a] H (.bl b) :=
  fun _ e1 _ k _ => ⟨x, dx, a, l, L, ns, rfl, e1 _ _ h, ex_l e1 hl, hz, hL.ex e1, by rw [e]; exact k⟩
theorem ok_Root_shows {f : Addr} {fd : FuncData} (F : Fun K "shows" "Root.shows" s_Root_shows f fd) (B : Bl mg) (C : Cl K mg c) (D_is_place : Dk P w K mg base CX0 1 "is_place" ["leading", "place"] spIsPlace) : FnOk P w K mg base CX0 2 f fd ["self", "leading"] (spRootShows K c.Root) := by
  refine F.ok sc_Root_shows (fun vs H Q E h => ?_) (fun cdv A outer s H vs Q E hr h => ?_)
  · obtain ⟨x, dx, a, l, L, ns, rfl, _⟩ := h
    rfl
  · obtain ⟨x, dx, a, l, L, ns, rfl, hx, hl, hz, hL, k⟩ := h
    refine ⟨_, (pss_cons (ps_if (PW.pt (pw_or (pt_cmpR op_ne (pe_callB (call_lenK (K := K) rfl) (by rfl) B.len_ bo_len (pa_cons (pe_fldK (K := K) rfl (pv 0) rfl) pa_nil)) (pe_callB (call_lenK (K := K) rfl) (by rfl) B.len_ bo_len (pa_cons (pv 1) pa_nil)) (nomark _)) (pw_or1 (pt_not (pt_val (pe_callB (cr_allK (K := K) rfl rfl) (by rfl) B.all_ bo_all (pa_cons (pe_lc (own := [("place", 2)]) (g := gName 2) (tt := tYes) rfl sc_Root_shows.nd (pi_list (pe_fldK (K := K) rfl (pv 0) rfl)) (blkOk_by (N := N_Root_shows) (sc := defScope s_Root_shows) (by decide +kernel)) (fun _ _ _ _ _ => (pg_name (i := 2) sc_Root_shows.nd rfl (Or.inl rfl))) (fun _ _ _ _ _ => pts_nil) (fun _ _ _ _ _ => (pe_callD D_is_place (hr.mono (by decide)) (by rfl) pass0 (pa_cons (pv 1) (pa_cons (pv 2) pa_nil))))) pa_nil)))))))
    (pss_one (ps_ret pe_bl))
    pss_nil)
    (pss_one (ps_ret (pe_cmpR (op_eqK (K := K) rfl hr.units) (pe_lc (own := [("place", 2)]) (g := gName 2) (tt := tYes) rfl sc_Root_shows.nd (pi_list (pe_fldK (K := K) rfl (pv 0) rfl)) (blkOk_by (N := N_Root_shows) (sc := defScope s_Root_shows) (by decide +kernel)) (fun _ _ _ _ _ => (pg_name (i := 2) sc_Root_shows.nd rfl (Or.inl rfl))) (fun _ _ _ _ _ => pts_nil) (fun _ _ _ _ _ => (pe_ix (ix_listK (K := K) rfl) (pe_fldK (K := K) rfl (pv 0) rfl) (pv 2) (fun _ _ => rfl)))) (pv 1) (nomark _))))), ?_⟩
    have hf : ∀ {σ : L2.St} {H' : Hp}, Ex H H' → σ[0]? = some (some (.ref x)) → Ev (tFld K (tVar 0) "leading") σ H' (.ref l) := fun e h0 => ev_fld C.Root.cl C.na_Root_leading (ev_var h0) (e _ _ hx) look1
    have h64 := hL.2.2
    unfold rootB at k
    refine q_when (et_or (et_test (ev_op (ev_lenIl (hf (Ex.refl H) rfl) hl) (ev_lenNl (ev_var rfl) hL.sq) (rv_neB rfl))) fun _ => et_not (et_B (ev_allB (el_mapI (fun x => V.bl (decide (0 ≤ x) && decide (x < (L.length : Int)))) (hf (Ex.refl H) rfl) hl hz fun y H2 e2 hy => ev_callV (ea2 (ev_var rfl) (ev_var rfl)) (sv_is_place (hL.ex e2)))))) (fun hb H1 e1 => ?_) (fun hb H1 e1 => ?_)
    · refine s_ret ev_c fun H2 e2 => ?_
      rw [Bool.or_eq_true, Bool.not_eq_true', Bool.not_eq_true', decide_eq_false_iff_not] at hb
      rcases hb with hb | hb
      · rw [decide_eq_false (show ¬ ns.length = L.length by omega), Bool.false_and] at k
        exact k H2 (e1.trans e2)
      · rw [hb, Bool.false_and, Bool.and_false] at k
        exact k H2 (e1.trans e2)
    · rw [Bool.or_eq_false_iff, Bool.not_eq_false', Bool.not_eq_false', decide_eq_true_eq] at hb
      obtain ⟨hb1, hb2⟩ := hb
      have hlen : ns.length = L.length := by omega
      rw [decide_eq_true hlen, hb2, Bool.true_and, Bool.true_and] at k
      refine ret_V k e1 (ev_opL1 (xs := il (ns.map fun x => ns.getD x.toNat 0)) ?_ (fun H2 e2 => ev_var rfl) fun p H2 h2 e2 => ?_)
      · unfold il
        rw [List.map_map]
        refine el_mapI (fun x => V.int (ns.getD x.toNat 0)) (hf e1 rfl) (ex_l e1 hl) hz fun y H2 e2 hy => ?_
        have hy2 := List.all_eq_true.mp hb2 y hy
        rw [Bool.and_eq_true, decide_eq_true_eq, decide_eq_true_eq] at hy2
        obtain ⟨z, rfl⟩ := Int.eq_ofNat_of_zero_le hy2.1
        have hzl : z < ns.length := by omega
        refine ev_op (hf (e1.trans e2) rfl) (ev_var rfl) (rv_ixL (ex_l (e1.trans e2) hl) (atI_nat ?_))
        show (il ns)[z]? = some (V.int (ns.getD z 0))
        unfold il
        rw [List.getElem?_map, List.getD_eq_getElem?_getD, List.getElem?_eq_getElem hzl]
        rfl
      · have hL2 := (hL.ex (e1.trans e2)).sq (K := K)
        rw [nl_il] at hL2
        exact rv_eqI (sq_of h2) hL2
abbrev s_Odd___init__ : Stmt := inClass (topS 19) 0
abbrev N_Odd___init__ : List Str := ["self", "length", "rings", "ring"]
theorem sc_Odd___init__ : FnScope N_Odd___init__ ["self", "length", "rings"] (defScope s_Odd___init__) := ⟨rfl, rfl, rfl, by decide +kernel, rfl, by decide +kernel, by decide +kernel⟩
theorem odd_look (i j : V) : List.lookup ("rings" : Str) ([("length", i), ("rings", j)] : List (Str × V)) = some j := lookB (by decide +kernel)
theorem odd_put (i j : V) : putF "rings" j ([("length", i)] : List (Str × V)) = ([("length", i), ("rings", j)] : List (Str × V)) := putB (f := ("rings" : Str)) (g := ("length" : Str)) (by decide +kernel)
def spInitO (K : PySem.W.Frag) (C : Addr) : Sp := fun vs H Q _ => ∃ (x dx b : Addr) (m : Int) (Ls : List (List Nat)), vs = [.ref x, .int m, .ref b] ∧ H x = some (.ins C dx []) ∧ IsLL K H b Ls ∧ Ls.length ≤ 40000 ∧
  ∀ H' l rs, ExB x H H' → NLL H H' l rs Ls → H' x = some (.ins C dx [("length", .int m), ("rings", .ref l)]) → Q .non H'
theorem lls_at {K : PySem.W.Frag} {H : Hp} : ∀ {rs : List Addr} {Ls : List (List Nat)}, LLs K H rs Ls → ∀ {i : Nat} {r : Addr} {l : List Nat}, rs[i]? = some r → Ls[i]? = some l → SqL K H r (nl l)
  | _, _, .nil, i, r, l, h, _ => by
    rw [List.getElem?_nil] at h
    cases h
  | _, _, .cons a t, 0, r, l, h1, h2 => by
    cases h1
    cases h2
    exact a
  | _, _, .cons a t, i + 1, r, l, h1, h2 => lls_at t (i := i) h1 h2
theorem none_back {H : Hp} {p x dx : Addr} {o o' : HO} (h : L2.upd (L2.upd H dx o') x o p = none) : H p = none := by
  have h1 : p ≠ x := fun e => by
    rw [e, upd_same] at h
    cases h
  rw [upd_ne h1] at h
  by_cases h2 : p = dx
  · rw [h2, upd_same] at h
    cases h
  · rw [upd_ne h2] at h
    exact h
theorem tmkO {K : PySem.W.Frag} {σ : L2.St} {H : Hp} {C b : Addr} {E : XK} {ta tb : TE} {m : Int} {Ls : List (List Nat)} {Q : VK} (h : Ev ta σ H (.int m)) (h2 : Ev tb σ H (.ref b)) (hb : IsLL K H b Ls) (hz : Ls.length ≤ 40000)
    (k : ∀ x dx l rs H2, H x = none → Ex H H2 → NLL H H2 l rs Ls → H2 x = some (.ins C dx [("length", .int m), ("rings", .ref l)]) → Q (.ref x) H2) : tMake C (spInitO K C) [] E (tCons ta (tCons tb tNil)) σ H Q :=
  h H (Ex.refl H) _ fun H0 e0 => h2 H0 e0 _ fun H1 e1 x dx nx ndx ne => ⟨x, dx, b, m, Ls, rfl, upd_same, (hb.ex (e0.trans e1)).ex (fun c o e => by rw [upd_ne (ne_of_none e nx), upd_ne (ne_of_none e ndx)]; exact e), hz, fun H' l rs eB hN hx =>
    ⟨rfl, k x dx l rs H' (fresh_back (e0.trans e1) nx) ((e0.trans e1).trans (ex_made nx ndx eB)) ⟨fresh_back (e0.trans e1) (none_back hN.fp), fun r hr => fresh_back (e0.trans e1) (none_back (hN.frs r hr)), hN.top, hN.el, hN.nd⟩ hx⟩⟩
theorem ok_Odd___init__ {f : Addr} {fd : FuncData} (F : Fun K "__init__" "Odd.__init__" s_Odd___init__ f fd) (B : Bl mg) (C : Cl K mg c) : FnOk P w K mg base CX0 1 f fd ["self", "length", "rings"] (spInitO K c.Odd) := by
  refine F.ok sc_Odd___init__ (fun vs H Q E h => ?_) (fun cdv A outer s H vs Q E hr h => ?_)
  · obtain ⟨x, dx, b, m, Ls, rfl, _⟩ := h
    rfl
  · obtain ⟨x, dx, b, m, Ls, rfl, hx, ⟨srcs, hb, hel⟩, hz, q⟩ := h
    refine ⟨_, (pss_cons (ps_fldK (K := K) rfl (pv 0) (pv 1) rfl)
    (pss_one (ps_fldK (K := K) rfl (pv 0) (pe_lc (own := [("ring", 3)]) (g := gName 3) (tt := tYes) rfl sc_Odd___init__.nd (pi_list (pv 2)) (blkOk_by (N := N_Odd___init__) (sc := defScope s_Odd___init__) (by decide +kernel)) (fun _ _ _ _ _ => (pg_name (i := 3) sc_Odd___init__.nd rfl (Or.inl rfl))) (fun _ _ _ _ _ => pts_nil) (fun _ _ _ _ _ => (pe_callTy (call_listK (K := K) rfl) (by rfl) B.list_ bo_list (pa_cons (pv 3) pa_nil)))) rfl))), ?_⟩
    refine q_fld C.Odd.cl C.na_Odd_length (ev_var rfl) (ev_var rfl) hx (by decide) fun H1 e1 => ?_
    have hb1 : SqL K (L2.upd H1 x (.ins c.Odd dx (putF "length" (.int m) []))) b (srcs.map V.ref) := sq_ins (e1 _ _ hx) (ex_l e1 hb)
    have hel1 : LLs K (L2.upd H1 x (.ins c.Odd dx (putF "length" (.int m) []))) srcs Ls := Paired.mapP hel fun _ _ h => sq_ins (e1 _ _ hx) (ex_l e1 h)
    have hsl := Paired.length hel1
    refine s_fldLL C.Odd.cl C.na_Odd_rings (ell_map (ev_var rfl) hb1 hsl (by omega) fun i r l H2 e2 hr hl => ?_) (ev_var rfl) upd_same (by show 1 < 1000; decide) fun l rs H2 e2 hN => ?_
    · exact el_listOf (ev_var rfl) (ex_l e2 (lls_at hel1 hr hl))
    · have nx2 : ∀ r, L2.upd H1 x (.ins c.Odd dx (putF "length" (.int m) [])) r = none → r ≠ x := fun r h e => by
        rw [e, upd_same] at h
        cases h
      have back : ∀ r, L2.upd H1 x (.ins c.Odd dx (putF "length" (.int m) [])) r = none → H r = none := fun r h => by
        rw [upd_ne (nx2 r h)] at h
        exact fresh_back e1 h
      refine q _ l rs (fun b o hb h => ?_) ⟨back _ hN.fp, fun r hr => back _ (hN.frs r hr), ?_, hN.el.upd fun hm => nx2 _ (hN.frs _ hm) rfl, hN.nd⟩ ?_
      · rw [upd_ne hb]
        exact e2 _ _ (by rw [upd_ne hb]; exact e1 _ _ h)
      · rw [upd_ne (nx2 _ hN.fp)]
        exact hN.top
      · rw [upd_same]
        exact congrArg (fun z => some (HO.ins c.Odd dx z)) (odd_put (.int m) (.ref l))
abbrev s_Odd_shows : Stmt := inClass (topS 19) 1
abbrev N_Odd_shows : List Str := ["self", "leading", "seen", "found", "first", "ring", "place"]
theorem sc_Odd_shows : FnScope N_Odd_shows ["self", "leading"] (defScope s_Odd_shows) := ⟨rfl, rfl, rfl, by decide +kernel, rfl, by decide +kernel, by decide +kernel⟩
noncomputable def oddB (L : List Nat) (m : Int) (Ls : List (List Nat)) : Bool := (!decide (m < 2) && (!decide (m.fmod 2 = 1) && !decide (Ls.length % 2 = 0))) && decide (ofLen L m.toNat = Ls)
def spOddShows (K : PySem.W.Frag) (C : Addr) : Sp := fun vs H Q _ => ∃ (x dx a l : Addr) (L : List Nat) (m : Int) (Ls : List (List Nat)), vs = [.ref x, .ref a] ∧ H x = some (.ins C dx [("length", .int m), ("rings", .ref l)]) ∧ IsLL K H l Ls ∧ Ls.length ≤ 40000 ∧ IsLd H a L ∧ L.Nodup ∧ RetV (.bl (oddB L m Ls)) H Q
theorem sv_Odd_shows {K : PySem.W.Frag} {H : Hp} {C x dx a l : Addr} {L : List Nat} {m : Int} {Ls : List (List Nat)} {b : Bool} (h : H x = some (.ins C dx [("length", .int m), ("rings", .ref l)])) (hl : IsLL K H l Ls) (hz : Ls.length ≤ 40000) (hL : IsLd H a L) (nd : L.Nodup) (e : oddB L m Ls = b) : SpV (spOddShows K C) [.ref x, .ref a] H (.bl b) :=
  fun _ e1 _ k _ => ⟨x, dx, a, l, L, m, Ls, rfl, e1 _ _ h, hl.ex e1, hz, hL.ex e1, nd, by rw [e]; exact k⟩
theorem ok_Odd_shows {f : Addr} {fd : FuncData} (F : Fun K "shows" "Odd.shows" s_Odd_shows f fd) (B : Bl mg) (C : Cl K mg c) : FnOk P w K mg base CX0 1 f fd ["self", "leading"] (spOddShows K c.Odd) := by
  refine F.ok sc_Odd_shows (fun vs H Q E h => ?_) (fun cdv A outer s H vs Q E hr h => ?_)
  · obtain ⟨x, dx, a, l, L, m, Ls, rfl, _⟩ := h
    rfl
  · obtain ⟨x, dx, a, l, L, m, Ls, rfl, hx, hl, hz, hL, hND, q⟩ := h
    have hu := hu_of hr
    refine ⟨_, (pss_cons (ps_if (PW.pt (pw_or (pt_cmpR op_lt (pe_fldK (K := K) rfl (pv 0) rfl) pe_int (nomark _)) (pw_or (pt_cmpR op_eq (pe_op op_modN (pe_fldK (K := K) rfl (pv 0) rfl) pe_int) pe_int (nomark _)) (pw_or1 (pt_cmpR op_eq (pe_op op_modN (pe_callB (call_lenK (K := K) rfl) (by rfl) B.len_ bo_len (pa_cons (pe_fldK (K := K) rfl (pv 0) rfl) pa_nil)) pe_int) pe_int (nomark _))))))
    (pss_one (ps_ret pe_bl))
    pss_nil)
    (pss_cons (ps_set (i := 2) sc_Odd_shows.nd rfl (Or.inl rfl) pe_dnewK)
    (pss_cons (ps_set (i := 3) sc_Odd_shows.nd rfl (Or.inl rfl) (pe_lst pa_nil))
    (pss_cons (ps_for PassesOwn.never rfl (pi_range1 (by rfl) B.range_ (pa_cons (pe_callB (call_lenK (K := K) rfl) (by rfl) B.len_ bo_len (pa_cons (pv 1) pa_nil)) pa_nil)) (pg_name (i := 4) sc_Odd_shows.nd rfl (Or.inl rfl))
    (pss_cons (ps_set (i := 5) sc_Odd_shows.nd rfl (Or.inl rfl) (pe_lst pa_nil))
    (pss_cons (ps_set (i := 6) sc_Odd_shows.nd rfl (Or.inl rfl) (pv 4))
    (pss_cons (ps_while PassesOwn.never (pt_cmp (pc_dnotin hu (pv 6) (pv 2)))
    (pss_cons (ps_dput hu (pv 2) (pv 6) pe_bl rfl)
    (pss_cons (ps_expr (pe_bm PySem.F.plainAttrs_list PySem.F.slot_list_append PySem.F.type_list_append mt_append (pv 5) (pa_cons (pv 6) pa_nil)))
    (pss_one (ps_set (i := 6) sc_Odd_shows.nd rfl (Or.inl rfl) (pe_ix (ix_listK (K := K) rfl) (pv 1) (pv 6) (fun _ _ => rfl)))))))
    (pss_one (ps_if (PW.pt (pw_and (pt_cmpR op_eq (pe_callB (call_lenK (K := K) rfl) (by rfl) B.len_ bo_len (pa_cons (pv 5) pa_nil)) (pe_fldK (K := K) rfl (pv 0) rfl) (nomark _)) (pw_and1 (pt_cmpR op_eq (pv 6) (pv 4) (nomark _)))))
    (pss_one (ps_expr (pe_bm PySem.F.plainAttrs_list PySem.F.slot_list_append PySem.F.type_list_append mt_append (pv 3) (pa_cons (pv 5) pa_nil))))
    pss_nil))))))
    (pss_one (ps_ret (pe_cmpR (op_eqK (K := K) rfl hr.units) (pv 3) (pe_fldK (K := K) rfl (pv 0) rfl) (nomark _)))))))), ?_⟩
    have h63 := hL.2.2
    have hLd := hL.2.1
    have hfl : ∀ {σ : L2.St} {H' : Hp}, Ex H H' → σ[0]? = some (some (.ref x)) → Ev (tFld K (tVar 0) "length") σ H' (.int m) := fun e h0 => ev_fld C.Odd.cl C.na_Odd_length (ev_var h0) (e _ _ hx) lookA
    have hfr2 : ∀ {σ : L2.St} {H' : Hp}, Ex H H' → σ[0]? = some (some (.ref x)) → Ev (tFld K (tVar 0) "rings") σ H' (.ref l) := fun e h0 => ev_fld C.Odd.cl C.na_Odd_rings (ev_var h0) (e _ _ hx) (odd_look _ _)
    obtain ⟨srcs, hsq, hLLs⟩ := id hl
    have hsl : srcs.length = Ls.length := Paired.length hLLs
    have hlen : Ev (tCB (rLen1 K) (tCons (tFld K (tVar 0) "rings") tNil)) [some (.ref x), some (.ref a), none, none, none, none, none] H (.int (Ls.length : Int)) := by
      have h := ev_lenL (K := K) (hfr2 (σ := [some (.ref x), some (.ref a), none, none, none, none, none]) (Ex.refl H) rfl) hsq
      rw [List.length_map, hsl] at h
      exact h
    unfold oddB at q
    refine q_when (b := decide (m < 2) || (decide (m.fmod 2 = 1) || decide (Ls.length % 2 = 0))) (et_or (et_test (ev_op (hfl (Ex.refl H) rfl) ev_c rv_I0)) fun _ => et_or (et_test (ev_op (ev_op (hfl (Ex.refl H) rfl) ev_c (rv_I (by decide))) ev_c (rv_eqB rfl))) fun _ => et_test (ev_op (ev_op hlen ev_c (rv_IW (by decide) (vmod Ls.length 2))) ev_c (rv_eqB (decide_eq_decide.mpr ⟨fun h => by omega, fun h => by omega⟩)))) (fun hb H1 e1 => ?_) (fun hb H1 e1 => ?_)
    · have e : (!decide (m < 2) && (!decide (m.fmod 2 = 1) && !decide (Ls.length % 2 = 0))) = false := by
        rw [← Bool.not_or, ← Bool.not_or, hb]
        rfl
      rw [e, Bool.false_and] at q
      exact s_ret ev_c fun H2 e2 => q H2 (e1.trans e2)
    have e : (!decide (m < 2) && (!decide (m.fmod 2 = 1) && !decide (Ls.length % 2 = 0))) = true := by
      rw [← Bool.not_or, ← Bool.not_or, hb]
      rfl
    rw [e, Bool.true_and] at q
    have hm2 : 2 ≤ m := by
      rw [Bool.or_eq_false_iff, decide_eq_false_iff_not] at hb
      omega
    generalize hM : m.toNat = M at q
    have hmM : m = (M : Int) := by omega
    refine q_dnewK fun d H2 nd e2 hd => ?_
    refine q_asgL (el_lst ea_nil (Nat.zero_le _)) fun fn H3 nf e3 hf => ?_
    have e0 := (e1.trans e2).trans e3
    have nd0 : H d = none := fresh_back e1 nd
    have nf0 : H fn = none := fresh_back (e1.trans e2) nf
    have hd0 := hd.ex e3
    have hf0 := hf
    refine q_forR1 (n := (L.length : Int)) (ea1 (ev_lenNl (ev_var rfl) (hL.ex e0).sq)) (by omega)
      (fun k σ' H' => ∃ (ks : List Nat) (rs : List Addr) (y4 y5 y6 : Option V), σ' = [some (.ref x), some (.ref a), some (.ref d), some (.ref fn), y4, y5, y6] ∧ Ex H H' ∧ DKs H' d ks ∧ ks.Nodup ∧ (∀ z, z ∈ ks ↔ z ∈ (rgs L k).flatten) ∧
        H' fn = some (.lst (rs.map V.ref)) ∧ AllAt H' rs ((rgs L k).filter fun r => decide (r.length = M)) ∧ (∀ r ∈ rs, H r = none) ∧ (fn :: rs).Nodup)
      (fun H4 e4 => ⟨[], [], _, _, _, rfl, e0.trans e4, hd0.ex e4, List.nodup_nil, fun z => Iff.rfl, e4 _ _ hf0, .nil, fun r hr => (nomatch hr), List.nodup_cons.mpr ⟨List.not_mem_nil, List.nodup_nil⟩⟩) (fun k σ' H' hk hP => ?_) (fun σ' H' hP => ?_)
    · obtain ⟨ks, rs, y4, y5, y6, rfl, eH, hD, nk, hks, hfn, hel, hfr, hnd⟩ := hP
      have hkl : k < L.length := by omega
      have hor := onR_all hLd hND hkl
      have hR := rgs_ok hLd k (by omega)
      have hkslen := flat_nodup_len hLd (by omega) nk fun x hx => (hks x).mp hx
      have hrl : rs.length ≤ k := by
        rw [hel.len]
        have h1 := List.length_filter_le (fun r => decide (r.length = M)) (rgs L k)
        have h2 := rgs_len L k
        omega
      obtain ⟨kv0, hkv0⟩ := hD.some
      have hdf : d ≠ fn := ne_of hkv0 hfn (fun z => by cases z)
      have hdr : d ∉ rs := fun h => by
        obtain ⟨l, _, h2⟩ := hel.mem h
        rw [hkv0] at h2
        cases h2
      have ho := per_orb hLd hkl
      refine q_asgL (el_lst ea_nil (Nat.zero_le _)) fun rg H5 nrg e5 hrg => ?_
      refine q_asg (ev_var rfl) fun H6 e6 => ?_
      have e46 := e5.trans e6
      have nrg0 : H rg = none := fresh_back eH nrg
      have hrgd : rg ≠ d := (ne_of_none hkv0 nrg).symm
      have hrgf : rg ≠ fn := (ne_of_none hfn nrg).symm
      have hrgr : rg ∉ rs := fun h => by
        obtain ⟨l, _, h2⟩ := hel.mem h
        rw [h2] at nrg
        cases nrg
      refine q_while (fun t σ' H' => ∃ (j : Nat) (ks' : List Nat), t = L.length - j ∧ σ' = [some (.ref x), some (.ref a), some (.ref d), some (.ref fn), some (.int (k : Int)), some (.ref rg), some (.int (it L j k : Int))] ∧ Ex H H' ∧ DKs H' d ks' ∧ ks'.Nodup ∧ (∀ x, x ∈ ks' ↔ x ∈ ks ∨ x ∈ path L k j) ∧
          H' fn = some (.lst (rs.map V.ref)) ∧ AllAt H' rs ((rgs L k).filter fun r => decide (r.length = M)) ∧ H' rg = some (.lst (nl (path L k j))) ∧ (∀ x y, x < y → y < j → it L x k ≠ it L y k) ∧ (0 < j → k ∉ (rgs L k).flatten)) (L.length - 0)
        ⟨0, ks, rfl, rfl, eH.trans e46, hD.ex e46, nk, fun x => ⟨.inl, fun h => h.elim id fun h => by obtain ⟨_, hx, _⟩ := mem_path.mp h; omega⟩, e46 _ _ hfn, hel.ex e46, e6 _ _ hrg, fun _ y _ h => absurd h (Nat.not_lt_zero y), fun h => absurd h (Nat.lt_irrefl 0)⟩ fun t σ' H' hW => ?_
      obtain ⟨j, ks', rfl, rfl, eH', hD', nk', hks', hfn', hel', hrg', hinj, hnew⟩ := hW
      have hjl : it L j k < L.length := it_lt hLd j hkl
      refine ⟨_, et_B (ev_dnotinK (ev_var rfl) (ev_var rfl) hD' rfl), fun hb2 H7 e7 => ?_, fun hb2 H7 e7 => ?_⟩
      · rw [Bool.not_eq_true', decide_eq_false_iff_not] at hb2
        have hnk : k ∉ (rgs L k).flatten := by
          cases j with
          | zero => exact fun h => hb2 ((hks' _).mpr (.inl ((hks k).mpr h)))
          | succ j => exact hnew (Nat.succ_pos j)
        have hinj2 : ∀ x y, x < y → y < j + 1 → it L x k ≠ it L y k := fun x y hxy hy e => by
          by_cases ey : y = j
          · subst ey
            exact hb2 ((hks' _).mpr (.inr (mem_path.mpr ⟨x, hxy, e.symm⟩)))
          · exact hinj x y hxy (by omega) e
        have hjn := inj_le hLd hkl hinj2
        have hks'len : ks'.length ≤ 2 * L.length := by
          have h1 := nodup_len nk' (n := L.length) fun x hx => ((hks' x).mp hx).elim (fun h => by
            obtain ⟨r, hr, hxr⟩ := List.mem_flatten.mp ((hks x).mp h)
            exact (hR.lt r hr x hxr).1) fun h => path_lt hLd hkl j h
          omega
        refine ⟨_, fun σ2 H2 h => h, ?_⟩
        refine q_dputK ev_c (ev_var rfl) (ev_var rfl) (hD'.ex e7) (by omega) fun H8 e8 o hD8 => ?_
        have e78 := e7.trans e8
        have eH8 : Ex H (L2.upd H8 d o) := Ex.mut (eH'.trans e78) nd0
        have hrg8 : L2.upd H8 d o rg = some (.lst (nl (path L k j))) := by
          rw [upd_ne hrgd]
          exact e78 _ _ hrg'
        refine q_app hrg8 (ev_var rfl) (ev_var rfl) (by rw [nl_len, path_len]; omega) fun H9 e9 => ?_
        have eH9 : Ex H (L2.upd H9 rg (.lst (nl (path L k j) ++ [V.int (it L j k : Int)]))) := Ex.mut (eH8.trans e9) nrg0
        refine s_asg (ev_op (ev_var rfl) (ev_var rfl) (rv_ixN (hL.ex eH9).sq hjl)) fun H10 e10 => ?_
        refine ⟨_, ?_, j + 1, _, rfl, by rw [it_succ]; rfl, eH9.trans e10, ((hD8.ex e9).upd hrgd.symm).ex e10, nodup_addK nk', fun x => ?_, ?_, ?_, ?_, hinj2, fun _ => hnk⟩
        · omega
        · rw [mem_addK, hks' x, path_succ, List.mem_append, List.mem_singleton, or_assoc]
        · refine e10 _ _ ?_
          rw [upd_ne hrgf.symm]
          refine e9 _ _ ?_
          rw [upd_ne hdf.symm]
          exact e78 _ _ hfn'
        · exact (((hel'.ex e78).upd hdr).ex e9 |>.upd hrgr).ex e10
        · rw [e10 _ _ upd_same, path_succ]
          unfold nl
          rw [List.map_append]
          rfl
      · rw [Bool.not_eq_false', decide_eq_true_eq] at hb2
        by_cases hin0 : k ∈ (rgs L k).flatten
        · have hj0 : j = 0 := Classical.byContradiction fun h => hnew (Nat.pos_of_ne_zero h) hin0
          subst hj0
          have hks0 : ∀ x, x ∈ ks' ↔ x ∈ (rgs L (k + 1)).flatten := fun x => by
            rw [rgs_no fun h => h.2 hin0, hks' x, hks x]
            exact ⟨fun h => h.elim id fun h => by
              obtain ⟨z, hz, _⟩ := mem_path.mp h
              exact absurd hz (Nat.not_lt_zero z), .inl⟩
          refine s_when (b := false) (et_is (et_and (et_test (ev_op (ev_lenNl (ev_var rfl) (sq_of (e7 _ _ hrg'))) (hfl (eH'.trans e7) rfl) (rv_eqB rfl))) fun _ => et_test (ev_op (ev_var rfl) (ev_var rfl) (rv_eqB rfl))) (by rw [path_len, decide_eq_false (by omega), Bool.false_and])) (fun hb => nomatch hb) fun _ H8 e8 => ?_
          have e78 := e7.trans e8
          refine ⟨ks', rs, _, _, _, rfl, eH'.trans e78, hD'.ex e78, nk', hks0, e78 _ _ hfn', ?_, hfr, hnd⟩
          rw [rgs_no fun h => h.2 hin0]
          exact hel'.ex e78
        · have hj0 : 0 < j := Nat.pos_of_ne_zero fun e => by
            subst e
            exact hin0 ((hks k).mp (((hks' _).mp hb2).elim id fun h => by
              obtain ⟨z, hz, _⟩ := mem_path.mp h
              exact absurd hz (Nat.not_lt_zero z)))
          have hin : it L j k ∈ path L k j := ((hks' _).mp hb2).elim (fun h => absurd ((hks _).mp h) (rgs_new hLd hR hkl hor hin0 j)) id
          obtain ⟨z, hz, ez⟩ := mem_path.mp hin
          have hoj : Orb L k j := ⟨hj0, hinj, z, hz, ez⟩
          have hjp := ho.uniq hoj
          have hback : it L j k = k := orb_ring hoj hor
          have hring : ringAt L k = path L k j := by
            unfold ringAt
            rw [hjp]
          have hyes := rgs_yes hor hin0
          have hks0 : ∀ x, x ∈ ks' ↔ x ∈ (rgs L (k + 1)).flatten := fun x => by
            rw [hyes, hks' x, hks x, List.flatten_append, List.mem_append, List.flatten_singleton, hring]
          have hfnr : fn ∉ rs := (List.nodup_cons.mp hnd).1
          refine s_when (b := decide (j = M)) (et_is (et_and (et_test (ev_op (ev_lenNl (ev_var rfl) (sq_of (e7 _ _ hrg'))) (hfl (eH'.trans e7) rfl) (rv_eqB rfl))) fun _ => et_test (ev_op (ev_var rfl) (ev_var rfl) (rv_eqB rfl))) (by rw [path_len, hback, decide_eq_true (rfl : (k : Int) = (k : Int)), Bool.and_true, hmM]; exact decide_eq_decide.mpr ⟨fun h => by omega, fun h => by omega⟩)) (fun hb H8 e8 => ?_) (fun hb H8 e8 => ?_)
          · have hjM := of_decide_eq_true hb
            refine s_app ((e7.trans e8) _ _ hfn') (ev_var rfl) (ev_var rfl) (by rw [List.length_map]; omega) fun H9 e9 => ?_
            have e78 := (e7.trans e8).trans e9
            refine ⟨ks', rs ++ [rg], _, _, _, rfl, Ex.mut (eH'.trans e78) nf0, (hD'.ex e78).upd hdf, nk', hks0, ?_, ?_, fun r hr => ?_, ?_⟩
            · rw [upd_same, List.map_append]
              rfl
            · rw [hyes, List.filter_append, hring, show [path L k j].filter (fun r => decide (r.length = M)) = [path L k j] by rw [List.filter_cons, if_pos (decide_eq_true (by rw [path_len]; exact hjM))]; rfl]
              refine Paired.snoc ((hel'.ex e78).upd hfnr) ?_
              rw [upd_ne hrgf]
              exact e78 _ _ hrg'
            · rcases List.mem_append.mp hr with hr | hr
              · exact hfr r hr
              · rw [List.mem_singleton.mp hr]
                exact nrg0
            · rw [← List.cons_append, List.nodup_append]
              exact ⟨hnd, List.nodup_cons.mpr ⟨List.not_mem_nil, List.nodup_nil⟩, fun x hx y hy e => by
                rw [List.mem_singleton] at hy
                subst hy
                subst e
                rcases List.mem_cons.mp hx with h | h
                · exact hrgf h
                · exact hrgr h⟩
          · have hjM := of_decide_eq_false hb
            have e78 := e7.trans e8
            refine ⟨ks', rs, _, _, _, rfl, eH'.trans e78, hD'.ex e78, nk', hks0, e78 _ _ hfn', ?_, hfr, hnd⟩
            rw [hyes, List.filter_append, hring, show [path L k j].filter (fun r => decide (r.length = M)) = [] by rw [List.filter_cons, if_neg (by rw [decide_eq_true_eq, path_len]; exact hjM)]; rfl, List.append_nil]
            exact hel'.ex e78
    · obtain ⟨ks, rs, y4, y5, y6, rfl, eH, hD, nk, hks, hfn, hel, hfr, hnd⟩ := hP
      rw [Int.toNat_natCast] at hel
      have hel : AllAt H' rs (ofLen L M) := hel
      exact ret_V q eH (ev_op (ev_var rfl) (hfr2 eH rfl) (rv_eqLL ⟨rs, sq_of hfn, hel.lls⟩ (hl.ex eH)))
abbrev s_waits_of : Stmt := topS 21
abbrev N_waits_of : List Str := ["leading", "place", "many", "there", "waiting", "at", "found", "count"]
theorem sc_waits_of : FnScope N_waits_of ["leading"] (defScope s_waits_of) := ⟨rfl, rfl, rfl, by decide +kernel, rfl, by decide +kernel, by decide +kernel⟩
def spWaitsOf : Sp := fun vs H Q _ => ∃ (a : Addr) (L : List Nat), vs = [.ref a] ∧ IsLd H a L ∧ ∀ F : List Nat, F.length = L.length → (∀ x, x < L.length → IsWait L x (st F x)) → RetL (nl F) H Q
theorem ok_waits_of {f : Addr} {fd : FuncData} (F : Fun K "waits_of" "waits_of" s_waits_of f fd) (B : Bl mg) : FnOk P w K mg base CX0 1 f fd ["leading"] spWaitsOf := by
  refine F.ok sc_waits_of (fun vs H Q E h => ?_) (fun cdv A outer s H vs Q E hr h => ?_)
  · obtain ⟨a, L, rfl, _⟩ := h
    rfl
  · obtain ⟨a, L, rfl, hL, q⟩ := h
    refine ⟨_, (pss_cons (ps_setLc (i := 2) (own := [("place", 1)]) (g := gName 1) (tt := tYes) rfl sc_waits_of.nd rfl rfl (sw_true rfl rfl rfl (by decide +kernel)) (pi_list (pv 0)) (blkOk_by (N := N_waits_of) (sc := defScope s_waits_of) (by decide +kernel)) (fun _ _ _ _ _ => (pg_name (i := 1) sc_waits_of.nd rfl (Or.inl rfl))) (fun _ _ _ _ _ => pts_nil) (fun _ _ _ _ _ => pe_int))
    (pss_cons (ps_for PassesOwn.never rfl (pi_list (pv 0)) (pg_name (i := 3) sc_waits_of.nd rfl (Or.inl rfl))
    (pss_one (ps_asg (pe_op op_add (pe_ix (ix_listK (K := K) rfl) (pv 2) (pv 3) (fun _ _ => rfl)) pe_int) (pg_sub (pv 2) (pv 3) set_list))))
    (pss_cons (ps_setLc (i := 4) (own := [("place", 1), ("count", 7)]) (g := gTup K 2 (gCons (gName 1) (gCons (gName 7) gNil))) (tt := _) rfl sc_waits_of.nd rfl rfl (sw_true rfl rfl rfl (by decide +kernel)) (pi_enum (by rfl) B.enumerate_ (pa_cons (pv 2) pa_nil)) (blkOk_by (N := N_waits_of) (sc := defScope s_waits_of) (by decide +kernel)) (fun _ _ _ _ _ => (pg_tup (by rfl) (pgs_cons (pg_name (i := 1) sc_waits_of.nd rfl (Or.inl rfl)) (pgs_cons (pg_name (i := 7) sc_waits_of.nd rfl (Or.inl rfl)) pgs_nil)))) (fun _ _ _ _ _ => (pts_one (pt_cmpR op_eq (pv 7) pe_int (nomark _)))) (fun _ _ _ _ _ => (pv 1)))
    (pss_cons (ps_set (i := 5) sc_waits_of.nd rfl (Or.inl rfl) pe_int)
    (pss_cons (ps_while PassesOwn.never (pt_cmpR op_lt (pv 5) (pe_callB (call_lenK (K := K) rfl) (by rfl) B.len_ bo_len (pa_cons (pv 4) pa_nil)) (nomark _))
    (pss_cons (ps_set (i := 3) sc_waits_of.nd rfl (Or.inl rfl) (pe_ix (ix_listK (K := K) rfl) (pv 0) (pe_ix (ix_listK (K := K) rfl) (pv 4) (pv 5) (fun _ _ => rfl)) (fun _ _ => rfl)))
    (pss_cons (ps_asg (pe_op op_sub (pe_ix (ix_listK (K := K) rfl) (pv 2) (pv 3) (fun _ _ => rfl)) pe_int) (pg_sub (pv 2) (pv 3) set_list))
    (pss_cut (ps_if (pt_cmpR op_eq (pe_ix (ix_listK (K := K) rfl) (pv 2) (pv 3) (fun _ _ => rfl)) pe_int (nomark _))
    (pss_one (ps_expr (pe_bm PySem.F.plainAttrs_list PySem.F.slot_list_append PySem.F.type_list_append mt_append (pv 4) (pa_cons (pv 3) pa_nil))))
    pss_nil)
    (pss_one (ps_set (i := 5) sc_waits_of.nd rfl (Or.inl rfl) (pe_op op_add (pv 5) pe_int)))))))
    (pss_cons (ps_setLc (i := 6) (own := [("place", 1)]) (g := gName 1) (tt := tYes) rfl sc_waits_of.nd rfl rfl (sw_true rfl rfl rfl (by decide +kernel)) (pi_list (pv 0)) (blkOk_by (N := N_waits_of) (sc := defScope s_waits_of) (by decide +kernel)) (fun _ _ _ _ _ => (pg_name (i := 1) sc_waits_of.nd rfl (Or.inl rfl))) (fun _ _ _ _ _ => pts_nil) (fun _ _ _ _ _ => pe_int))
    (pss_cons (ps_for PassesOwn.never rfl (pi_reversed (by rfl) B.reversed_ (pa_cons (pv 4) pa_nil)) (pg_name (i := 1) sc_waits_of.nd rfl (Or.inl rfl))
    (pss_one (ps_asg (pe_op op_add (pe_ix (ix_listK (K := K) rfl) (pv 6) (pe_ix (ix_listK (K := K) rfl) (pv 0) (pv 1) (fun _ _ => rfl)) (fun _ _ => rfl)) pe_int) (pg_sub (pv 6) (pv 1) set_list))))
    (pss_one (ps_ret (pv 6)))))))))), ?_⟩
    have h63 := hL.2.2
    have hLd := hL.2.1
    -- many = [0 for place in leading]
    refine q_asgL (el_mapNc (ev_var rfl) hL.sq (by omega) fun x H1 e1 _ => ev_c) fun m H1 nm e1 hm => ?_
    -- for there in leading: many[there] = many[there] + 1
    refine q_forLn (ev_var rfl) (hL.ex e1).sq (fun i σ' H' => ∃ (y3 : Option V), σ' = [some (.ref a), none, some (.ref m), y3, none, none, none, none] ∧ Ex H H' ∧ H' m = some (.lst (nl (ct L i))))
      (fun H2 e2 => ⟨_, rfl, e1.trans e2, by
        rw [e2 _ _ hm, ct_zero]
        unfold nl
        rw [List.map_replicate]
        rfl⟩) (fun i σ' H' _ ⟨_, _, e, _⟩ => (hL.ex e).sq) (fun i x σ' H' hx hP => ?_) (fun σ' H' hP => ?_)
    · obtain ⟨y3, rfl, eH, hm'⟩ := hP
      obtain ⟨y, hy, rfl, hi⟩ := nl_inv hx
      have ey : y = st L i := by
        rw [st_get hi] at hy
        exact (Option.some.inj hy).symm
      subst ey
      have hs := st_lt hLd hi
      refine s_setL (j := st L i) hm' (ev_op (ev_op (ev_var rfl) (ev_var rfl) (rv_ixN (sq_of hm') (by rw [ct_len]; exact hs))) ev_c (rv_dec (vadd _ 1))) (ev_var rfl) (ev_var rfl) (by rw [nl_len, ct_len]; exact hs) fun H3 e3 => ?_
      refine ⟨_, rfl, Ex.mut (eH.trans e3) nm, ?_⟩
      rw [upd_same, nl_set, ct_st hs, ct_step hLd hi]
    · obtain ⟨y3, rfl, eH, hm'⟩ := hP
      rw [nl_len, ct_all] at hm'
      -- waiting = [place for place, count in enumerate(many) if count == 0]
      have hw := el_lcE (K := K) (i := 1) (j := 7) (σ := [some (.ref a), none, some (.ref m), y3, none, none, none, none]) (t := tTest (tOp rEq (tVar 7) (tC (.int 0)))) (te := tVar 1) (tl := tVar 2) (by decide) (fun k => decide (cnt L [] k = 0)) (fun k => .int (k : Int)) (ev_var rfl) (sq_of hm') (by rw [nl_len, cl_len]; omega) (fun k x H3 e3 hx => by
        obtain ⟨y, hy, rfl, hk⟩ := nl_inv hx
        rw [cl_len] at hk
        have ey : y = cnt L [] k := by
          rw [st_get (by rw [cl_len]; exact hk), cl_st hk] at hy
          exact (Option.some.inj hy).symm
        subst ey
        exact et_test (ev_op (ev_var rfl) ev_c (rv_eqB (decide_eq_decide.mpr ⟨fun h => by omega, fun h => by omega⟩)))) (fun k x H3 e3 hx _ => ev_var rfl)
      rw [nl_len, cl_len] at hw
      refine q_asgL hw fun wy H3 nw e3 hwy => ?_
      have hwy : H3 wy = some (.lst (nl (que0 L))) := hwy
      have nw0 : H wy = none := fresh_back eH nw
      have hne : wy ≠ m := (ne_of_none hm' nw).symm
      refine q_asg ev_c fun H4 e4 => ?_
      -- the while
      refine q_while (fun t σ' H' => ∃ (k : Nat) (W : List Nat) (y3 : Option V), t = L.length - k ∧ σ' = [some (.ref a), none, some (.ref m), y3, some (.ref wy), some (.int (k : Int)), none, none] ∧ Que L W k ∧ Ex H H' ∧ H' m = some (.lst (nl (cl L (W.take k)))) ∧ H' wy = some (.lst (nl W))) (L.length - 0)
        ⟨0, que0 L, _, rfl, rfl, que_start L, (eH.trans e3).trans e4, e4 _ _ (e3 _ _ hm'), e4 _ _ hwy⟩ fun t σ' H' hW => ?_
      obtain ⟨k, W, y3, rfl, rfl, hQ, eH', hm5, hw5⟩ := hW
      have hWl : W.length ≤ L.length := nodup_len hQ.nd hQ.lt
      refine ⟨_, et_test (ev_op (ev_var rfl) (ev_lenNl (ev_var rfl) (sq_of hw5)) rv_I0), fun hb H5 e5 => ?_, fun hb H5 e5 => ?_⟩
      · have hk : k < W.length := by
          have := of_decide_eq_true hb
          omega
        obtain ⟨y, hy⟩ : ∃ y, W[k]? = some y := ⟨W[k], List.getElem?_eq_getElem hk⟩
        have eyk : st W k = y := by
          rw [st_get hk] at hy
          exact Option.some.inj hy
        have hyl := hQ.lt y (List.mem_of_getElem? hy)
        have hyn := nodup_take hQ.nd hy
        have hsl := st_lt hLd hyl
        have hpos : 0 < cnt L (W.take k) (st L y) := cnt_pos hyl hyn rfl
        refine ⟨_, fun σ2 H2 h => h, ?_⟩
        have hm6 := e5 _ _ hm5
        have hw6 := e5 _ _ hw5
        refine q_asg (ev_op (ev_var rfl) (ev_op (ev_var rfl) (ev_var rfl) (rv_ixN (sq_of hw6) hk)) (by rw [eyk]; exact rv_ixN (hL.ex (eH'.trans e5)).sq hyl)) fun H6 e6 => ?_
        have hm7 := e6 _ _ hm6
        refine q_setL (j := st L y) hm7 (ev_op (ev_op (ev_var rfl) (ev_var rfl) (rv_ixN (sq_of hm7) (by rw [cl_len]; exact hsl))) ev_c (rv_dec (w := .int ((cnt L (W.take k) (st L y) - 1 : Nat) : Int)) (by rw [cl_st hsl]; congr 1; omega))) (ev_var rfl) (ev_var rfl) (by rw [nl_len, cl_len]; exact hsl) fun H7 e7 => ?_
        rw [nl_set, cl_step hLd hyl hyn]
        have eH7 : Ex H (upd H7 m (.lst (nl (cl L (W.take k ++ [y]))))) := Ex.mut (((eH'.trans e5).trans e6).trans e7) nm
        have hw7 : upd H7 m (.lst (nl (cl L (W.take k ++ [y])))) wy = some (.lst (nl W)) := by
          rw [upd_ne hne]
          exact e7 _ _ (e6 _ _ hw6)
        have hstep := que_step hLd hQ hy
        refine q_cut (M := fun σ' H' => ∃ (W' : List Nat), σ' = [some (.ref a), none, some (.ref m), some (.int (st L y : Int)), some (.ref wy), some (.int (k : Int)), none, none] ∧ Que L W' (k + 1) ∧ W'.take (k + 1) = W.take k ++ [y] ∧ Ex H H' ∧ H' m = some (.lst (nl (cl L (W'.take (k + 1))))) ∧ H' wy = some (.lst (nl W'))) ?_ fun σ' H' hM => ?_
        · refine s_when (et_test (ev_op (ev_op (ev_var rfl) (ev_var rfl) (rv_ixN (sq_of upd_same) (by rw [cl_len]; exact hsl))) ev_c (rv_eqB rfl))) (fun hb2 H8 e8 => ?_) (fun hb2 H8 e8 => ?_)
          · have hz : cnt L (W.take k ++ [y]) (st L y) = 0 := by
              have := of_decide_eq_true hb2
              rw [cl_st hsl] at this
              omega
            refine s_app (e8 _ _ hw7) (ev_var rfl) (ev_var rfl) (by rw [nl_len]; omega) fun H9 e9 => ?_
            have ht : (W ++ [st L y]).take (k + 1) = W.take k ++ [y] := by
              rw [List.take_append_of_le_length (by omega), take_snoc hy]
            refine ⟨W ++ [st L y], rfl, hstep.1 hz, ht, Ex.mut ((eH7.trans e8).trans e9) nw0, ?_, ?_⟩
            · rw [upd_ne hne.symm, ht]
              exact e9 _ _ (e8 _ _ upd_same)
            · rw [upd_same]
              unfold nl
              rw [List.map_append]
              rfl
          · have hz : cnt L (W.take k ++ [y]) (st L y) ≠ 0 := by
              have := of_decide_eq_false hb2
              rw [cl_st hsl] at this
              omega
            exact ⟨W, rfl, hstep.2 hz, take_snoc hy, eH7.trans e8, by rw [take_snoc hy]; exact e8 _ _ upd_same, e8 _ _ hw7⟩
        · obtain ⟨W', rfl, hQ', ht, eH8, hm8, hw8⟩ := hM
          refine s_asg (ev_op (ev_var rfl) ev_c (rv_dec (vadd k 1))) fun H9 e9 => ?_
          exact ⟨L.length - (k + 1), by omega, k + 1, W', _, rfl, rfl, hQ', eH8.trans e9, e9 _ _ hm8, e9 _ _ hw8⟩
      · have hk : k = W.length := by
          have := of_decide_eq_false hb
          have := hQ.le
          omega
        subst hk
        have eH5 := eH'.trans e5
        -- found = [0 for place in leading]
        refine q_asgL (el_mapNc (ev_var rfl) (hL.ex eH5).sq (by omega) fun x H6 e6 _ => ev_c) fun g H6 ng e6 hg => ?_
        have ng0 : H g = none := fresh_back eH5 ng
        have hw6 := e6 _ _ (e5 _ _ hw5)
        have hgw : wy ≠ g := ne_of_none (e5 _ _ hw5) ng
        refine q_forRev (ev_var rfl) (sq_of hw6) (fun i σ' H' => ∃ (G : List Nat) (y1 : Option V), σ' = [some (.ref a), y1, some (.ref m), y3, some (.ref wy), some (.int (W.length : Int)), some (.ref g), none] ∧ Ex H H' ∧ H' wy = some (.lst (nl W)) ∧ H' g = some (.lst (nl G)) ∧ Told L W G (W.length - i))
          (fun H7 e7 => ⟨_, _, rfl, (eH5.trans e6).trans e7, e7 _ _ hw6, by
            rw [e7 _ _ hg]
            rw [show nl (List.replicate L.length 0) = List.replicate L.length (V.int 0) by
              unfold nl
              rw [List.map_replicate]
              rfl], told_start L W⟩) (fun i σ' H' _ ⟨_, _, _, _, h, _⟩ => sq_of h) (fun i x σ' H' hi hx hP => ?_) (fun σ' H' hP => ?_)
        · obtain ⟨G, y1, rfl, eH7, hw7, hg7, hT⟩ := hP
          rw [nl_len] at hi hx
          obtain ⟨y, hy, rfl, _⟩ := nl_inv hx
          have hyl := hQ.lt y (List.mem_of_getElem? hy)
          have hsl := st_lt hLd hyl
          have hGl := hT.1
          refine s_setL (j := y) hg7 (ev_op (ev_op (ev_var rfl) (ev_op (ev_var rfl) (ev_var rfl) (rv_ixN (hL.ex eH7).sq hyl)) (rv_ixN (sq_of hg7) (by omega))) ev_c (rv_dec (vadd _ 1))) (ev_var rfl) (ev_var rfl) (by rw [nl_len]; omega) fun H8 e8 => ?_
          refine ⟨G.set y (st G (st L y) + 1), _, rfl, Ex.mut (eH7.trans e8) ng0, by rw [upd_ne hgw]; exact e8 _ _ hw7, by rw [upd_same, nl_set], ?_⟩
          rw [show W.length - (i + 1) = W.length - 1 - i by omega]
          refine told_step hLd hQ ?_ hy
          rw [show W.length - 1 - i + 1 = W.length - i by omega]
          exact hT
        · obtain ⟨G, y1, rfl, eH7, hw7, hg7, hT⟩ := hP
          rw [nl_len, Nat.sub_self] at hT
          exact ret_N (q G hT.1 fun x hx => told_end hLd hQ hT hx) eH7 ng0 hg7 rfl
abbrev s_rings_of : Stmt := topS 22
abbrev N_rings_of : List Str := ["leading", "waits", "seen", "found", "first", "ring", "place"]
theorem sc_rings_of : FnScope N_rings_of ["leading"] (defScope s_rings_of) := ⟨rfl, rfl, rfl, by decide +kernel, rfl, by decide +kernel, by decide +kernel⟩
theorem sl_waits_of {H : Hp} {a : Addr} {L : List Nat} (h : IsLd H a L) : SpL spWaitsOf [.ref a] H (nl (wtl L)) := fun _ e _ q _ => ⟨a, L, rfl, h.ex e, fun F h1 h2 => by rw [wtl_uniq h.2.1 h1 h2]; exact q⟩
def spRingsOf : Sp := fun vs H Q _ => ∃ (a : Addr) (L : List Nat), vs = [.ref a] ∧ IsLd H a L ∧ RetLL (rgs L L.length) H Q
theorem ok_rings_of {f : Addr} {fd : FuncData} (F : Fun K "rings_of" "rings_of" s_rings_of f fd) (B : Bl mg) (D_waits_of : Dk P w K mg base CX0 1 "waits_of" ["leading"] spWaitsOf) : FnOk P w K mg base CX0 2 f fd ["leading"] spRingsOf := by
  refine F.ok sc_rings_of (fun vs H Q E h => ?_) (fun cdv A outer s H vs Q E hr h => ?_)
  · obtain ⟨a, L, rfl, _⟩ := h
    rfl
  · obtain ⟨a, L, rfl, hL, q⟩ := h
    have hu := hu_of hr
    refine ⟨_, (pss_cons (ps_set (i := 1) sc_rings_of.nd rfl (Or.inl rfl) (pe_callD D_waits_of (hr.mono (by decide)) (by rfl) pass0 (pa_cons (pv 0) pa_nil)))
    (pss_cons (ps_set (i := 2) sc_rings_of.nd rfl (Or.inl rfl) pe_dnewK)
    (pss_cons (ps_set (i := 3) sc_rings_of.nd rfl (Or.inl rfl) (pe_lst pa_nil))
    (pss_cons (ps_for PassesOwn.never rfl (pi_range1 (by rfl) B.range_ (pa_cons (pe_callB (call_lenK (K := K) rfl) (by rfl) B.len_ bo_len (pa_cons (pv 0) pa_nil)) pa_nil)) (pg_name (i := 4) sc_rings_of.nd rfl (Or.inl rfl))
    (pss_one (ps_if (PW.pt (pw_and (pt_cmpR op_eq (pe_ix (ix_listK (K := K) rfl) (pv 1) (pv 4) (fun _ _ => rfl)) pe_int (nomark _)) (pw_and1 (pt_cmp (pc_dnotin hu (pv 4) (pv 2))))))
    (pss_cons (ps_set (i := 5) sc_rings_of.nd rfl (Or.inl rfl) (pe_lst pa_nil))
    (pss_cons (ps_set (i := 6) sc_rings_of.nd rfl (Or.inl rfl) (pv 4))
    (pss_cons (ps_while PassesOwn.never (pt_cmp (pc_dnotin hu (pv 6) (pv 2)))
    (pss_cons (ps_dput hu (pv 2) (pv 6) pe_bl rfl)
    (pss_cons (ps_expr (pe_bm PySem.F.plainAttrs_list PySem.F.slot_list_append PySem.F.type_list_append mt_append (pv 5) (pa_cons (pv 6) pa_nil)))
    (pss_one (ps_set (i := 6) sc_rings_of.nd rfl (Or.inl rfl) (pe_ix (ix_listK (K := K) rfl) (pv 0) (pv 6) (fun _ _ => rfl)))))))
    (pss_one (ps_expr (pe_bm PySem.F.plainAttrs_list PySem.F.slot_list_append PySem.F.type_list_append mt_append (pv 3) (pa_cons (pv 5) pa_nil)))))))
    pss_nil)))
    (pss_one (ps_ret (pv 3))))))), ?_⟩
    have h63 := hL.2.2
    have hLd := hL.2.1
    refine q_asgL (el_callL (ea1 (ev_var rfl)) (sl_waits_of hL)) fun wa H1 nw e1 hw => ?_
    refine q_dnewK fun d H2 nd e2 hd => ?_
    refine q_asgL (el_lst ea_nil (Nat.zero_le _)) fun fn H3 nf e3 hf => ?_
    have e := (e1.trans e2).trans e3
    have nd0 : H d = none := fresh_back e1 nd
    have nf0 : H fn = none := fresh_back (e1.trans e2) nf
    refine q_forR1 (n := (L.length : Int)) (ea1 (ev_lenNl (ev_var rfl) (hL.ex e).sq)) (by omega)
      (fun k σ' H' => ∃ (ks : List Nat) (rs : List Addr) (y4 y5 y6 : Option V), σ' = [some (.ref a), some (.ref wa), some (.ref d), some (.ref fn), y4, y5, y6] ∧ Ex H H' ∧ H' wa = some (.lst (nl (wtl L))) ∧ DKs H' d ks ∧ ks.Nodup ∧ (∀ x, x ∈ ks ↔ x ∈ (rgs L k).flatten) ∧
        H' fn = some (.lst (rs.map V.ref)) ∧ AllAt H' rs (rgs L k) ∧ (∀ r ∈ rs, H r = none) ∧ (fn :: rs).Nodup ∧ wa ≠ fn ∧ wa ∉ rs)
      (fun H4 e4 => ⟨[], [], _, _, _, rfl, e.trans e4, e4 _ _ (e3 _ _ (e2 _ _ hw)), (hd.ex e3).ex e4, List.nodup_nil, fun x => Iff.rfl, e4 _ _ hf, .nil, fun r hr => (nomatch hr), List.nodup_cons.mpr ⟨List.not_mem_nil, List.nodup_nil⟩, ne_of_none (e2 _ _ hw) nf, List.not_mem_nil⟩) (fun k σ' H' hk hP => ?_) (fun σ' H' hP => ?_)
    · obtain ⟨ks, rs, y4, y5, y6, rfl, eH, hwa, hD, nk, hks, hfn, hel, hfr, hnd, hwf, hwr⟩ := hP
      have hkl : k < L.length := by omega
      have hR := rgs_ok hLd k (by omega)
      have hkslen := flat_nodup_len hLd (by omega) nk fun x hx => (hks x).mp hx
      have hrl : rs.length ≤ k := by
        rw [hel.len]
        exact rgs_len L k
      obtain ⟨kv0, hkv0⟩ := hD.some
      have hdf : d ≠ fn := ne_of hkv0 hfn (fun z => by cases z)
      have hdr : d ∉ rs := fun h => by
        obtain ⟨l, _, h2⟩ := hel.mem h
        rw [hkv0] at h2
        cases h2
      have hdw : d ≠ wa := ne_of hkv0 hwa (fun z => by cases z)
      refine s_when (et_and (et_test (ev_op (ev_op (ev_var rfl) (ev_var rfl) (rv_ixN (j := k) (sq_of hwa) (by rw [wtl_len]; exact hkl))) ev_c (rv_eqB rfl))) fun _ => et_B (ev_dnotinK (ev_var rfl) (ev_var rfl) hD rfl)) (fun hb H4 e4 => ?_) (fun hb H4 e4 => ?_)
      · rw [Bool.and_eq_true, decide_eq_true_eq, Bool.not_eq_true', decide_eq_false_iff_not, wtl_st hkl] at hb
        have hor : OnR L k := (wt_zero hLd hkl).mp (by omega)
        have hnk : k ∉ (rgs L k).flatten := fun h => hb.2 ((hks k).mpr h)
        have ho := per_orb hLd hkl
        -- ring = []; place = first
        refine q_asgL (el_lst ea_nil (Nat.zero_le _)) fun rg H5 nrg e5 hrg => ?_
        refine q_asg (ev_var rfl) fun H6 e6 => ?_
        have e46 := (e4.trans e5).trans e6
        have nrg0 : H rg = none := fresh_back (eH.trans e4) nrg
        have hrgd : rg ≠ d := (ne_of_none (e4 _ _ hkv0) nrg).symm
        have hrgf : rg ≠ fn := (ne_of_none (e4 _ _ hfn) nrg).symm
        have hrgw : rg ≠ wa := (ne_of_none (e4 _ _ hwa) nrg).symm
        have hrgr : rg ∉ rs := fun h => by
          obtain ⟨l, _, h2⟩ := hel.mem h
          rw [e4 _ _ h2] at nrg
          cases nrg
        refine q_while (fun t σ' H' => ∃ (j : Nat) (ks' : List Nat), t = L.length - j ∧ σ' = [some (.ref a), some (.ref wa), some (.ref d), some (.ref fn), some (.int (k : Int)), some (.ref rg), some (.int (it L j k : Int))] ∧ Ex H H' ∧ H' wa = some (.lst (nl (wtl L))) ∧ DKs H' d ks' ∧ ks'.Nodup ∧ (∀ x, x ∈ ks' ↔ x ∈ ks ∨ x ∈ path L k j) ∧
            H' fn = some (.lst (rs.map V.ref)) ∧ AllAt H' rs (rgs L k) ∧ H' rg = some (.lst (nl (path L k j))) ∧ ∀ x y, x < y → y < j → it L x k ≠ it L y k) (L.length - 0)
          ⟨0, ks, rfl, rfl, eH.trans e46, e46 _ _ hwa, hD.ex e46, nk, fun x => ⟨.inl, fun h => h.elim id fun h => by obtain ⟨_, hx, _⟩ := mem_path.mp h; omega⟩, e46 _ _ hfn, hel.ex e46, e6 _ _ hrg, fun _ y _ h => absurd h (Nat.not_lt_zero y)⟩ fun t σ' H' hW => ?_
        obtain ⟨j, ks', rfl, rfl, eH', hwa', hD', nk', hks', hfn', hel', hrg', hinj⟩ := hW
        have hjl : it L j k < L.length := it_lt hLd j hkl
        refine ⟨_, et_B (ev_dnotinK (ev_var rfl) (ev_var rfl) hD' rfl), fun hb2 H7 e7 => ?_, fun hb2 H7 e7 => ?_⟩
        · rw [Bool.not_eq_true', decide_eq_false_iff_not] at hb2
          have hinj2 : ∀ x y, x < y → y < j + 1 → it L x k ≠ it L y k := fun x y hxy hy e => by
            by_cases ey : y = j
            · subst ey
              exact hb2 ((hks' _).mpr (.inr (mem_path.mpr ⟨x, hxy, e.symm⟩)))
            · exact hinj x y hxy (by omega) e
          have hjn := inj_le hLd hkl hinj2
          have hks'len : ks'.length ≤ 2 * L.length := by
            have h1 := nodup_len nk' (n := L.length) fun x hx => ((hks' x).mp hx).elim (fun h => by
              obtain ⟨r, hr, hxr⟩ := List.mem_flatten.mp ((hks x).mp h)
              exact (hR.lt r hr x hxr).1) fun h => path_lt hLd hkl j h
            omega
          refine ⟨_, fun σ2 H2 h => h, ?_⟩
          refine q_dputK ev_c (ev_var rfl) (ev_var rfl) (hD'.ex e7) (by omega) fun H8 e8 o hD8 => ?_
          have e78 := e7.trans e8
          have eH8 : Ex H (L2.upd H8 d o) := Ex.mut (eH'.trans e78) nd0
          have hrg8 : L2.upd H8 d o rg = some (.lst (nl (path L k j))) := by
            rw [upd_ne hrgd]
            exact e78 _ _ hrg'
          refine q_app hrg8 (ev_var rfl) (ev_var rfl) (by rw [nl_len, path_len]; omega) fun H9 e9 => ?_
          have eH9 : Ex H (L2.upd H9 rg (.lst (nl (path L k j) ++ [V.int (it L j k : Int)]))) := Ex.mut (eH8.trans e9) nrg0
          refine s_asg (ev_op (ev_var rfl) (ev_var rfl) (rv_ixN (hL.ex eH9).sq hjl)) fun H10 e10 => ?_
          refine ⟨_, ?_, j + 1, _, rfl, by rw [it_succ]; rfl, eH9.trans e10, ?_, ((hD8.ex e9).upd hrgd.symm).ex e10, nodup_addK nk', fun x => ?_, ?_, ?_, ?_, hinj2⟩
          · omega
          · refine e10 _ _ ?_
            rw [upd_ne hrgw.symm]
            refine e9 _ _ ?_
            rw [upd_ne hdw.symm]
            exact e78 _ _ hwa'
          · rw [mem_addK, hks' x, path_succ, List.mem_append, List.mem_singleton, or_assoc]
          · refine e10 _ _ ?_
            rw [upd_ne hrgf.symm]
            refine e9 _ _ ?_
            rw [upd_ne hdf.symm]
            exact e78 _ _ hfn'
          · exact (((hel'.ex e78).upd hdr).ex e9 |>.upd hrgr).ex e10
          · rw [e10 _ _ upd_same, path_succ]
            unfold nl
            rw [List.map_append]
            rfl
        · rw [Bool.not_eq_false', decide_eq_true_eq] at hb2
          have hin : it L j k ∈ path L k j := ((hks' _).mp hb2).elim (fun h => absurd ((hks _).mp h) (rgs_new hLd hR hkl hor hnk j)) id
          obtain ⟨z, hz, ez⟩ := mem_path.mp hin
          have hoj : Orb L k j := ⟨by omega, hinj, z, hz, ez⟩
          have hjp := ho.uniq hoj
          -- found.append(ring)
          refine s_app (e7 _ _ hfn') (ev_var rfl) (ev_var rfl) (by rw [List.length_map]; omega) fun H8 e8 => ?_
          have e78 := e7.trans e8
          have hfnr : fn ∉ rs := (List.nodup_cons.mp hnd).1
          have hring : ringAt L k = path L k j := by
            unfold ringAt
            rw [hjp]
          refine ⟨ks', rs ++ [rg], _, _, _, rfl, Ex.mut (eH'.trans e78) nf0, ?_, (hD'.ex e78).upd hdf, nk', fun x => ?_, ?_, ?_, fun r hr => ?_, ?_, hwf, ?_⟩
          · rw [upd_ne hwf]
            exact e78 _ _ hwa'
          · rw [hks' x, hks x, rgs_yes hor hnk, List.flatten_append, List.mem_append, List.flatten_singleton, hring]
          · rw [upd_same, List.map_append]
            rfl
          · rw [rgs_yes hor hnk]
            refine Paired.snoc ((hel'.ex e78).upd hfnr) ?_
            rw [upd_ne hrgf, hring]
            exact e78 _ _ hrg'
          · rcases List.mem_append.mp hr with hr | hr
            · exact hfr r hr
            · rw [List.mem_singleton.mp hr]
              exact nrg0
          · rw [← List.cons_append, List.nodup_append]
            exact ⟨hnd, List.nodup_cons.mpr ⟨List.not_mem_nil, List.nodup_nil⟩, fun x hx y hy e => by
              rw [List.mem_singleton] at hy
              subst hy
              subst e
              rcases List.mem_cons.mp hx with h | h
              · exact hrgf h
              · exact hrgr h⟩
          · rw [List.mem_append, List.mem_singleton]
            exact fun h => h.elim hwr fun h => hrgw h.symm
      · have hno : ¬ (OnR L k ∧ k ∉ (rgs L k).flatten) := fun ⟨h1, h2⟩ => by
          rw [wtl_st hkl, (wt_zero hLd hkl).mpr h1, decide_eq_true (show ((0 : Nat) : Int) = 0 from rfl), decide_eq_false fun h => h2 ((hks k).mp h)] at hb
          cases hb
        rw [show rgs L (k + 1) = rgs L k from rgs_no hno]
        exact ⟨ks, rs, _, _, _, rfl, eH.trans e4, e4 _ _ hwa, hD.ex e4, nk, hks, e4 _ _ hfn, hel.ex e4, hfr, hnd, hwf, hwr⟩
    · obtain ⟨ks, rs, y4, y5, y6, rfl, eH, hwa, hD, nk, hks, hfn, hel, hfr, hnd, hwf, hwr⟩ := hP
      rw [Int.toNat_natCast] at hel
      exact ⟨_, rfl, q fn rs H' eH ⟨nf0, hfr, hfn, hel, hnd⟩⟩
abbrev s_walked : Stmt := topS 24
abbrev N_walked : List Str := ["leading", "place", "found", "seen"]
theorem sc_walked : FnScope N_walked ["leading", "place"] (defScope s_walked) := ⟨rfl, rfl, rfl, by decide +kernel, rfl, by decide +kernel, by decide +kernel⟩
def spWalked : Sp := fun vs H Q _ => ∃ (a : Addr) (L : List Nat) (p : Nat), vs = [.ref a, .int (p : Int)] ∧ IsLd H a L ∧ p < L.length ∧ ∀ m, Orb L p m → RetL (nl (path L p m)) H Q
theorem sl_walked {H : Hp} {a : Addr} {L : List Nat} {p m : Nat} (h : IsLd H a L) (hp : p < L.length) (hm : Orb L p m) : SpL spWalked [.ref a, .int (p : Int)] H (nl (path L p m)) := fun _ e _ q _ => ⟨a, L, p, rfl, h.ex e, hp, fun n hn => by rw [← hm.uniq hn]; exact q⟩
theorem ok_walked {f : Addr} {fd : FuncData} (F : Fun K "walked" "walked" s_walked f fd) : FnOk P w K mg base CX0 1 f fd ["leading", "place"] spWalked := by
  refine F.ok sc_walked (fun vs H Q E h => ?_) (fun cdv A outer s H vs Q E hr h => ?_)
  · obtain ⟨a, L, p, rfl, _⟩ := h
    rfl
  · obtain ⟨a, L, p, rfl, hL, hp, q⟩ := h
    have hu := hu_of hr
    refine ⟨_, (pss_cons (ps_set (i := 2) sc_walked.nd rfl (Or.inl rfl) (pe_lst pa_nil))
    (pss_cons (ps_set (i := 3) sc_walked.nd rfl (Or.inl rfl) pe_dnewK)
    (pss_cons (ps_while PassesOwn.never (pt_cmp (pc_dnotin hu (pv 1) (pv 3)))
    (pss_cons (ps_dput hu (pv 3) (pv 1) pe_bl rfl)
    (pss_cons (ps_expr (pe_bm PySem.F.plainAttrs_list PySem.F.slot_list_append PySem.F.type_list_append mt_append (pv 2) (pa_cons (pv 1) pa_nil)))
    (pss_one (ps_set (i := 1) sc_walked.nd rfl (Or.inl rfl) (pe_ix (ix_listK (K := K) rfl) (pv 0) (pv 1) (fun _ _ => rfl)))))))
    (pss_one (ps_ret (pv 2)))))), ?_⟩
    have h64 := hL.2.2
    refine q_asgL (el_lst ea_nil (Nat.zero_le _)) fun pf H1 nf e1 hf => ?_
    refine q_dnew fun d H2 nd e2 hd => ?_
    have nd0 : H d = none := fresh_back e1 nd
    refine q_while (fun m σ' H' => ∃ (k : Nat) (M : Int → Option V), m = L.length - k ∧ σ' = [some (.ref a), some (.int (it L k p : Int)), some (.ref pf), some (.ref d)] ∧ (∀ i j, i < j → j < k → it L i p ≠ it L j p) ∧ Ex H H' ∧ H' pf = some (.lst (nl (path L p k))) ∧ DM H' d k M ∧
        (∀ i, i < k → (M (it L i p : Int)).isSome = true) ∧ (∀ z, (M z).isSome = true → ∃ i, i < k ∧ z = (it L i p : Int))) (L.length - 0)
      ⟨0, _, rfl, rfl, fun i j _ h => absurd h (Nat.not_lt_zero j), e1.trans e2, e2 _ _ hf, hd, fun i h => absurd h (Nat.not_lt_zero i), fun z h => by cases h⟩ fun m σ' H' hw => ?_
    obtain ⟨k, M, rfl, rfl, hinj, eH, hpf, hD, hM1, hM2⟩ := hw
    have hpk : it L k p < L.length := it_lt hL.2.1 k hp
    refine ⟨_, et_B (ev_dnotin (ev_var rfl) (ev_var rfl) hD), fun hb H3 e3 => ?_, fun hb H3 e3 => ?_⟩
    · have hnew : ∀ i, i < k → it L i p ≠ it L k p := fun i hi e => by
        have h1 := hM1 i hi
        rw [e] at h1
        rw [h1] at hb
        cases hb
      have hinj2 : ∀ i j, i < j → j < k + 1 → it L i p ≠ it L j p := fun i j hij hj => by
        by_cases e : j = k
        · subst e
          exact hnew i hij
        · exact hinj i j hij (by omega)
      have hkn := inj_le hL.2.1 hp hinj2
      have hne : pf ≠ d := by
        obtain ⟨kvs, h1, _⟩ := hD
        exact ne_of hpf h1 (fun z => by cases z)
      refine ⟨_, fun σ2 H2 h => h, ?_⟩
      refine q_dput ev_c (ev_var rfl) (ev_var rfl) (hD.ex e3) (by omega) fun H4 e4 o hD4 => ?_
      have eH4 : Ex H (upd H4 d o) := Ex.mut ((eH.trans e3).trans e4) nd0
      have hpf4 : upd H4 d o pf = some (.lst (nl (path L p k))) := by
        rw [upd_ne hne]
        exact e4 _ _ (e3 _ _ hpf)
      refine q_app hpf4 (ev_var rfl) (ev_var rfl) (by rw [nl_len, path_len]; omega) fun H5 e5 => ?_
      have eH5 : Ex H (upd H5 pf (.lst (nl (path L p k) ++ [V.int (it L k p : Int)]))) := Ex.mut (eH4.trans e5) nf
      have hD5 := (hD4.ex e5).upd (q := pf) (o := .lst (nl (path L p k) ++ [V.int (it L k p : Int)])) hne.symm
      refine s_asg (ev_op (ev_var rfl) (ev_var rfl) (rv_ixN (hL.ex eH5).sq hpk)) fun H6 e6 => ?_
      refine ⟨_, ?_, k + 1, _, rfl, by rw [it_succ]; rfl, hinj2, eH5.trans e6, ?_, hD5.ex e6, fun i hi => ?_, fun z hz => ?_⟩
      · omega
      · rw [e6 _ _ upd_same, path_succ]
        unfold nl
        rw [List.map_append]
        rfl
      · by_cases e : i = k
        · subst e
          rw [if_pos rfl]
          rfl
        · rw [if_neg fun q => hnew i (by omega) (by omega)]
          exact hM1 i (by omega)
      · by_cases e : z = (it L k p : Int)
        · exact ⟨k, by omega, e⟩
        · rw [if_neg e] at hz
          obtain ⟨i, h1, h2⟩ := hM2 z hz
          exact ⟨i, by omega, h2⟩
    · have hs : (M (it L k p : Int)).isSome = true := by
        cases h : (M (it L k p : Int)).isSome with
        | true => rfl
        | false =>
          rw [h] at hb
          cases hb
      obtain ⟨i, hi, hi2⟩ := hM2 _ hs
      exact ret_N (q k ⟨by omega, hinj, i, hi, by omega⟩) (eH.trans e3) nf (e3 _ _ hpf) rfl
abbrev s_reached : Stmt := topS 25
abbrev N_reached : List Str := ["leading", "one", "other", "found"]
theorem sc_reached : FnScope N_reached ["leading", "one", "other"] (defScope s_reached) := ⟨rfl, rfl, rfl, by decide +kernel, rfl, by decide +kernel, by decide +kernel⟩
def spReached (c : Cs) : Sp := fun vs H Q _ => ∃ (a : Addr) (L : List Nat) (p q : Nat), vs = [.ref a, .int (p : Int), .int (q : Int)] ∧ IsLd H a L ∧ p < L.length ∧ q < L.length ∧
  (∀ x dx (k : Nat) H2, H x = none → Ex H H2 → H2 x = some (.ins c.Steps dx [("many", .int (k : Int))]) → it L k p = q → Q (.ref x) H2) ∧
  (∀ x dx l (ps : List Nat) H2, H x = none → H l = none → Ex H H2 → H2 x = some (.ins c.Shut dx [("places", .ref l)]) → H2 l = some (.lst (nl ps)) → ps.length ≤ 64 → p ∈ ps → q ∉ ps → (∀ y ∈ ps, y < L.length ∧ st L y ∈ ps) → Q (.ref x) H2)
theorem ok_reached {f : Addr} {fd : FuncData} (F : Fun K "reached" "reached" s_reached f fd) (B : Bl mg) (C : Cl K mg c) (D_asked_leading : Dk P w K mg base CX0 2 "asked_leading" ["leading"] spAskedL) (D_asked_place : Dk P w K mg base CX0 2 "asked_place" ["leading", "place"] spAskedP)
    (D_walked : Dk P w K mg base CX0 1 "walked" ["leading", "place"] spWalked) (I_Steps : Cn P w K mg base CX0 1 "Steps" c.Steps ["self", "many"] (spInit1 c.Steps "many")) (I_Shut : Cn P w K mg base CX0 1 "Shut" c.Shut ["self", "places"] (spInitL K c.Shut "places")) :
    FnOk P w K mg base CX0 3 f fd ["leading", "one", "other"] (spReached c) := by
  refine F.ok sc_reached (fun vs H Q E h => ?_) (fun cdv A outer s H vs Q E hr h => ?_)
  · obtain ⟨a, L, p, q, rfl, _⟩ := h
    rfl
  · obtain ⟨a, L, p, q, rfl, hL, hp, hq, k1, k2⟩ := h
    refine ⟨_, (pss_cons (ps_expr (pe_callD D_asked_leading (hr.mono (by decide)) (by rfl) pass0 (pa_cons (pv 0) pa_nil)))
    (pss_cons (ps_expr (pe_callD D_asked_place (hr.mono (by decide)) (by rfl) pass0 (pa_cons (pv 0) (pa_cons (pv 1) pa_nil))))
    (pss_cons (ps_expr (pe_callD D_asked_place (hr.mono (by decide)) (by rfl) pass0 (pa_cons (pv 0) (pa_cons (pv 2) pa_nil))))
    (pss_cons (ps_set (i := 3) sc_reached.nd rfl (Or.inl rfl) (pe_callD D_walked (hr.mono (by decide)) (by rfl) pass0 (pa_cons (pv 0) (pa_cons (pv 1) pa_nil))))
    (pss_cons (ps_if (pt_cmpR (op_inK (K := K) rfl) (pv 2) (pv 3) (by rfl))
    (pss_one (ps_ret (pe_makeD I_Steps (hr.mono (by decide)) (by rfl) pass0 (pa_cons (pe_bm PySem.F.plainAttrs_list PySem.F.slot_list_index PySem.F.type_list_index (mt_indexK (K := K) rfl) (pv 3) (pa_cons (pv 2) pa_nil)) pa_nil))))
    pss_nil)
    (pss_one (ps_ret (pe_makeD I_Shut (hr.mono (by decide)) (by rfl) pass0 (pa_cons (pe_callB (cr_sortedK (K := K) rfl) (by rfl) B.sorted_ bo_sorted (pa_cons (pv 3) pa_nil)) pa_nil))))))))), ?_⟩
    have h64 := hL.2.2
    refine q_drop (ev_callV (ea1 (ev_var rfl)) (sv_asked_leading hL)) fun H1 e1 => ?_
    refine q_drop (ev_callV (ea2 (ev_var rfl) (ev_var rfl)) (sv_asked_place (hL.ex e1) hp)) fun H2 e2 => ?_
    refine q_drop (ev_callV (ea2 (ev_var rfl) (ev_var rfl)) (sv_asked_place (hL.ex (e1.trans e2)) hq)) fun H3 e3 => ?_
    have e := (e1.trans e2).trans e3
    refine q_asgX (ea2 (ev_var rfl) (ev_var rfl)) fun H4 e4 => ⟨a, L, p, rfl, hL.ex (e.trans e4), hp, fun m hm pf H5 nf e5 hf => ?_⟩
    have e' := (e.trans e4).trans e5
    have hml := hm.le hL.2.1 hp
    refine q_when (et_test (ev_op (ev_var rfl) (ev_var rfl) (rv_inN (sq_of hf) rfl))) (fun hb H6 e6 => ?_) (fun hb H6 e6 => ?_)
    · have hmem := of_decide_eq_true hb
      exact tmk1 (ev_index (ev_var rfl) (.inl (e6 _ _ hf)) (ev_var rfl) hmem) fun x dx H7 nx e7 hx => k1 x dx _ H7 (fresh_back (e'.trans e6) nx) ((e'.trans e6).trans e7) hx (path_idx hmem)
    · have hmem := of_decide_eq_false hb
      have hsq : SqL K H6 pf (il ((path L p m).map fun (x : Nat) => (x : Int))) := by
        rw [← nl_il]
        exact sq_of (e6 _ _ hf)
      refine tmkL (el_sorted (ev_var rfl) hsq ((srt_perm (path L p m)).map _) (srt_cast _)) fun x dx l H7 nx nl e7 hx hl => ?_
      rw [← nl_il] at hl
      refine k2 x dx l _ H7 (fresh_back (e'.trans e6) nx) (fresh_back (e'.trans e6) nl) ((e'.trans e6).trans e7) hx hl (by rw [srt_len, path_len]; omega) (mem_srt.mpr hm.mem) (fun h => hmem (mem_srt.mp h)) fun y hy => ?_
      exact ⟨path_lt hL.2.1 hp m (mem_srt.mp hy), mem_srt.mpr (hm.shut (mem_srt.mp hy))⟩
abbrev s_herd_of : Stmt := topS 26
abbrev N_herd_of : List Str := ["leading", "place", "kept", "one", "way", "there", "seen", "some"]
theorem sc_herd_of : FnScope N_herd_of ["leading", "place"] (defScope s_herd_of) := ⟨rfl, rfl, rfl, by decide +kernel, rfl, by decide +kernel, by decide +kernel⟩
def spHerd : Sp := fun vs H Q _ => ∃ (a : Addr) (L : List Nat) (p : Nat), vs = [.ref a, .int (p : Int)] ∧ IsLd H a L ∧ p < L.length ∧ ∀ ps : List Nat, ps.length ≤ 63 → (∀ x, x ∈ ps ↔ x < L.length ∧ Meets L x p) → RetL (nl ps) H Q
theorem ok_herd_of {f : Addr} {fd : FuncData} (F : Fun K "herd_of" "herd_of" s_herd_of f fd) (B : Bl mg) (D_walked : Dk P w K mg base CX0 1 "walked" ["leading", "place"] spWalked) : FnOk P w K mg base CX0 2 f fd ["leading", "place"] spHerd := by
  refine F.ok sc_herd_of (fun vs H Q E h => ?_) (fun cdv A outer s H vs Q E hr h => ?_)
  · obtain ⟨a, L, p, rfl, _⟩ := h
    rfl
  · obtain ⟨a, L, p, rfl, hL, hp, q⟩ := h
    have hu := hu_of hr
    refine ⟨_, (pss_cons (ps_set (i := 2) sc_herd_of.nd rfl (Or.inl rfl) pe_dnewK)
    (pss_cons (ps_for PassesOwn.never rfl (pi_list (pe_callD D_walked (hr.mono (by decide)) (by rfl) pass0 (pa_cons (pv 0) (pa_cons (pv 1) pa_nil)))) (pg_name (i := 3) sc_herd_of.nd rfl (Or.inl rfl))
    (pss_one (ps_dput hu (pv 2) (pv 3) pe_bl rfl)))
    (pss_cons (ps_for PassesOwn.never rfl (pi_range1 (by rfl) B.range_ (pa_cons (pe_callB (call_lenK (K := K) rfl) (by rfl) B.len_ bo_len (pa_cons (pv 0) pa_nil)) pa_nil)) (pg_name (i := 3) sc_herd_of.nd rfl (Or.inl rfl))
    (pss_cons (ps_set (i := 4) sc_herd_of.nd rfl (Or.inl rfl) (pe_lst pa_nil))
    (pss_cons (ps_set (i := 5) sc_herd_of.nd rfl (Or.inl rfl) (pv 3))
    (pss_cons (ps_set (i := 6) sc_herd_of.nd rfl (Or.inl rfl) pe_dnewK)
    (pss_cons (ps_while PassesOwn.never (PW.pt (pw_and (pt_cmp (pc_dnotin hu (pv 5) (pv 2))) (pw_and1 (pt_cmp (pc_dnotin hu (pv 5) (pv 6))))))
    (pss_cons (ps_dput hu (pv 6) (pv 5) pe_bl rfl)
    (pss_cons (ps_expr (pe_bm PySem.F.plainAttrs_list PySem.F.slot_list_append PySem.F.type_list_append mt_append (pv 4) (pa_cons (pv 5) pa_nil)))
    (pss_one (ps_set (i := 5) sc_herd_of.nd rfl (Or.inl rfl) (pe_ix (ix_listK (K := K) rfl) (pv 0) (pv 5) (fun _ _ => rfl)))))))
    (pss_one (ps_if (pt_cmp (pc_din hu (pv 5) (pv 2)))
    (pss_one (ps_for PassesOwn.never rfl (pi_list (pv 4)) (pg_name (i := 7) sc_herd_of.nd rfl (Or.inl rfl))
    (pss_one (ps_dput hu (pv 2) (pv 7) pe_bl rfl))))
    pss_nil)))))))
    (pss_one (ps_ret (pe_callB (call_sortedDI rfl) (by rfl) B.sorted_ bo_sorted (pa_cons (pv 2) pa_nil))))))), ?_⟩
    have h63 := hL.2.2
    have hLd := hL.2.1
    obtain ⟨m, hm⟩ := orb_ex hLd hp
    have hml := hm.le hLd hp
    refine q_dnewK fun d H1 nd e1 hd => ?_
    -- for one in walked(leading, place): kept[one] = True
    refine q_forNLn (el_callL (ea2 (ev_var rfl) (ev_var rfl)) (sl_walked (hL.ex e1) hp hm)) (fun r k σ' H' => ∃ (ks : List Nat) (y3 : Option V), σ' = [some (.ref a), some (.int (p : Int)), some (.ref d), y3, none, none, none, none] ∧ Ex H H' ∧ H' r = some (.lst (nl (path L p m))) ∧ DKs H' d ks ∧ ks.Nodup ∧ (∀ x, x ∈ ks ↔ x ∈ path L p k) ∧ r ≠ d)
      (fun r H2 nr e2 h2 => ⟨[], _, rfl, e1.trans e2, h2, hd.ex e2, List.nodup_nil, fun x => ⟨fun h => (nomatch h), fun h => by obtain ⟨i, hi, _⟩ := mem_path.mp h; omega⟩, fun z => by
        obtain ⟨kvs, h3⟩ := hd.some
        rw [z, h3] at nr
        cases nr⟩)
      (fun r k σ' H' _ ⟨ks, y3, _, _, h, _⟩ => sq_of h) (fun r k x σ' H' hx hP => ?_) (fun r σ' H' hP => ?_)
    · obtain ⟨ks, y3, rfl, eH, hr', hD, nk, hk, hne⟩ := hP
      obtain ⟨y, hy, rfl, hlt⟩ := nl_inv hx
      rw [path_len] at hlt
      rw [path_get hlt] at hy
      obtain rfl := Option.some.inj hy
      have hkl : ks.length ≤ L.length := nodup_len nk fun z hz => path_lt hLd hp k ((hk z).mp hz)
      refine s_dputK ev_c (ev_var rfl) (ev_var rfl) hD (by omega) fun H3 e3 o hD3 => ?_
      refine ⟨_, _, rfl, Ex.mut (eH.trans e3) nd, by rw [upd_ne hne]; exact e3 _ _ hr', hD3, nodup_addK nk, fun z => ?_, hne⟩
      rw [mem_addK, hk z, path_succ, List.mem_append, List.mem_singleton]
    · obtain ⟨ks, y3, rfl, eH, _, hD, nk, hk, hne⟩ := hP
      rw [nl_len, path_len] at hk
      -- for one in range(len(leading)): ..
      refine q_forR1 (n := (L.length : Int)) (ea1 (ev_lenNl (ev_var rfl) (hL.ex eH).sq)) (by omega) (fun i σ' H' => ∃ (ks : List Nat) (y3 y4 y5 y6 y7 : Option V), σ' = [some (.ref a), some (.int (p : Int)), some (.ref d), y3, y4, y5, y6, y7] ∧ Ex H H' ∧ DKs H' d ks ∧ ks.Nodup ∧ (∀ x ∈ ks, x < L.length ∧ Meets L x p) ∧ (∀ x ∈ path L p m, x ∈ ks) ∧ ∀ y, y < i → Meets L y p → y ∈ ks)
        (fun H2 e2 => ⟨ks, _, _, _, _, _, rfl, eH.trans e2, hD.ex e2, nk, fun x hx => ⟨path_lt hLd hp m ((hk x).mp hx), path_meets ((hk x).mp hx)⟩, fun x hx => (hk x).mpr hx, fun y h => absurd h (Nat.not_lt_zero y)⟩) (fun i σ' H' hi hP => ?_) (fun σ' H' hP => ?_)
      · obtain ⟨ks, y3, y4, y5, y6, y7, rfl, eH, hD, nk, hk1, hk2, hk3⟩ := hP
        have hil : i < L.length := by omega
        have hkl : ks.length ≤ L.length := nodup_len nk fun z hz => (hk1 z hz).1
        refine q_asgL (el_lst ea_nil (Nat.zero_le _)) fun wy H2 nw e2 hw => ?_
        refine q_asg (ev_var rfl) fun H3 e3 => ?_
        refine q_dnewK fun s' H4 ns e4 hs => ?_
        have e24 := (e2.trans e3).trans e4
        have nw0 : H wy = none := fresh_back eH nw
        have ns0 : H s' = none := fresh_back (eH.trans (e2.trans e3)) ns
        obtain ⟨kvs0, hkv0⟩ := hD.some
        have hsd : s' ≠ d := (ne_of_none ((e2.trans e3) _ _ hkv0) ns).symm
        have hwd : wy ≠ d := (ne_of_none hkv0 nw).symm
        have hsw : s' ≠ wy := (ne_of_none (e3 _ _ hw) ns).symm
        refine q_while (fun t σ' H' => ∃ (k : Nat), t = L.length - k ∧ σ' = [some (.ref a), some (.int (p : Int)), some (.ref d), some (.int (i : Int)), some (.ref wy), some (.int (it L k i : Int)), some (.ref s'), y7] ∧ Ex H H' ∧ DKs H' d ks ∧ H' wy = some (.lst (nl (path L i k))) ∧ DKs H' s' (path L i k) ∧ (∀ x y, x < y → y < k → it L x i ≠ it L y i) ∧ ∀ x, x < k → it L x i ∉ ks) (L.length - 0)
          ⟨0, rfl, rfl, eH.trans e24, hD.ex e24, e4 _ _ (e3 _ _ hw), hs, fun _ y _ h => absurd h (Nat.not_lt_zero y), fun x h => absurd h (Nat.not_lt_zero x)⟩ fun t σ' H' hW => ?_
        obtain ⟨k, rfl, rfl, eH', hD', hw', hs', hinj, hno⟩ := hW
        have hik : it L k i < L.length := it_lt hLd k hil
        refine ⟨_, et_and (et_B (ev_dnotinK (ev_var rfl) (ev_var rfl) hD' rfl)) (fun _ => et_B (ev_dnotinK (ev_var rfl) (ev_var rfl) hs' rfl)), fun hb H5 e5 => ?_, fun hb H5 e5 => ?_⟩
        · rw [Bool.and_eq_true, Bool.not_eq_true', Bool.not_eq_true', decide_eq_false_iff_not, decide_eq_false_iff_not] at hb
          obtain ⟨hb1, hb2⟩ := hb
          have hinj2 : ∀ x y, x < y → y < k + 1 → it L x i ≠ it L y i := fun x y hxy hy e => by
            by_cases ey : y = k
            · subst ey
              exact hb2 (mem_path.mpr ⟨x, hxy, e.symm⟩)
            · exact hinj x y hxy (by omega) e
          have hkn := inj_le hLd hil hinj2
          refine ⟨_, fun σ2 H2 h => h, ?_⟩
          refine q_dputK ev_c (ev_var rfl) (ev_var rfl) (hs'.ex e5) (by rw [path_len]; omega) fun H6 e6 o hs6 => ?_
          rw [addK_new hb2, ← path_succ] at hs6
          have eH6 : Ex H (L2.upd H6 s' o) := Ex.mut ((eH'.trans e5).trans e6) ns0
          have hD6 : DKs (L2.upd H6 s' o) d ks := ((hD'.ex e5).ex e6).upd hsd.symm
          have hw6 : L2.upd H6 s' o wy = some (.lst (nl (path L i k))) := by
            rw [upd_ne hsw.symm]
            exact e6 _ _ (e5 _ _ hw')
          refine q_app hw6 (ev_var rfl) (ev_var rfl) (by rw [nl_len, path_len]; omega) fun H7 e7 => ?_
          have eH7 : Ex H (L2.upd H7 wy (.lst (nl (path L i k) ++ [V.int (it L k i : Int)]))) := Ex.mut (eH6.trans e7) nw0
          refine s_asg (ev_op (ev_var rfl) (ev_var rfl) (rv_ixN (hL.ex eH7).sq hik)) fun H8 e8 => ?_
          refine ⟨_, ?_, k + 1, rfl, by rw [it_succ]; rfl, eH7.trans e8, ((hD6.ex e7).upd hwd.symm).ex e8, ?_, ((hs6.ex e7).upd hsw).ex e8, hinj2, fun x hx => ?_⟩
          · omega
          · rw [e8 _ _ upd_same, path_succ]
            unfold nl
            rw [List.map_append]
            rfl
          · by_cases ex : x = k
            · subst ex
              exact hb1
            · exact hno x (by omega)
        · have eH5 := eH'.trans e5
          have hD5 := hD'.ex e5
          have hw5 := e5 _ _ hw'
          refine s_when (et_B (ev_dinK (ev_var rfl) (ev_var rfl) hD5 rfl)) (fun hb2 H6 e6 => ?_) (fun hb2 H6 e6 => ?_)
          · -- the way meets what is kept
            have hin := of_decide_eq_true hb2
            have hmi : Meets L i p := (meets_it k).mp (hk1 _ hin).2
            refine s_forLn (ev_var rfl) (sq_of (e6 _ _ hw5)) (fun j σ' H' => ∃ (ks' : List Nat) (y7 : Option V), σ' = [some (.ref a), some (.int (p : Int)), some (.ref d), some (.int (i : Int)), some (.ref wy), some (.int (it L k i : Int)), some (.ref s'), y7] ∧ Ex H H' ∧ H' wy = some (.lst (nl (path L i k))) ∧ DKs H' d ks' ∧ ks'.Nodup ∧ ∀ x, x ∈ ks' ↔ x ∈ ks ∨ x ∈ path L i j)
              (fun H7 e7 => ⟨ks, _, rfl, (eH5.trans e6).trans e7, e7 _ _ (e6 _ _ hw5), (hD5.ex e6).ex e7, nk, fun x => ⟨.inl, fun h => h.elim id fun h => by obtain ⟨_, hx, _⟩ := mem_path.mp h; omega⟩⟩) (fun j σ' H' _ ⟨_, _, _, _, h, _⟩ => sq_of h) (fun j x σ' H' hx hP => ?_) (fun σ' H' hP => ?_)
            · obtain ⟨ks', y7, rfl, eH7, hw7, hD7, nk', hk'⟩ := hP
              obtain ⟨y, hy, rfl, hlt⟩ := nl_inv hx
              rw [path_len] at hlt
              rw [path_get hlt] at hy
              obtain rfl := Option.some.inj hy
              have hkl' : ks'.length ≤ L.length := nodup_len nk' fun z hz => ((hk' z).mp hz).elim (fun h => (hk1 z h).1) fun h => path_lt hLd hil j h
              refine s_dputK ev_c (ev_var rfl) (ev_var rfl) hD7 (by omega) fun H8 e8 o hD8 => ?_
              refine ⟨_, _, rfl, Ex.mut (eH7.trans e8) nd, by rw [upd_ne hwd]; exact e8 _ _ hw7, hD8, nodup_addK nk', fun z => ?_⟩
              rw [mem_addK, hk' z, path_succ, List.mem_append, List.mem_singleton, or_assoc]
            · obtain ⟨ks', y7, rfl, eH7, hw7, hD7, nk', hk'⟩ := hP
              rw [nl_len, path_len] at hk'
              refine ⟨ks', _, _, _, _, _, rfl, eH7, hD7, nk', fun x hx => ?_, fun x hx => (hk' x).mpr (.inl (hk2 x hx)), fun y hy hmy => ?_⟩
              · rcases (hk' x).mp hx with h | h
                · exact hk1 x h
                · obtain ⟨j, _, rfl⟩ := mem_path.mp h
                  exact ⟨it_lt hLd j hil, (meets_it j).mpr hmi⟩
              · by_cases ey : y = i
                · subst ey
                  refine (hk' y).mpr ?_
                  cases k with
                  | zero => exact .inl hin
                  | succ k => exact .inr (mem_path.mpr ⟨0, Nat.zero_lt_succ k, rfl⟩)
                · exact (hk' y).mpr (.inl (hk3 y (by omega) hmy))
          · -- it comes round without
            have hin := of_decide_eq_false hb2
            have hback : it L k i ∈ path L i k := by
              rw [decide_eq_false hin, Bool.not_false, Bool.true_and, Bool.not_eq_false', decide_eq_true_eq] at hb
              exact hb
            refine ⟨ks, _, _, _, _, _, rfl, eH5.trans e6, hD5.ex e6, nk, hk1, hk2, fun y hy hmy => ?_⟩
            by_cases ey : y = i
            · subst ey
              obtain ⟨z, hz, ez⟩ := mem_path.mp hback
              have ho : Orb L y k := ⟨by omega, hinj, z, hz, ez⟩
              obtain ⟨u, v, e⟩ := hmy
              obtain ⟨z2, hz2, ez2⟩ := mem_path.mp (ho.all u)
              exact absurd (hk2 _ (hm.all v)) (by rw [← e, ez2]; exact hno z2 hz2)
            · exact hk3 y (by omega) hmy
      · obtain ⟨ks, y3, y4, y5, y6, y7, rfl, eH, hD, nk, hk1, hk2, hk3⟩ := hP
        have hkl : ks.length ≤ L.length := nodup_len nk fun z hz => (hk1 z hz).1
        rw [Int.toNat_natCast] at hk3
        exact ret_L (q (srt ks) (by rw [srt_len]; omega) fun x => by
          rw [mem_srt]
          exact ⟨hk1 x, fun ⟨h1, h2⟩ => hk3 x h1 h2⟩) eH (el_sortedD (ev_var rfl) hD (by omega))
abbrev s_comes : Stmt := topS 27
abbrev N_comes : List Str := ["leading", "one", "other", "mine", "at", "many", "place"]
theorem sc_comes : FnScope N_comes ["leading", "one", "other"] (defScope s_comes) := ⟨rfl, rfl, rfl, by decide +kernel, rfl, by decide +kernel, by decide +kernel⟩
def spComes (c : Cs) : Sp := fun vs H Q _ => ∃ (a : Addr) (L : List Nat) (p q : Nat), vs = [.ref a, .int (p : Int), .int (q : Int)] ∧ IsLd H a L ∧ p < L.length ∧ q < L.length ∧
  (∀ x dx (i j : Nat) H2, H x = none → Ex H H2 → H2 x = some (.ins c.Met dx [("mine", .int (i : Int)), ("theirs", .int (j : Int))]) → it L i p = it L j q → Q (.ref x) H2) ∧
  (∀ x dx l (ps : List Nat) H2, H x = none → H l = none → Ex H H2 → H2 x = some (.ins c.Apart dx [("places", .ref l)]) → H2 l = some (.lst (nl ps)) → ps.length ≤ 63 → (∀ y, y ∈ ps ↔ y < L.length ∧ Meets L y p) → ¬ Meets L q p → Q (.ref x) H2)
theorem ok_comes {f : Addr} {fd : FuncData} (F : Fun K "comes" "comes" s_comes f fd) (B : Bl mg) (D_asked_leading : Dk P w K mg base CX0 2 "asked_leading" ["leading"] spAskedL) (D_asked_place : Dk P w K mg base CX0 2 "asked_place" ["leading", "place"] spAskedP)
    (D_walked : Dk P w K mg base CX0 1 "walked" ["leading", "place"] spWalked) (D_herd_of : Dk P w K mg base CX0 2 "herd_of" ["leading", "place"] spHerd) (I_Met : Cn P w K mg base CX0 1 "Met" c.Met ["self", "mine", "theirs"] (spInitM c.Met)) (I_Apart : Cn P w K mg base CX0 1 "Apart" c.Apart ["self", "places"] (spInitL K c.Apart "places")) :
    FnOk P w K mg base CX0 3 f fd ["leading", "one", "other"] (spComes c) := by
  refine F.ok sc_comes (fun vs H Q E h => ?_) (fun cdv A outer s H vs Q E hr h => ?_)
  · obtain ⟨a, L, p, q, rfl, _⟩ := h
    rfl
  · obtain ⟨a, L, p, q, rfl, hL, hp, hq, k1, k2⟩ := h
    have hu := hu_of hr
    refine ⟨_, (pss_cons (ps_expr (pe_callD D_asked_leading (hr.mono (by decide)) (by rfl) pass0 (pa_cons (pv 0) pa_nil)))
    (pss_cons (ps_expr (pe_callD D_asked_place (hr.mono (by decide)) (by rfl) pass0 (pa_cons (pv 0) (pa_cons (pv 1) pa_nil))))
    (pss_cons (ps_expr (pe_callD D_asked_place (hr.mono (by decide)) (by rfl) pass0 (pa_cons (pv 0) (pa_cons (pv 2) pa_nil))))
    (pss_cons (ps_set (i := 3) sc_comes.nd rfl (Or.inl rfl) (pe_callD D_walked (hr.mono (by decide)) (by rfl) pass0 (pa_cons (pv 0) (pa_cons (pv 1) pa_nil))))
    (pss_cons (ps_set (i := 4) sc_comes.nd rfl (Or.inl rfl) pe_dnewK)
    (pss_cons (ps_for PassesOwn.never rfl (pi_enum (by rfl) B.enumerate_ (pa_cons (pv 3) pa_nil)) (pg_tup (by rfl) (pgs_cons (pg_name (i := 5) sc_comes.nd rfl (Or.inl rfl)) (pgs_cons (pg_name (i := 6) sc_comes.nd rfl (Or.inl rfl)) pgs_nil)))
    (pss_one (ps_dput hu (pv 4) (pv 6) (pv 5) rfl)))
    (pss_cons (ps_for PassesOwn.never rfl (pi_enum (by rfl) B.enumerate_ (pa_cons (pe_callD D_walked (hr.mono (by decide)) (by rfl) pass0 (pa_cons (pv 0) (pa_cons (pv 2) pa_nil))) pa_nil)) (pg_tup (by rfl) (pgs_cons (pg_name (i := 5) sc_comes.nd rfl (Or.inl rfl)) (pgs_cons (pg_name (i := 6) sc_comes.nd rfl (Or.inl rfl)) pgs_nil)))
    (pss_one (ps_if (pt_cmp (pc_din hu (pv 6) (pv 4)))
    (pss_one (ps_ret (pe_makeD I_Met (hr.mono (by decide)) (by rfl) pass0 (pa_cons (pe_dget hu (pv 4) (pv 6) (fun _ _ => rfl)) (pa_cons (pv 5) pa_nil)))))
    pss_nil)))
    (pss_one (ps_ret (pe_makeD I_Apart (hr.mono (by decide)) (by rfl) pass0 (pa_cons (pe_callD D_herd_of (hr.mono (by decide)) (by rfl) pass0 (pa_cons (pv 0) (pa_cons (pv 1) pa_nil))) pa_nil))))))))))), ?_⟩
    have h63 := hL.2.2
    have hLd := hL.2.1
    obtain ⟨m, hm⟩ := orb_ex hLd hp
    have hml := hm.le hLd hp
    obtain ⟨n, hn⟩ := orb_ex hLd hq
    refine q_drop (ev_callV (ea1 (ev_var rfl)) (sv_asked_leading hL)) fun H1 e1 => ?_
    refine q_drop (ev_callV (ea2 (ev_var rfl) (ev_var rfl)) (sv_asked_place (hL.ex e1) hp)) fun H2 e2 => ?_
    refine q_drop (ev_callV (ea2 (ev_var rfl) (ev_var rfl)) (sv_asked_place (hL.ex (e1.trans e2)) hq)) fun H3 e3 => ?_
    have e := (e1.trans e2).trans e3
    refine q_asgL (el_callL (ea2 (ev_var rfl) (ev_var rfl)) (sl_walked (hL.ex e) hp hm)) fun pm H4 nm e4 hpm => ?_
    refine q_dnew fun d H5 nd e5 hd => ?_
    have e' := (e.trans e4).trans e5
    have hpm5 := e5 _ _ hpm
    have nd0 : H d = none := fresh_back (e.trans e4) nd
    have hne : pm ≠ d := ne_of_none hpm nd
    refine q_forE (ev_var rfl) (sq_of hpm5) (fun i σ' H' => ∃ (M : Int → Option V) (y5 y6 : Option V), σ' = [some (.ref a), some (.int (p : Int)), some (.int (q : Int)), some (.ref pm), some (.ref d), y5, y6] ∧ Ex H H' ∧ H' pm = some (.lst (nl (path L p m))) ∧ DM H' d i M ∧ (∀ j, j < i → M (it L j p : Int) = some (.int (j : Int))) ∧ ∀ z, (M z).isSome = true → ∃ j, j < i ∧ z = (it L j p : Int))
      (fun H6 e6 => ⟨_, _, _, rfl, e'.trans e6, e6 _ _ hpm5, hd.ex e6, fun j h => absurd h (Nat.not_lt_zero j), fun z h => by cases h⟩) (fun i σ' H' _ ⟨M, _, _, _, _, h, _⟩ => sq_of h) (fun i x σ' H' H6 hx hP e6 _ => ?_) (fun σ' H' hP => ?_)
    · obtain ⟨M, y5, y6, rfl, eH, hpm', hD, hM1, hM2⟩ := hP
      obtain ⟨y, hy, rfl, hlt⟩ := nl_inv hx
      rw [path_len] at hlt
      rw [path_get hlt] at hy
      obtain rfl := Option.some.inj hy
      refine s_dput (ev_var rfl) (ev_var rfl) (ev_var rfl) (hD.ex e6) (by omega) fun H7 e7 o hD7 => ?_
      refine ⟨_, _, _, rfl, Ex.mut ((eH.trans e6).trans e7) nd0, by rw [upd_ne hne]; exact e7 _ _ (e6 _ _ hpm'), hD7, fun j hj => ?_, fun z hz => ?_⟩
      · by_cases ej : j = i
        · subst ej
          rw [if_pos rfl]
        · rw [if_neg fun z => hm.inj j i (by omega) hlt (by omega)]
          exact hM1 j (by omega)
      · by_cases ez : z = (it L i p : Int)
        · exact ⟨i, by omega, ez⟩
        · rw [if_neg ez] at hz
          obtain ⟨j, h1, h2⟩ := hM2 z hz
          exact ⟨j, by omega, h2⟩
    · obtain ⟨M, y5, y6, rfl, eH, hpm', hD, hM1, hM2⟩ := hP
      rw [nl_len, path_len] at hM1 hM2 hD
      refine q_forNE (el_callL (ea2 (ev_var rfl) (ev_var rfl)) (sl_walked (hL.ex eH) hq hn)) (fun r i σ' H' => ∃ (y5 y6 : Option V), σ' = [some (.ref a), some (.int (p : Int)), some (.int (q : Int)), some (.ref pm), some (.ref d), y5, y6] ∧ Ex H H' ∧ H' r = some (.lst (nl (path L q n))) ∧ DM H' d m M ∧ ∀ j, j < i → it L j q ∉ path L p m)
        (fun r H6 nr e6 h6 => ⟨_, _, rfl, eH.trans e6, h6, hD.ex e6, fun j h => absurd h (Nat.not_lt_zero j)⟩) (fun r i σ' H' _ ⟨_, _, _, _, h, _⟩ => sq_of h) (fun r i x σ' H' H6 hx hP e6 _ => ?_) (fun r σ' H' hP => ?_)
      · obtain ⟨y5, y6, rfl, eH', hr', hD', hno⟩ := hP
        obtain ⟨y, hy, rfl, hlt⟩ := nl_inv hx
        rw [path_len] at hlt
        rw [path_get hlt] at hy
        obtain rfl := Option.some.inj hy
        have hD6 := hD'.ex e6
        refine s_when (et_B (ev_din (ev_var rfl) (ev_var rfl) hD6)) (fun hb H7 e7 => ?_) (fun hb H7 e7 => ?_)
        · obtain ⟨j, hj, ej⟩ := hM2 _ hb
          have ej' : it L i q = it L j p := by omega
          have hMj : M (it L i q : Int) = some (.int (j : Int)) := by
            rw [ej]
            exact hM1 j hj
          exact tmkM (ev_dget (ev_var rfl) (ev_var rfl) (hD6.ex e7) hMj) (ev_var rfl) fun x dx H8 nx e8 hx8 => k1 x dx j i H8 (fresh_back ((eH'.trans e6).trans e7) nx) (((eH'.trans e6).trans e7).trans e8) hx8 ej'.symm
        · refine ⟨_, _, rfl, (eH'.trans e6).trans e7, e7 _ _ (e6 _ _ hr'), hD6.ex e7, fun j hj hin => ?_⟩
          by_cases ej : j = i
          · subst ej
            obtain ⟨z, hz, ez⟩ := mem_path.mp hin
            rw [ez, hM1 z hz] at hb
            cases hb
          · exact hno j (by omega) hin
      · obtain ⟨y5, y6, rfl, eH', hr', hD', hno⟩ := hP
        rw [nl_len, path_len] at hno
        have hnm : ¬ Meets L q p := no_meet hm hn fun x hx => by
          obtain ⟨j, hj, rfl⟩ := mem_path.mp hx
          exact hno j hj
        exact tmkC (fun ps => ps.length ≤ 63 ∧ ∀ y, y ∈ ps ↔ y < L.length ∧ Meets L y p) (ea2 (ev_var rfl) (ev_var rfl)) (fun H6 e6 R hR => ⟨a, L, p, rfl, hL.ex (eH'.trans e6), hp, fun ps h1 h2 => hR ps ⟨h1, h2⟩⟩) fun ps x dx l H6 hg nx nl' e6 hx hl => k2 x dx l ps H6 (fresh_back eH' nx) (fresh_back eH' nl') (eH'.trans e6) hx hl hg.1 hg.2 hnm
abbrev s_by_length : Stmt := topS 28
abbrev N_by_length : List Str := ["leading", "found", "ring"]
theorem sc_by_length : FnScope N_by_length ["leading"] (defScope s_by_length) := ⟨rfl, rfl, rfl, by decide +kernel, rfl, by decide +kernel, by decide +kernel⟩
def spByLen : Sp := fun vs H Q _ => ∃ (a : Addr) (L : List Nat), vs = [.ref a] ∧ IsLd H a L ∧ ∀ d ks H2, H d = none → Ex H H2 → ByLen H2 d ks (rgs L L.length) → Q (.ref d) H2
theorem ok_by_length {f : Addr} {fd : FuncData} (F : Fun K "by_length" "by_length" s_by_length f fd) (B : Bl mg) (D_rings_of : Dk P w K mg base CX0 2 "rings_of" ["leading"] spRingsOf) : FnOk P w K mg base CX0 3 f fd ["leading"] spByLen := by
  refine F.ok sc_by_length (fun vs H Q E h => ?_) (fun cdv A outer s H vs Q E hr h => ?_)
  · obtain ⟨a, L, rfl, _⟩ := h
    rfl
  · obtain ⟨a, L, rfl, hL, q⟩ := h
    have hu := hu_of hr
    refine ⟨_, (pss_cons (ps_set (i := 1) sc_by_length.nd rfl (Or.inl rfl) pe_dnewK)
    (pss_cons (ps_for PassesOwn.never rfl (pi_list (pe_callD D_rings_of (hr.mono (by decide)) (by rfl) pass0 (pa_cons (pv 0) pa_nil))) (pg_name (i := 2) sc_by_length.nd rfl (Or.inl rfl))
    (pss_one (ps_dput hu (pv 1) (pe_callB (call_lenK (K := K) rfl) (by rfl) B.len_ bo_len (pa_cons (pv 2) pa_nil)) (pe_op op_cat (pe_dget2 hu (pv 1) (pe_callB (call_lenK (K := K) rfl) (by rfl) B.len_ bo_len (pa_cons (pv 2) pa_nil)) (pe_lst pa_nil) ⟨rfl, rfl, rfl, rfl⟩) (pe_lst (pa_cons (pv 2) pa_nil))) rfl)))
    (pss_one (ps_ret (pv 1))))), ?_⟩
    have h63 := hL.2.2
    have hrl : (rgs L L.length).length ≤ 63 := by
      have := rgs_len L L.length
      omega
    refine q_dnewK fun d H1 nd e1 hd => ?_
    obtain ⟨kvs0, hk0, hk1⟩ := hd
    have hk2 : kvs0 = [] := List.map_eq_nil_iff.mp hk1
    subst hk2
    refine q_forLL (Ls := rgs L L.length) (ea1 (ev_var rfl)) (fun H3 e3 R hR => ⟨a, L, rfl, hL.ex (e1.trans e3), hR⟩) (fun G p rs i σ' H' => ∃ (ks : List Nat) (y2 : Option V), σ' = [some (.ref a), some (.ref d), y2] ∧ Ex H H' ∧ ExB d G H' ∧ p ≠ d ∧ d ∉ rs ∧ ks.length ≤ i ∧ ByLen H' d ks ((rgs L L.length).take i))
      (fun p rs G eG hN => ⟨[], _, rfl, e1.trans eG, fun _ _ _ h => h, ne_of hN.top (eG _ _ hk0) (fun z => by cases z), (fun hm => by
        obtain ⟨l, _, h⟩ := hN.el.mem hm
        rw [eG _ _ hk0] at h
        cases h), Nat.le_refl 0, [], eG _ _ hk0, rfl, List.nodup_nil, fun m => ⟨fun h => (nomatch h), fun ⟨r, h, _⟩ => (nomatch h)⟩, fun m hm => (nomatch hm)⟩) (fun G p rs i σ' H' hN ⟨_, _, _, _, e, hp, _⟩ => sq_of (e _ _ hp hN.top)) (fun G p rs i r l σ' H' eG hN hr hl hP => ?_) (fun G p rs σ' H' eG hN hP => ?_)
    · obtain ⟨ks, y2, rfl, eH, eB, hp, hdr, hkl, hBy⟩ := hP
      obtain ⟨l', hl1, hl2⟩ := hN.el.get hr
      rw [hl] at hl1
      obtain rfl := Option.some.inj hl1
      have hrd : r ≠ d := fun e => hdr (e ▸ List.mem_of_getElem? hr)
      have hrr := eB _ _ hrd hl2
      have hi : i < (rgs L L.length).length := (List.getElem?_eq_some_iff.mp hl).1
      obtain ⟨kvs, hk, hkey, hnd, hmem, hval⟩ := id hBy
      have hklen : kvs.length = ks.length := by
        have := congrArg List.length hkey
        rw [List.length_map, List.length_map] at this
        exact this
      have hold : ∃ old : List Addr, old.length ≤ 63 ∧ ((∃ lr, valV kvs (.inl (l.length : Int)) = some (.ref lr) ∧ H' lr = some (.lst (old.map V.ref))) ∨ (valV kvs (.inl (l.length : Int)) = none ∧ old = [])) := by
        have h1 := keyMem hkey l.length
        by_cases hm : l.length ∈ ks
        · obtain ⟨lr, rs', g1, g2, g3⟩ := hval _ hm
          refine ⟨rs', ?_, .inl ⟨lr, g1, g2⟩⟩
          rw [g3.len]
          have h2 := List.length_filter_le (fun r => decide (r.length = l.length)) ((rgs L L.length).take i)
          rw [List.length_take] at h2
          omega
        · refine ⟨[], Nat.zero_le _, .inr ⟨?_, rfl⟩⟩
          rw [decide_eq_false hm] at h1
          exact Option.isSome_eq_false_iff.mp h1 |> fun h => Option.isNone_iff_eq_none.mp h
      obtain ⟨old, hol, ho⟩ := hold
      have ho2 : (∃ lr, valV kvs (.inl (l.length : Int)) = some (.ref lr) ∧ H' lr = some (.lst (old.map V.ref))) ∨ (valV kvs (.inl (l.length : Int)) = none ∧ old.map V.ref = []) := ho.elim .inl fun ⟨h1, h2⟩ => .inr ⟨h1, by rw [h2]; rfl⟩
      refine s_dputX (xs := old.map V.ref ++ [.ref r]) (el_catS (evs_dget2 (ev_var rfl) (ev_lenNl (ev_var rfl) (sq_of hrr)) hk ho2) (el_lst (ea1 (ev_var rfl)) (by show 1 ≤ 100000; decide)) (by rw [List.length_map]; show old.length + 1 ≤ 100000; omega)) (ev_var rfl) (ev_lenNl (ev_var rfl) (sq_of hrr)) hk (by omega) fun q1 H3 nq e3 hq => ?_
      refine ⟨addK ks l.length, _, rfl, Ex.mut (eH.trans e3) nd, fun b o hb h => by
        rw [upd_ne hb]
        exact e3 _ _ (eB _ _ hb h), hp, hdr, ?_, ?_⟩
      · unfold addK
        split
        · omega
        · rw [List.length_append, List.length_singleton]
          omega
      · rw [List.take_add_one, hl]
        exact byLen_step hBy hk e3 hrr ho nq hq
    · obtain ⟨ks, y2, rfl, eH, eB, hp, hdr, hkl, hBy⟩ := hP
      rw [List.take_length] at hBy
      exact ⟨_, rfl, q d ks H' nd eH hBy⟩
abbrev s_braid : Stmt := topS 30
abbrev N_braid : List Str := ["found", "one", "other", "at", "place"]
theorem sc_braid : FnScope N_braid ["found", "one", "other"] (defScope s_braid) := ⟨rfl, rfl, rfl, by decide +kernel, rfl, by decide +kernel, by decide +kernel⟩
def spBraid (K : PySem.W.Frag) : Sp := fun vs H Q _ => ∃ (f a b : Addr) (L F A B : List Nat), vs = [.ref f, .ref a, .ref b] ∧ H f = some (.lst (nl F)) ∧ SqL K H a (nl A) ∧ SqL K H b (nl B) ∧ F.length = L.length ∧ L.length ≤ 63 ∧ A.length ≤ 63 ∧ BrA L A B ∧ f ≠ a ∧ f ≠ b ∧
  ∀ F' H', Br F A B A.length F' → ExB f H H' → H' f = some (.lst (nl F')) → Q .non H'
theorem exB_l {H H' : Hp} {f p : Addr} {xs : List V} (h : SqL K H p xs) (e : ExB f H H') (hne : f ≠ p) : SqL K H' p xs := by
  rcases h with (h | ⟨o, h⟩) | h
  · exact .inl (.inl (e _ _ hne.symm h))
  · exact .inl (.inr ⟨o, e _ _ hne.symm h⟩)
  · exact .inr h
theorem ok_braid {f : Addr} {fd : FuncData} (F : Fun K "braid" "braid" s_braid f fd) (B : Bl mg) : FnOk P w K mg base CX0 1 f fd ["found", "one", "other"] (spBraid K) := by
  refine F.ok sc_braid (fun vs H Q E h => ?_) (fun cdv A outer s H vs Q E hr h => ?_)
  · obtain ⟨f, a, b, L, Fs, Xs, Ys, rfl, _⟩ := h
    rfl
  · obtain ⟨f, a, b, L, Fs, Xs, Ys, rfl, hF, hA, hB, hFL, h63, hA63, hab, hfa, hfb, q⟩ := h
    refine ⟨_, (pss_one (ps_for PassesOwn.never rfl (pi_enum (by rfl) B.enumerate_ (pa_cons (pv 1) pa_nil)) (pg_tup (by rfl) (pgs_cons (pg_name (i := 3) sc_braid.nd rfl (Or.inl rfl)) (pgs_cons (pg_name (i := 4) sc_braid.nd rfl (Or.inl rfl)) pgs_nil)))
    (pss_cons (ps_asg (pe_ix (ix_listK (K := K) rfl) (pv 2) (pv 3) (fun _ _ => rfl)) (pg_sub (pv 0) (pv 4) set_list))
    (pss_one (ps_asg (pe_ix (ix_listK (K := K) rfl) (pv 1) (pe_op op_modN (pe_op op_add (pv 3) pe_int) (pe_callB (call_lenK (K := K) rfl) (by rfl) B.len_ bo_len (pa_cons (pv 1) pa_nil))) (fun _ _ => rfl)) (pg_sub (pv 0) (pe_ix (ix_listK (K := K) rfl) (pv 2) (pv 3) (fun _ _ => rfl)) set_list)))))), ?_⟩
    have hl := hab.len
    refine s_forE (ev_var rfl) hA (fun i σ' H' => ∃ (y3 y4 : Option V), σ' = [some (.ref f), some (.ref a), some (.ref b), y3, y4] ∧ ExB f H H' ∧ H' f = some (.lst (nl (brF Fs Xs Ys i))))
      (fun H1 e1 => ⟨_, _, rfl, fun _ _ _ h => e1 _ _ h, e1 _ _ hF⟩) (fun i σ' H' _ ⟨_, _, _, e, _⟩ => exB_l hA e hfa) (fun i x σ' H' H1 hx hP e1 _ => ?_) (fun σ' H' hP => ?_)
    · obtain ⟨y3, y4, rfl, eH, hf⟩ := hP
      obtain ⟨y, hy, rfl, hi⟩ := nl_inv hx
      have ey : y = st Xs i := by
        rw [st_get hi] at hy
        exact (Option.some.inj hy).symm
      subst ey
      have hbr := br_step hab hFL i (by omega)
      have hlF := hbr.len
      have hAi := hab.a.lt i hi
      have hBi := hab.b.lt i (by omega)
      have hm := Nat.mod_lt (i + 1) hab.a.pos
      have hB1 := ex_l e1 (exB_l hB eH hfb)
      refine q_setL (j := st Xs i) (e1 _ _ hf) (ev_op (ev_var rfl) (ev_var rfl) (rv_ixN hB1 (by omega))) (ev_var rfl) (ev_var rfl) (by rw [nl_len]; omega) fun H2 e2 => ?_
      rw [nl_set]
      have eB2 : ExB f H (upd H2 f (.lst (nl ((brF Fs Xs Ys i).set (st Xs i) (st Ys i))))) := fun c o hc h => by
        rw [upd_ne hc]
        exact e2 _ _ (e1 _ _ (eH _ _ hc h))
      refine s_setL (j := st Ys i) upd_same (ev_op (ev_var rfl) (ev_op (ev_op (ev_var rfl) ev_c (rv_dec (vadd i 1))) (ev_lenNl (ev_var rfl) (exB_l hA eB2 hfa)) (rv_IW (by have := hab.a.pos; omega) (vmod (i + 1) Xs.length))) (rv_ixN (exB_l hA eB2 hfa) hm)) (ev_var rfl) (ev_op (ev_var rfl) (ev_var rfl) (rv_ixN (exB_l hB eB2 hfb) (by omega))) (by rw [nl_len, List.length_set]; omega) fun H3 e3 => ?_
      rw [nl_set]
      exact ⟨_, _, rfl, fun c o hc h => by
        rw [upd_ne hc]
        exact e3 _ _ (eB2 _ _ hc h), upd_same⟩
    · obtain ⟨y3, y4, rfl, eH, hf⟩ := hP
      rw [nl_len] at hf
      exact q _ H' (br_step hab hFL Xs.length (Nat.le_refl _)) eH hf
abbrev s_halve : Stmt := topS 31
abbrev N_halve : List Str := ["found", "ring", "at", "place"]
theorem sc_halve : FnScope N_halve ["found", "ring"] (defScope s_halve) := ⟨rfl, rfl, rfl, by decide +kernel, rfl, by decide +kernel, by decide +kernel⟩
def spHalve (K : PySem.W.Frag) : Sp := fun vs H Q _ => ∃ (f a : Addr) (L F A : List Nat), vs = [.ref f, .ref a] ∧ H f = some (.lst (nl F)) ∧ SqL K H a (nl A) ∧ F.length = L.length ∧ L.length ≤ 63 ∧ A.length ≤ 63 ∧ RingL L A ∧ f ≠ a ∧
  ∀ F' H', Hv F A A.length F' → ExB f H H' → H' f = some (.lst (nl F')) → Q .non H'
theorem ok_halve {f : Addr} {fd : FuncData} (F : Fun K "halve" "halve" s_halve f fd) (B : Bl mg) : FnOk P w K mg base CX0 1 f fd ["found", "ring"] (spHalve K) := by
  refine F.ok sc_halve (fun vs H Q E h => ?_) (fun cdv A outer s H vs Q E hr h => ?_)
  · obtain ⟨f, a, L, Fs, Xs, rfl, _⟩ := h
    rfl
  · obtain ⟨f, a, L, Fs, Xs, rfl, hF, hA, hFL, h63, hA63, hR, hfa, q⟩ := h
    refine ⟨_, (pss_one (ps_for PassesOwn.never rfl (pi_enum (by rfl) B.enumerate_ (pa_cons (pv 1) pa_nil)) (pg_tup (by rfl) (pgs_cons (pg_name (i := 2) sc_halve.nd rfl (Or.inl rfl)) (pgs_cons (pg_name (i := 3) sc_halve.nd rfl (Or.inl rfl)) pgs_nil)))
    (pss_one (ps_asg (pe_ix (ix_listK (K := K) rfl) (pv 1) (pe_op op_modN (pe_op op_add (pv 2) (pe_op op_fdivN (pe_op op_add (pe_callB (call_lenK (K := K) rfl) (by rfl) B.len_ bo_len (pa_cons (pv 1) pa_nil)) pe_int) pe_int)) (pe_callB (call_lenK (K := K) rfl) (by rfl) B.len_ bo_len (pa_cons (pv 1) pa_nil))) (fun _ _ => rfl)) (pg_sub (pv 0) (pv 3) set_list))))), ?_⟩
    refine s_forE (ev_var rfl) hA (fun i σ' H' => ∃ (y2 y3 : Option V), σ' = [some (.ref f), some (.ref a), y2, y3] ∧ ExB f H H' ∧ H' f = some (.lst (nl (hvF Fs Xs i))))
      (fun H1 e1 => ⟨_, _, rfl, fun _ _ _ h => e1 _ _ h, e1 _ _ hF⟩) (fun i σ' H' _ ⟨_, _, _, e, _⟩ => exB_l hA e hfa) (fun i x σ' H' H1 hx hP e1 _ => ?_) (fun σ' H' hP => ?_)
    · obtain ⟨y2, y3, rfl, eH, hf⟩ := hP
      obtain ⟨y, hy, rfl, hi⟩ := nl_inv hx
      have ey : y = st Xs i := by
        rw [st_get hi] at hy
        exact (Option.some.inj hy).symm
      subst ey
      have hlF := (hv_step hR hFL i (by omega)).len
      have hAi := hR.lt i hi
      have hpos := hR.pos
      have hm := Nat.mod_lt (i + (Xs.length + 1) / 2) hpos
      have hA1 := ex_l e1 (exB_l hA eH hfa)
      refine s_setL (j := st Xs i) (e1 _ _ hf) (ev_op (ev_var rfl) (ev_op (ev_op (ev_var rfl) (ev_op (ev_op (ev_lenNl (ev_var rfl) hA1) ev_c (rv_dec (vadd Xs.length 1))) ev_c (rv_IW ⟨by decide, by decide⟩ (vdiv (Xs.length + 1) 2))) (rv_dec (vadd i _))) (ev_lenNl (ev_var rfl) hA1) (rv_IW (by omega) (vmod (i + (Xs.length + 1) / 2) Xs.length))) (rv_ixN hA1 hm)) (ev_var rfl) (ev_var rfl) (by rw [nl_len]; omega) fun H2 e2 => ?_
      rw [nl_set]
      exact ⟨_, _, rfl, fun c o hc h => by
        rw [upd_ne hc]
        exact e2 _ _ (e1 _ _ (eH _ _ hc h)), upd_same⟩
    · obtain ⟨y2, y3, rfl, eH, hf⟩ := hP
      rw [nl_len] at hf
      exact q _ H' (hv_step hR hFL Xs.length (Nat.le_refl _)) eH hf
abbrev s_root : Stmt := topS 29
abbrev N_root : List Str := ["leading", "told", "found", "length", "some", "at", "ring", "place"]
theorem sc_root : FnScope N_root ["leading"] (defScope s_root) := ⟨rfl, rfl, rfl, by decide +kernel, rfl, by decide +kernel, by decide +kernel⟩
def spRoot (c : Cs) : Sp := fun vs H Q _ => ∃ (a : Addr) (L : List Nat), vs = [.ref a] ∧ IsLd H a L ∧ L.Nodup ∧
  (∀ (m : Nat) x dx l rs H2, m % 2 = 0 → 2 ≤ m → (ofLen L m).length % 2 = 1 → H x = none → Ex H H2 → NLL H H2 l rs (ofLen L m) → H2 x = some (.ins c.Odd dx [("length", .int (m : Int)), ("rings", .ref l)]) → Q (.ref x) H2) ∧
  (∀ (F : List Nat) x dx l H2, (∀ m, m % 2 = 0 → (ofLen L m).length % 2 = 0) → Lead F → F.length = L.length → F.map (st F) = L → H x = none → H l = none → Ex H H2 → H2 x = some (.ins c.Root dx [("leading", .ref l)]) → H2 l = some (.lst (nl F)) → Q (.ref x) H2)
theorem s_dropX {D : Ends} {σ : L2.St} {H : Hp} {sp : Sp} {vs : List V} {E : XK} {ta : TA} (h : EvA ta σ H vs) (hs : ∀ H1, Ex H H1 → sp vs H1 (fun _ H2 => D.nx σ H2) E) : tDrop (tCall sp [] E ta) D σ H :=
  h H (Ex.refl H) _ fun H1 e => by
    rw [List.append_nil]
    exact hs H1 e
theorem ofLen_ring {L r : List Nat} {m : Nat} (hL : Lead L) (h : r ∈ ofLen L m) : r ∈ rgs L L.length ∧ RingL L r ∧ r.length = m := ⟨(mem_ofLen.mp h).1, ring_is hL (mem_ofLen.mp h).1, (mem_ofLen.mp h).2⟩
theorem ok_root {f : Addr} {fd : FuncData} (F : Fun K "root" "root" s_root f fd) (B : Bl mg) (C : Cl K mg c) (D_asked_leading : Dk P w K mg base CX0 2 "asked_leading" ["leading"] spAskedL) (D_asked_back : Dk P w K mg base CX0 1 "asked_back" ["leading"] spAskedB)
    (D_by_length : Dk P w K mg base CX0 3 "by_length" ["leading"] spByLen) (D_braid : Dk P w K mg base CX0 1 "braid" ["found", "one", "other"] (spBraid K)) (D_halve : Dk P w K mg base CX0 1 "halve" ["found", "ring"] (spHalve K))
    (I_Odd : Cn P w K mg base CX0 1 "Odd" c.Odd ["self", "length", "rings"] (spInitO K c.Odd)) (I_Root : Cn P w K mg base CX0 1 "Root" c.Root ["self", "leading"] (spInitL K c.Root "leading")) : FnOk P w K mg base CX0 4 f fd ["leading"] (spRoot c) := by
  refine F.ok sc_root (fun vs H Q E h => ?_) (fun cdv A outer s H vs Q E hr h => ?_)
  · obtain ⟨a, L, rfl, _⟩ := h
    rfl
  · obtain ⟨a, L, rfl, hL, hND, k1, k2⟩ := h
    have hu := hu_of hr
    refine ⟨_, (pss_cons (ps_expr (pe_callD D_asked_leading (hr.mono (by decide)) (by rfl) pass0 (pa_cons (pv 0) pa_nil)))
    (pss_cons (ps_expr (pe_callD D_asked_back (hr.mono (by decide)) (by rfl) pass0 (pa_cons (pv 0) pa_nil)))
    (pss_cons (ps_set (i := 1) sc_root.nd rfl (Or.inl rfl) (pe_callD D_by_length (hr.mono (by decide)) (by rfl) pass0 (pa_cons (pv 0) pa_nil)))
    (pss_cons (ps_setLc (i := 2) (own := [("place", 7)]) (g := gName 7) (tt := tYes) rfl sc_root.nd rfl rfl (sw_true rfl rfl rfl (by decide +kernel)) (pi_list (pv 0)) (blkOk_by (N := N_root) (sc := defScope s_root) (by decide +kernel)) (fun _ _ _ _ _ => (pg_name (i := 7) sc_root.nd rfl (Or.inl rfl))) (fun _ _ _ _ _ => pts_nil) (fun _ _ _ _ _ => pe_int))
    (pss_cons (ps_for PassesOwn.never rfl (pi_list (pe_callB (call_sortedDI rfl) (by rfl) B.sorted_ bo_sorted (pa_cons (pv 1) pa_nil))) (pg_name (i := 3) sc_root.nd rfl (Or.inl rfl))
    (pss_cons (ps_set (i := 4) sc_root.nd rfl (Or.inl rfl) (pe_dget hu (pv 1) (pv 3) (fun _ _ => rfl)))
    (pss_cons (ps_if (PW.pt (pw_and (pt_cmpR op_eq (pe_op op_modN (pv 3) pe_int) pe_int (nomark _)) (pw_and1 (pt_cmpR op_eq (pe_op op_modN (pe_callB (call_lenK (K := K) rfl) (by rfl) B.len_ bo_len (pa_cons (pv 4) pa_nil)) pe_int) pe_int (nomark _)))))
    (pss_one (ps_ret (pe_makeD I_Odd (hr.mono (by decide)) (by rfl) pass0 (pa_cons (pv 3) (pa_cons (pv 4) pa_nil)))))
    pss_nil)
    (pss_one (ps_if (pt_cmpR op_eq (pe_op op_modN (pv 3) pe_int) pe_int (nomark _))
    (pss_one (ps_for PassesOwn.never rfl (pi_range3 (by rfl) B.range_ (pa_cons pe_int (pa_cons (pe_callB (call_lenK (K := K) rfl) (by rfl) B.len_ bo_len (pa_cons (pv 4) pa_nil)) (pa_cons pe_int pa_nil)))) (pg_name (i := 5) sc_root.nd rfl (Or.inl rfl))
    (pss_one (ps_expr (pe_callD D_braid (hr.mono (by decide)) (by rfl) pass0 (pa_cons (pv 2) (pa_cons (pe_ix (ix_listK (K := K) rfl) (pv 4) (pv 5) (fun _ _ => rfl)) (pa_cons (pe_ix (ix_listK (K := K) rfl) (pv 4) (pe_op op_add (pv 5) pe_int) (fun _ _ => rfl)) pa_nil))))))))
    (pss_one (ps_for PassesOwn.never rfl (pi_list (pv 4)) (pg_name (i := 6) sc_root.nd rfl (Or.inl rfl))
    (pss_one (ps_expr (pe_callD D_halve (hr.mono (by decide)) (by rfl) pass0 (pa_cons (pv 2) (pa_cons (pv 6) pa_nil))))))))))))
    (pss_one (ps_ret (pe_makeD I_Root (hr.mono (by decide)) (by rfl) pass0 (pa_cons (pv 2) pa_nil))))))))), ?_⟩
    have h63 := hL.2.2
    have hLd := hL.2.1
    refine q_drop (ev_callV (ea1 (ev_var rfl)) (sv_asked_leading hL)) fun H1 e1 => ?_
    refine q_drop (ev_callV (ea1 (ev_var rfl)) (sv_asked_back (hL.ex e1) hND)) fun H2 e2 => ?_
    refine q_asgX (ea1 (ev_var rfl)) fun H2' e2' => ⟨a, L, rfl, hL.ex ((e1.trans e2).trans e2'), fun d ks H3 nd e3 hBy => ?_⟩
    have eH3 := ((e1.trans e2).trans e2').trans e3
    obtain ⟨kvs, hk, hkey, hnd, hmem, hval⟩ := id hBy
    have hD : DKs H3 d ks := ⟨kvs, hk, hkey⟩
    have hksl : ks.length ≤ 63 := by
      have h1 := nodup_len hnd (n := L.length + 1) fun m hm => by
        obtain ⟨r, hr, e⟩ := (hmem m).mp hm
        have := (ring_pos hLd hr).2
        omega
      have h2 : ∀ m ∈ ks, m ≠ 0 := fun m hm e => by
        obtain ⟨r, hr, e2⟩ := (hmem m).mp hm
        have := (ring_pos hLd hr).1
        omega
      have h3 := nodup_len (n := L.length + 1) (l := 0 :: ks) (List.nodup_cons.mpr ⟨fun h => h2 0 h rfl, hnd⟩) fun m hm => by
        rcases List.mem_cons.mp hm with rfl | hm
        · omega
        · obtain ⟨r, hr, e⟩ := (hmem m).mp hm
          have := (ring_pos hLd hr).2
          omega
      rw [List.length_cons] at h3
      omega
    have hall : ∀ m ∈ ks, ∃ (lr : Addr) (rs : List Addr), valV kvs (Sum.inl (m : Int)) = some (.ref lr) ∧ H3 lr = some (.lst (rs.map V.ref)) ∧ AllAt H3 rs (ofLen L m) := hval
    have hofl : ∀ m, (ofLen L m).length ≤ 63 := fun m => by
      have h1 := List.length_filter_le (fun r => decide (r.length = m)) (rgs L L.length)
      have h2 := rgs_len L L.length
      have h3 : (ofLen L m).length ≤ (rgs L L.length).length := h1
      omega
    refine q_asgL (el_mapNc (ev_var rfl) (hL.ex eH3).sq (by omega) fun x H4 e4 _ => ev_c) fun fp H4 nf e4 hf => ?_
    have hf0 : H4 fp = some (.lst (nl (List.replicate L.length 0))) := by
      rw [hf]
      unfold nl
      rw [List.map_replicate]
      rfl
    have hys := srt_lt hnd
    refine q_forNLn (el_sortedD (ev_var rfl) (hD.ex e4) (by omega)) (fun p i σ' H' => ∃ (Fs : List Nat) (Hl : List (List Nat)) (y3 y4 y5 y6 : Option V), σ' = [some (.ref a), some (.ref d), some (.ref fp), y3, y4, y5, y6, none] ∧ Ex H3 H' ∧ H' p = some (.lst (nl (srt ks))) ∧ p ≠ fp ∧
        H' fp = some (.lst (nl Fs)) ∧ Half L Fs Hl ∧ (∀ r, r ∈ Hl ↔ r ∈ rgs L L.length ∧ r.length ∈ (srt ks).take i) ∧ ∀ m ∈ (srt ks).take i, m % 2 = 0 → (ofLen L m).length % 2 = 0)
      (fun p H5 np e5 hp => ⟨List.replicate L.length 0, [], _, _, _, _, rfl, e4.trans e5, hp, (ne_of_none hf0 np).symm, e5 _ _ hf0, ⟨List.length_replicate, fun r hr => (nomatch hr), fun r hr => (nomatch hr)⟩, fun r => ⟨fun h => (nomatch h), fun h => (nomatch h.2)⟩, fun m hm => (nomatch hm)⟩)
      (fun p i σ' H' _ ⟨_, _, _, _, _, _, _, _, h, _⟩ => sq_of h) (fun p i x σ' H' hx hP => ?_) (fun p σ' H' hP => ?_)
    · obtain ⟨Fs, Hl, y3, y4, y5, y6, rfl, eH, hp, hpf, hF, hhalf, hHl, hev⟩ := hP
      obtain ⟨m, hm, rfl, hi⟩ := nl_inv hx
      have hmk : m ∈ ks := mem_srt.mp (List.mem_of_getElem? hm)
      obtain ⟨lr, rs, g1, g2, g3⟩ := hall m hmk
      have hrl : rs.length = (ofLen L m).length := g3.len
      have hol := hofl m
      have hflr : fp ≠ lr := (ne_of_none g2 nf).symm
      have hfrs : ∀ r ∈ rs, fp ≠ r := fun r hr => by
        obtain ⟨l, _, h⟩ := g3.mem hr
        exact (ne_of_none h nf).symm
      refine q_asg (ev_dgetV (ev_var rfl) (ev_var rfl) (eH _ _ hk) g1) fun H6 e6 => ?_
      have eH6 := eH.trans e6
      have hlen : ∀ {σ : L2.St} {H7 : Hp}, Ex H3 H7 → σ[4]? = some (some (.ref lr)) → Ev (tCB (rLen1 K) (tCons (tVar 4) tNil)) σ H7 (.int ((ofLen L m).length : Int)) := fun {σ H7} e h0 => by
        have h := ev_lenL (K := K) (ev_var (σ := σ) (H := H7) h0) (sq_of (e _ _ g2))
        rw [List.length_map, hrl] at h
        exact h
      have hmn : m ∉ (srt ks).take i := nodup_take ((srt_perm ks).nodup_iff.mpr hnd) hm
      have htake : ∀ n, n ∈ (srt ks).take (i + 1) ↔ n ∈ (srt ks).take i ∨ n = m := fun n => by
        rw [List.take_add_one, hm, List.mem_append]
        exact or_congr_right List.mem_singleton
      have hfar : ∀ r ∈ ofLen L m, r ∉ Hl := fun r hr h => hmn (by
        have h1 := ((hHl r).mp h).2
        rw [(mem_ofLen.mp hr).2] at h1
        exact h1)
      have hHl2 : ∀ r, r ∈ Hl ++ ofLen L m ↔ r ∈ rgs L L.length ∧ r.length ∈ (srt ks).take (i + 1) := fun r => by
        rw [List.mem_append, hHl r, htake, mem_ofLen]
        exact ⟨fun h => h.elim (fun h => ⟨h.1, .inl h.2⟩) fun h => ⟨h.1, .inr h.2⟩, fun h => h.2.elim (fun h2 => .inl ⟨h.1, h2⟩) fun h2 => .inr ⟨h.1, h2⟩⟩
      have hnd2 := ofLen_nodup hLd m
      refine q_when (b := decide (m % 2 = 0) && decide ((ofLen L m).length % 2 = 1)) (et_and (et_test (ev_op (ev_op (ev_var rfl) ev_c (rv_IW (by decide) (vmod m 2))) ev_c (rv_eqB (decide_eq_decide.mpr ⟨fun h => by omega, fun h => by omega⟩)))) fun _ => et_test (ev_op (ev_op (hlen eH6 rfl) ev_c (rv_IW (by decide) (vmod _ 2))) ev_c (rv_eqB (decide_eq_decide.mpr ⟨fun h => by omega, fun h => by omega⟩)))) (fun hb H7 e7 => ?_) (fun hb H7 e7 => ?_)
      · rw [Bool.and_eq_true, decide_eq_true_eq, decide_eq_true_eq] at hb
        obtain ⟨r, hr, hrm⟩ := (hmem m).mp hmk
        have hpos := (ring_pos hLd hr).1
        have e37 := eH6.trans e7
        have e07 := eH3.trans e37
        exact tmkO (ev_var rfl) (ev_var rfl) ⟨rs, sq_of (e37 _ _ g2), (g3.ex e37).lls⟩ (by omega) fun x dx l rs2 H8 nx e8 hN hx => k1 m x dx l rs2 H8 hb.1 (by omega) hb.2 (fresh_back e07 nx) (e07.trans e8) (hN.back e07) hx
      · have eH7 := eH6.trans e7
        have hF7 := e7 _ _ (e6 _ _ hF)
        have hp7 := e7 _ _ (e6 _ _ hp)
        refine s_if (b := decide (m % 2 = 0)) (et_test (ev_op (ev_op (ev_var rfl) ev_c (rv_IW (by decide) (vmod m 2))) ev_c (rv_eqB (decide_eq_decide.mpr ⟨fun h => by omega, fun h => by omega⟩)))) (fun hb2 H8 e8 => ?_) (fun hb2 H8 e8 => ?_)
        · have hm0 := of_decide_eq_true hb2
          rw [decide_eq_true hm0, Bool.true_and] at hb
          have hol2 : (ofLen L m).length % 2 = 0 := by
            have := of_decide_eq_false hb
            omega
          have hdiv : ((ofLen L m).length + 1) / 2 * 2 = (ofLen L m).length := by omega
          have eH8 := eH7.trans e8
          refine s_forR3 (ea3 ev_c (hlen eH8 rfl) ev_c) (n := ((ofLen L m).length + 1) / 2) (by
              have h := rg_up (n := (ofLen L m).length + 1) (w := 2) (by omega) (by omega) (by omega)
              rw [show (((ofLen L m).length + 1 : Nat) : Int) - ((2 : Nat) : Int) + 1 = ((ofLen L m).length : Int) by omega] at h
              exact h) (fun j σ' H' => ∃ (Fs : List Nat) (y5 : Option V), σ' = [some (.ref a), some (.ref d), some (.ref fp), some (.int (m : Int)), some (.ref lr), y5, y6, none] ∧ Ex H3 H' ∧ H' p = some (.lst (nl (srt ks))) ∧ H' fp = some (.lst (nl Fs)) ∧ Half L Fs (Hl ++ (ofLen L m).take (2 * j)))
            (fun H9 e9 => ⟨Fs, _, rfl, eH8.trans e9, e9 _ _ (e8 _ _ hp7), e9 _ _ (e8 _ _ hF7), by rw [Nat.mul_zero, List.take_zero, List.append_nil]; exact hhalf⟩) (fun j σ' H' hj hP => ?_) (fun σ' H' hP => ?_)
          · obtain ⟨Fs', y5', rfl, eH9, hp9, hF9, hh9⟩ := hP
            have hj2 : 2 * j + 1 < (ofLen L m).length := by omega
            rw [show (0 : Int) + ((j : Nat) : Int) * 2 = ((2 * j : Nat) : Int) by omega]
            have hA : (ofLen L m)[2 * j]? = some (ofLen L m)[2 * j] := List.getElem?_eq_getElem (by omega)
            have hBB : (ofLen L m)[2 * j + 1]? = some (ofLen L m)[2 * j + 1] := List.getElem?_eq_getElem hj2
            generalize (ofLen L m)[2 * j] = X1 at hA
            generalize (ofLen L m)[2 * j + 1] = X2 at hBB
            obtain ⟨mA, rA, lA⟩ := ofLen_ring hLd (List.mem_of_getElem? hA)
            obtain ⟨mB, rB, lB⟩ := ofLen_ring hLd (List.mem_of_getElem? hBB)
            have hra : rs[2 * j]? = some rs[2 * j] := List.getElem?_eq_getElem (by omega)
            have hrb : rs[2 * j + 1]? = some rs[2 * j + 1] := List.getElem?_eq_getElem (by omega)
            generalize rs[2 * j] = ra at hra
            generalize rs[2 * j + 1] = rb at hrb
            obtain ⟨la, h1, ha⟩ := g3.get hra
            rw [hA] at h1
            obtain rfl := Option.some.inj h1
            obtain ⟨lb, h1, hb1⟩ := g3.get hrb
            rw [hBB] at h1
            obtain rfl := Option.some.inj h1
            have hne : X1 ≠ X2 := fun e => by
              have h1 := nodup_takeG hnd2 hBB
              rw [List.take_add_one, hA] at h1
              exact h1 (List.mem_append_right _ (List.mem_singleton.mpr e.symm))
            have hab : BrA L X1 X2 := ⟨rA, rB, by omega, fun z h1 h2 => hne (rgs_disj hLd _ (Nat.le_refl _) mA mB h1 h2)⟩
            have nA : X1 ∉ Hl ++ (ofLen L m).take (2 * j) := fun h => (List.mem_append.mp h).elim (hfar _ (List.mem_of_getElem? hA)) (nodup_takeG hnd2 hA)
            have nB : X2 ∉ Hl ++ (ofLen L m).take (2 * j) := fun h => (List.mem_append.mp h).elim (hfar _ (List.mem_of_getElem? hBB)) fun h => nodup_takeG hnd2 hBB (by
              rw [List.take_add_one]
              exact List.mem_append_left _ h)
            have hl1 := (ring_pos hLd mA).2
            refine s_dropX (ea3 (ev_var rfl) (ev_op (ev_var rfl) (ev_var rfl) (rv_ixL (sq_of (eH9 _ _ g2)) (atI_nat (v := .ref ra) (by rw [List.getElem?_map, hra]; rfl)))) (ev_op (ev_var rfl) (ev_op (ev_var rfl) ev_c (rv_dec (vadd (2 * j) 1))) (rv_ixL (sq_of (eH9 _ _ g2)) (atI_nat (v := .ref rb) (by rw [List.getElem?_map, hrb]; rfl))))) fun H10 e10 => ?_
            refine ⟨fp, ra, rb, L, Fs', X1, X2, rfl, e10 _ _ hF9, sq_of (e10 _ _ (eH9 _ _ ha)), sq_of (e10 _ _ (eH9 _ _ hb1)), hh9.len, h63, by omega, hab, hfrs _ (List.mem_of_getElem? hra), hfrs _ (List.mem_of_getElem? hrb), fun F' H11 hbr eB hF' => ?_⟩
            refine ⟨F', _, rfl, fun b o h => ?_, eB _ _ hpf (e10 _ _ hp9), hF', ?_⟩
            · exact eB _ _ (ne_of_none h nf) (e10 _ _ (eH9 _ _ h))
            · have h5 := half_braid hLd hh9 mA mB hab nA nB hbr
              rw [List.append_assoc] at h5
              rw [show 2 * (j + 1) = 2 * j + 1 + 1 by omega, List.take_add_one, hBB, List.take_add_one, hA, List.append_assoc]
              exact h5
          · obtain ⟨Fs', y5', rfl, eH9, hp9, hF9, hh9⟩ := hP
            rw [show 2 * (((ofLen L m).length + 1) / 2) = (ofLen L m).length by omega, List.take_length] at hh9
            refine ⟨Fs', _, _, _, _, _, rfl, eH9, hp9, hpf, hF9, hh9, hHl2, fun n hn hn2 => ?_⟩
            rcases (htake n).mp hn with h | h
            · exact hev n h hn2
            · subst h
              exact hol2
        · have hm1 : m % 2 = 1 := by
            have := of_decide_eq_false hb2
            omega
          have eH8 := eH7.trans e8
          refine s_forLn (ev_var rfl) (sq_of (eH8 _ _ g2)) (fun j σ' H' => ∃ (Fs : List Nat) (y6 : Option V), σ' = [some (.ref a), some (.ref d), some (.ref fp), some (.int (m : Int)), some (.ref lr), y5, y6, none] ∧ Ex H3 H' ∧ H' p = some (.lst (nl (srt ks))) ∧ H' fp = some (.lst (nl Fs)) ∧ Half L Fs (Hl ++ (ofLen L m).take j))
            (fun H9 e9 => ⟨Fs, _, rfl, eH8.trans e9, e9 _ _ (e8 _ _ hp7), e9 _ _ (e8 _ _ hF7), by rw [List.take_zero, List.append_nil]; exact hhalf⟩) (fun j σ' H' _ ⟨_, _, _, e, _⟩ => sq_of (e _ _ g2)) (fun j x σ' H' hx hP => ?_) (fun σ' H' hP => ?_)
          · obtain ⟨Fs', y6', rfl, eH9, hp9, hF9, hh9⟩ := hP
            obtain ⟨ra, hra, rfl⟩ := ref_at hx
            obtain ⟨X1, hA, ha⟩ := g3.get hra
            obtain ⟨mA, rA, lA⟩ := ofLen_ring hLd (List.mem_of_getElem? hA)
            have hl1 := (ring_pos hLd mA).2
            have nA : X1 ∉ Hl ++ (ofLen L m).take j := fun h => (List.mem_append.mp h).elim (hfar _ (List.mem_of_getElem? hA)) (nodup_takeG hnd2 hA)
            refine s_dropX (ea2 (ev_var rfl) (ev_var rfl)) fun H10 e10 => ?_
            refine ⟨fp, ra, L, Fs', X1, rfl, e10 _ _ hF9, sq_of (e10 _ _ (eH9 _ _ ha)), hh9.len, h63, by omega, rA, hfrs _ (List.mem_of_getElem? hra), fun F' H11 hbr eB hF' => ?_⟩
            refine ⟨F', _, rfl, fun b o h => ?_, eB _ _ hpf (e10 _ _ hp9), hF', ?_⟩
            · exact eB _ _ (ne_of_none h nf) (e10 _ _ (eH9 _ _ h))
            · have h5 := half_halve hLd hh9 mA (by omega) nA hbr
              rw [List.append_assoc] at h5
              rw [List.take_add_one, hA]
              exact h5
          · obtain ⟨Fs', y6', rfl, eH9, hp9, hF9, hh9⟩ := hP
            rw [List.length_map, hrl, List.take_length] at hh9
            refine ⟨Fs', _, _, _, _, _, rfl, eH9, hp9, hpf, hF9, hh9, hHl2, fun n hn hn2 => ?_⟩
            rcases (htake n).mp hn with h | h
            · exact hev n h hn2
            · omega
    · obtain ⟨Fs, Hl, y3, y4, y5, y6, rfl, eH, hp, hpf, hF, hhalf, hHl, hev⟩ := hP
      rw [nl_len, List.take_length] at hHl hev
      have hA := half_all hLd hND hhalf fun r hr => (hHl r).mpr ⟨hr, mem_srt.mpr ((hmem _).mpr ⟨r, hr, rfl⟩)⟩
      have e := eH3.trans eH
      refine tmkR (ev_var rfl) (sq_of hF) fun x dx l H8 nx nl' e8 hx hl => k2 Fs x dx l H8 (fun m hm => ?_) hA.1 hA.2.1 hA.2.2 (fresh_back e nx) (fresh_back e nl') (e.trans e8) hx hl
      by_cases hmk : m ∈ ks
      · exact hev m (mem_srt.mpr hmk) hm
      · have h0 : ofLen L m = [] := List.filter_eq_nil_iff.mpr fun r hr h => hmk ((hmem m).mpr ⟨r, hr, of_decide_eq_true h⟩)
        rw [h0]
        rfl
abbrev s_law_leading : Stmt := topS 33
abbrev N_law_leading : List Str := ["_law_script", "_law_many", "_law_kind", "_law_place", "_law_cell", "_law_found", "_law_other", "_law_kept"]
theorem sc_law_leading : FnScope N_law_leading ["_law_script"] (defScope s_law_leading) := ⟨rfl, rfl, rfl, by decide +kernel, rfl, by decide +kernel, by decide +kernel⟩
def spLLead (K : PySem.W.Frag) : Sp := fun vs H Q _ => ∃ (a : Addr) (ns : List Int), vs = [.ref a] ∧ SqL K H a (il ns) ∧ ns.length ≤ 63 ∧ ∀ L, Lead L → L.length = ns.length → RetL (nl L) H Q
theorem ok_law_leading {f : Addr} {fd : FuncData} (F : Fun K "_law_leading" "_law_leading" s_law_leading f fd) (B : Bl mg) : FnOk P w K mg base CX0 1 f fd ["_law_script"] (spLLead K) := by
  refine F.ok sc_law_leading (fun vs H Q E h => ?_) (fun cdv A outer s H vs Q E hr h => ?_)
  · obtain ⟨a, ns, rfl, _⟩ := h
    rfl
  · obtain ⟨a, ns, rfl, hS, h63, q⟩ := h
    refine ⟨_, (pss_cons (ps_set (i := 1) sc_law_leading.nd rfl (Or.inr rfl) (pe_callB (call_lenK (K := K) rfl) (by rfl) B.len_ bo_len (pa_cons (pv 0) pa_nil)))
    (pss_cons (ps_set (i := 2) sc_law_leading.nd rfl (Or.inl rfl) (pe_op op_modN (pe_callB (cr_sumK (K := K) rfl rfl) (by rfl) B.sum_ bo_sum (pa_cons (pv 0) pa_nil)) pe_int))
    (pss_cons (ps_if (pt_cmpR op_eq (pv 2) pe_int (nomark _))
    (pss_one (ps_ret (pe_lc (own := [("_law_place", 3), ("_law_cell", 4)]) (g := gTup K 2 (gCons (gName 3) (gCons (gName 4) gNil))) (tt := tYes) rfl sc_law_leading.nd (pi_enum (by rfl) B.enumerate_ (pa_cons (pv 0) pa_nil)) (blkOk_by (N := N_law_leading) (sc := defScope s_law_leading) (by decide +kernel)) (fun _ _ _ _ _ => (pg_tup (by rfl) (pgs_cons (pg_name (i := 3) sc_law_leading.nd rfl (Or.inl rfl)) (pgs_cons (pg_name (i := 4) sc_law_leading.nd rfl (Or.inl rfl)) pgs_nil)))) (fun _ _ _ _ _ => pts_nil) (fun _ _ _ _ _ => (pe_op op_modN (pv 4) (pe_op op_add (pv 3) pe_int))))))
    pss_nil)
    (pss_cons (ps_setLc (i := 5) (own := [("_law_place", 3)]) (g := gName 3) (tt := tYes) rfl sc_law_leading.nd rfl rfl (sw_true rfl rfl rfl (by decide +kernel)) (pi_range1 (by rfl) B.range_ (pa_cons (pv 1) pa_nil)) (blkOk_by (N := N_law_leading) (sc := defScope s_law_leading) (by decide +kernel)) (fun _ _ _ _ _ => (pg_name (i := 3) sc_law_leading.nd rfl (Or.inl rfl))) (fun _ _ _ _ _ => pts_nil) (fun _ _ _ _ _ => (pv 3)))
    (pss_cons (ps_if (pt_cmpR (op_inK (K := K) rfl) (pv 2) (pe_lst (pa_cons pe_int (pa_cons pe_int pa_nil))) (by rfl))
    (pss_cons (ps_for PassesOwn.never rfl (pi_enum (by rfl) B.enumerate_ (pa_cons (pv 0) pa_nil)) (pg_tup (by rfl) (pgs_cons (pg_name (i := 3) sc_law_leading.nd rfl (Or.inl rfl)) (pgs_cons (pg_name (i := 4) sc_law_leading.nd rfl (Or.inl rfl)) pgs_nil)))
    (pss_cons (ps_set (i := 6) sc_law_leading.nd rfl (Or.inl rfl) (pe_op op_modN (pv 4) (pv 1)))
    (pss_cons (ps_set (i := 7) sc_law_leading.nd rfl (Or.inl rfl) (pe_ix (ix_listK (K := K) rfl) (pv 5) (pv 3) (fun _ _ => rfl)))
    (pss_cons (ps_asg (pe_ix (ix_listK (K := K) rfl) (pv 5) (pv 6) (fun _ _ => rfl)) (pg_sub (pv 5) (pv 3) set_list))
    (pss_one (ps_asg (pv 7) (pg_sub (pv 5) (pv 6) set_list)))))))
    (pss_one (ps_ret (pv 5))))
    pss_nil)
    (pss_cons (ps_if (pt_cmpR op_eq (pv 2) pe_int (nomark _))
    (pss_one (ps_ret (pe_lc (own := [("_law_place", 3), ("_law_cell", 4)]) (g := gTup K 2 (gCons (gName 3) (gCons (gName 4) gNil))) (tt := tYes) rfl sc_law_leading.nd (pi_enum (by rfl) B.enumerate_ (pa_cons (pv 0) pa_nil)) (blkOk_by (N := N_law_leading) (sc := defScope s_law_leading) (by decide +kernel)) (fun _ _ _ _ _ => (pg_tup (by rfl) (pgs_cons (pg_name (i := 3) sc_law_leading.nd rfl (Or.inl rfl)) (pgs_cons (pg_name (i := 4) sc_law_leading.nd rfl (Or.inl rfl)) pgs_nil)))) (fun _ _ _ _ _ => pts_nil) (fun _ _ _ _ _ => (pe_op op_modN (pe_op op_add (pe_op op_add (pv 3) pe_int) (pe_op op_modN (pv 4) pe_int)) (pv 1))))))
    pss_nil)
    (pss_one (ps_ret (pe_lc (own := [("_law_cell", 4)]) (g := gName 4) (tt := tYes) rfl sc_law_leading.nd (pi_list (pv 0)) (blkOk_by (N := N_law_leading) (sc := defScope s_law_leading) (by decide +kernel)) (fun _ _ _ _ _ => (pg_name (i := 4) sc_law_leading.nd rfl (Or.inl rfl))) (fun _ _ _ _ _ => pts_nil) (fun _ _ _ _ _ => (pe_op op_modN (pv 4) (pv 1)))))))))))), ?_⟩
    refine q_asg (ev_lenIl (ev_var rfl) hS) fun H1 e1 => ?_
    refine q_asg (ev_op (ev_sum (ev_var rfl) (ex_l e1 hS)) ev_c (rv_I (by decide))) fun H2 e2 => ?_
    have hS2 := ex_l (e1.trans e2) hS
    refine q_when (et_test (ev_op (ev_var rfl) ev_c (rv_eqB rfl))) (fun _ H3 e3 => ?_) (fun _ H3 e3 => ?_)
    · -- return [cell % (place + 1) for place, cell in enumerate(script)]
      obtain ⟨L, h1, h2, h3⟩ := lead_of (n := ns.length) (fun k => (ns.getD k 0).fmod ((k : Int) + 1)) fun k hk => by
        obtain ⟨r, hr, hr2⟩ := fmod_lt (ns.getD k 0) (m := k + 1) (by omega)
        rw [show ((k : Int) + 1) = ((k + 1 : Nat) : Int) by omega, hr]
        omega
      refine ret_L (q L h1 h2) ((e1.trans e2).trans e3) ?_
      rw [← h3, ← given_all, ← il_len ns]
      refine el_lcE (by decide) (fun _ => true) _ (ev_var rfl) (ex_l e3 hS2) (by rw [il_len]; omega) (fun _ _ _ _ _ => et_yes) fun k x H4 e4 hk _ => ?_
      obtain ⟨y, hy, rfl, hl⟩ := il_inv hk
      refine ev_op (ev_var rfl) (ev_op (ev_var rfl) ev_c rv_I0) (rv_IW (by omega) ?_)
      rw [List.getD_eq_getElem?_getD, hy]
      rfl
    · -- found = [place for place in range(many)]
      refine q_asgL (el_mapR (fun i => V.int i) (ea1 (ev_var rfl)) (by omega) fun i H4 e4 hi => ev_var rfl) fun pf H4 nf e4 h4 => ?_
      have eb := ((e1.trans e2).trans e3).trans e4
      have nf0 : H pf = none := fresh_back ((e1.trans e2).trans e3) nf
      refine q_when (et_test (ev_opL (ev_var rfl) (el_lst (ea2 ev_c ev_c) (by decide)) fun p H5 h5 e5 => rv_isL (sq_of h5) rfl rfl)) (fun _ H5 e5 => ?_) (fun _ H5 e5 => ?_)
      · -- places exchanged
        refine q_forE (ev_var rfl) (ex_l ((e3.trans e4).trans e5) hS2) (fun i σ' H' => ∃ (L : List Nat) (k : Int) (y3 y4 y6 y7 : Option V), σ' = [some (.ref a), some (.int (ns.length : Int)), some (.int k), y3, y4, some (.ref pf), y6, y7] ∧ Ex H H' ∧ H' pf = some (.lst (nl L)) ∧ Lead L ∧ L.length = ns.length)
          (fun H6 e6 => ⟨List.range ns.length, _, _, _, _, _, rfl, (eb.trans e5).trans e6, e6 _ _ (e5 _ _ h4), fun x hx => by rw [List.length_range]; exact List.mem_range.mp hx, List.length_range⟩)
          (fun i σ' H' _ ⟨L, k, y3, y4, y6, y7, _, e, _⟩ => ex_l e hS) (fun i x σ' H' H6 hx hp e6 _ => ?_) (fun σ' H' hp => ?_)
        · obtain ⟨L, k, y3, y4, y6, y7, rfl, eH, hf, hL, hlen⟩ := hp
          obtain ⟨z, hz, rfl, hi⟩ := il_inv hx
          obtain ⟨r, hr, hr2⟩ := fmod_lt z (m := ns.length) (by omega)
          refine q_asg (ev_op (ev_var rfl) (ev_var rfl) (rv_IW (by omega) (w := .int (r : Int)) (by rw [hr]))) fun H7 e7 => ?_
          have hf7 := e7 _ _ (e6 _ _ hf)
          refine q_asg (ev_op (ev_var rfl) (ev_var rfl) (rv_ixN (j := i) (sq_of hf7) (by omega))) fun H8 e8 => ?_
          have hf8 := e8 _ _ hf7
          refine q_setL hf8 (ev_op (ev_var rfl) (ev_var rfl) (rv_ixN (j := r) (sq_of hf8) (by omega))) (ev_var rfl) (ev_var rfl) (j := i) (by rw [nl_len]; omega) fun H9 e9 => ?_
          rw [nl_set]
          refine s_setL (j := r) upd_same (ev_var rfl) (ev_var rfl) (ev_var rfl) (by rw [nl_len, List.length_set]; omega) fun H10 e10 => ?_
          rw [nl_set]
          refine ⟨(L.set i (st L r)).set r (st L i), k, _, _, _, _, rfl, ?_, upd_same, ?_, ?_⟩
          · exact Ex.mut ((Ex.mut ((((eH.trans e6).trans e7).trans e8).trans e9) nf0).trans e10) nf0
          · exact (hL.set (st_lt hL (by omega))).set (by rw [List.length_set]; exact st_lt hL (by omega))
          · rw [List.length_set, List.length_set, hlen]
        · obtain ⟨L, k, y3, y4, y6, y7, rfl, eH, hf, hL, hlen⟩ := hp
          exact ret_N (q L hL hlen) eH nf0 hf rfl
      · refine q_when (et_test (ev_op (ev_var rfl) ev_c (rv_eqB rfl))) (fun _ H6 e6 => ?_) (fun _ H6 e6 => ?_)
        · -- return [(place + 1 + cell % 3) % many for place, cell in enumerate(script)]
          obtain ⟨L, h1, h2, h3⟩ := lead_of (n := ns.length) (fun k => ((k : Int) + 1 + (ns.getD k 0).fmod 3).fmod (ns.length : Int)) fun k hk => by
            obtain ⟨r, hr, hr2⟩ := fmod_lt ((k : Int) + 1 + (ns.getD k 0).fmod 3) (m := ns.length) (by omega)
            rw [hr]
            omega
          refine ret_L (q L h1 h2) ((eb.trans e5).trans e6) ?_
          rw [← h3, ← given_all, ← il_len ns]
          refine el_lcE (by decide) (fun _ => true) _ (ev_var rfl) (ex_l ((eb.trans e5).trans e6) hS) (by rw [il_len]; omega) (fun _ _ _ _ _ => et_yes) fun k x H7 e7 hk _ => ?_
          obtain ⟨y, hy, rfl, hl⟩ := il_inv hk
          refine ev_op (ev_op (ev_op (ev_var rfl) ev_c rv_I0) (ev_op (ev_var rfl) ev_c (rv_I (by decide))) rv_I0) (ev_var rfl) (rv_IW (show ((il ns).length : Int) ≠ 0 by rw [il_len]; omega) ?_)
          rw [List.getD_eq_getElem?_getD, hy]
          rfl
        · -- return [cell % many for cell in script]
          obtain ⟨L, h1, h2, h3⟩ := lead_of (n := ns.length) (fun k => (ns.getD k 0).fmod (ns.length : Int)) fun k hk => by
            obtain ⟨r, hr, hr2⟩ := fmod_lt (ns.getD k 0) (m := ns.length) (by omega)
            rw [hr]
            omega
          refine ret_L (q L h1 h2) ((eb.trans e5).trans e6) ?_
          rw [← h3]
          have ee : (List.range ns.length).map (fun k => V.int ((ns.getD k 0).fmod (ns.length : Int))) = ns.map (fun x => V.int (x.fmod (ns.length : Int))) := by
            refine List.ext_getElem? fun i => ?_
            rw [List.getElem?_map, List.getElem?_map]
            by_cases hi : i < ns.length
            · rw [List.getElem?_range hi, List.getElem?_eq_getElem hi]
              show some (V.int ((ns.getD i 0).fmod _)) = some (V.int (ns[i].fmod _))
              rw [List.getD_eq_getElem?_getD, List.getElem?_eq_getElem hi]
              rfl
            · rw [List.getElem?_eq_none (by rw [List.length_range]; omega), List.getElem?_eq_none (by omega)]
              rfl
          rw [ee]
          refine el_mapI (fun x => V.int (x.fmod (ns.length : Int))) (ev_var rfl) (ex_l ((eb.trans e5).trans e6) hS) (by omega) fun x H7 e7 hx => ?_
          have : ns.length ≠ 0 := fun e => by
            rw [List.length_eq_zero_iff.mp e] at hx
            cases hx
          exact ev_op (ev_var rfl) (ev_var rfl) (rv_I (show (ns.length : Int) ≠ 0 by omega))
abbrev s_law_after : Stmt := topS 34
abbrev N_law_after : List Str := ["_law_leading_here", "_law_place", "_law_steps", "_law_seen", "_law_at", "_law_more"]
theorem sc_law_after : FnScope N_law_after ["_law_leading_here", "_law_place", "_law_steps"] (defScope s_law_after) := ⟨rfl, rfl, rfl, by decide +kernel, rfl, by decide +kernel, by decide +kernel⟩
def spLAfter : Sp := fun vs H Q _ => ∃ (a : Addr) (L : List Nat) (p n : Nat), vs = [.ref a, .int (p : Int), .int (n : Int)] ∧ IsLd H a L ∧ p < L.length ∧ RetV (.int (it L n p : Int)) H Q
theorem sv_lafter {H : Hp} {a : Addr} {L : List Nat} {p n : Nat} (h : IsLd H a L) (hp : p < L.length) : SpV spLAfter [.ref a, .int (p : Int), .int (n : Int)] H (.int (it L n p : Int)) := fun _ e _ q _ => ⟨a, L, p, n, rfl, h.ex e, hp, q⟩
theorem ok_law_after {f : Addr} {fd : FuncData} (F : Fun K "_law_after" "_law_after" s_law_after f fd) (B : Bl mg) : FnOk P w K mg base CX0 1 f fd ["_law_leading_here", "_law_place", "_law_steps"] spLAfter := by
  refine F.ok sc_law_after (fun vs H Q E h => ?_) (fun cdv A outer s H vs Q E hr h => ?_)
  · obtain ⟨a, L, p, n, rfl, _⟩ := h
    rfl
  · obtain ⟨a, L, p, n, rfl, hL, hp, q⟩ := h
    have hu := hu_of hr
    refine ⟨_, (pss_cons (ps_set (i := 3) sc_law_after.nd rfl (Or.inl rfl) pe_dnewK)
    (pss_cons (ps_set (i := 4) sc_law_after.nd rfl (Or.inl rfl) pe_int)
    (pss_cons (ps_while PassesOwn.never (PW.pt (pw_and (pt_cmpR op_lt (pv 4) (pv 2) (nomark _)) (pw_and1 (pt_cmp (pc_dnotin hu (pv 1) (pv 3))))))
    (pss_cons (ps_dput hu (pv 3) (pv 1) (pv 4) rfl)
    (pss_cons (ps_set (i := 1) sc_law_after.nd rfl (Or.inl rfl) (pe_ix (ix_listK (K := K) rfl) (pv 0) (pv 1) (fun _ _ => rfl)))
    (pss_one (ps_set (i := 4) sc_law_after.nd rfl (Or.inl rfl) (pe_op op_add (pv 4) pe_int))))))
    (pss_cons (ps_if (pt_cmpR op_eq (pv 4) (pv 2) (nomark _))
    (pss_one (ps_ret (pv 1)))
    pss_nil)
    (pss_cons (ps_for PassesOwn.never rfl (pi_range1 (by rfl) B.range_ (pa_cons (pe_op op_modN (pe_op op_sub (pv 2) (pv 4)) (pe_op op_sub (pv 4) (pe_dget hu (pv 3) (pv 1) (fun _ _ => rfl)))) pa_nil)) (pg_name (i := 5) sc_law_after.nd rfl (Or.inl rfl))
    (pss_one (ps_set (i := 1) sc_law_after.nd rfl (Or.inl rfl) (pe_ix (ix_listK (K := K) rfl) (pv 0) (pv 1) (fun _ _ => rfl)))))
    (pss_one (ps_ret (pv 1)))))))), ?_⟩
    have h64 := hL.2.2
    refine q_dnew fun d H1 nd e1 hd => ?_
    refine q_asg ev_c fun H2 e2 => ?_
    refine q_while (fun m σ' H' => ∃ (k : Nat) (M : Int → Option V) (y : Option V), m = L.length - k ∧ σ' = [some (.ref a), some (.int (it L k p : Int)), some (.int (n : Int)), some (.ref d), some (.int (k : Int)), y] ∧ k ≤ n ∧ (∀ i j, i < j → j < k → it L i p ≠ it L j p) ∧ Ex H H' ∧ DM H' d k M ∧
        (∀ i, i < k → M (it L i p : Int) = some (.int (i : Int))) ∧ (∀ z, (M z).isSome = true → ∃ i, i < k ∧ z = (it L i p : Int))) (L.length - 0)
      ⟨0, _, none, rfl, rfl, Nat.zero_le n, fun i j _ h => absurd h (Nat.not_lt_zero j), e1.trans e2, hd.ex e2, fun i h => absurd h (Nat.not_lt_zero i), fun z h => by cases h⟩ fun m σ' H' hw => ?_
    obtain ⟨k, M, y, rfl, rfl, hk, hinj, eH, hD, hM1, hM2⟩ := hw
    have hpk : it L k p < L.length := it_lt hL.2.1 k hp
    refine ⟨_, et_and (et_test (ev_op (ev_var rfl) (ev_var rfl) rv_I0)) (fun _ => et_B (ev_dnotin (ev_var rfl) (ev_var rfl) hD)), fun hb H3 e3 => ?_, fun hb H3 e3 => ?_⟩
    · rw [Bool.and_eq_true, decide_eq_true_eq] at hb
      obtain ⟨hb1, hb2⟩ := hb
      have hnew : ∀ i, i < k → it L i p ≠ it L k p := fun i hi e => by
        have h1 := hM1 i hi
        rw [e] at h1
        rw [h1] at hb2
        cases hb2
      have hinj2 : ∀ i j, i < j → j < k + 1 → it L i p ≠ it L j p := fun i j hij hj => by
        by_cases e : j = k
        · subst e
          exact hnew i hij
        · exact hinj i j hij (by omega)
      have hkn : k + 1 ≤ L.length := by
        have h1 := nodup_len (nodup_of_inj hinj2) (n := L.length) fun x hx => by
          obtain ⟨i, _, rfl⟩ := List.mem_map.mp hx
          exact it_lt hL.2.1 i hp
        rw [List.length_map, List.length_range] at h1
        exact h1
      refine ⟨_, fun σ2 H2 h => h, ?_⟩
      refine q_dput (ev_var rfl) (ev_var rfl) (ev_var rfl) (hD.ex e3) (by omega) fun H4 e4 o hD4 => ?_
      have eH4 : Ex H (upd H4 d o) := Ex.mut ((eH.trans e3).trans e4) nd
      refine q_asg (ev_op (ev_var rfl) (ev_var rfl) (rv_ixN (hL.ex eH4).sq hpk)) fun H5 e5 => ?_
      refine s_asg (ev_op (ev_var rfl) ev_c (rv_dec (vadd k 1))) fun H6 e6 => ?_
      refine ⟨_, ?_, k + 1, _, y, rfl, by rw [it_succ]; rfl, by omega, hinj2, (eH4.trans e5).trans e6, (hD4.ex e5).ex e6, fun i hi => ?_, fun z hz => ?_⟩
      · omega
      · by_cases e : i = k
        · subst e
          rw [if_pos rfl]
        · rw [if_neg fun q => hnew i (by omega) (by omega)]
          exact hM1 i (by omega)
      · by_cases e : z = (it L k p : Int)
        · exact ⟨k, by omega, e⟩
        · rw [if_neg e] at hz
          obtain ⟨i, h1, h2⟩ := hM2 z hz
          exact ⟨i, by omega, h2⟩
    · refine q_when (et_test (ev_op (ev_var rfl) (ev_var rfl) (rv_eqB rfl))) (fun he H4 e4 => ?_) (fun he H4 e4 => ?_)
      · have hkn : k = n := by
          have := of_decide_eq_true he
          omega
        subst hkn
        exact ret_V q ((eH.trans e3).trans e4) (ev_var rfl)
      · have hkn : k < n := by
          have := of_decide_eq_false he
          omega
        have hs : (M (it L k p : Int)).isSome = true := by
          rw [decide_eq_true (by omega), Bool.true_and] at hb
          cases h : (M (it L k p : Int)).isSome with
          | true => rfl
          | false =>
            rw [h] at hb
            cases hb
        obtain ⟨i, hik, hi⟩ := hM2 _ hs
        have hi' : it L k p = it L i p := by omega
        have eH4 := (eH.trans e3).trans e4
        have hD4 := (hD.ex e3).ex e4
        have hm : M (it L k p : Int) = some (.int (i : Int)) := by
          rw [hi]
          exact hM1 i hik
        have hsub : V.int ((n : Int) - (k : Int)) = V.int ((n - k : Nat) : Int) := by
          congr 1
          omega
        have hsub2 : V.int ((k : Int) - (i : Int)) = V.int ((k - i : Nat) : Int) := by
          congr 1
          omega
        have hlt : (n - k) % (k - i) < L.length := by
          have h1 := Nat.mod_lt (n - k) (show k - i > 0 by omega)
          have h2 := nodup_len (nodup_of_inj hinj) (n := L.length) fun x hx => by
            obtain ⟨i, _, rfl⟩ := List.mem_map.mp hx
            exact it_lt hL.2.1 i hp
          rw [List.length_map, List.length_range] at h2
          omega
        refine q_forR1 (n := (((n - k) % (k - i) : Nat) : Int)) (ea1 (ev_op (ev_op (ev_var rfl) (ev_var rfl) (rv_dec hsub)) (ev_op (ev_var rfl) (ev_dget (ev_var rfl) (ev_var rfl) hD4 hm) (rv_dec hsub2)) (rv_IW (by omega) (vmod (n - k) (k - i))))) (by omega)
          (fun j σ' H' => ∃ (y : Option V), σ' = [some (.ref a), some (.int (it L (k + j) p : Int)), some (.int (n : Int)), some (.ref d), some (.int (k : Int)), y] ∧ Ex H H') (fun H5 e5 => ⟨_, rfl, eH4.trans e5⟩) (fun j σ' H' hj hP => ?_) (fun σ' H' hP => ?_)
        · obtain ⟨y, rfl, e5⟩ := hP
          refine s_asg (ev_op (ev_var rfl) (ev_var rfl) (rv_ixN (hL.ex e5).sq (it_lt hL.2.1 _ hp))) fun H6 e6 => ?_
          exact ⟨_, by rw [← it_succ]; rfl, e5.trans e6⟩
        · obtain ⟨y, rfl, e5⟩ := hP
          have h1 := it_round (L := L) (p := p) (a := i) (d := k - i) (by rw [show i + (k - i) = k by omega]; exact hi') (n - k)
          rw [show i + (k - i) + (n - k) = n by omega, show i + (k - i) = k by omega] at h1
          rw [Int.toNat_natCast, h1]
          exact ret_V q e5 (ev_var rfl)
abbrev s_law_back : Stmt := topS 35
abbrev N_law_back : List Str := ["_law_script", "_law_many", "_law_place", "_law_found", "_law_wide", "_law_first", "_law_cell", "_law_other", "_law_kept"]
theorem sc_law_back : FnScope N_law_back ["_law_script"] (defScope s_law_back) := ⟨rfl, rfl, rfl, by decide +kernel, rfl, by decide +kernel, by decide +kernel⟩
def spLBack (K : PySem.W.Frag) : Sp := fun vs H Q _ => ∃ (a : Addr) (ns : List Int), vs = [.ref a] ∧ SqL K H a (il ns) ∧ ns.length ≤ 63 ∧ ∀ L, Lead L → L.Nodup → L.length = ns.length → RetL (nl L) H Q
theorem ok_law_back {f : Addr} {fd : FuncData} (F : Fun K "_law_back" "_law_back" s_law_back f fd) (B : Bl mg) : FnOk P w K mg base CX0 1 f fd ["_law_script"] (spLBack K) := by
  refine F.ok sc_law_back (fun vs H Q E h => ?_) (fun cdv A outer s H vs Q E hr h => ?_)
  · obtain ⟨a, ns, rfl, _⟩ := h
    rfl
  · obtain ⟨a, ns, rfl, hS, h63, q⟩ := h
    refine ⟨_, (pss_cons (ps_set (i := 1) sc_law_back.nd rfl (Or.inl rfl) (pe_callB (call_lenK (K := K) rfl) (by rfl) B.len_ bo_len (pa_cons (pv 0) pa_nil)))
    (pss_cons (ps_setLc (i := 3) (own := [("_law_place", 2)]) (g := gName 2) (tt := tYes) rfl sc_law_back.nd rfl rfl (sw_true rfl rfl rfl (by decide +kernel)) (pi_range1 (by rfl) B.range_ (pa_cons (pv 1) pa_nil)) (blkOk_by (N := N_law_back) (sc := defScope s_law_back) (by decide +kernel)) (fun _ _ _ _ _ => (pg_name (i := 2) sc_law_back.nd rfl (Or.inl rfl))) (fun _ _ _ _ _ => pts_nil) (fun _ _ _ _ _ => (pv 2)))
    (pss_cons (ps_if (pt_cmpR op_eq (pe_op op_modN (pe_callB (cr_sumK (K := K) rfl rfl) (by rfl) B.sum_ bo_sum (pa_cons (pv 0) pa_nil)) pe_int) pe_int (nomark _))
    (pss_cons (ps_set (i := 4) sc_law_back.nd rfl (Or.inl rfl) (pe_op op_add pe_int (pe_op op_modN (pe_op op_fdivN (pe_callB (cr_sumK (K := K) rfl rfl) (by rfl) B.sum_ bo_sum (pa_cons (pv 0) pa_nil)) pe_int) pe_int)))
    (pss_cons (ps_for PassesOwn.never rfl (pi_range3 (by rfl) B.range_ (pa_cons pe_int (pa_cons (pe_op op_add (pe_op op_sub (pv 1) (pv 4)) pe_int) (pa_cons (pv 4) pa_nil)))) (pg_name (i := 5) sc_law_back.nd rfl (Or.inl rfl))
    (pss_one (ps_for PassesOwn.never rfl (pi_range2 (by rfl) B.range_ (pa_cons (pv 5) (pa_cons (pe_op op_add (pv 5) (pv 4)) pa_nil))) (pg_name (i := 2) sc_law_back.nd rfl (Or.inl rfl))
    (pss_one (ps_asg (pe_op op_add (pv 5) (pe_op op_modN (pe_op op_add (pe_op op_sub (pv 2) (pv 5)) pe_int) (pv 4))) (pg_sub (pv 3) (pv 2) set_list))))))
    (pss_one (ps_ret (pv 3)))))
    pss_nil)
    (pss_cons (ps_for PassesOwn.never rfl (pi_enum (by rfl) B.enumerate_ (pa_cons (pv 0) pa_nil)) (pg_tup (by rfl) (pgs_cons (pg_name (i := 2) sc_law_back.nd rfl (Or.inl rfl)) (pgs_cons (pg_name (i := 6) sc_law_back.nd rfl (Or.inl rfl)) pgs_nil)))
    (pss_cons (ps_set (i := 7) sc_law_back.nd rfl (Or.inl rfl) (pe_ifExp (pt_cmpR op_eq (pe_op op_modN (pv 6) pe_int) pe_int (nomark _)) (pe_op op_add (pv 2) (pe_op op_modN (pv 6) pe_int)) (pe_op op_modN (pv 6) (pv 1))))
    (pss_cons (ps_set (i := 7) sc_law_back.nd rfl (Or.inl rfl) (pe_callB (call_min2 rfl) (by rfl) B.min_ bo_min (pa_cons (pv 7) (pa_cons (pe_op op_sub (pv 1) pe_int) pa_nil))))
    (pss_cons (ps_set (i := 8) sc_law_back.nd rfl (Or.inl rfl) (pe_ix (ix_listK (K := K) rfl) (pv 3) (pv 2) (fun _ _ => rfl)))
    (pss_cons (ps_asg (pe_ix (ix_listK (K := K) rfl) (pv 3) (pv 7) (fun _ _ => rfl)) (pg_sub (pv 3) (pv 2) set_list))
    (pss_one (ps_asg (pv 8) (pg_sub (pv 3) (pv 7) set_list))))))))
    (pss_one (ps_ret (pv 3))))))), ?_⟩
    refine q_asg (ev_lenIl (ev_var rfl) hS) fun H1 e1 => ?_
    refine q_asgL (el_mapR (fun i => V.int i) (ea1 (ev_var rfl)) (by omega) fun i H2 e2 hi => ev_var rfl) fun pf H2 nf e2 h2 => ?_
    have h2 : H2 pf = some (.lst (nl (List.range ns.length))) := h2
    have e := e1.trans e2
    have np : H pf = none := fresh_back e1 nf
    refine q_when (et_test (ev_op (ev_op (ev_sum (ev_var rfl) (ex_l e hS)) ev_c (rv_I (by decide))) ev_c (rv_eqB rfl))) (fun _ H3 e3 => ?_) (fun _ H3 e3 => ?_)
    · obtain ⟨r, hr, hr2⟩ := fmod_lt (ns.sum.fdiv 3) (m := 6) (by decide)
      have e' := e.trans e3
      refine q_asg (ev_op ev_c (ev_op (ev_op (ev_sum (ev_var rfl) (ex_l e' hS)) ev_c (rv_I ⟨by decide, by decide⟩)) ev_c (rv_IW (by decide) (w := .int (r : Int)) (by show V.int ((ns.sum.fdiv 3).fmod ((6 : Nat) : Int)) = _; rw [hr]))) (rv_dec (w := .int ((r + 1 : Nat) : Int)) (by congr 1; omega))) fun H4 e4 => ?_
      refine q_forR3 (ea3 ev_c (ev_op (ev_op (ev_var rfl) (ev_var rfl) rv_I0) ev_c rv_I0) (ev_var rfl)) (rg_up (n := ns.length) (w := r + 1) (by omega) (by omega) (by omega))
        (fun i σ' H' => ∃ (y2 y5 y6 y7 y8 : Option V), σ' = [some (.ref a), some (.int (ns.length : Int)), y2, some (.ref pf), some (.int ((r + 1 : Nat) : Int)), y5, y6, y7, y8] ∧ Ex H H' ∧ H' pf = some (.lst (nl (blk ns.length (r + 1) (i * (r + 1))))))
        (fun H5 e5 => ⟨_, _, _, _, _, rfl, (e'.trans e4).trans e5, by rw [Nat.zero_mul, blk_zero]; exact e5 _ _ (e4 _ _ (e3 _ _ h2))⟩) (fun i σ' H' hi hP => ?_) (fun σ' H' hP => ?_)
      · obtain ⟨y2, y5, y6, y7, y8, rfl, e5, h5⟩ := hP
        have hJ : i * (r + 1) + (r + 1) ≤ ns.length := by
          have h6 : (i + 1) * (r + 1) ≤ ns.length / (r + 1) * (r + 1) := Nat.mul_le_mul_right _ hi
          have h7 := Nat.div_mul_le_self ns.length (r + 1)
          rw [Nat.succ_mul] at h6
          omega
        rw [show (0 : Int) + ((i : Nat) : Int) * ((r + 1 : Nat) : Int) = ((i * (r + 1) : Nat) : Int) by rw [Int.natCast_mul]; omega]
        refine s_forR2 (lo := ((i * (r + 1) : Nat) : Int)) (n := ((i * (r + 1) : Nat) : Int) + ((r + 1 : Nat) : Int)) (ea2 (ev_var rfl) (ev_op (ev_var rfl) (ev_var rfl) rv_I0)) (by omega)
          (fun i' σ' H' => ∃ (y2 y6 y7 y8 : Option V), σ' = [some (.ref a), some (.int (ns.length : Int)), y2, some (.ref pf), some (.int ((r + 1 : Nat) : Int)), some (.int ((i * (r + 1) : Nat) : Int)), y6, y7, y8] ∧ Ex H H' ∧ H' pf = some (.lst (nl (blk ns.length (r + 1) (i * (r + 1) + i')))))
          (fun H6 e6 => ⟨_, _, _, _, rfl, e5.trans e6, e6 _ _ h5⟩) (fun i' σ' H' hi' hP => ?_) (fun σ' H' hP => ?_)
        · obtain ⟨y2, y6, y7, y8, rfl, e6, h6⟩ := hP
          have hi2 : i' < r + 1 := by omega
          rw [← Int.natCast_add]
          refine s_setL (j := i * (r + 1) + i') h6 (ev_op (ev_var rfl) (ev_op (ev_op (ev_op (ev_var rfl) (ev_var rfl) (rv_dec (w := .int (i' : Int)) (by congr 1; omega))) ev_c (rv_dec (vadd i' 1))) (ev_var rfl) (rv_IW (by omega) (vmod (i' + 1) (r + 1)))) (rv_dec (vadd _ _))) (ev_var rfl) (ev_var rfl) (by rw [nl_len, blk_len]; omega) fun H7 e7 => ?_
          refine ⟨_, _, _, _, rfl, Ex.mut (e6.trans e7) np, ?_⟩
          rw [upd_same, nl_set, ← rot_at hi2, blk_step (by omega)]
          rfl
        · obtain ⟨y2, y6, y7, y8, rfl, e6, h6⟩ := hP
          refine ⟨_, _, _, _, _, rfl, e6, ?_⟩
          rw [h6, show ((i * (r + 1) : Nat) : Int) + ((r + 1 : Nat) : Int) - ((i * (r + 1) : Nat) : Int) = ((r + 1 : Nat) : Int) by omega, Int.toNat_natCast, Nat.succ_mul]
      · obtain ⟨y2, y5, y6, y7, y8, rfl, e5, h5⟩ := hP
        exact ret_N (q _ (blk_lead (by omega) (Nat.div_mul_le_self _ _)) (nodup_of (blk_inj (by omega))) (blk_len _ _ _)) e5 np h5 rfl
    · refine q_forE (ev_var rfl) (ex_l (e.trans e3) hS) (fun i σ' H' => ∃ (L : List Nat) (y2 y4 y5 y6 y7 y8 : Option V), σ' = [some (.ref a), some (.int (ns.length : Int)), y2, some (.ref pf), y4, y5, y6, y7, y8] ∧ Ex H H' ∧ H' pf = some (.lst (nl L)) ∧ Lead L ∧ Inj L ∧ L.length = ns.length)
        (fun H4 e4 => ⟨List.range ns.length, _, _, _, _, _, _, rfl, (e.trans e3).trans e4, e4 _ _ (e3 _ _ h2), fun x hx => by rw [List.length_range]; exact List.mem_range.mp hx, inj_of List.nodup_range, List.length_range⟩)
        (fun i σ' H' _ ⟨L, _, _, _, _, _, _, _, e, _⟩ => ex_l e hS) (fun i x σ' H' H6 hx hP e6 _ => ?_) (fun σ' H' hP => ?_)
      · obtain ⟨L, y2, y4, y5, y6, y7, y8, rfl, eH, hf, hL, hI, hlen⟩ := hP
        obtain ⟨z, hz, rfl, hi⟩ := il_inv hx
        obtain ⟨r4, hr4, hr42⟩ := fmod_lt z (m := 4) (by decide)
        obtain ⟨rm, hrm, hrm2⟩ := fmod_lt z (m := ns.length) (by omega)
        -- other = place + cell % 4 if cell % 2 == 0 else cell % many
        refine q_asg (ev_ifOr (et_test (ev_op (ev_op (ev_var rfl) ev_c (rv_I (by decide))) ev_c (rv_eqB rfl))) (ev_op (ev_var rfl) (ev_op (ev_var rfl) ev_c (rv_IW (by decide) (w := .int (r4 : Int)) (by show V.int (z.fmod ((4 : Nat) : Int)) = _; rw [hr4]))) rv_I0) (ev_op (ev_var rfl) (ev_var rfl) (rv_IW (by omega) (w := .int (rm : Int)) (by rw [hrm])))) fun H7 e7 => ?_
        generalize hb : (if decide (z.fmod 2 = 0) = true then (i : Int) + (r4 : Int) else (rm : Int)) = o
        have ho : 0 ≤ o := by
          rw [← hb]
          split <;> omega
        -- other = min(other, many - 1)
        obtain ⟨j, hj, hjl⟩ : ∃ j : Nat, (if (ns.length : Int) - 1 < o then (ns.length : Int) - 1 else o) = (j : Int) ∧ j < ns.length := by
          refine ⟨(if (ns.length : Int) - 1 < o then (ns.length : Int) - 1 else o).toNat, ?_, ?_⟩
          · split <;> omega
          · split <;> omega
        refine q_asg (ev_is (ev_min2 (ev_var rfl) (ev_op (ev_var rfl) ev_c rv_I0)) (congrArg V.int hj)) fun H8 e8 => ?_
        have hf8 := e8 _ _ (e7 _ _ (e6 _ _ hf))
        refine q_asg (ev_op (ev_var rfl) (ev_var rfl) (rv_ixN (j := i) (sq_of hf8) (by omega))) fun H9 e9 => ?_
        have hf9 := e9 _ _ hf8
        refine q_setL hf9 (ev_op (ev_var rfl) (ev_var rfl) (rv_ixN (j := j) (sq_of hf9) (by omega))) (ev_var rfl) (ev_var rfl) (j := i) (by rw [nl_len]; omega) fun H10 e10 => ?_
        rw [nl_set]
        refine s_setL (j := j) upd_same (ev_var rfl) (ev_var rfl) (ev_var rfl) (by rw [nl_len, List.length_set]; omega) fun H11 e11 => ?_
        rw [nl_set]
        refine ⟨(L.set i (st L j)).set j (st L i), _, _, _, _, _, _, rfl, ?_, upd_same, ?_, swap_inj hI (by omega) (by omega), ?_⟩
        · exact Ex.mut ((Ex.mut (((((eH.trans e6).trans e7).trans e8).trans e9).trans e10) np).trans e11) np
        · exact (hL.set (st_lt hL (by omega))).set (by rw [List.length_set]; exact st_lt hL (by omega))
        · rw [List.length_set, List.length_set, hlen]
      · obtain ⟨L, y2, y4, y5, y6, y7, y8, rfl, eH, hf, hL, hI, hlen⟩ := hP
        exact ret_N (q L hL (nodup_of hI) hlen) eH np hf rfl
end
end Ld

namespace Ld
open PySem L2 Evl
section
variable {P : Program} {w : World} {K : PySem.W.Frag} {mg : Str → Option Value} {base : Heap} {c : Cs}
/-! ### the law -/
abbrev s_law_rings : Stmt := topS 41
abbrev N_law_rings : List Str := ["_law_leading_here", "_law_length", "_law_seen", "_law_found", "_law_first", "_law_ring", "_law_place"]
theorem sc_law_rings : FnScope N_law_rings ["_law_leading_here", "_law_length"] (defScope s_law_rings) := ⟨rfl, rfl, rfl, by decide +kernel, rfl, by decide +kernel, by decide +kernel⟩
def spLRingsL : Sp := fun vs H Q _ => ∃ (a : Addr) (m : Int) (L : List Nat), vs = [.ref a, .int m] ∧ IsLd H a L ∧ L.Nodup ∧ 0 < m ∧ RetLL (ofLen L m.toNat) H Q
theorem ok_law_rings {f : Addr} {fd : FuncData} (F : Fun K "_law_rings" "_law_rings" s_law_rings f fd) (B : Bl mg) : FnOk P w K mg base CX0 1 f fd ["_law_leading_here", "_law_length"] spLRingsL := by
  refine F.ok sc_law_rings (fun vs H Q E h => ?_) (fun cdv A outer s H vs Q E hr h => ?_)
  · obtain ⟨a, m, L, rfl, _⟩ := h
    rfl
  · obtain ⟨a, m, L, rfl, hL, hND, hm0, q⟩ := h
    have hu := hu_of hr
    refine ⟨_, (pss_cons (ps_set (i := 2) sc_law_rings.nd rfl (Or.inl rfl) pe_dnewK)
    (pss_cons (ps_set (i := 3) sc_law_rings.nd rfl (Or.inl rfl) (pe_lst pa_nil))
    (pss_cons (ps_for PassesOwn.never rfl (pi_range1 (by rfl) B.range_ (pa_cons (pe_callB (call_lenK (K := K) rfl) (by rfl) B.len_ bo_len (pa_cons (pv 0) pa_nil)) pa_nil)) (pg_name (i := 4) sc_law_rings.nd rfl (Or.inl rfl))
    (pss_cons (ps_set (i := 5) sc_law_rings.nd rfl (Or.inl rfl) (pe_lst pa_nil))
    (pss_cons (ps_set (i := 6) sc_law_rings.nd rfl (Or.inl rfl) (pv 4))
    (pss_cons (ps_while PassesOwn.never (pt_cmp (pc_dnotin hu (pv 6) (pv 2)))
    (pss_cons (ps_dput hu (pv 2) (pv 6) pe_bl rfl)
    (pss_cons (ps_expr (pe_bm PySem.F.plainAttrs_list PySem.F.slot_list_append PySem.F.type_list_append mt_append (pv 5) (pa_cons (pv 6) pa_nil)))
    (pss_one (ps_set (i := 6) sc_law_rings.nd rfl (Or.inl rfl) (pe_ix (ix_listK (K := K) rfl) (pv 0) (pv 6) (fun _ _ => rfl)))))))
    (pss_one (ps_if (pt_cmpR op_eq (pe_callB (call_lenK (K := K) rfl) (by rfl) B.len_ bo_len (pa_cons (pv 5) pa_nil)) (pv 1) (nomark _))
    (pss_one (ps_expr (pe_bm PySem.F.plainAttrs_list PySem.F.slot_list_append PySem.F.type_list_append mt_append (pv 3) (pa_cons (pv 5) pa_nil))))
    pss_nil))))))
    (pss_one (ps_ret (pv 3)))))), ?_⟩
    have h63 := hL.2.2
    have hLd := hL.2.1
    generalize hM : m.toNat = M at q
    have hmM : m = (M : Int) := by omega
    refine q_dnewK fun d H2 nd e2 hd => ?_
    refine q_asgL (el_lst ea_nil (Nat.zero_le _)) fun fn H3 nf e3 hf => ?_
    have e0 := e2.trans e3
    have nd0 : H d = none := nd
    have nf0 : H fn = none := fresh_back e2 nf
    have hd0 := hd.ex e3
    have hf0 := hf
    refine q_forR1 (n := (L.length : Int)) (ea1 (ev_lenNl (ev_var rfl) (hL.ex e0).sq)) (by omega)
      (fun k σ' H' => ∃ (ks : List Nat) (rs : List Addr) (y4 y5 y6 : Option V), σ' = [some (.ref a), some (.int m), some (.ref d), some (.ref fn), y4, y5, y6] ∧ Ex H H' ∧ DKs H' d ks ∧ ks.Nodup ∧ (∀ z, z ∈ ks ↔ z ∈ (rgs L k).flatten) ∧
        H' fn = some (.lst (rs.map V.ref)) ∧ AllAt H' rs ((rgs L k).filter fun r => decide (r.length = M)) ∧ (∀ r ∈ rs, H r = none) ∧ (fn :: rs).Nodup)
      (fun H4 e4 => ⟨[], [], _, _, _, rfl, e0.trans e4, hd0.ex e4, List.nodup_nil, fun z => Iff.rfl, e4 _ _ hf0, .nil, fun r hr => (nomatch hr), List.nodup_cons.mpr ⟨List.not_mem_nil, List.nodup_nil⟩⟩) (fun k σ' H' hk hP => ?_) (fun σ' H' hP => ?_)
    · obtain ⟨ks, rs, y4, y5, y6, rfl, eH, hD, nk, hks, hfn, hel, hfr, hnd⟩ := hP
      have hkl : k < L.length := by omega
      have hor := onR_all hLd hND hkl
      have hR := rgs_ok hLd k (by omega)
      have hkslen := flat_nodup_len hLd (by omega) nk fun x hx => (hks x).mp hx
      have hrl : rs.length ≤ k := by
        rw [hel.len]
        have h1 := List.length_filter_le (fun r => decide (r.length = M)) (rgs L k)
        have h2 := rgs_len L k
        omega
      obtain ⟨kv0, hkv0⟩ := hD.some
      have hdf : d ≠ fn := ne_of hkv0 hfn (fun z => by cases z)
      have hdr : d ∉ rs := fun h => by
        obtain ⟨l, _, h2⟩ := hel.mem h
        rw [hkv0] at h2
        cases h2
      have ho := per_orb hLd hkl
      refine q_asgL (el_lst ea_nil (Nat.zero_le _)) fun rg H5 nrg e5 hrg => ?_
      refine q_asg (ev_var rfl) fun H6 e6 => ?_
      have e46 := e5.trans e6
      have nrg0 : H rg = none := fresh_back eH nrg
      have hrgd : rg ≠ d := (ne_of_none hkv0 nrg).symm
      have hrgf : rg ≠ fn := (ne_of_none hfn nrg).symm
      have hrgr : rg ∉ rs := fun h => by
        obtain ⟨l, _, h2⟩ := hel.mem h
        rw [h2] at nrg
        cases nrg
      refine q_while (fun t σ' H' => ∃ (j : Nat) (ks' : List Nat), t = L.length - j ∧ σ' = [some (.ref a), some (.int m), some (.ref d), some (.ref fn), some (.int (k : Int)), some (.ref rg), some (.int (it L j k : Int))] ∧ Ex H H' ∧ DKs H' d ks' ∧ ks'.Nodup ∧ (∀ x, x ∈ ks' ↔ x ∈ ks ∨ x ∈ path L k j) ∧
          H' fn = some (.lst (rs.map V.ref)) ∧ AllAt H' rs ((rgs L k).filter fun r => decide (r.length = M)) ∧ H' rg = some (.lst (nl (path L k j))) ∧ (∀ x y, x < y → y < j → it L x k ≠ it L y k) ∧ (0 < j → k ∉ (rgs L k).flatten)) (L.length - 0)
        ⟨0, ks, rfl, rfl, eH.trans e46, hD.ex e46, nk, fun x => ⟨.inl, fun h => h.elim id fun h => by obtain ⟨_, hx, _⟩ := mem_path.mp h; omega⟩, e46 _ _ hfn, hel.ex e46, e6 _ _ hrg, fun _ y _ h => absurd h (Nat.not_lt_zero y), fun h => absurd h (Nat.lt_irrefl 0)⟩ fun t σ' H' hW => ?_
      obtain ⟨j, ks', rfl, rfl, eH', hD', nk', hks', hfn', hel', hrg', hinj, hnew⟩ := hW
      have hjl : it L j k < L.length := it_lt hLd j hkl
      refine ⟨_, et_B (ev_dnotinK (ev_var rfl) (ev_var rfl) hD' rfl), fun hb2 H7 e7 => ?_, fun hb2 H7 e7 => ?_⟩
      · rw [Bool.not_eq_true', decide_eq_false_iff_not] at hb2
        have hnk : k ∉ (rgs L k).flatten := by
          cases j with
          | zero => exact fun h => hb2 ((hks' _).mpr (.inl ((hks k).mpr h)))
          | succ j => exact hnew (Nat.succ_pos j)
        have hinj2 : ∀ x y, x < y → y < j + 1 → it L x k ≠ it L y k := fun x y hxy hy e => by
          by_cases ey : y = j
          · subst ey
            exact hb2 ((hks' _).mpr (.inr (mem_path.mpr ⟨x, hxy, e.symm⟩)))
          · exact hinj x y hxy (by omega) e
        have hjn := inj_le hLd hkl hinj2
        have hks'len : ks'.length ≤ 2 * L.length := by
          have h1 := nodup_len nk' (n := L.length) fun x hx => ((hks' x).mp hx).elim (fun h => by
            obtain ⟨r, hr, hxr⟩ := List.mem_flatten.mp ((hks x).mp h)
            exact (hR.lt r hr x hxr).1) fun h => path_lt hLd hkl j h
          omega
        refine ⟨_, fun σ2 H2 h => h, ?_⟩
        refine q_dputK ev_c (ev_var rfl) (ev_var rfl) (hD'.ex e7) (by omega) fun H8 e8 o hD8 => ?_
        have e78 := e7.trans e8
        have eH8 : Ex H (L2.upd H8 d o) := Ex.mut (eH'.trans e78) nd0
        have hrg8 : L2.upd H8 d o rg = some (.lst (nl (path L k j))) := by
          rw [upd_ne hrgd]
          exact e78 _ _ hrg'
        refine q_app hrg8 (ev_var rfl) (ev_var rfl) (by rw [nl_len, path_len]; omega) fun H9 e9 => ?_
        have eH9 : Ex H (L2.upd H9 rg (.lst (nl (path L k j) ++ [V.int (it L j k : Int)]))) := Ex.mut (eH8.trans e9) nrg0
        refine s_asg (ev_op (ev_var rfl) (ev_var rfl) (rv_ixN (hL.ex eH9).sq hjl)) fun H10 e10 => ?_
        refine ⟨_, ?_, j + 1, _, rfl, by rw [it_succ]; rfl, eH9.trans e10, ((hD8.ex e9).upd hrgd.symm).ex e10, nodup_addK nk', fun x => ?_, ?_, ?_, ?_, hinj2, fun _ => hnk⟩
        · omega
        · rw [mem_addK, hks' x, path_succ, List.mem_append, List.mem_singleton, or_assoc]
        · refine e10 _ _ ?_
          rw [upd_ne hrgf.symm]
          refine e9 _ _ ?_
          rw [upd_ne hdf.symm]
          exact e78 _ _ hfn'
        · exact (((hel'.ex e78).upd hdr).ex e9 |>.upd hrgr).ex e10
        · rw [e10 _ _ upd_same, path_succ]
          unfold nl
          rw [List.map_append]
          rfl
      · rw [Bool.not_eq_false', decide_eq_true_eq] at hb2
        by_cases hin0 : k ∈ (rgs L k).flatten
        · have hj0 : j = 0 := Classical.byContradiction fun h => hnew (Nat.pos_of_ne_zero h) hin0
          subst hj0
          have hks0 : ∀ x, x ∈ ks' ↔ x ∈ (rgs L (k + 1)).flatten := fun x => by
            rw [rgs_no fun h => h.2 hin0, hks' x, hks x]
            exact ⟨fun h => h.elim id fun h => by
              obtain ⟨z, hz, _⟩ := mem_path.mp h
              exact absurd hz (Nat.not_lt_zero z), .inl⟩
          refine s_when (b := false) (et_test (ev_op (ev_lenNl (ev_var rfl) (sq_of (e7 _ _ hrg'))) (ev_var rfl) (rv_eqB (by rw [path_len]; exact decide_eq_false (by omega))))) (fun hb => nomatch hb) fun _ H8 e8 => ?_
          have e78 := e7.trans e8
          refine ⟨ks', rs, _, _, _, rfl, eH'.trans e78, hD'.ex e78, nk', hks0, e78 _ _ hfn', ?_, hfr, hnd⟩
          rw [rgs_no fun h => h.2 hin0]
          exact hel'.ex e78
        · have hj0 : 0 < j := Nat.pos_of_ne_zero fun e => by
            subst e
            exact hin0 ((hks k).mp (((hks' _).mp hb2).elim id fun h => by
              obtain ⟨z, hz, _⟩ := mem_path.mp h
              exact absurd hz (Nat.not_lt_zero z)))
          have hin : it L j k ∈ path L k j := ((hks' _).mp hb2).elim (fun h => absurd ((hks _).mp h) (rgs_new hLd hR hkl hor hin0 j)) id
          obtain ⟨z, hz, ez⟩ := mem_path.mp hin
          have hoj : Orb L k j := ⟨hj0, hinj, z, hz, ez⟩
          have hjp := ho.uniq hoj
          have hback : it L j k = k := orb_ring hoj hor
          have hring : ringAt L k = path L k j := by
            unfold ringAt
            rw [hjp]
          have hyes := rgs_yes hor hin0
          have hks0 : ∀ x, x ∈ ks' ↔ x ∈ (rgs L (k + 1)).flatten := fun x => by
            rw [hyes, hks' x, hks x, List.flatten_append, List.mem_append, List.flatten_singleton, hring]
          have hfnr : fn ∉ rs := (List.nodup_cons.mp hnd).1
          refine s_when (b := decide (j = M)) (et_test (ev_op (ev_lenNl (ev_var rfl) (sq_of (e7 _ _ hrg'))) (ev_var rfl) (rv_eqB (by rw [path_len, hmM]; exact decide_eq_decide.mpr ⟨fun h => by omega, fun h => by omega⟩)))) (fun hb H8 e8 => ?_) (fun hb H8 e8 => ?_)
          · have hjM := of_decide_eq_true hb
            refine s_app ((e7.trans e8) _ _ hfn') (ev_var rfl) (ev_var rfl) (by rw [List.length_map]; omega) fun H9 e9 => ?_
            have e78 := (e7.trans e8).trans e9
            refine ⟨ks', rs ++ [rg], _, _, _, rfl, Ex.mut (eH'.trans e78) nf0, (hD'.ex e78).upd hdf, nk', hks0, ?_, ?_, fun r hr => ?_, ?_⟩
            · rw [upd_same, List.map_append]
              rfl
            · rw [hyes, List.filter_append, hring, show [path L k j].filter (fun r => decide (r.length = M)) = [path L k j] by rw [List.filter_cons, if_pos (decide_eq_true (by rw [path_len]; exact hjM))]; rfl]
              refine Paired.snoc ((hel'.ex e78).upd hfnr) ?_
              rw [upd_ne hrgf]
              exact e78 _ _ hrg'
            · rcases List.mem_append.mp hr with hr | hr
              · exact hfr r hr
              · rw [List.mem_singleton.mp hr]
                exact nrg0
            · rw [← List.cons_append, List.nodup_append]
              exact ⟨hnd, List.nodup_cons.mpr ⟨List.not_mem_nil, List.nodup_nil⟩, fun x hx y hy e => by
                rw [List.mem_singleton] at hy
                subst hy
                subst e
                rcases List.mem_cons.mp hx with h | h
                · exact hrgf h
                · exact hrgr h⟩
          · have hjM := of_decide_eq_false hb
            have e78 := e7.trans e8
            refine ⟨ks', rs, _, _, _, rfl, eH'.trans e78, hD'.ex e78, nk', hks0, e78 _ _ hfn', ?_, hfr, hnd⟩
            rw [hyes, List.filter_append, hring, show [path L k j].filter (fun r => decide (r.length = M)) = [] by rw [List.filter_cons, if_neg (by rw [decide_eq_true_eq, path_len]; exact hjM)]; rfl, List.append_nil]
            exact hel'.ex e78
    · obtain ⟨ks, rs, y4, y5, y6, rfl, eH, hD, nk, hks, hfn, hel, hfr, hnd⟩ := hP
      rw [Int.toNat_natCast] at hel
      have hel : AllAt H' rs (ofLen L M) := hel
      exact ⟨_, rfl, q fn rs H' eH ⟨nf0, hfr, hfn, hel, hnd⟩⟩

abbrev s_law_says : Stmt := topS 36
abbrev N_law_says : List Str := ["_law_said", "_law_due"]
theorem sc_law_says : FnScope N_law_says ["_law_said", "_law_due"] (defScope s_law_says) := ⟨rfl, rfl, rfl, by decide +kernel, rfl, by decide +kernel, by decide +kernel⟩
def spLSays : Sp := fun vs H Q _ => ∃ a b : Bool, vs = [.bl a, .bl b] ∧ RetV (.bl (decide (a = b))) H Q
theorem sv_lsays {H : Hp} {a b : Bool} (h : a = b) : SpV spLSays [.bl a, .bl b] H (.bl true) := fun _ _ _ q _ => ⟨a, b, rfl, by rw [decide_eq_true h]; exact q⟩
theorem ev_isiBl {K : PySem.W.Frag} {σ : L2.St} {H : Hp} {ta : TE} {b : Bool} (ha : Ev ta σ H (.bl b)) : Ev (tCB (rIsi K) (tCons ta (tCons (tC (.ty "bool")) tNil))) σ H (.bl true) := ev_isi ha ev_c (.ty "bool") (fun _ _ => .base (.bl b)) (kit_ty (by decide +kernel))
theorem ok_law_says {f : Addr} {fd : FuncData} (F : Fun K "_law_says" "_law_says" s_law_says f fd) (B : Bl mg) : FnOk P w K mg base CX0 1 f fd ["_law_said", "_law_due"] spLSays := by
  refine F.ok sc_law_says (fun vs H Q E h => ?_) (fun cdv A outer s H vs Q E hr h => ?_)
  · obtain ⟨a, b, rfl, _⟩ := h
    rfl
  · obtain ⟨a, b, rfl, q⟩ := h
    refine ⟨_, (pss_one (ps_ret (pe_and (pe_callB (call_isiK' (K := K) rfl) (by rfl) B.isinstance_ bo_isinstance (pa_cons (pv 0) (pa_cons (pe_bltn (v := .ty "bool") (by rfl) B.bool_ bo_bool rfl) pa_nil))) (pe_one (pe_cmpR op_eq (pv 0) (pv 1) (nomark _)))))), ?_⟩
    exact ret_V q (Ex.refl H) (ev_is (ev_andV (ev_isiBl (ev_var rfl)) fun _ => ev_op (ev_var rfl) (ev_var rfl) (rv_eqBl rfl)) (by rw [Bool.true_and]))

abbrev s_law_shut : Stmt := topS 38
abbrev N_law_shut : List Str := ["_law_leading_here", "_law_one", "_law_other", "_law_places", "_law_place"]
theorem sc_law_shut : FnScope N_law_shut ["_law_leading_here", "_law_one", "_law_other", "_law_places"] (defScope s_law_shut) := ⟨rfl, rfl, rfl, by decide +kernel, rfl, by decide +kernel, by decide +kernel⟩
def spLShut (K : PySem.W.Frag) : Sp := fun vs H Q _ => ∃ (a l : Addr) (L : List Nat) (p q : Nat) (ps : List Int), vs = [.ref a, .int (p : Int), .int (q : Int), .ref l] ∧ IsLd H a L ∧ SqL K H l (il ps) ∧ ps.length ≤ 40000 ∧ RetV (.bl (shutB L p q ps)) H Q
theorem sv_lshut {H : Hp} {a l : Addr} {L : List Nat} {p q : Nat} {ps : List Int} (hL : IsLd H a L) (hl : SqL K H l (il ps)) (hz : ps.length ≤ 40000) : SpV (spLShut K) [.ref a, .int (p : Int), .int (q : Int), .ref l] H (.bl (shutB L p q ps)) := fun _ e _ k _ => ⟨a, l, L, p, q, ps, rfl, hL.ex e, ex_l e hl, hz, k⟩
theorem ok_law_shut {f : Addr} {fd : FuncData} (F : Fun K "_law_shut" "_law_shut" s_law_shut f fd) (B : Bl mg) : FnOk P w K mg base CX0 1 f fd ["_law_leading_here", "_law_one", "_law_other", "_law_places"] (spLShut K) := by
  refine F.ok sc_law_shut (fun vs H Q E h => ?_) (fun cdv A outer s H vs Q E hr h => ?_)
  · obtain ⟨a, l, L, p, q, ps, rfl, _⟩ := h
    rfl
  · obtain ⟨a, l, L, p, q, ps, rfl, hL, hl, hz, k⟩ := h
    refine ⟨_, (pss_cons (ps_if (PW.pt (pw_or (pt_cmpR (op_notInK (K := K) rfl) (pv 1) (pv 3) (by rfl)) (pw_or1 (pt_cmpR (op_inK (K := K) rfl) (pv 2) (pv 3) (by rfl)))))
    (pss_one (ps_ret pe_bl))
    pss_nil)
    (pss_one (ps_ret (pe_callB (cr_allK (K := K) rfl rfl) (by rfl) B.all_ bo_all (pa_cons (pe_lc (own := [("_law_place", 4)]) (g := gName 4) (tt := tYes) rfl sc_law_shut.nd (pi_list (pv 3)) (blkOk_by (N := N_law_shut) (sc := defScope s_law_shut) (by decide +kernel)) (fun _ _ _ _ _ => (pg_name (i := 4) sc_law_shut.nd rfl (Or.inl rfl))) (fun _ _ _ _ _ => pts_nil) (fun _ _ _ _ _ => (pe_and (pe_chain op_le op_lt pe_int (pv 4) (pe_callB (call_lenK (K := K) rfl) (by rfl) B.len_ bo_len (pa_cons (pv 0) pa_nil))) (pe_one (pe_cmpR (op_inK (K := K) rfl) (pe_ix (ix_listK (K := K) rfl) (pv 0) (pv 4) (fun _ _ => rfl)) (pv 3) (by rfl)))))) pa_nil))))), ?_⟩
    refine q_when (et_or (et_test (ev_op (ev_var rfl) (ev_var rfl) (rv_ninI hl rfl))) fun _ => et_test (ev_op (ev_var rfl) (ev_var rfl) (rv_inI hl rfl))) (fun hb H1 e1 => ?_) (fun hb H1 e1 => ?_)
    · have e : shutB L p q ps = false := by
        unfold shutB
        rw [show (decide ((p : Int) ∈ ps) && !decide ((q : Int) ∈ ps)) = false by
          revert hb
          cases decide ((p : Int) ∈ ps) <;> cases decide ((q : Int) ∈ ps) <;> simp, Bool.false_and]
      rw [e] at k
      exact s_ret ev_c fun H2 e2 => k H2 (e1.trans e2)
    · have e : shutB L p q ps = ps.all fun x => (decide (0 ≤ x) && decide (x < (L.length : Int))) && decide ((st L x.toNat : Int) ∈ ps) := by
        unfold shutB
        rw [show (decide ((p : Int) ∈ ps) && !decide ((q : Int) ∈ ps)) = true by
          revert hb
          cases decide ((p : Int) ∈ ps) <;> cases decide ((q : Int) ∈ ps) <;> simp, Bool.true_and]
      rw [e] at k
      refine ret_V k e1 (ev_allB (el_mapI (fun x => V.bl ((decide (0 ≤ x) && decide (x < (L.length : Int))) && decide ((st L x.toNat : Int) ∈ ps))) (ev_var rfl) (ex_l e1 hl) hz fun y H2 e2 hy => ?_))
      refine ev_andV (ev_chain ev_c (ev_var rfl) (ev_lenNl (ev_var rfl) (hL.ex (e1.trans e2)).sq) rv_I0 rv_I0) fun hb2 => ?_
      rw [Bool.and_eq_true, decide_eq_true_eq, decide_eq_true_eq] at hb2
      obtain ⟨n, rfl⟩ := Int.eq_ofNat_of_zero_le hb2.1
      exact ev_op (ev_op (ev_var rfl) (ev_var rfl) (rv_ixN (j := n) (hL.ex (e1.trans e2)).sq (by omega))) (ev_var rfl) (rv_inI (ex_l (e1.trans e2) hl) rfl)

abbrev s_law_apart : Stmt := topS 39
abbrev N_law_apart : List Str := ["_law_leading_here", "_law_one", "_law_other", "_law_places", "_law_place", "_law_there"]
theorem sc_law_apart : FnScope N_law_apart ["_law_leading_here", "_law_one", "_law_other", "_law_places"] (defScope s_law_apart) := ⟨rfl, rfl, rfl, by decide +kernel, rfl, by decide +kernel, by decide +kernel⟩
theorem apart_two {L : List Nat} {p q : Nat} {ps : List Int} (hL : Lead L) : apartB L p q ps = (shutB L p q ps && (List.range L.length).all fun k => decide ((k : Int) ∈ ps) || !decide ((st L k : Int) ∈ ps)) := by
  rw [Bool.eq_iff_iff]
  unfold apartB shutB
  simp only [Bool.and_eq_true, Bool.or_eq_true, List.all_eq_true, decide_eq_true_eq, Bool.not_eq_true', decide_eq_false_iff_not, List.mem_range, decide_eq_decide]
  constructor
  · rintro ⟨⟨h1, h2⟩, h3⟩
    refine ⟨⟨h1, fun x hx => ⟨h2 x hx, ?_⟩⟩, fun k hk => ?_⟩
    · obtain ⟨g1, g2⟩ := h2 x hx
      obtain ⟨n, rfl⟩ := Int.eq_ofNat_of_zero_le g1
      exact (h3 n (by omega)).mp hx
    · by_cases h : (k : Int) ∈ ps
      · exact .inl h
      · exact .inr fun h4 => h ((h3 k hk).mpr h4)
  · rintro ⟨⟨h1, h2⟩, h3⟩
    refine ⟨⟨h1, fun x hx => (h2 x hx).1⟩, fun k hk => ⟨fun h => ?_, fun h => ?_⟩⟩
    · have := (h2 _ h).2
      rw [Int.toNat_natCast] at this
      exact this
    · exact (h3 k hk).resolve_right fun h4 => h4 h
def spLApart (K : PySem.W.Frag) : Sp := fun vs H Q _ => ∃ (a l : Addr) (L : List Nat) (p q : Nat) (ps : List Int), vs = [.ref a, .int (p : Int), .int (q : Int), .ref l] ∧ IsLd H a L ∧ SqL K H l (il ps) ∧ ps.length ≤ 40000 ∧ RetV (.bl (apartB L p q ps)) H Q
theorem sv_lapart {H : Hp} {a l : Addr} {L : List Nat} {p q : Nat} {ps : List Int} (hL : IsLd H a L) (hl : SqL K H l (il ps)) (hz : ps.length ≤ 40000) : SpV (spLApart K) [.ref a, .int (p : Int), .int (q : Int), .ref l] H (.bl (apartB L p q ps)) := fun _ e _ k _ => ⟨a, l, L, p, q, ps, rfl, hL.ex e, ex_l e hl, hz, k⟩
theorem ok_law_apart {f : Addr} {fd : FuncData} (F : Fun K "_law_apart" "_law_apart" s_law_apart f fd) (B : Bl mg) (D_law_shut : Dk P w K mg base CX0 1 "_law_shut" ["_law_leading_here", "_law_one", "_law_other", "_law_places"] (spLShut K)) : FnOk P w K mg base CX0 2 f fd ["_law_leading_here", "_law_one", "_law_other", "_law_places"] (spLApart K) := by
  refine F.ok sc_law_apart (fun vs H Q E h => ?_) (fun cdv A outer s H vs Q E hr h => ?_)
  · obtain ⟨a, l, L, p, q, ps, rfl, _⟩ := h
    rfl
  · obtain ⟨a, l, L, p, q, ps, rfl, hL, hl, hz, k⟩ := h
    refine ⟨_, (pss_cons (ps_if (pt_not (pt_val (pe_callD D_law_shut (hr.mono (by decide)) (by rfl) pass0 (pa_cons (pv 0) (pa_cons (pv 1) (pa_cons (pv 2) (pa_cons (pv 3) pa_nil)))))))
    (pss_one (ps_ret pe_bl))
    pss_nil)
    (pss_one (ps_ret (pe_callB (cr_allK (K := K) rfl rfl) (by rfl) B.all_ bo_all (pa_cons (pe_lc (own := [("_law_place", 4), ("_law_there", 5)]) (g := gTup K 2 (gCons (gName 4) (gCons (gName 5) gNil))) (tt := tYes) rfl sc_law_apart.nd (pi_enum (by rfl) B.enumerate_ (pa_cons (pv 0) pa_nil)) (blkOk_by (N := N_law_apart) (sc := defScope s_law_apart) (by decide +kernel)) (fun _ _ _ _ _ => (pg_tup (by rfl) (pgs_cons (pg_name (i := 4) sc_law_apart.nd rfl (Or.inl rfl)) (pgs_cons (pg_name (i := 5) sc_law_apart.nd rfl (Or.inl rfl)) pgs_nil)))) (fun _ _ _ _ _ => pts_nil) (fun _ _ _ _ _ => (pe_or (pe_cmpR (op_inK (K := K) rfl) (pv 4) (pv 3) (by rfl)) (pe_one (pe_cmpR (op_notInK (K := K) rfl) (pv 5) (pv 3) (by rfl)))))) pa_nil))))), ?_⟩
    have h64 := hL.2.2
    rw [apart_two hL.2.1] at k
    refine q_when (et_not (et_B (ev_callV (ea_cons (ev_var rfl) (ea3 (ev_var rfl) (ev_var rfl) (ev_var rfl))) (sv_lshut hL hl hz)))) (fun hb H1 e1 => ?_) (fun hb H1 e1 => ?_)
    · rw [Bool.not_eq_true'] at hb
      rw [hb, Bool.false_and] at k
      exact s_ret ev_c fun H2 e2 => k H2 (e1.trans e2)
    · rw [Bool.not_eq_false'] at hb
      rw [hb, Bool.true_and] at k
      refine ret_V k e1 (ev_allB (L := List.range L.length) (f := fun k => decide ((k : Int) ∈ ps) || !decide ((st L k : Int) ∈ ps)) ?_)
      rw [← nl_len L, ← given_all]
      refine el_lcE (by decide) (fun _ => true) _ (ev_var rfl) (hL.ex e1).sq (by rw [nl_len]; omega) (fun _ _ _ _ _ => et_yes) fun k x H3 e3 hk _ => ?_
      obtain ⟨y, hy, rfl, hl2⟩ := nl_inv hk
      have ey : y = st L k := by
        rw [st_get hl2] at hy
        exact (Option.some.inj hy).symm
      subst ey
      exact ev_orV (ev_op (ev_var rfl) (ev_var rfl) (rv_inI (ex_l (e1.trans e3) hl) rfl)) fun _ => ev_op (ev_var rfl) (ev_var rfl) (rv_ninI (ex_l (e1.trans e3) hl) rfl)

abbrev s_law_bent : Stmt := topS 37
abbrev N_law_bent : List Str := ["_law_some", "_law_cell", "_law_more", "_law_kind", "_law_at"]
theorem sc_law_bent : FnScope N_law_bent ["_law_some", "_law_cell", "_law_more"] (defScope s_law_bent) := ⟨rfl, rfl, rfl, by decide +kernel, rfl, by decide +kernel, by decide +kernel⟩
def bentK {α : Type} (xs : List α) (r a : Nat) (w : α) : List α := if r = 1 then xs.take a ++ xs.drop (a + 1) else if r = 2 then xs ++ (xs.drop a).take 1 else if r = 3 then xs.reverse else (xs.take a ++ [w]) ++ xs.drop (a + r % 2)
def bentG {α : Type} (xs : List α) (z : Int) (w : α) : List α := if xs.length = 0 ∨ (z.fmod 6).toNat = 0 then xs else bentK xs (z.fmod 6).toNat ((z.fdiv 6).fmod (xs.length : Int)).toNat w
theorem bentK_map {α β : Type} (f : α → β) (xs : List α) (r a : Nat) (w : α) : (bentK xs r a w).map f = bentK (xs.map f) r a (f w) := by
  unfold bentK
  split
  · rw [List.map_append, List.map_take, List.map_drop]
  · split
    · rw [List.map_append, List.map_take, List.map_drop]
    · split
      · rw [List.map_reverse]
      · rw [List.map_append, List.map_append, List.map_take, List.map_drop]
        rfl
theorem bentG_map {α β : Type} (f : α → β) (xs : List α) (z : Int) (w : α) : (bentG xs z w).map f = bentG (xs.map f) z (f w) := by
  unfold bentG
  rw [List.length_map]
  split
  · rfl
  · exact bentK_map f xs _ _ w
theorem bentG_mem {α : Type} {xs : List α} {z : Int} {w y : α} (h : y ∈ bentG xs z w) : y ∈ xs ∨ y = w := by
  unfold bentG at h
  split at h
  · exact .inl h
  · unfold bentK at h
    split at h
    · rcases List.mem_append.mp h with h | h
      · exact .inl (List.mem_of_mem_take h)
      · exact .inl (List.mem_of_mem_drop h)
    · split at h
      · rcases List.mem_append.mp h with h | h
        · exact .inl h
        · exact .inl (List.mem_of_mem_drop (List.mem_of_mem_take h))
      · split at h
        · exact .inl (List.mem_reverse.mp h)
        · rcases List.mem_append.mp h with h | h
          · rcases List.mem_append.mp h with h | h
            · exact .inl (List.mem_of_mem_take h)
            · exact .inr (List.mem_singleton.mp h)
          · exact .inl (List.mem_of_mem_drop h)
theorem bentG_len {α : Type} (xs : List α) (z : Int) (w : α) : (bentG xs z w).length ≤ xs.length + 1 := by
  unfold bentG
  split
  · omega
  · unfold bentK
    rename_i h
    obtain ⟨h1, h2⟩ := not_or.mp h
    have ha : ((z.fdiv 6).fmod (xs.length : Int)).toNat < xs.length := by
      obtain ⟨r, hr, hl⟩ := fmod_lt (z.fdiv 6) (m := xs.length) (by omega)
      rw [hr]
      omega
    generalize ((z.fdiv 6).fmod (xs.length : Int)).toNat = a at ha
    split
    · rw [List.length_append, List.length_take, List.length_drop]
      omega
    · split
      · rw [List.length_append, List.length_take, List.length_drop]
        omega
      · split
        · rw [List.length_reverse]
          omega
        · rw [List.length_append, List.length_append, List.length_take, List.length_drop, List.length_singleton]
          omega
theorem cut_take {xs : List V} {a : Nat} (h : a ≤ xs.length) : cutV xs none (some (a : Int)) = xs.take a := by
  unfold cutV
  rw [HT.sIx_none, HT.sIx_nat, List.drop_zero, Nat.sub_zero, Nat.min_eq_left h]
theorem cut_drop {xs : List V} {a : Nat} (h : a ≤ xs.length) : cutV xs (some (a : Int)) none = xs.drop a := by
  unfold cutV
  rw [HT.sIx_none, HT.sIx_nat, Nat.min_eq_left h, List.take_of_length_le (by rw [List.length_drop]; omega)]
theorem cut_mid {xs : List V} {a : Nat} (h : a < xs.length) : cutV xs (some (a : Int)) (some ((a + 1 : Nat) : Int)) = (xs.drop a).take 1 := by
  unfold cutV
  rw [HT.sIx_nat, HT.sIx_nat, Nat.min_eq_left (by omega), Nat.min_eq_left (by omega), show a + 1 - a = 1 by omega]
theorem s_retL {D : Ends} {σ : L2.St} {H H0 : Hp} {te : TE} {xs : List V} (h : EvL te σ H xs) (q : RetL xs H0 D.rt) (e : Ex H0 H) : tRet te D σ H := ret_L q e h
def spLBent (K : PySem.W.Frag) : Sp := fun vs H Q _ => ∃ (a : Addr) (xs : List V) (z : Int) (w : V), vs = [.ref a, .int z, w] ∧ H a = some (.lst xs) ∧ xs.length ≤ 1000 ∧ (∀ H1, Ex H H1 → ∃ d, Dp K H1 (.ref a) (.list d) ∧ SeqAt.shaped (.list d) = true ∧ (d = [] ↔ xs = [])) ∧ RetL (bentG xs z w) H Q
theorem eqv_nil (d : List PyData) : PyData.eqv (.list d) (.list []) = decide (d = []) := by
  cases d <;> rfl
theorem ok_law_bent {f : Addr} {fd : FuncData} (F : Fun K "_law_bent" "_law_bent" s_law_bent f fd) (B : Bl mg) : FnOk P w K mg base CX0 1 f fd ["_law_some", "_law_cell", "_law_more"] (spLBent K) := by
  refine F.ok sc_law_bent (fun vs H Q E h => ?_) (fun cdv A outer s H vs Q E hr h => ?_)
  · obtain ⟨a, xs, z, w, rfl, _⟩ := h
    rfl
  · obtain ⟨a, xs, z, w, rfl, hH, hz, hd, q⟩ := h
    refine ⟨_, (pss_cons (ps_set (i := 3) sc_law_bent.nd rfl (Or.inl rfl) (pe_op op_modN (pv 1) pe_int))
    (pss_cons (ps_if (PW.pt (pw_or (pt_cmpR (op_eqK (K := K) rfl hr.units) (pv 0) (pe_lst pa_nil) (nomark _)) (pw_or1 (pt_cmpR op_eq (pv 3) pe_int (nomark _)))))
    (pss_one (ps_ret (pe_callTy (call_listK (K := K) rfl) (by rfl) B.list_ bo_list (pa_cons (pv 0) pa_nil))))
    pss_nil)
    (pss_cons (ps_set (i := 4) sc_law_bent.nd rfl (Or.inl rfl) (pe_op op_modN (pe_op op_fdivN (pv 1) pe_int) (pe_callB (call_lenK (K := K) rfl) (by rfl) B.len_ bo_len (pa_cons (pv 0) pa_nil))))
    (pss_cons (ps_if (pt_cmpR op_eq (pv 3) pe_int (nomark _))
    (pss_one (ps_ret (pe_op op_cat (pe_slice (sl_listK (K := K) rfl) (pv 0) po_none (po_some (pv 4))) (pe_slice (sl_listK (K := K) rfl) (pv 0) (po_some (pe_op op_add (pv 4) pe_int)) po_none))))
    pss_nil)
    (pss_cons (ps_if (pt_cmpR op_eq (pv 3) pe_int (nomark _))
    (pss_one (ps_ret (pe_op op_cat (pv 0) (pe_slice (sl_listK (K := K) rfl) (pv 0) (po_some (pv 4)) (po_some (pe_op op_add (pv 4) pe_int))))))
    pss_nil)
    (pss_cons (ps_if (pt_cmpR op_eq (pv 3) pe_int (nomark _))
    (pss_one (ps_ret (pe_revLK (K := K) rfl (pv 0))))
    pss_nil)
    (pss_one (ps_ret (pe_op op_cat (pe_op op_cat (pe_slice (sl_listK (K := K) rfl) (pv 0) po_none (po_some (pv 4))) (pe_lst (pa_cons (pv 2) pa_nil))) (pe_slice (sl_listK (K := K) rfl) (pv 0) (po_some (pe_op op_add (pv 4) (pe_op op_modN (pv 3) pe_int))) po_none)))))))))), ?_⟩
    obtain ⟨r, hr6, hrl⟩ := fmod_lt z (m := 6) (by decide)
    have hr6' : z.fmod 6 = (r : Int) := hr6
    unfold bentG at q
    rw [hr6', Int.toNat_natCast] at q
    refine q_asg (ev_op (ev_var rfl) ev_c (rv_IW (by decide) (w := .int (r : Int)) (by show V.int (z.fmod 6) = _; rw [hr6']))) fun H1 e1 => ?_
    refine q_when (b := decide (xs = []) || decide (r = 0)) (et_or (et_test (ev_opL (xs := []) (ev_var rfl) (el_lst ea_nil (Nat.zero_le _)) fun p H2 h2 e2 H3 e3 Q2 k2 => by
      obtain ⟨d, h3, h4, h5⟩ := hd H3 ((e1.trans e2).trans e3)
      refine ⟨.list d, .list [], h3, .lst (sq_of (e3 _ _ h2)) .nil, h4, shaped_int [], ?_⟩
      rw [eqv_nil, show decide (d = []) = decide (xs = []) from decide_eq_decide.mpr h5]
      exact k2 H3 (Ex.refl H3))) fun _ => et_test (ev_op (ev_var rfl) ev_c (rv_eqB (decide_eq_decide.mpr ⟨fun h => by omega, fun h => by omega⟩)))) (fun hb H2 e2 => ?_) (fun hb H2 e2 => ?_)
    · rw [Bool.or_eq_true, decide_eq_true_eq, decide_eq_true_eq] at hb
      rw [if_pos (hb.imp (fun h => by rw [h]; rfl) id)] at q
      exact ret_L q (e1.trans e2) (el_listOf (ev_var rfl) (sq_of ((e1.trans e2) _ _ hH)))
    · rw [Bool.or_eq_false_iff, decide_eq_false_iff_not, decide_eq_false_iff_not] at hb
      obtain ⟨hne, hr0⟩ := hb
      have hpos : 0 < xs.length := List.length_pos_iff.mpr hne
      rw [if_neg (not_or.mpr ⟨by omega, hr0⟩)] at q
      obtain ⟨at', hat, hal⟩ := fmod_lt (z.fdiv 6) (m := xs.length) hpos
      rw [hat, Int.toNat_natCast] at q
      have e12 := e1.trans e2
      refine q_asg (ev_op (ev_op (ev_var rfl) ev_c (rv_I ⟨by decide, by decide⟩)) (ev_lenL (ev_var rfl) (sq_of (e12 _ _ hH))) (rv_IW (by omega) (w := .int (at' : Int)) (by rw [hat]))) fun H3 e3 => ?_
      have e13 := e12.trans e3
      unfold bentK at q
      refine q_when (b := decide (r = 1)) (et_test (ev_op (ev_var rfl) ev_c (rv_eqB (decide_eq_decide.mpr ⟨fun h => by omega, fun h => by omega⟩)))) (fun hb H4 e4 => ?_) (fun hb H4 e4 => ?_)
      · rw [if_pos (of_decide_eq_true hb)] at q
        have h4 := sq_of (K := K) ((e13.trans e4) _ _ hH)
        refine s_retL ?_ q (e13.trans e4)
        rw [← cut_take (by omega), ← cut_drop (xs := xs) (a := at' + 1) (by omega)]
        exact el_cat (el_sl (ev_var rfl) eo_none (eo_some (ev_var rfl)) h4) (el_sl (ev_var rfl) (eo_some (ev_op (ev_var rfl) ev_c (rv_dec (vadd at' 1)))) eo_none h4) (by
          have h1 := cutV_length xs none (some (at' : Int))
          have h2 := cutV_length xs (some ((at' + 1 : Nat) : Int)) none
          omega)
      rw [if_neg (of_decide_eq_false hb)] at q
      have e14 := e13.trans e4
      refine q_when (b := decide (r = 2)) (et_test (ev_op (ev_var rfl) ev_c (rv_eqB (decide_eq_decide.mpr ⟨fun h => by omega, fun h => by omega⟩)))) (fun hb H5 e5 => ?_) (fun hb H5 e5 => ?_)
      · rw [if_pos (of_decide_eq_true hb)] at q
        have h4 := (e14.trans e5) _ _ hH
        refine s_retL ?_ q (e14.trans e5)
        rw [← cut_mid hal]
        exact el_catV (ev_var rfl) h4 (el_sl (ev_var rfl) (eo_some (ev_var rfl)) (eo_some (ev_op (ev_var rfl) ev_c (rv_dec (vadd at' 1)))) (sq_of h4)) (by
          have h1 := cutV_length xs (some (at' : Int)) (some ((at' + 1 : Nat) : Int))
          omega)
      rw [if_neg (of_decide_eq_false hb)] at q
      have e15 := e14.trans e5
      refine q_when (b := decide (r = 3)) (et_test (ev_op (ev_var rfl) ev_c (rv_eqB (decide_eq_decide.mpr ⟨fun h => by omega, fun h => by omega⟩)))) (fun hb H6 e6 => ?_) (fun hb H6 e6 => ?_)
      · rw [if_pos (of_decide_eq_true hb)] at q
        exact ret_L q (e15.trans e6) (el_rev (ev_var rfl) (sq_of ((e15.trans e6) _ _ hH)))
      rw [if_neg (of_decide_eq_false hb)] at q
      have e16 := e15.trans e6
      have h6 := sq_of (K := K) (e16 _ _ hH)
      refine s_retL ?_ q e16
      rw [← cut_take (by omega), ← cut_drop (xs := xs) (a := at' + r % 2) (by omega)]
      have h1 := cutV_length xs none (some (at' : Int))
      have h2 := cutV_length xs (some ((at' + r % 2 : Nat) : Int)) none
      exact el_cat (el_cat (el_sl (ev_var rfl) eo_none (eo_some (ev_var rfl)) h6) (el_lst (ea1 (ev_var rfl)) (by show 1 ≤ 100000; decide)) (by show (cutV xs none (some (at' : Int))).length + 1 ≤ 100000; omega))
        (el_sl (ev_var rfl) (eo_some (ev_op (ev_var rfl) (ev_op (ev_var rfl) ev_c (rv_IW (by decide) (vmod r 2))) (rv_dec (vadd at' (r % 2))))) eo_none h6) (by
          rw [List.length_append, List.length_singleton]
          omega)

section
variable {σ : L2.St} {H : Hp} {ta te tx : TE} {t1 : TA} {D : Ends} {tz : TS} {z : V}
/-- a new instance -/
def EvI (te : TE) (σ : L2.St) (H : Hp) (C : Addr) (fs : List (Str × V)) : Prop := ∀ H1, Ex H H1 → ∀ Q : VK, (∀ x dx H2, H1 x = none → Ex H1 H2 → H2 x = some (.ins C dx fs) → Q (.ref x) H2) → te σ H1 Q
theorem ei_mk1 {C : Addr} {f : Str} {E : XK} {v : V} (h : Ev ta σ H v) : EvI (tMake C (spInit1 C f) [] E (tCons ta tNil)) σ H C [(f, v)] := fun H1 e Q k => tmk1 (h.mono e) fun x dx H2 nx e2 hx => k x dx H2 nx e2 hx
theorem ei_mkM {C : Addr} {E : XK} {v u : V} {tb : TE} (h : Ev ta σ H v) (h2 : Ev tb σ H u) : EvI (tMake C (spInitM C) [] E (tCons ta (tCons tb tNil))) σ H C [("mine", v), ("theirs", u)] := fun H1 e Q k => tmkM (h.mono e) (h2.mono e) fun x dx H2 nx e2 hx => k x dx H2 nx e2 hx
theorem ev_fldI {C : Addr} {f : Str} {fs : List (Str × V)} (c : Cls K C) (n : NoAttr K C f) (ha : EvI ta σ H C fs) (hl : fs.lookup f = some z) : Ev (tFld K ta f) σ H z := fun H1 e Q k =>
  ha H1 e _ fun x dx H2 _ e2 hx => ⟨x, C, dx, fs, z, rfl, hx, c, n, hl, k H2 e2⟩
theorem ev_methI {C : Addr} {m : Str} {fs : List (Str × V)} {sp : Sp} {E : XK} {vs : List V} (ha : EvI ta σ H C fs) (hl : fs.lookup m = none) (hv : EvA t1 σ H vs) (hs : ∀ x dx H1, Ex H H1 → H1 x = some (.ins C dx fs) → SpV sp (.ref x :: vs) H1 z) : Ev (tMeth C m sp [] E ta t1) σ H z := fun H1 e Q k =>
  ha H1 e _ fun x dx H2 _ e2 hx => ⟨x, dx, fs, rfl, hx, hl, hv H2 (e.trans e2) _ fun H3 e3 => by
    rw [List.append_nil]
    exact hs x dx H3 ((e.trans e2).trans e3) (e3 _ _ hx) H3 (Ex.refl H3) Q (fun H4 e4 => k H4 ((e2.trans e3).trans e4)) E⟩
theorem q_asgI {C : Addr} {fs : List (Str × V)} {i : Nat} (h : EvI te σ H C fs) (k : ∀ x dx H1, H x = none → Ex H H1 → H1 x = some (.ins C dx fs) → tz D (σ.set i (some (.ref x))) H1) : tSeq (tAsg te (gName i)) tz D σ H := h H (Ex.refl H) _ fun x dx H1 nx e hx => k x dx H1 nx e hx
theorem rv_neTT {A X : List Int} {p q : Addr} (h1 : SqT K H p (il A)) (h2 : SqT K H q (il X)) (he : A = X) : RV (rNeD K) (.ref p) (.ref q) H (.bl false) := fun H1 e Q k =>
  ⟨.tuple (A.map PyData.int), .tuple (X.map PyData.int), .tup (ex_t e h1) (dpAll_int A), .tup (ex_t e h2) (dpAll_int X), shaped_int A, shaped_int X, by
    rw [show PyData.eqv (.tuple (A.map PyData.int)) (.tuple (X.map PyData.int)) = decide (A = X) from eqvAll_int A X, decide_eq_true he]
    exact k H1 (Ex.refl H1)⟩
theorem max0 (m : Int) : (if (0 : Int) > m then (0 : Int) else m) = (m.toNat : Int) := by
  split <;> omega
/-- an answer: with places, or without -/
def Ans (c : Cs) (H : Hp) (x : Addr) : Prop := ∃ nm C dx fs, H x = some (.ins C dx fs) ∧ Ck K mg nm C ∧ ∃ b1 b2, PySem.W.kitOne K (.ref C) (.ref c.Shut) = some b1 ∧ PySem.W.kitOne K (.ref C) (.ref c.Apart) = some b2 ∧
  ((b1 || b2) = true → NoAttr K C "places" ∧ ∃ l, ∃ ps : List Nat, fs.lookup ("places" : Str) = some (V.ref l) ∧ H l = some (.lst (nl ps)) ∧ ps.length ≤ 64)
theorem Ans.ex {c : Cs} {H H' : Hp} {x : Addr} (h : Ans (K := K) (mg := mg) c H x) (e : Ex H H') : Ans (K := K) (mg := mg) c H' x := by
  obtain ⟨nm, C, dx, fs, h1, h2, b1, b2, h3, h4, h5⟩ := h
  exact ⟨nm, C, dx, fs, e _ _ h1, h2, b1, b2, h3, h4, fun hb => by
    obtain ⟨g1, l, ps, g2, g3, g4⟩ := h5 hb
    exact ⟨g1, l, ps, g2, e _ _ g3, g4⟩⟩
def EvAns (K : PySem.W.Frag) (mg : Str → Option Value) (c : Cs) (te : TE) (σ : L2.St) (H : Hp) : Prop := ∀ H1, Ex H H1 → ∀ Q : VK, (∀ x H2, Ex H1 H2 → Ans (K := K) (mg := mg) c H2 x → Q (.ref x) H2) → te σ H1 Q
theorem q_twoAns {c : Cs} {tb : TE} {i : Nat} (h1 : EvAns K mg c ta σ H) (h2 : EvAns K mg c tb σ H) (k : ∀ x y r H2, Ex H H2 → Ans (K := K) (mg := mg) c H2 x → Ans (K := K) (mg := mg) c H2 y → H2 r = some (.lst [.ref x, .ref y]) → tz D (σ.set i (some (.ref r))) H2) : tSeq (tAsg (tLst (tCons ta (tCons tb tNil))) (gName i)) tz D σ H :=
  h1 H (Ex.refl H) _ fun x H1 e1 a1 => h2 H1 e1 _ fun y H2 e2 a2 => ⟨by show 2 ≤ sizeLine; decide, fun r hr => k x y r _ ((e1.trans e2).trans (Ex.new hr)) ((a1.ex e2).ex (Ex.new hr)) (a2.ex (Ex.new hr)) upd_same⟩
/-- a list of lists, some of them old -/
def EvRL (te : TE) (σ : L2.St) (H : Hp) (Ls : List (List Nat)) : Prop := ∀ H1, Ex H H1 → ∀ Q : VK, (∀ p rs H2, H1 p = none → Ex H1 H2 → H2 p = some (.lst (rs.map V.ref)) → AllAt H2 rs Ls → Q (.ref p) H2) → te σ H1 Q
theorem AllAt.cat3 {a b d : Addr} {x y z : List Nat} : ∀ {rs : List Addr} {Ls : List (List Nat)}, AllAt H rs Ls → H a = some (.lst (nl x)) → H b = some (.lst (nl y)) → H d = some (.lst (nl z)) → AllAt H (rs ++ [a, b, d]) (Ls ++ [x, y, z])
  | _, _, .nil, h1, h2, h3 => .cons h1 (.cons h2 (.cons h3 .nil))
  | _, _, .cons h t, h1, h2, h3 => .cons h (AllAt.cat3 t h1 h2 h3)
theorem erl_cat3 {tb tc td : TE} {lp wp : Addr} {rl : List Addr} {Ps : List (List Nat)} {w : List Nat} {o : Nat} (ha : Ev ta σ H (.ref lp)) (hb : Ev tb σ H (.ref wp)) (hc : EvL tc σ H (nl [o])) (hd : EvL td σ H (nl [])) (hlp : H lp = some (.lst (rl.map V.ref))) (hel : AllAt H rl Ps) (hw : H wp = some (.lst (nl w))) (hz : rl.length ≤ 1000) :
    EvRL (tOp rCat ta (tLst (tCons tb (tCons tc (tCons td tNil))))) σ H (Ps ++ [w, [o], []]) := fun H1 e1 Q q =>
  ha H1 e1 _ fun H2 e2 => hb H2 (e1.trans e2) _ fun H3 e3 => hc H3 ((e1.trans e2).trans e3) _ fun r1 H4 _ e4 h4 => hd H4 (((e1.trans e2).trans e3).trans e4) _ fun r2 H5 _ e5 h5 =>
    ⟨by show 3 ≤ sizeLine; decide, fun r3 n3 => by
      have e15 := ((e2.trans e3).trans e4).trans e5
      have e16 := e15.trans (Ex.new (o := .lst [V.ref wp, V.ref r1, V.ref r2]) n3)
      refine ⟨lp, r3, rl.map V.ref, [V.ref wp, V.ref r1, V.ref r2], rfl, rfl, (e1.trans e16) _ _ hlp, upd_same, sz_of (by rw [List.length_map]; show rl.length + 3 ≤ 100000; omega), fun p np => ?_⟩
      have e6 := Ex.new (o := .lst (rl.map V.ref ++ [V.ref wp, V.ref r1, V.ref r2])) np
      refine q p (rl ++ [wp, r1, r2]) _ (fresh_back e16 np) (e16.trans e6) (by rw [upd_same, List.map_append]; rfl) ?_
      have a1 := (hel.ex (e1.trans e16)).ex e6
      exact AllAt.cat3 a1 (e6 _ _ ((e1.trans e16) _ _ hw)) (e6 _ _ (Ex.new n3 _ _ (e5 _ _ h4))) (e6 _ _ (Ex.new n3 _ _ h5))⟩
theorem q_forRL {Ls : List (List Nat)} {tl : TE} {tu : TS} {j : Nat} (h : EvRL tl σ H Ls) (Pv : Hp → Nat → L2.St → Hp → Prop) (hex : ∀ G i σ' H', Pv G i σ' H' → Ex G H') (h0 : ∀ G, Ex H G → Pv G 0 σ G)
    (hst : ∀ G i r l σ' H', Ex H G → Ls[i]? = some l → H' r = some (.lst (nl l)) → Pv G i σ' H' → tu { D with nx := Pv G (i + 1), ct := Pv G (i + 1), bk := tz D } (σ'.set j (some (.ref r))) H') (hd : ∀ G σ' H', Ex H G → Pv G Ls.length σ' H' → tz D σ' H') : tSeq (tFor (iList K tl) (gName j) tu) tz D σ H :=
  h H (Ex.refl H) _ fun p rs G np eG hp hel => ⟨p, rfl, ⟨_, sq_of hp⟩, for_list (xs := rs.map V.ref) (Pv G) (h0 G eG) (fun i σ' H' _ hP => sq_of ((hex G i σ' H' hP) _ _ hp)) (fun i x σ' H' hx hP => by
    obtain ⟨r, hr, rfl⟩ := ref_at hx
    obtain ⟨l, hl, h2⟩ := hel.get hr
    exact hst G i r l σ' H' eG hl ((hex G i σ' H' hP) _ _ h2) hP) (fun σ' H' hP => by
    rw [List.length_map, hel.len] at hP
    exact hd G σ' H' eG hP)⟩
theorem q_asgR {C b : Addr} {f : Str} {E : XK} {xs : List V} {i : Nat} (h : Ev ta σ H (.ref b)) (hb : SqL K H b xs) (k : ∀ x dx l H2, H x = none → H l = none → Ex H H2 → H2 x = some (.ins C dx [(f, .ref l)]) → H2 l = some (.lst xs) → tz D (σ.set i (some (.ref x))) H2) :
    tSeq (tAsg (tMake C (spInitL K C f) [] E (tCons ta tNil)) (gName i)) tz D σ H := tmkR (Q := fun v H1 => tz D (σ.set i (some v)) H1) h hb k
theorem sl_lbent {a : Addr} {ns : List Int} {z w : Int} (h : H a = some (.lst (il ns))) (hz : ns.length ≤ 1000) : SpL (spLBent K) [.ref a, .int z, .int w] H (il (bentG ns z w)) := fun _ e _ q _ => ⟨a, il ns, z, .int w, rfl, e _ _ h, by rw [il_len]; exact hz, fun H1 e1 => ⟨_, dp_il (sq_of (e1 _ _ (e _ _ h))), shaped_int ns, by
  unfold il
  rw [List.map_eq_nil_iff, List.map_eq_nil_iff]⟩, by
  rw [show bentG (il ns) z (V.int w) = il (bentG ns z w) from (bentG_map V.int ns z w).symm]
  exact q⟩
theorem q_asgP {R : Addr → Hp → Prop} {i : Nat} (h : ∀ H1, Ex H H1 → ∀ Q : VK, (∀ x H2, Ex H1 H2 → R x H2 → Q (.ref x) H2) → te σ H1 Q) (k : ∀ x H1, Ex H H1 → R x H1 → tz D (σ.set i (some (.ref x))) H1) : tSeq (tAsg te (gName i)) tz D σ H := h H (Ex.refl H) _ fun x H1 e hp => k x H1 e hp
theorem el_if {b : Bool} {tt : TT} {tb : TE} {xs : List V} (h : EvT tt σ H b) (h1 : b = true → EvL ta σ H xs) (h2 : b = false → EvL tb σ H xs) : EvL (tIf tt ta tb) σ H xs := fun H1 e Q q => h H1 e _ fun H2 e2 => by
  cases b with
  | true => exact h1 rfl H2 (e.trans e2) Q fun p H3 n e3 hp => q p H3 (fresh_back e2 n) (e2.trans e3) hp
  | false => exact h2 rfl H2 (e.trans e2) Q fun p H3 n e3 hp => q p H3 (fresh_back e2 n) (e2.trans e3) hp
theorem q_asgLL {i : Nat} {Ls : List (List Nat)} (h : EvLL te σ H Ls) (k : ∀ p rs H1, Ex H H1 → NLL H H1 p rs Ls → tz D (σ.set i (some (.ref p))) H1) : tSeq (tAsg te (gName i)) tz D σ H := h H (Ex.refl H) _ fun p rs H1 e hN => k p rs H1 e hN
theorem q_asgO {C b : Addr} {E : XK} {tb : TE} {m : Int} {Ls : List (List Nat)} {i : Nat} (h : Ev ta σ H (.int m)) (h2 : Ev tb σ H (.ref b)) (hb : IsLL K H b Ls) (hz : Ls.length ≤ 40000)
    (k : ∀ x dx l rs H2, H x = none → Ex H H2 → NLL H H2 l rs Ls → H2 x = some (.ins C dx [("length", .int m), ("rings", .ref l)]) → tz D (σ.set i (some (.ref x))) H2) : tSeq (tAsg (tMake C (spInitO K C) [] E (tCons ta (tCons tb tNil))) (gName i)) tz D σ H :=
  tmkO (Q := fun v H1 => tz D (σ.set i (some v)) H1) h h2 hb hz k
theorem AllAt.pairs : ∀ {rs : List Addr} {Ls : List (List Nat)}, AllAt H rs Ls → ∃ ps : List (Addr × List Nat), rs = ps.map Prod.fst ∧ Ls = ps.map Prod.snd ∧ ∀ p ∈ ps, H p.1 = some (.lst (nl p.2))
  | _, _, .nil => ⟨[], rfl, rfl, fun p hp => nomatch hp⟩
  | _, _, .cons (a := a) (b := b) h t => by
    obtain ⟨ps, h1, h2, h3⟩ := AllAt.pairs t
    refine ⟨(a, b) :: ps, by rw [h1]; rfl, by rw [h2]; rfl, fun p hp => ?_⟩
    rcases List.mem_cons.mp hp with rfl | hp
    · exact h
    · exact h3 p hp
theorem AllAt.of : ∀ ps : List (Addr × List Nat), (∀ p ∈ ps, H p.1 = some (.lst (nl p.2))) → AllAt H (ps.map Prod.fst) (ps.map Prod.snd)
  | [], _ => .nil
  | p :: ps, h => .cons (h p List.mem_cons_self) (AllAt.of ps fun q hq => h q (List.mem_cons_of_mem _ hq))
theorem AllAt.bent {rs : List Addr} {Ls : List (List Nat)} {r : Addr} {l : List Nat} {z : Int} (h : AllAt H rs Ls) (hr : H r = some (.lst (nl l))) : AllAt H (bentG rs z r) (bentG Ls z l) := by
  obtain ⟨ps, h1, h2, h3⟩ := h.pairs
  subst h1
  subst h2
  have g1 := bentG_map Prod.fst ps z (r, l)
  have g2 := bentG_map Prod.snd ps z (r, l)
  rw [← g1, ← g2]
  refine AllAt.of _ fun p hp => ?_
  rcases bentG_mem hp with hp | rfl
  · exact h3 p hp
  · exact hr
theorem q_bentLL {tb tc : TE} {E : XK} {i : Nat} {a : Addr} {rs : List Addr} {Ls : List (List Nat)} {z : Int} {l : List Nat} (ha : Ev ta σ H (.ref a)) (hz : Ev tb σ H (.int z)) (hw : EvL tc σ H (nl l)) (h : H a = some (.lst (rs.map V.ref))) (hel : AllAt H rs Ls) (hn : rs.length ≤ 1000)
    (k : ∀ p ms H1, H p = none → Ex H H1 → H1 p = some (.lst (ms.map V.ref)) → AllAt H1 ms (bentG Ls z l) → tz D (σ.set i (some (.ref p))) H1) : tSeq (tAsg (tCall (spLBent K) [] E (tCons ta (tCons tb (tCons tc tNil)))) (gName i)) tz D σ H :=
  ha H (Ex.refl H) _ fun H1 e1 => hz H1 e1 _ fun H2 e2 => hw H2 (e1.trans e2) _ fun r H3 nr e3 hr => ⟨a, rs.map V.ref, z, .ref r, rfl, ((e1.trans e2).trans e3) _ _ h, by rw [List.length_map]; exact hn, fun H4 e4 => by
    have e := ((e1.trans e2).trans e3).trans e4
    refine ⟨Ls.map dl, IsLL.dp ⟨rs, sq_of (e _ _ h), (hel.ex e).lls⟩, shaped_ll Ls, ?_⟩
    rw [List.map_eq_nil_iff, List.map_eq_nil_iff, ← List.length_eq_zero_iff, ← List.length_eq_zero_iff, hel.len], fun p H4 np e4 hp => by
    have e := (e1.trans e2).trans e3
    exact k p (bentG rs z r) H4 (fresh_back e np) (e.trans e4) (by rw [hp, bentG_map]) (((hel.ex e).ex e4).bent (e4 _ _ hr))⟩
theorem ell_call {sp : Sp} {vs : List V} {E : XK} {Ls : List (List Nat)} (h : EvA t1 σ H vs) (hs : ∀ H1, Ex H H1 → ∀ R, RetLL Ls H1 R → sp vs H1 R E) : EvLL (tCall sp [] E t1) σ H Ls := fun H1 e1 Q q => h H1 e1 _ fun H2 e2 => by
  rw [List.append_nil]
  exact hs H2 (e1.trans e2) _ fun p rs H3 e3 hN => q p rs H3 (e2.trans e3) (hN.back e2)
end

abbrev s_law_ways_right : Stmt := topS 40
abbrev N_law_ways_right : List Str := ["_law_leading_here", "_law_cell", "_law_one", "_law_other", "_law_many", "_law_due", "_law_more", "_law_there", "_law_answer", "_law_told", "_law_lists", "_law_found", "_law_whole", "_law_places", "_law_some", "_law_handed", "_law_shut_here", "_law_apart_here", "_law_place"]
theorem sc_law_ways_right : FnScope N_law_ways_right ["_law_leading_here", "_law_cell"] (defScope s_law_ways_right) := ⟨rfl, rfl, rfl, by decide +kernel, rfl, by decide +kernel, by decide +kernel⟩
def spLWays : Sp := fun vs H Q _ => ∃ (a : Addr) (L : List Nat) (z : Int), vs = [.ref a, .int z] ∧ IsLd H a L ∧ 0 < L.length ∧ RetV (.bl true) H Q
theorem rv_neI0 {H : Hp} {p q : Addr} {A : List Int} (h1 : SqL K H p (il A)) (h2 : SqL K H q (il A)) : RV (rNeD K) (.ref p) (.ref q) H (.bl false) := by
  have h := rv_neI h1 h2
  rw [decide_eq_true rfl] at h
  exact h
theorem ok_law_ways_right {f : Addr} {fd : FuncData} (F : Fun K "_law_ways_right" "_law_ways_right" s_law_ways_right f fd) (B : Bl mg) (C : Cl K mg c) (D_law_after : Dk P w K mg base CX0 1 "_law_after" ["_law_leading_here", "_law_place", "_law_steps"] spLAfter) (D_law_says : Dk P w K mg base CX0 1 "_law_says" ["_law_said", "_law_due"] spLSays)
    (D_law_bent : Dk P w K mg base CX0 1 "_law_bent" ["_law_some", "_law_cell", "_law_more"] (spLBent K)) (D_law_shut : Dk P w K mg base CX0 1 "_law_shut" ["_law_leading_here", "_law_one", "_law_other", "_law_places"] (spLShut K)) (D_law_apart : Dk P w K mg base CX0 2 "_law_apart" ["_law_leading_here", "_law_one", "_law_other", "_law_places"] (spLApart K))
    (D_reached : Dk P w K mg base CX0 3 "reached" ["leading", "one", "other"] (spReached c)) (D_comes : Dk P w K mg base CX0 3 "comes" ["leading", "one", "other"] (spComes c)) (I_Steps : Cn P w K mg base CX0 1 "Steps" c.Steps ["self", "many"] (spInit1 c.Steps "many")) (I_Met : Cn P w K mg base CX0 1 "Met" c.Met ["self", "mine", "theirs"] (spInitM c.Met))
    (I_Shut : Cn P w K mg base CX0 1 "Shut" c.Shut ["self", "places"] (spInitL K c.Shut "places")) (I_Apart : Cn P w K mg base CX0 1 "Apart" c.Apart ["self", "places"] (spInitL K c.Apart "places"))
    (M_Steps_shows : Mt P w K mg base CX0 2 c.Steps "shows" ["self", "leading", "one", "other"] (spStepsShows c.Steps)) (M_Met_shows : Mt P w K mg base CX0 2 c.Met "shows" ["self", "leading", "one", "other"] (spMetShows c.Met))
    (M_Shut_shows : Mt P w K mg base CX0 2 c.Shut "shows" ["self", "leading", "one", "other"] (spShutShows K c.Shut)) (M_Apart_shows : Mt P w K mg base CX0 2 c.Apart "shows" ["self", "leading", "one", "other"] (spApartShows K c.Apart)) : FnOk P w K mg base CX0 4 f fd ["_law_leading_here", "_law_cell"] spLWays := by
  refine F.ok sc_law_ways_right (fun vs H Q E h => ?_) (fun cdv A outer s H vs Q E hr h => ?_)
  · obtain ⟨a, L, z, rfl, _⟩ := h
    rfl
  · obtain ⟨a, L, z, rfl, hL, hpos, k⟩ := h
    refine ⟨_, (pss_cons (ps_set (i := 2) sc_law_ways_right.nd rfl (Or.inl rfl) (pe_op op_modN (pe_op op_fdivN (pv 1) pe_int) (pe_callB (call_lenK (K := K) rfl) (by rfl) B.len_ bo_len (pa_cons (pv 0) pa_nil))))
    (pss_cons (ps_set (i := 3) sc_law_ways_right.nd rfl (Or.inl rfl) (pe_op op_modN (pe_op op_fdivN (pv 1) pe_int) (pe_callB (call_lenK (K := K) rfl) (by rfl) B.len_ bo_len (pa_cons (pv 0) pa_nil))))
    (pss_cons (ps_for PassesOwn.never rfl (pi_list (pe_lst (pa_cons (pe_op op_sub (pe_op op_modN (pv 1) pe_int) pe_int) (pa_cons (pe_op op_add (pe_op op_mul pe_int (pe_callB (call_lenK (K := K) rfl) (by rfl) B.len_ bo_len (pa_cons (pv 0) pa_nil))) (pe_op op_pow pe_int pe_int)) pa_nil)))) (pg_name (i := 4) sc_law_ways_right.nd rfl (Or.inl rfl))
    (pss_cons (ps_set (i := 5) sc_law_ways_right.nd rfl (Or.inl rfl) (pe_and (pe_cmpR op_ge (pv 4) pe_int (nomark _)) (pe_one (pe_cmpR op_eq (pe_callD D_law_after (hr.mono (by decide)) (by rfl) pass0 (pa_cons (pv 0) (pa_cons (pv 2) (pa_cons (pe_callB (call_max2 rfl) (by rfl) B.max_ bo_max (pa_cons (pv 4) (pa_cons pe_int pa_nil))) pa_nil)))) (pv 3) (nomark _)))))
    (pss_cons (ps_if (PW.pt (pw_or (pt_cmpR op_ne (pe_fldK (K := K) rfl (pe_makeD I_Steps (hr.mono (by decide)) (by rfl) pass0 (pa_cons (pv 4) pa_nil)) rfl) (pv 4) (nomark _)) (pw_or1 (pt_not (pt_val (pe_callD D_law_says (hr.mono (by decide)) (by rfl) pass0 (pa_cons (pe_methD C.Steps.cl M_Steps_shows (hr.mono (by decide)) pass0 (pe_makeD I_Steps (hr.mono (by decide)) (by rfl) pass0 (pa_cons (pv 4) pa_nil)) (pa_cons (pv 0) (pa_cons (pv 2) (pa_cons (pv 3) pa_nil)))) (pa_cons (pv 5) pa_nil))))))))
    (pss_one (ps_ret pe_bl))
    pss_nil)
    (pss_cons (ps_set (i := 6) sc_law_ways_right.nd rfl (Or.inl rfl) (pe_op op_sub (pe_op op_modN (pe_op op_fdivN (pv 1) pe_int) pe_int) pe_int))
    (pss_cons (ps_set (i := 5) sc_law_ways_right.nd rfl (Or.inl rfl) (pe_cmpR op_ge (pe_callB (call_min2 rfl) (by rfl) B.min_ bo_min (pa_cons (pv 4) (pa_cons (pv 6) pa_nil))) pe_int (nomark _)))
    (pss_cons (ps_set (i := 7) sc_law_ways_right.nd rfl (Or.inl rfl) (pe_callD D_law_after (hr.mono (by decide)) (by rfl) pass0 (pa_cons (pv 0) (pa_cons (pv 2) (pa_cons (pe_callB (call_max2 rfl) (by rfl) B.max_ bo_max (pa_cons (pv 4) (pa_cons pe_int pa_nil))) pa_nil)))))
    (pss_cons (ps_set (i := 5) sc_law_ways_right.nd rfl (Or.inl rfl) (pe_and (pv 5) (pe_one (pe_cmpR op_eq (pv 7) (pe_callD D_law_after (hr.mono (by decide)) (by rfl) pass0 (pa_cons (pv 0) (pa_cons (pv 3) (pa_cons (pe_callB (call_max2 rfl) (by rfl) B.max_ bo_max (pa_cons (pv 6) (pa_cons pe_int pa_nil))) pa_nil)))) (nomark _)))))
    (pss_cons (ps_set (i := 8) sc_law_ways_right.nd rfl (Or.inl rfl) (pe_makeD I_Met (hr.mono (by decide)) (by rfl) pass0 (pa_cons (pv 4) (pa_cons (pv 6) pa_nil))))
    (pss_cons (ps_if (pt_cmpR (op_neK (K := K) rfl hr.units) (pe_tup (pa_cons (pe_fldK (K := K) rfl (pv 8) rfl) (pa_cons (pe_fldK (K := K) rfl (pv 8) rfl) pa_nil))) (pe_tup (pa_cons (pv 4) (pa_cons (pv 6) pa_nil))) (nomark _))
    (pss_one (ps_ret pe_bl))
    pss_nil)
    (pss_one (ps_if (pt_not (pt_val (pe_callD D_law_says (hr.mono (by decide)) (by rfl) pass0 (pa_cons (pe_methD C.Met.cl M_Met_shows (hr.mono (by decide)) pass0 (pv 8) (pa_cons (pv 0) (pa_cons (pv 2) (pa_cons (pv 3) pa_nil)))) (pa_cons (pv 5) pa_nil)))))
    (pss_one (ps_ret pe_bl))
    pss_nil)))))))))))
    (pss_cons (ps_set (i := 9) sc_law_ways_right.nd rfl (Or.inl rfl) (pe_lst (pa_cons (pe_callD D_reached (hr.mono (by decide)) (by rfl) pass0 (pa_cons (pv 0) (pa_cons (pv 2) (pa_cons (pv 3) pa_nil)))) (pa_cons (pe_callD D_comes (hr.mono (by decide)) (by rfl) pass0 (pa_cons (pv 0) (pa_cons (pv 2) (pa_cons (pv 3) pa_nil)))) pa_nil))))
    (pss_cons (ps_set (i := 10) sc_law_ways_right.nd rfl (Or.inl rfl) (pe_lst pa_nil))
    (pss_cons (ps_for PassesOwn.never rfl (pi_list (pv 9)) (pg_name (i := 11) sc_law_ways_right.nd rfl (Or.inl rfl))
    (pss_one (ps_if (PW.pt (pw_or (pt_val (pe_callB (call_isiK' (K := K) rfl) (by rfl) B.isinstance_ bo_isinstance (pa_cons (pv 11) (pa_cons (pe_glob (v := .ref c.Shut) (by rfl) C.Shut.g rfl) pa_nil)))) (pw_or1 (pt_val (pe_callB (call_isiK' (K := K) rfl) (by rfl) B.isinstance_ bo_isinstance (pa_cons (pv 11) (pa_cons (pe_glob (v := .ref c.Apart) (by rfl) C.Apart.g rfl) pa_nil)))))))
    (pss_one (ps_expr (pe_bm PySem.F.plainAttrs_list PySem.F.slot_list_append PySem.F.type_list_append mt_append (pv 10) (pa_cons (pe_fldK (K := K) rfl (pv 11) rfl) pa_nil))))
    pss_nil)))
    (pss_cons (ps_setLc (i := 12) (own := [("_law_place", 18)]) (g := gName 18) (tt := tYes) rfl sc_law_ways_right.nd rfl rfl (sw_true rfl rfl rfl (by decide +kernel)) (pi_range1 (by rfl) B.range_ (pa_cons (pe_callB (call_lenK (K := K) rfl) (by rfl) B.len_ bo_len (pa_cons (pv 0) pa_nil)) pa_nil)) (blkOk_by (N := N_law_ways_right) (sc := defScope s_law_ways_right) (by decide +kernel)) (fun _ _ _ _ _ => (pg_name (i := 18) sc_law_ways_right.nd rfl (Or.inl rfl))) (fun _ _ _ _ _ => pts_nil) (fun _ _ _ _ _ => (pv 18)))
    (pss_cons (ps_for PassesOwn.never rfl (pi_list (pe_op op_cat (pv 10) (pe_lst (pa_cons (pv 12) (pa_cons (pe_lst (pa_cons (pv 2) pa_nil)) (pa_cons (pe_lst pa_nil) pa_nil)))))) (pg_name (i := 13) sc_law_ways_right.nd rfl (Or.inl rfl))
    (pss_cons (ps_set (i := 6) sc_law_ways_right.nd rfl (Or.inl rfl) (pe_op op_sub (pe_op op_modN (pe_op op_fdivN (pv 1) pe_int) (pe_op op_add (pe_callB (call_lenK (K := K) rfl) (by rfl) B.len_ bo_len (pa_cons (pv 0) pa_nil)) pe_int)) pe_int))
    (pss_cons (ps_set (i := 14) sc_law_ways_right.nd rfl (Or.inl rfl) (pe_callD D_law_bent (hr.mono (by decide)) (by rfl) pass0 (pa_cons (pv 13) (pa_cons (pe_op op_fdivN (pv 1) pe_int) (pa_cons (pv 6) pa_nil)))))
    (pss_cons (ps_set (i := 15) sc_law_ways_right.nd rfl (Or.inl rfl) (pe_callTy (call_listK (K := K) rfl) (by rfl) B.list_ bo_list (pa_cons (pv 14) pa_nil)))
    (pss_cons (ps_set (i := 16) sc_law_ways_right.nd rfl (Or.inl rfl) (pe_makeD I_Shut (hr.mono (by decide)) (by rfl) pass0 (pa_cons (pv 15) pa_nil)))
    (pss_cons (ps_set (i := 17) sc_law_ways_right.nd rfl (Or.inl rfl) (pe_makeD I_Apart (hr.mono (by decide)) (by rfl) pass0 (pa_cons (pv 15) pa_nil)))
    (pss_cons (ps_expr (pe_bm PySem.F.plainAttrs_list PySem.F.slot_list_append PySem.F.type_list_append mt_append (pv 15) (pa_cons pe_int pa_nil)))
    (pss_cons (ps_if (PW.pt (pw_or (pt_cmpR (op_neK (K := K) rfl hr.units) (pe_fldK (K := K) rfl (pv 16) rfl) (pv 14) (nomark _)) (pw_or1 (pt_cmpR (op_neK (K := K) rfl hr.units) (pe_fldK (K := K) rfl (pv 17) rfl) (pv 14) (nomark _)))))
    (pss_one (ps_ret pe_bl))
    pss_nil)
    (pss_cons (ps_if (pt_not (pt_val (pe_callD D_law_says (hr.mono (by decide)) (by rfl) pass0 (pa_cons (pe_methD C.Shut.cl M_Shut_shows (hr.mono (by decide)) pass0 (pv 16) (pa_cons (pv 0) (pa_cons (pv 2) (pa_cons (pv 3) pa_nil)))) (pa_cons (pe_callD D_law_shut (hr.mono (by decide)) (by rfl) pass0 (pa_cons (pv 0) (pa_cons (pv 2) (pa_cons (pv 3) (pa_cons (pv 14) pa_nil))))) pa_nil)))))
    (pss_one (ps_ret pe_bl))
    pss_nil)
    (pss_one (ps_if (pt_not (pt_val (pe_callD D_law_says (hr.mono (by decide)) (by rfl) pass0 (pa_cons (pe_methD C.Apart.cl M_Apart_shows (hr.mono (by decide)) pass0 (pv 17) (pa_cons (pv 0) (pa_cons (pv 2) (pa_cons (pv 3) pa_nil)))) (pa_cons (pe_callD D_law_apart (hr.mono (by decide)) (by rfl) pass0 (pa_cons (pv 0) (pa_cons (pv 2) (pa_cons (pv 3) (pa_cons (pv 14) pa_nil))))) pa_nil)))))
    (pss_one (ps_ret pe_bl))
    pss_nil)))))))))))
    (pss_one (ps_ret pe_bl)))))))))), ?_⟩
    have h63 := hL.2.2
    obtain ⟨o, ho, hol⟩ := fmod_lt (z.fdiv 3) hpos
    obtain ⟨t, ht, htl⟩ := fmod_lt (z.fdiv 7) hpos
    refine q_asg (ev_op (ev_op (ev_var rfl) ev_c (rv_I ⟨by decide, by decide⟩)) (ev_lenNl (ev_var rfl) hL.sq) (rv_IW (w := .int (o : Int)) (by omega) (by rw [ho]))) fun H1 e1 => ?_
    refine q_asg (ev_op (ev_op (ev_var rfl) ev_c (rv_I ⟨by decide, by decide⟩)) (ev_lenNl (ev_var rfl) (hL.ex e1).sq) (rv_IW (w := .int (t : Int)) (by omega) (by rw [ht]))) fun H2 e2 => ?_
    have hL2 := hL.ex (e1.trans e2)
    refine q_forNLn (xs := il [z.fmod 9 - 1, 3 * (L.length : Int) + 10 ^ 9]) (el_lst (ea2 (ev_op (ev_op (ev_var rfl) ev_c (rv_I (by decide))) ev_c rv_I0) (ev_op (ev_op ev_c (ev_lenNl (ev_var rfl) hL2.sq) (rv_I (.inl ⟨by decide, by decide⟩))) (ev_op ev_c ev_c (rv_I ⟨by decide, by decide, by decide⟩)) rv_I0)) (by show 2 ≤ 100000; decide)) (fun p i σ' H' => ∃ (G : Hp) (y4 y5 y6 y7 y8 : Option V), σ' = [some (.ref a), some (.int z), some (.int (o : Int)), some (.int (t : Int)), y4, y5, y6, y7, y8, none, none, none, none, none, none, none, none, none, none] ∧ Ex H2 G ∧ G p = some (.lst (il [z.fmod 9 - 1, 3 * (L.length : Int) + 10 ^ 9])) ∧ Ex G H')
      (fun p H3 n3 e3 h3 => ⟨H3, _, _, _, _, _, rfl, e3, h3, Ex.refl _⟩) (fun p i σ' H' _ ⟨G, _, _, _, _, _, _, _, h3, e3⟩ => sq_of (e3 _ _ h3)) (fun p i x σ' H' hx hP => ?_) (fun p σ' H' hP => ?_)
    · obtain ⟨G, y4, y5, y6, y7, y8, rfl, eG, hG, eH⟩ := hP
      obtain ⟨m, _, rfl, _⟩ := il_inv hx
      have hLH := hL2.ex (eG.trans eH)
      refine q_asg (ev_andV (ev_op (ev_var rfl) ev_c rv_I0) fun _ => ev_op (ev_callV (ea3 (ev_var rfl) (ev_var rfl) (ev_is (ev_max2' (ev_var rfl) ev_c) (congrArg V.int (max0 m)))) (sv_lafter hLH hol)) (ev_var rfl) (rv_eqB (b := decide (it L m.toNat o = t)) (decide_eq_decide.mpr ⟨fun h => by omega, fun h => by omega⟩))) fun H3 e3 => ?_
      have hL3 := hLH.ex e3
      refine q_skip (et_orF (et_test (ev_op (ev_fldI C.Steps.cl C.na_Steps_many (ei_mk1 (ev_var rfl)) look1) (ev_var rfl) (rv_neB (by rw [decide_eq_true rfl]; rfl)))) (et_notT (et_B (ev_callV (ea2 (ev_methI (ei_mk1 (ev_var rfl)) rfl (ea3 (ev_var rfl) (ev_var rfl) (ev_var rfl)) fun x dx H4 e4 hx => sv_Steps_shows hx (hL3.ex e4) hol rfl) (ev_var rfl)) (sv_lsays rfl))))) fun H4 e4 => ?_
      have hL4 := hL3.ex e4
      refine q_asg (ev_op (ev_op (ev_op (ev_var rfl) ev_c (rv_I ⟨by decide, by decide⟩)) ev_c (rv_I (by decide))) ev_c rv_I0) fun H5 e5 => ?_
      generalize (z.fdiv 9).fmod 8 - 1 = mo
      have hL5 := hL4.ex e5
      refine q_asg (ev_op (ev_min2 (ev_var rfl) (ev_var rfl)) ev_c rv_I0) fun H6 e6 => ?_
      have hL6 := hL5.ex e6
      refine q_asg (ev_callV (ea3 (ev_var rfl) (ev_var rfl) (ev_is (ev_max2' (ev_var rfl) ev_c) (congrArg V.int (max0 m)))) (sv_lafter hL6 hol)) fun H7 e7 => ?_
      have hL7 := hL6.ex e7
      refine q_asg (ev_andV (ev_var rfl) fun _ => ev_op (ev_var rfl) (ev_callV (ea3 (ev_var rfl) (ev_var rfl) (ev_is (ev_max2' (ev_var rfl) ev_c) (congrArg V.int (max0 mo)))) (sv_lafter hL7 htl)) (rv_eqB (b := decide (it L m.toNat o = it L mo.toNat t)) (decide_eq_decide.mpr ⟨fun h => by omega, fun h => by omega⟩))) fun H8 e8 => ?_
      refine q_asgI (ei_mkM (ev_var rfl) (ev_var rfl)) fun x dx H9 nx e9 hx => ?_
      refine q_skip (et_test (ev_opUU (xs := il [m, mo]) (ys := il [m, mo]) (eu_tup (ea2 (ev_fld C.Met.cl C.na_Met_mine (ev_var rfl) hx lookA) (ev_fld C.Met.cl C.na_Met_theirs (ev_var rfl) hx (met_look _ _))) (by show 2 ≤ 100000; decide)) (eu_tup (ea2 (ev_var rfl) (ev_var rfl)) (by show 2 ≤ 100000; decide)) fun p q H10 h1 h2 _ => rv_neTT (st_of h1) (st_of h2) rfl)) fun H10 e10 => ?_
      have e710 := (e8.trans e9).trans e10
      have hx10 := e10 _ _ hx
      refine s_skip (et_notT (et_B (ev_callV (ea2 (ev_meth (ev_var rfl) hx10 rfl (ea3 (ev_var rfl) (ev_var rfl) (ev_var rfl)) (sv_Met_shows hx10 (hL7.ex e710) hol htl rfl)) (ev_var rfl)) (sv_lsays (by
        congr 1
        rw [← Bool.decide_and]
        refine decide_eq_decide.mpr ⟨fun h => ?_, fun h => ?_⟩
        · split <;> omega
        · revert h
          split <;> omega))))) fun H11 e11 => ?_
      exact ⟨G, _, _, _, _, _, rfl, eG, hG, (((((eH.trans e3).trans e4).trans e5).trans e6).trans e7).trans (e710.trans e11)⟩
    · obtain ⟨G, y4, y5, y6, y7, y8, rfl, eG, hG, eH⟩ := hP
      have hL3 := hL2.ex (eG.trans eH)
      have e2H := eG.trans eH
      refine q_twoAns (mg := mg) (c := c) (fun H3 e3 R k' => (ea3 (ev_var rfl) (ev_var rfl) (ev_var rfl)) H3 e3 _ fun H4 e4 => ⟨a, L, o, t, rfl, (hL3.ex e3).ex e4, hol, htl, fun x dx kk H5 nx e5 hx _ => k' x H5 (e4.trans e5) ⟨_, c.Steps, dx, _, hx, C.Steps, _, _, C.k_Steps_Shut, C.k_Steps_Apart, fun hb => nomatch hb⟩,
          fun x dx l ps H5 nx nl' e5 hx hl hz _ _ _ => k' x H5 (e4.trans e5) ⟨_, c.Shut, dx, _, hx, C.Shut, _, _, C.k_Shut_Shut, C.k_Shut_Apart, fun _ => ⟨C.na_Shut_places, l, ps, look1, hl, hz⟩⟩⟩)
        (fun H3 e3 R k' => (ea3 (ev_var rfl) (ev_var rfl) (ev_var rfl)) H3 e3 _ fun H4 e4 => ⟨a, L, o, t, rfl, (hL3.ex e3).ex e4, hol, htl, fun x dx i j H5 nx e5 hx _ => k' x H5 (e4.trans e5) ⟨_, c.Met, dx, _, hx, C.Met, _, _, C.k_Met_Shut, C.k_Met_Apart, fun hb => nomatch hb⟩,
          fun x dx l ps H5 nx nl' e5 hx hl hz _ _ => k' x H5 (e4.trans e5) ⟨_, c.Apart, dx, _, hx, C.Apart, _, _, C.k_Apart_Shut, C.k_Apart_Apart, fun _ => ⟨C.na_Apart_places, l, ps, look1, hl, by omega⟩⟩⟩) fun x1 x2 tl H5 e5 a1 a2 htl2 => ?_
      have hL5 := hL3.ex e5
      refine q_asgL (el_lst ea_nil (Nat.zero_le _)) fun lp H6 nlp e6 hlp => ?_
      refine q_forLn (ev_var rfl) (sq_of (e6 _ _ htl2)) (fun i σ' H' => ∃ (rl : List Addr) (Ps : List (List Nat)) (y11 : Option V), σ' = [some (.ref a), some (.int z), some (.int (o : Int)), some (.int (t : Int)), y4, y5, y6, y7, y8, some (.ref tl), some (.ref lp), y11, none, none, none, none, none, none, none] ∧ Ex H5 H' ∧ H' lp = some (.lst (rl.map V.ref)) ∧ AllAt H5 rl Ps ∧ rl.length ≤ i ∧ ∀ P ∈ Ps, P.length ≤ 64)
        (fun H7 e7 => ⟨[], [], _, rfl, e6.trans e7, e7 _ _ hlp, .nil, Nat.le_refl 0, fun P hP => (nomatch hP)⟩) (fun i σ' H' _ ⟨_, _, _, _, e, _⟩ => sq_of (e _ _ htl2)) (fun i x σ' H' hx hP => ?_) (fun σ' H' hP => ?_)
      · obtain ⟨rl, Ps, y11, rfl, eH7, hlp7, hel, hrl, hPs⟩ := hP
        have hxa : ∃ x0, x = .ref x0 ∧ Ans (K := K) (mg := mg) c H5 x0 := by
          rcases List.mem_cons.mp (List.mem_of_getElem? hx) with rfl | hm
          · exact ⟨x1, rfl, a1⟩
          · rw [List.mem_singleton.mp hm]
            exact ⟨x2, rfl, a2⟩
        have hi : i < 2 := (List.getElem?_eq_some_iff.mp hx).1
        obtain ⟨x0, rfl, nm, Cc, dx, fs, hx0, hck, b1, b2, hb1, hb2, hplaces⟩ := hxa
        have hx7 := eH7 _ _ hx0
        refine s_when (et_or (et_B (ev_isiC hck (ev_var rfl) hx7 hb1)) fun _ => et_B (ev_isiC hck (ev_var rfl) hx7 hb2)) (fun hb H8 e8 => ?_) (fun hb H8 e8 => ?_)
        · obtain ⟨hna, l, ps, hlk, hl, hz⟩ := hplaces hb
          refine s_app (e8 _ _ hlp7) (ev_var rfl) (ev_fld hck.cl hna (ev_var rfl) (e8 _ _ hx7) hlk) (by rw [List.length_map]; omega) fun H9 e9 => ?_
          refine ⟨rl ++ [l], Ps ++ [ps], _, rfl, Ex.mut ((eH7.trans e8).trans e9) nlp, by rw [upd_same, List.map_append]; rfl, Paired.snoc hel hl, by rw [List.length_append, List.length_singleton]; omega, fun P hP => ?_⟩
          rcases List.mem_append.mp hP with hP | hP
          · exact hPs P hP
          · rw [List.mem_singleton.mp hP]
            exact hz
        · exact ⟨rl, Ps, _, rfl, eH7.trans e8, e8 _ _ hlp7, hel, by omega, hPs⟩
      · obtain ⟨rl, Ps, y11, rfl, eH7, hlp7, hel, hrl, hPs⟩ := hP
        refine q_asgL (el_mapR (fun i => V.int (i : Int)) (ea1 (ev_lenNl (ev_var rfl) (hL5.ex eH7).sq)) (by omega) fun i H8 e8 hi => ev_var rfl) fun wp H8 nw e8 hw => ?_
        have hw : H8 wp = some (.lst (nl (List.range L.length))) := hw
        have hL8 := (hL5.ex eH7).ex e8
        refine q_forRL (K := K) (Ls := Ps ++ [List.range L.length, [o], []]) (erl_cat3 (ev_var rfl) (ev_var rfl) (el_lst (ea1 (ev_var rfl)) (by show 1 ≤ 100000; decide)) (el_lst ea_nil (Nat.zero_le _)) (e8 _ _ hlp7) (hel.ex (eH7.trans e8)) hw (by show rl.length ≤ 1000; have : rl.length ≤ 2 := hrl; omega)) (fun G i σ' H' => ∃ (y6 y13 y14 y15 y16 y17 : Option V), σ' = [some (.ref a), some (.int z), some (.int (o : Int)), some (.int (t : Int)), y4, y5, y6, y7, y8, some (.ref tl), some (.ref lp), y11, some (.ref wp), y13, y14, y15, y16, y17, none] ∧ Ex G H')
          (fun G i σ' H' ⟨_, _, _, _, _, _, _, e⟩ => e) (fun G eG2 => ⟨_, _, _, _, _, _, rfl, Ex.refl G⟩) (fun G2 i r P σ' H' eG2 hP hr2 hPv => ?_) (fun G2 σ' H' eG2 hPv => ?_)
        · obtain ⟨y6', y13, y14, y15, y16, y17, rfl, e9⟩ := hPv
          have hPl : P.length ≤ 64 := by
            rcases List.mem_append.mp (List.mem_of_getElem? hP) with h | h
            · exact hPs P h
            · rcases List.mem_cons.mp h with rfl | h
              · rw [List.length_range]
                omega
              · rcases List.mem_cons.mp h with rfl | h
                · show 1 ≤ 64
                  omega
                · rw [List.mem_singleton.mp h]
                  exact Nat.zero_le _
          have hL9 := hL8.ex (eG2.trans e9)
          refine q_asg (ev_op (ev_op (ev_op (ev_var rfl) ev_c (rv_I ⟨by decide, by decide⟩)) (ev_op (ev_lenNl (ev_var rfl) hL9.sq) ev_c rv_I0) (rv_I (by omega))) ev_c rv_I0) fun H10 e10 => ?_
          generalize (z.fdiv 29).fmod ((L.length : Int) + 2) - 1 = mo
          have hr3 : H10 r = some (.lst (il (P.map fun (x : Nat) => (x : Int)))) := by
            rw [← nl_il]
            exact e10 _ _ hr2
          refine q_asgL (el_callL (ea3 (ev_var rfl) (ev_op (ev_var rfl) ev_c (rv_I ⟨by decide, by decide⟩)) (ev_var rfl)) (sl_lbent hr3 (by rw [List.length_map]; omega))) fun sp H11 nsp e11 hsp => ?_
          have hbl := bentG_len (P.map fun (x : Nat) => (x : Int)) (z.fdiv 13) mo
          rw [List.length_map] at hbl
          generalize bentG (P.map fun (x : Nat) => (x : Int)) (z.fdiv 13) mo = ns at hsp hbl
          refine q_asgL (el_listOf (ev_var rfl) (sq_of hsp)) fun hp H12 nhp e12 hhp => ?_
          refine q_asgR (K := K) (ev_var rfl) (sq_of hhp) fun xs dxs ls H13 nxs nls e13 hxs hls => ?_
          refine q_asgR (K := K) (ev_var rfl) (sq_of (e13 _ _ hhp)) fun xa dxa la H14 nxa nla e14 hxa hla => ?_
          have e1014 := ((e10.trans e11).trans (e12.trans e13)).trans e14
          have hhp14 := e14 _ _ (e13 _ _ hhp)
          have hsp14 := e14 _ _ (e13 _ _ (e12 _ _ hsp))
          have nhp0 : G2 hp = none := fresh_back ((e9.trans e10).trans e11) nhp
          have hne1 : hp ≠ sp := (ne_of_none hsp nhp).symm
          have hne2 : hp ≠ ls := ne_of_none hhp nls
          have hne3 : hp ≠ la := ne_of_none (e13 _ _ hhp) nla
          have hne4 : hp ≠ xs := ne_of_none hhp nxs
          have hne5 : hp ≠ xa := ne_of_none (e13 _ _ hhp) nxa
          refine q_app hhp14 (ev_var rfl) ev_c (by rw [il_len]; omega) fun H15 e15 => ?_
          have e14u : ∀ {b : Addr} {o' : HO}, b ≠ hp → H14 b = some o' → L2.upd H15 hp (.lst (il ns ++ [V.int 0])) b = some o' := fun hb h => by
            rw [upd_ne hb]
            exact e15 _ _ h
          have hxs15 := e14u hne4.symm (e14 _ _ hxs)
          have hls15 := e14u hne2.symm (e14 _ _ hls)
          have hxa15 := e14u hne5.symm hxa
          have hla15 := e14u hne3.symm hla
          have hsp15 := e14u hne1.symm hsp14
          have eG15 : Ex G2 (L2.upd H15 hp (.lst (il ns ++ [V.int 0]))) := Ex.mut ((e9.trans e1014).trans e15) nhp0
          generalize L2.upd H15 hp (.lst (il ns ++ [V.int 0])) = H16 at hxs15 hls15 hxa15 hla15 hsp15 eG15
          have hL16 := hL8.ex (eG2.trans eG15)
          have hnz : ns.length ≤ 40000 := by omega
          refine q_skip (et_orF (et_test (ev_op (ev_fld C.Shut.cl C.na_Shut_places (ev_var rfl) hxs15 look1) (ev_var rfl) (rv_neI0 (sq_of hls15) (sq_of hsp15)))) (et_test (ev_op (ev_fld C.Apart.cl C.na_Apart_places (ev_var rfl) hxa15 look1) (ev_var rfl) (rv_neI0 (sq_of hla15) (sq_of hsp15))))) fun H17 e17 => ?_
          refine q_skip (et_notT (et_B (ev_callV (ea2 (ev_meth (ev_var rfl) (e17 _ _ hxs15) rfl (ea3 (ev_var rfl) (ev_var rfl) (ev_var rfl)) (sv_Shut_shows (e17 _ _ hxs15) (sq_of (e17 _ _ hls15)) hnz (hL16.ex e17) rfl)) (ev_callV (ea_cons (ev_var rfl) (ea3 (ev_var rfl) (ev_var rfl) (ev_var rfl))) (sv_lshut (hL16.ex e17) (sq_of (e17 _ _ hsp15)) hnz))) (sv_lsays rfl)))) fun H18 e18 => ?_
          have e1718 := e17.trans e18
          exact s_skip (et_notT (et_B (ev_callV (ea2 (ev_meth (ev_var rfl) (e1718 _ _ hxa15) rfl (ea3 (ev_var rfl) (ev_var rfl) (ev_var rfl)) (sv_Apart_shows (e1718 _ _ hxa15) (sq_of (e1718 _ _ hla15)) hnz (hL16.ex e1718) rfl)) (ev_callV (ea_cons (ev_var rfl) (ea3 (ev_var rfl) (ev_var rfl) (ev_var rfl))) (sv_lapart (hL16.ex e1718) (sq_of (e1718 _ _ hsp15)) hnz))) (sv_lsays rfl)))) fun H19 e19 => ⟨_, _, _, _, _, _, rfl, (eG15.trans e1718).trans e19⟩
        · obtain ⟨y6', y13, y14, y15, y16, y17, rfl, e9⟩ := hPv
          exact s_ret ev_c fun H10 e10 => k H10 (((e1.trans e2).trans e2H).trans (((e5.trans eH7).trans e8).trans ((eG2.trans e9).trans e10)))

abbrev s_law_roots_right : Stmt := topS 42
abbrev N_law_roots_right : List Str := ["_law_leading_here", "_law_cell", "_law_told", "_law_some", "_law_handed", "_law_answer", "_law_due", "_law_length", "_law_alike", "_law_made", "_law_ring", "_law_kept", "_law_odd", "_law_place"]
theorem sc_law_roots_right : FnScope N_law_roots_right ["_law_leading_here", "_law_cell"] (defScope s_law_roots_right) := ⟨rfl, rfl, rfl, by decide +kernel, rfl, by decide +kernel, by decide +kernel⟩
def spLRoots : Sp := fun vs H Q _ => ∃ (a : Addr) (L : List Nat) (z : Int), vs = [.ref a, .int z] ∧ IsLd H a L ∧ L.Nodup ∧ RetV (.bl true) H Q
theorem ok_law_roots_right {f : Addr} {fd : FuncData} (F : Fun K "_law_roots_right" "_law_roots_right" s_law_roots_right f fd) (B : Bl mg) (C : Cl K mg c) (D_law_says : Dk P w K mg base CX0 1 "_law_says" ["_law_said", "_law_due"] spLSays) (D_law_bent : Dk P w K mg base CX0 1 "_law_bent" ["_law_some", "_law_cell", "_law_more"] (spLBent K))
    (D_law_rings : Dk P w K mg base CX0 1 "_law_rings" ["_law_leading_here", "_law_length"] spLRingsL) (D_root : Dk P w K mg base CX0 4 "root" ["leading"] (spRoot c)) (I_Odd : Cn P w K mg base CX0 1 "Odd" c.Odd ["self", "length", "rings"] (spInitO K c.Odd)) (I_Root : Cn P w K mg base CX0 1 "Root" c.Root ["self", "leading"] (spInitL K c.Root "leading"))
    (M_Root_shows : Mt P w K mg base CX0 2 c.Root "shows" ["self", "leading"] (spRootShows K c.Root)) (M_Odd_shows : Mt P w K mg base CX0 1 c.Odd "shows" ["self", "leading"] (spOddShows K c.Odd)) : FnOk P w K mg base CX0 5 f fd ["_law_leading_here", "_law_cell"] spLRoots := by
  refine F.ok sc_law_roots_right (fun vs H Q E h => ?_) (fun cdv A outer s H vs Q E hr h => ?_)
  · obtain ⟨a, L, z, rfl, _⟩ := h
    rfl
  · obtain ⟨a, L, z, rfl, hL, hND, k⟩ := h
    refine ⟨_, (pss_cons (ps_set (i := 2) sc_law_roots_right.nd rfl (Or.inl rfl) (pe_callD D_root (hr.mono (by decide)) (by rfl) pass0 (pa_cons (pv 0) pa_nil)))
    (pss_cons (ps_set (i := 3) sc_law_roots_right.nd rfl (Or.inr rfl) (pe_ifExp (pt_val (pe_callB (call_isiK' (K := K) rfl) (by rfl) B.isinstance_ bo_isinstance (pa_cons (pv 2) (pa_cons (pe_glob (v := .ref c.Root) (by rfl) C.Root.g rfl) pa_nil)))) (pe_callTy (call_listK (K := K) rfl) (by rfl) B.list_ bo_list (pa_cons (pe_fldK (K := K) rfl (pv 2) rfl) pa_nil)) (pe_callTy (call_listK (K := K) rfl) (by rfl) B.list_ bo_list (pa_cons (pv 0) pa_nil))))
    (pss_cons (ps_set (i := 3) sc_law_roots_right.nd rfl (Or.inr rfl) (pe_callD D_law_bent (hr.mono (by decide)) (by rfl) pass0 (pa_cons (pv 3) (pa_cons (pe_op op_fdivN (pv 1) pe_int) (pa_cons (pe_op op_sub (pe_op op_modN (pe_op op_fdivN (pv 1) pe_int) (pe_op op_add (pe_callB (call_lenK (K := K) rfl) (by rfl) B.len_ bo_len (pa_cons (pv 0) pa_nil)) pe_int)) pe_int) pa_nil)))))
    (pss_cons (ps_set (i := 4) sc_law_roots_right.nd rfl (Or.inl rfl) (pe_callTy (call_listK (K := K) rfl) (by rfl) B.list_ bo_list (pa_cons (pv 3) pa_nil)))
    (pss_cons (ps_set (i := 5) sc_law_roots_right.nd rfl (Or.inl rfl) (pe_makeD I_Root (hr.mono (by decide)) (by rfl) pass0 (pa_cons (pv 4) pa_nil)))
    (pss_cons (ps_expr (pe_bm PySem.F.plainAttrs_list PySem.F.slot_list_append PySem.F.type_list_append mt_append (pv 4) (pa_cons pe_int pa_nil)))
    (pss_cons (ps_set (i := 6) sc_law_roots_right.nd rfl (Or.inl rfl) (pe_and (pe_cmpR op_eq (pe_callB (call_lenK (K := K) rfl) (by rfl) B.len_ bo_len (pa_cons (pv 3) pa_nil)) (pe_callB (call_lenK (K := K) rfl) (by rfl) B.len_ bo_len (pa_cons (pv 0) pa_nil)) (nomark _)) (pe_one (pe_callB (cr_allK (K := K) rfl rfl) (by rfl) B.all_ bo_all (pa_cons (pe_lc (own := [("_law_place", 13)]) (g := gName 13) (tt := tYes) rfl sc_law_roots_right.nd (pi_list (pv 3)) (blkOk_by (N := N_law_roots_right) (sc := defScope s_law_roots_right) (by decide +kernel)) (fun _ _ _ _ _ => (pg_name (i := 13) sc_law_roots_right.nd rfl (Or.inl rfl))) (fun _ _ _ _ _ => pts_nil) (fun _ _ _ _ _ => (pe_chain op_le op_lt pe_int (pv 13) (pe_callB (call_lenK (K := K) rfl) (by rfl) B.len_ bo_len (pa_cons (pv 0) pa_nil))))) pa_nil)))))
    (pss_cons (ps_set (i := 6) sc_law_roots_right.nd rfl (Or.inl rfl) (pe_and (pv 6) (pe_one (pe_cmpR (op_eqK (K := K) rfl hr.units) (pe_lc (own := [("_law_place", 13)]) (g := gName 13) (tt := tYes) rfl sc_law_roots_right.nd (pi_list (pv 3)) (blkOk_by (N := N_law_roots_right) (sc := defScope s_law_roots_right) (by decide +kernel)) (fun _ _ _ _ _ => (pg_name (i := 13) sc_law_roots_right.nd rfl (Or.inl rfl))) (fun _ _ _ _ _ => pts_nil) (fun _ _ _ _ _ => (pe_ix (ix_listK (K := K) rfl) (pv 3) (pv 13) (fun _ _ => rfl)))) (pv 0) (nomark _)))))
    (pss_cons (ps_if (PW.pt (pw_or (pt_cmpR (op_neK (K := K) rfl hr.units) (pe_fldK (K := K) rfl (pv 5) rfl) (pv 3) (nomark _)) (pw_or1 (pt_not (pt_val (pe_callD D_law_says (hr.mono (by decide)) (by rfl) pass0 (pa_cons (pe_methD C.Root.cl M_Root_shows (hr.mono (by decide)) pass0 (pv 5) (pa_cons (pv 0) pa_nil)) (pa_cons (pv 6) pa_nil))))))))
    (pss_one (ps_ret pe_bl))
    pss_nil)
    (pss_cons (ps_set (i := 7) sc_law_roots_right.nd rfl (Or.inl rfl) (pe_op op_sub (pe_op op_modN (pv 1) pe_int) pe_int))
    (pss_cons (ps_set (i := 8) sc_law_roots_right.nd rfl (Or.inl rfl) (pe_callD D_law_rings (hr.mono (by decide)) (by rfl) pass0 (pa_cons (pv 0) (pa_cons (pe_callB (call_max2 rfl) (by rfl) B.max_ bo_max (pa_cons (pv 7) (pa_cons pe_int pa_nil))) pa_nil))))
    (pss_cons (ps_set (i := 9) sc_law_roots_right.nd rfl (Or.inl rfl) (pe_callD D_law_bent (hr.mono (by decide)) (by rfl) pass0 (pa_cons (pv 8) (pa_cons (pe_op op_fdivN (pv 1) pe_int) (pa_cons (pe_lst (pa_cons pe_int pa_nil)) pa_nil)))))
    (pss_cons (ps_setLc (i := 11) (own := [("_law_ring", 10)]) (g := gName 10) (tt := tYes) rfl sc_law_roots_right.nd rfl rfl (sw_true rfl rfl rfl (by decide +kernel)) (pi_list (pv 9)) (blkOk_by (N := N_law_roots_right) (sc := defScope s_law_roots_right) (by decide +kernel)) (fun _ _ _ _ _ => (pg_name (i := 10) sc_law_roots_right.nd rfl (Or.inl rfl))) (fun _ _ _ _ _ => pts_nil) (fun _ _ _ _ _ => (pe_callTy (call_listK (K := K) rfl) (by rfl) B.list_ bo_list (pa_cons (pv 10) pa_nil))))
    (pss_cons (ps_set (i := 12) sc_law_roots_right.nd rfl (Or.inl rfl) (pe_makeD I_Odd (hr.mono (by decide)) (by rfl) pass0 (pa_cons (pv 7) (pa_cons (pv 11) pa_nil))))
    (pss_cons (ps_for PassesOwn.never rfl (pi_list (pv 11)) (pg_name (i := 10) sc_law_roots_right.nd rfl (Or.inl rfl))
    (pss_one (ps_expr (pe_bm PySem.F.plainAttrs_list PySem.F.slot_list_append PySem.F.type_list_append mt_append (pv 10) (pa_cons pe_int pa_nil)))))
    (pss_cons (ps_expr (pe_bm PySem.F.plainAttrs_list PySem.F.slot_list_append PySem.F.type_list_append mt_append (pv 11) (pa_cons (pe_lst pa_nil) pa_nil)))
    (pss_cons (ps_set (i := 6) sc_law_roots_right.nd rfl (Or.inl rfl) (pe_and (pe_cmpR op_gt (pv 7) pe_int (nomark _)) (pe_and (pe_cmpR op_eq (pe_op op_modN (pv 7) pe_int) pe_int (nomark _)) (pe_and (pe_cmpR op_eq (pe_op op_modN (pe_callB (call_lenK (K := K) rfl) (by rfl) B.len_ bo_len (pa_cons (pv 9) pa_nil)) pe_int) pe_int (nomark _)) (pe_one (pe_cmpR (op_eqK (K := K) rfl hr.units) (pv 9) (pv 8) (nomark _)))))))
    (pss_one (ps_ret (pe_and (pe_cmpR op_eq (pe_fldK (K := K) rfl (pv 12) rfl) (pv 7) (nomark _)) (pe_and (pe_cmpR (op_eqK (K := K) rfl hr.units) (pe_fldK (K := K) rfl (pv 12) rfl) (pv 9) (nomark _)) (pe_one (pe_callD D_law_says (hr.mono (by decide)) (by rfl) pass0 (pa_cons (pe_methD C.Odd.cl M_Odd_shows (hr.mono (by decide)) pass0 (pv 12) (pa_cons (pv 0) pa_nil)) (pa_cons (pv 6) pa_nil))))))))))))))))))))))))), ?_⟩
    have h63 := hL.2.2
    refine q_asgP (R := fun x H1 => ∃ nm C' dx fs b, H1 x = some (.ins C' dx fs) ∧ Ck K mg nm C' ∧ PySem.W.kitOne K (.ref C') (.ref c.Root) = some b ∧ (b = true → NoAttr K C' "leading" ∧ ∃ l, ∃ F2 : List Nat, fs.lookup ("leading" : Str) = some (V.ref l) ∧ H1 l = some (.lst (nl F2)) ∧ F2.length = L.length))
      (fun H1 e1 R k' => (ea1 (ev_var rfl)) H1 e1 _ fun H2 e2 => ⟨a, L, rfl, (hL.ex e1).ex e2, hND, fun m x dx l rs H3 _ _ _ nx e3 hN hx => k' x H3 (e2.trans e3) ⟨_, c.Odd, dx, _, _, hx, C.Odd, C.k_Odd_Root, fun hb => nomatch hb⟩,
        fun F2 x dx l H3 _ hF hFl hmap nx nl' e3 hx hl => k' x H3 (e2.trans e3) ⟨_, c.Root, dx, _, _, hx, C.Root, C.k_Root_Root, fun _ => ⟨C.na_Root_leading, l, F2, look1, hl, hFl⟩⟩⟩) fun x H1 e1 hx => ?_
    obtain ⟨nm, C', dx, fs, b, hx, hck, hkit, hlead⟩ := hx
    have hL1 := hL.ex e1
    obtain ⟨F2, hF2, hF3, hFl⟩ : ∃ F2 : List Nat, (b = true → ∃ l, NoAttr K C' "leading" ∧ fs.lookup ("leading" : Str) = some (V.ref l) ∧ H1 l = some (.lst (nl F2))) ∧ (b = false → F2 = L) ∧ F2.length = L.length := by
      cases b with
      | true =>
        obtain ⟨g1, l, F2, g2, g3, g4⟩ := hlead rfl
        exact ⟨F2, fun _ => ⟨l, g1, g2, g3⟩, fun h => (nomatch h), g4⟩
      | false => exact ⟨L, fun h => (nomatch h), fun _ => rfl, rfl⟩
    refine q_asgL (xs := nl F2) (el_if (et_B (ev_isiC hck (ev_var rfl) hx hkit)) (fun hb => by
      obtain ⟨l, g1, g2, g3⟩ := hF2 hb
      exact el_listOf (ev_fld hck.cl g1 (ev_var rfl) hx g2) (sq_of g3)) (fun hb => by
      rw [hF3 hb]
      exact el_listOf (ev_var rfl) hL1.sq)) fun sp0 H2 n2 e2 h2 => ?_
    have hL2 := hL1.ex e2
    rw [nl_il] at h2
    refine q_asgL (el_callL (ea3 (ev_var rfl) (ev_op (ev_var rfl) ev_c (rv_I ⟨by decide, by decide⟩)) (ev_op (ev_op (ev_op (ev_var rfl) ev_c (rv_I ⟨by decide, by decide⟩)) (ev_op (ev_lenNl (ev_var rfl) hL2.sq) ev_c rv_I0) (rv_I (by omega))) ev_c rv_I0)) (sl_lbent h2 (by rw [List.length_map]; omega))) fun sp H3 n3 e3 h3 => ?_
    have hbl := bentG_len (F2.map fun (x : Nat) => (x : Int)) (z.fdiv 5) ((z.fdiv 31).fmod ((L.length : Int) + 2) - 1)
    rw [List.length_map] at hbl
    generalize bentG (F2.map fun (x : Nat) => (x : Int)) (z.fdiv 5) ((z.fdiv 31).fmod ((L.length : Int) + 2) - 1) = ns at h3 hbl
    have hL3 := hL2.ex e3
    refine q_asgL (el_listOf (ev_var rfl) (sq_of h3)) fun hp H4 nhp e4 hhp => ?_
    refine q_asgR (K := K) (ev_var rfl) (sq_of hhp) fun xr dxr lr H5 nxr nlr e5 hxr hlr => ?_
    have hne1 : hp ≠ sp := (ne_of_none h3 nhp).symm
    have hne2 : hp ≠ lr := ne_of_none hhp nlr
    have hne3 : hp ≠ xr := ne_of_none hhp nxr
    refine q_app (e5 _ _ hhp) (ev_var rfl) ev_c (by rw [il_len]; omega) fun H6 e6 => ?_
    have eU : Ex H3 (L2.upd H6 hp (.lst (il ns ++ [V.int 0]))) := Ex.mut ((e4.trans e5).trans e6) nhp
    have hxr6 : L2.upd H6 hp (.lst (il ns ++ [V.int 0])) xr = some (.ins c.Root dxr [("leading", .ref lr)]) := by
      rw [upd_ne hne3.symm]
      exact e6 _ _ hxr
    have hlr6 : L2.upd H6 hp (.lst (il ns ++ [V.int 0])) lr = some (.lst (il ns)) := by
      rw [upd_ne hne2.symm]
      exact e6 _ _ hlr
    have hsp6 := eU _ _ h3
    have hL6 := hL3.ex eU
    have e16 := ((e1.trans e2).trans e3).trans eU
    generalize L2.upd H6 hp (.lst (il ns ++ [V.int 0])) = H7 at hxr6 hlr6 hsp6 hL6 e16
    -- due
    refine q_asg (ev_andV (ev_op (ev_lenIl (ev_var rfl) (sq_of hsp6)) (ev_lenNl (ev_var rfl) hL6.sq) (rv_eqB (b := decide (ns.length = L.length)) (decide_eq_decide.mpr ⟨fun h => by omega, fun h => by omega⟩))) fun _ => ev_allB (el_mapI (fun x => V.bl (decide (0 ≤ x) && decide (x < (L.length : Int)))) (ev_var rfl) (sq_of hsp6) (by omega) fun y H8 e8 hy => ev_chain ev_c (ev_var rfl) (ev_lenNl (ev_var rfl) (hL6.ex e8).sq) rv_I0 rv_I0)) fun H8 e8 => ?_
    refine q_asg (v := .bl (rootB L ns)) (ev_is (ev_andV (ev_var rfl) fun hd => ev_opL1 (xs := il (ns.map fun x => ns.getD x.toNat 0)) (by
      unfold il
      rw [List.map_map]
      refine el_mapI (fun x => V.int (ns.getD x.toNat 0)) (ev_var rfl) (sq_of (e8 _ _ hsp6)) (by omega) fun y H9 e9 hy => ?_
      rw [Bool.and_eq_true, decide_eq_true_eq] at hd
      have hy2 := List.all_eq_true.mp hd.2 y hy
      rw [Bool.and_eq_true, decide_eq_true_eq, decide_eq_true_eq] at hy2
      obtain ⟨u, rfl⟩ := Int.eq_ofNat_of_zero_le hy2.1
      have hul : u < ns.length := by omega
      refine ev_op (ev_var rfl) (ev_var rfl) (rv_ixL (sq_of ((e8.trans e9) _ _ hsp6)) (atI_nat ?_))
      show (il ns)[u]? = some (V.int (ns.getD u 0))
      unfold il
      rw [List.getElem?_map, List.getD_eq_getElem?_getD, List.getElem?_eq_getElem hul]
      rfl) (fun H9 e9 => ev_var rfl) fun p H9 h9 e9 => by
        have hL9 := (hL6.ex (e8.trans e9)).sq (K := K)
        rw [nl_il] at hL9
        exact rv_eqI (sq_of h9) hL9) (by
      unfold rootB
      rw [Bool.and_assoc])) fun H9 e9 => ?_
    have e79 := e8.trans e9
    refine q_skip (et_orF (et_test (ev_op (ev_fld C.Root.cl C.na_Root_leading (ev_var rfl) (e79 _ _ hxr6) look1) (ev_var rfl) (rv_neI0 (sq_of (e79 _ _ hlr6)) (sq_of (e79 _ _ hsp6))))) (et_notT (et_B (ev_callV (ea2 (ev_meth (ev_var rfl) (e79 _ _ hxr6) rfl (ea1 (ev_var rfl)) (sv_Root_shows (e79 _ _ hxr6) (sq_of (e79 _ _ hlr6)) (by omega) (hL6.ex e79) rfl)) (ev_var rfl)) (sv_lsays rfl))))) fun H10 e10 => ?_
    refine q_asg (ev_op (ev_op (ev_var rfl) ev_c (rv_I (by decide))) ev_c rv_I0) fun H11 e11 => ?_
    generalize z.fmod 9 - 1 = m
    have hL11 := ((hL6.ex e79).ex e10).ex e11
    have e111 := ((e16.trans e79).trans e10).trans e11
    refine q_asgLL (Ls := ofLen L (if (1 : Int) > m then 1 else m).toNat) (ell_call (ea2 (ev_var rfl) (ev_max2' (ev_var rfl) ev_c)) fun H12 e12 R hR => ⟨a, _, L, rfl, hL11.ex e12, hND, by split <;> omega, hR⟩) fun ap ars H12 e12 hN12 => ?_
    have hol : (ofLen L (if (1 : Int) > m then 1 else m).toNat).length ≤ 63 := by
      have h1 : (ofLen L (if (1 : Int) > m then 1 else m).toNat).length ≤ (rgs L L.length).length := List.length_filter_le _ _
      have h2 := rgs_len L L.length
      omega
    have hol2 : ∀ l ∈ ofLen L (if (1 : Int) > m then 1 else m).toNat, l.length ≤ 63 := fun l hl => by
      have := (ring_pos hL.2.1 (mem_ofLen.mp hl).1).2
      omega
    have hmax : m > 1 → ofLen L (if (1 : Int) > m then 1 else m).toNat = ofLen L m.toNat := fun h => by rw [if_neg (by omega)]
    generalize ofLen L (if (1 : Int) > m then 1 else m).toNat = Al at hN12 hol hol2 hmax
    refine q_bentLL (K := K) (l := [0]) (ev_var rfl) (ev_op (ev_var rfl) ev_c (rv_I ⟨by decide, by decide⟩)) (el_lst (ea1 ev_c) (by show 1 ≤ 100000; decide)) hN12.top hN12.el (by rw [hN12.el.len]; omega) fun mp ms H13 nmp e13 hmp hms => ?_
    have hMl := bentG_len Al (z.fdiv 7) [0]
    have hMm : ∀ l ∈ bentG Al (z.fdiv 7) [0], l.length ≤ 63 := fun l hl => by
      rcases bentG_mem hl with h | rfl
      · exact hol2 l h
      · show 1 ≤ 63
        omega
    generalize bentG Al (z.fdiv 7) [0] = Mm at hms hMl hMm
    have hmsl := hms.len
    refine q_asgLL (Ls := Mm) (ell_map (ev_var rfl) (sq_of hmp) hmsl (by omega) fun i r l H14 e14 hr hl => by
      obtain ⟨l', g1, g2⟩ := hms.get hr
      rw [hl] at g1
      obtain rfl := Option.some.inj g1
      exact el_listOf (ev_var rfl) (sq_of (e14 _ _ g2))) fun kp krs H14 e14 hN14 => ?_
    refine q_asgO (K := K) (Ls := Mm) (ev_var rfl) (ev_var rfl) hN14.ll (by omega) fun xo dxo ol ors H15 nxo e15 hN15 hxo => ?_
    have hkd := List.nodup_cons.mp hN14.nd
    have hkrl := hN14.el.len
    -- nothing of the answer is a ring kept
    have hsep : ∀ r, H14 r ≠ none → r ≠ xo ∧ r ≠ ol ∧ r ∉ ors := fun r hr => ⟨fun e => hr (e ▸ nxo), fun e => hr (e ▸ hN15.fp), fun hm => hr (hN15.frs r hm)⟩
    have hkr : ∀ r ∈ krs, H14 r ≠ none := fun r hr h => by
      obtain ⟨l, _, g⟩ := hN14.el.mem hr
      rw [g] at h
      cases h
    refine q_forLn (ev_var rfl) (sq_of (e15 _ _ hN14.top)) (fun i σ' H' => ∃ (y10 : Option V), σ' = [some (.ref a), some (.int z), some (.ref x), some (.ref sp), some (.ref hp), some (.ref xr), some (.bl (rootB L ns)), some (.int m), some (.ref ap), some (.ref mp), y10, some (.ref kp), some (.ref xo), none] ∧ Ex H13 H' ∧ H' kp = some (.lst (krs.map V.ref)) ∧ (∀ r ∈ krs, ∃ xs, H' r = some (.lst xs) ∧ xs.length ≤ 63 + i) ∧
        H' xo = some (.ins c.Odd dxo [("length", .int m), ("rings", .ref ol)]) ∧ H' ol = some (.lst (ors.map V.ref)) ∧ AllAt H' ors Mm)
      (fun H16 e16 => ⟨_, rfl, (e14.trans e15).trans e16, e16 _ _ (e15 _ _ hN14.top), fun r hr => by
        obtain ⟨l, hl, g⟩ := hN14.el.mem hr
        exact ⟨_, e16 _ _ (e15 _ _ g), by rw [nl_len]; exact hMm l hl⟩, e16 _ _ hxo, e16 _ _ hN15.top, hN15.el.ex e16⟩) (fun i σ' H' _ ⟨_, _, _, h, _⟩ => sq_of h) (fun i x' σ' H' hx' hP => ?_) (fun σ' H' hP => ?_)
    · obtain ⟨y10, rfl, eH, hkp, hall, hxo', hol', hors⟩ := hP
      obtain ⟨r, hr, rfl⟩ := ref_at hx'
      have hrm := List.mem_of_getElem? hr
      obtain ⟨xs, hxs, hxl⟩ := hall r hrm
      have hi : i < krs.length := (List.getElem?_eq_some_iff.mp hr).1
      obtain ⟨s1, s2, s3⟩ := hsep r (hkr r hrm)
      refine s_app hxs (ev_var rfl) ev_c (by omega) fun H16 e16 => ?_
      have hne : kp ≠ r := fun e => hkd.1 (e ▸ hrm)
      refine ⟨_, rfl, Ex.mut (eH.trans e16) (hN14.frs r hrm), by rw [upd_ne hne]; exact e16 _ _ hkp, fun r' hr' => ?_, by rw [upd_ne s1.symm]; exact e16 _ _ hxo', by rw [upd_ne s2.symm]; exact e16 _ _ hol', (hors.ex e16).upd s3⟩
      by_cases e : r' = r
      · subst e
        exact ⟨_, upd_same, by rw [List.length_append, List.length_singleton]; omega⟩
      · obtain ⟨xs', h1, h2⟩ := hall r' hr'
        exact ⟨xs', by rw [upd_ne e]; exact e16 _ _ h1, by omega⟩
    · obtain ⟨y10, rfl, eH, hkp, _, hxo', hol', hors⟩ := hP
      obtain ⟨s1, s2, s3⟩ := hsep kp (fun h => by rw [hN14.top] at h; cases h)
      refine q_appL hkp (ev_var rfl) (el_lst ea_nil (Nat.zero_le _)) (by rw [List.length_map]; omega) fun p3 H16 n16 e16 h16 => ?_
      have eU2 : Ex H13 (L2.upd H16 kp (.lst (krs.map V.ref ++ [V.ref p3]))) := Ex.mut (eH.trans e16) hN14.fp
      have hxo6 : L2.upd H16 kp (.lst (krs.map V.ref ++ [V.ref p3])) xo = some (.ins c.Odd dxo [("length", .int m), ("rings", .ref ol)]) := by rw [upd_ne s1.symm]; exact e16 _ _ hxo'
      have hLLo : IsLL K (L2.upd H16 kp (.lst (krs.map V.ref ++ [V.ref p3]))) ol Mm := ⟨ors, sq_of (by rw [upd_ne s2.symm]; exact e16 _ _ hol'), ((hors.ex e16).upd s3).lls⟩
      generalize L2.upd H16 kp (.lst (krs.map V.ref ++ [V.ref p3])) = H17 at eU2 hxo6 hLLo
      have hL17 := (((hL11.ex e12).ex e13).ex eU2)
      have hLLm : IsLL K H17 mp Mm := ⟨ms, sq_of (eU2 _ _ hmp), (hms.ex eU2).lls⟩
      have hLLa : IsLL K H17 ap Al := hN12.ll.ex (e13.trans eU2)
      have hlenM : ∀ {σ : L2.St} {H' : Hp}, Ex H17 H' → σ[9]? = some (some (.ref mp)) → Ev (tCB (rLen1 K) (tCons (tVar 9) tNil)) σ H' (.int (Mm.length : Int)) := fun {σ H'} e h0 => by
        have h := ev_lenL (K := K) (ev_var (σ := σ) (H := H') h0) (sq_of (e _ _ (eU2 _ _ hmp)))
        rw [List.length_map, hmsl] at h
        exact h
      refine q_asg (ev_andV (ev_op (ev_var rfl) ev_c rv_I0) fun _ => ev_andV (ev_op (ev_op (ev_var rfl) ev_c (rv_I (by decide))) ev_c (rv_eqB rfl)) fun _ => ev_andV (ev_op (ev_op (hlenM (Ex.refl _) rfl) ev_c (rv_IW (by decide) (vmod Mm.length 2))) ev_c (rv_eqB rfl)) fun _ => ev_op (ev_var rfl) (ev_var rfl) (rv_eqLL hLLm hLLa)) fun H18 e18 => ?_
      have hx18 := e18 _ _ hxo6
      refine ret_V k (((e111.trans e12).trans e13).trans (eU2.trans e18)) (ev_andT (ev_op (ev_fld C.Odd.cl C.na_Odd_length (ev_var rfl) hx18 lookA) (ev_var rfl) (rv_eqB (decide_eq_true rfl))) (ev_andT (ev_op (ev_fld C.Odd.cl C.na_Odd_rings (ev_var rfl) hx18 (odd_look _ _)) (ev_var rfl) (by
        have h := rv_eqLL (K := K) (hLLo.ex e18) (hLLm.ex e18)
        rw [decide_eq_true rfl] at h
        exact h)) (ev_callV (ea2 (ev_meth (ev_var rfl) hx18 rfl (ea1 (ev_var rfl)) (sv_Odd_shows hx18 (hLLo.ex e18) (by omega) (hL17.ex e18) hND rfl)) (ev_var rfl)) (sv_lsays ?_))))
      unfold oddB
      rw [Bool.eq_iff_iff]
      simp only [Bool.and_eq_true, Bool.not_eq_true', decide_eq_true_eq, decide_eq_false_iff_not]
      have hf : m.fmod 2 = 0 ∨ m.fmod 2 = 1 := by
        obtain ⟨u, hu, hul⟩ := fmod_lt m (m := 2) (by decide)
        have hu2 : m.fmod 2 = (u : Int) := hu
        omega
      constructor
      · rintro ⟨⟨g1, g2, g3⟩, g4⟩
        exact ⟨by omega, by omega, by omega, by rw [← g4, hmax (by omega)]⟩
      · rintro ⟨g1, g2, g3, g4⟩
        exact ⟨⟨by omega, by omega, by omega⟩, by rw [g4, hmax g1]⟩

abbrev s_law : Stmt := topS 43
abbrev N_law : List Str := ["_law_script", "_law_leading_here", "_law_whole", "_law_cell"]
theorem sc_law : FnScope N_law ["_law_script"] (defScope s_law) := ⟨rfl, rfl, rfl, by decide +kernel, rfl, by decide +kernel, by decide +kernel⟩
def spLaw (K : PySem.W.Frag) : Sp := fun vs H Q _ => ∃ (a : Addr) (ns : List Int), vs = [.ref a] ∧ SqL K H a (ns.map V.int) ∧ ns.length ≤ 63 ∧ ∀ H', Q (.bl true) H'
theorem sv_lways {H : Hp} {a : Addr} {L : List Nat} {z : Int} (hL : IsLd H a L) (hp : 0 < L.length) : SpV spLWays [.ref a, .int z] H (.bl true) := fun _ e _ k _ => ⟨a, L, z, rfl, hL.ex e, hp, k⟩
theorem sv_lroots {H : Hp} {a : Addr} {L : List Nat} {z : Int} (hL : IsLd H a L) (nd : L.Nodup) : SpV spLRoots [.ref a, .int z] H (.bl true) := fun _ e _ k _ => ⟨a, L, z, rfl, hL.ex e, nd, k⟩
section
variable {σ : L2.St} {H : Hp} {ta tb : TE} {z : V}
/-- C(a new list) asked for a word, with a new list -/
theorem ev_methNN {C : Addr} {m : Str} {sp : Sp} {E : XK} {R : Addr → Hp → Prop} {xs : List V} (ha : ∀ H1, Ex H H1 → ∀ Q : VK, (∀ x H2, Ex H1 H2 → R x H2 → (∃ dx fs, H2 x = some (.ins C dx fs) ∧ fs.lookup m = none) → Q (.ref x) H2) → ta σ H1 Q) (hR : ∀ x H1 H2, Ex H1 H2 → R x H1 → R x H2) (hv : EvL tb σ H xs)
    (hs : ∀ x p H1, R x H1 → H1 p = some (.lst xs) → SpV sp [.ref x, .ref p] H1 z) : Ev (tMeth C m sp [] E ta (tCons tb tNil)) σ H z := fun H1 e Q k =>
  ha H1 e _ fun x H2 e2 hr ⟨dx, fs, hx, hl⟩ => ⟨x, dx, fs, rfl, hx, hl, hv H2 (e.trans e2) _ fun p H3 _ e3 hp => hs x p H3 (hR x _ _ e3 hr) hp H3 (Ex.refl H3) Q (fun H4 e4 => k H4 ((e2.trans e3).trans e4)) E⟩
end
theorem tmkOX {σ : L2.St} {H : Hp} {C : Addr} {E : XK} {ta tb : TE} {m : Int} {Ls : List (List Nat)} {Q : VK} (h : Ev ta σ H (.int m)) (h2 : ∀ H1, Ex H H1 → ∀ Q : VK, (∀ b H2, Ex H1 H2 → IsLL K H2 b Ls → Q (.ref b) H2) → tb σ H1 Q) (hz : Ls.length ≤ 40000)
    (k : ∀ x dx l rs H2, H x = none → Ex H H2 → NLL H H2 l rs Ls → H2 x = some (.ins C dx [("length", .int m), ("rings", .ref l)]) → Q (.ref x) H2) : tMake C (spInitO K C) [] E (tCons ta (tCons tb tNil)) σ H Q :=
  h H (Ex.refl H) _ fun H0 e0 => h2 H0 e0 _ fun b H1 e1 hb x dx nx ndx ne => ⟨x, dx, b, m, Ls, rfl, upd_same, hb.ex (fun c o e => by rw [upd_ne (ne_of_none e nx), upd_ne (ne_of_none e ndx)]; exact e), hz, fun H' l rs eB hN hx =>
    ⟨rfl, k x dx l rs H' (fresh_back (e0.trans e1) nx) ((e0.trans e1).trans (ex_made nx ndx eB)) ⟨fresh_back (e0.trans e1) (none_back hN.fp), fun r hr => fresh_back (e0.trans e1) (none_back (hN.frs r hr)), hN.top, hN.el, hN.nd⟩ hx⟩⟩
theorem ill_one {σ : L2.St} {H : Hp} {tb : TE} {A : List Nat} (h : EvL tb σ H (nl A)) : ∀ H1, Ex H H1 → ∀ Q : VK, (∀ b H2, Ex H1 H2 → IsLL K H2 b [A] → Q (.ref b) H2) → tLst (tCons tb tNil) σ H1 Q := fun H1 e Q k =>
  h H1 e _ fun p H2 _ e2 hp => ⟨by show 1 ≤ sizeLine; decide, fun r nr => k r _ (e2.trans (Ex.new nr)) ⟨[p], sq_of upd_same, .cons (sq_of (Ex.new nr _ _ hp)) .nil⟩⟩
theorem swap_even : oddB [1, 0] 2 [[0, 1]] = true := by
  have e : ofLen [1, 0] 2 = [[0, 1]] := swap_rings
  exact decide_eq_true e
theorem ok_law {f : Addr} {fd : FuncData} (F : Fun K "law" "law" s_law f fd) (B : Bl mg) (C : Cl K mg c) (D_law_leading : Dk P w K mg base CX0 1 "_law_leading" ["_law_script"] (spLLead K)) (D_law_back : Dk P w K mg base CX0 1 "_law_back" ["_law_script"] (spLBack K)) (D_law_says : Dk P w K mg base CX0 1 "_law_says" ["_law_said", "_law_due"] spLSays)
    (D_law_ways_right : Dk P w K mg base CX0 4 "_law_ways_right" ["_law_leading_here", "_law_cell"] spLWays) (D_law_roots_right : Dk P w K mg base CX0 5 "_law_roots_right" ["_law_leading_here", "_law_cell"] spLRoots) (I_Odd : Cn P w K mg base CX0 1 "Odd" c.Odd ["self", "length", "rings"] (spInitO K c.Odd)) (I_Root : Cn P w K mg base CX0 1 "Root" c.Root ["self", "leading"] (spInitL K c.Root "leading"))
    (M_Root_shows : Mt P w K mg base CX0 2 c.Root "shows" ["self", "leading"] (spRootShows K c.Root)) (M_Odd_shows : Mt P w K mg base CX0 1 c.Odd "shows" ["self", "leading"] (spOddShows K c.Odd)) : FnOk P w K mg base CX0 6 f fd ["_law_script"] (spLaw K) := by
  refine F.ok sc_law (fun vs H Q E h => ?_) (fun cdv A outer s H vs Q E hr h => ?_)
  · obtain ⟨a, ns, rfl, _⟩ := h
    rfl
  · obtain ⟨a, ns, rfl, hS, h63, q⟩ := h
    have hS : SqL K H a (il ns) := hS
    refine ⟨_, (pss_cons (ps_set (i := 1) sc_law.nd rfl (Or.inl rfl) (pe_callD D_law_leading (hr.mono (by decide)) (by rfl) pass0 (pa_cons (pv 0) pa_nil)))
    (pss_cons (ps_set (i := 2) sc_law.nd rfl (Or.inl rfl) (pe_callD D_law_back (hr.mono (by decide)) (by rfl) pass0 (pa_cons (pv 0) pa_nil)))
    (pss_cons (ps_for PassesOwn.never rfl (pi_list (pe_op op_cat (pe_slice (sl_listK (K := K) rfl) (pv 0) po_none (po_some pe_int)) (pe_stepLK (K := K) rfl (pv 0)))) (pg_name (i := 3) sc_law.nd rfl (Or.inl rfl))
    (pss_one (ps_if (PW.pt (pw_or (pt_not (pt_val (pe_callD D_law_ways_right (hr.mono (by decide)) (by rfl) pass0 (pa_cons (pv 1) (pa_cons (pv 3) pa_nil))))) (pw_or1 (pt_not (pt_val (pe_callD D_law_roots_right (hr.mono (by decide)) (by rfl) pass0 (pa_cons (pv 2) (pa_cons (pv 3) pa_nil))))))))
    (pss_one (ps_ret pe_bl))
    pss_nil)))
    (pss_one (ps_ret (pe_and (pe_callD D_law_says (hr.mono (by decide)) (by rfl) pass0 (pa_cons (pe_methD C.Root.cl M_Root_shows (hr.mono (by decide)) pass0 (pe_makeD I_Root (hr.mono (by decide)) (by rfl) pass0 (pa_cons (pe_lst pa_nil) pa_nil)) (pa_cons (pe_lst pa_nil) pa_nil)) (pa_cons pe_bl pa_nil))) (pe_one (pe_callD D_law_says (hr.mono (by decide)) (by rfl) pass0 (pa_cons (pe_methD C.Odd.cl M_Odd_shows (hr.mono (by decide)) pass0 (pe_makeD I_Odd (hr.mono (by decide)) (by rfl) pass0 (pa_cons pe_int (pa_cons (pe_lst (pa_cons (pe_lst (pa_cons pe_int (pa_cons pe_int pa_nil))) pa_nil)) pa_nil))) (pa_cons (pe_lst (pa_cons pe_int (pa_cons pe_int pa_nil))) pa_nil)) (pa_cons pe_bl pa_nil)))))))))), ?_⟩
    refine q_asgX (ea1 (ev_var rfl)) fun H1 e1 => ⟨a, ns, rfl, ex_l e1 hS, h63, fun L hL hlL p1 H2 n2 e2 h2 => ?_⟩
    have hA : IsLd H2 p1 L := ⟨.inl h2, hL, by omega⟩
    have hS2 := ex_l (e1.trans e2) hS
    refine q_asgX (ea1 (ev_var rfl)) fun H3 e3 => ⟨a, ns, rfl, ex_l e3 hS2, h63, fun M hM hND hlM p2 H4 n4 e4 h4 => ?_⟩
    have hB : IsLd H4 p2 M := ⟨.inl h4, hM, by omega⟩
    have hA4 := hA.ex (e3.trans e4)
    refine q_forNLn (el_cells (ev_var rfl) (ev_var rfl) (ex_l (e3.trans e4) hS2) ev_c (by decide) h63) (fun p i σ' H' => ∃ (D : Hp) (y3 : Option V), σ' = [some (.ref a), some (.ref p1), some (.ref p2), y3] ∧ Ex H4 D ∧ D p = some (.lst (cells ns 5 5 12)) ∧ Ex D H')
      (fun p H5 n5 e5 h5 => ⟨H5, _, rfl, e5, h5, Ex.refl _⟩) (fun p i σ' H' _ ⟨D, _, _, _, h5, e5⟩ => sq_of (e5 _ _ h5)) (fun p i x σ' H' hx hP => ?_) (fun p σ' H' hP => ?_)
    · obtain ⟨G, y3, rfl, eG, hG, eH⟩ := hP
      obtain ⟨z, hz, rfl⟩ := mem_cells hx
      have hpos : 0 < L.length := by
        have := pos_of_mem hz
        omega
      have e := eG.trans eH
      exact s_skip (et_orF (et_notT (et_B (ev_callV (ea2 (ev_var rfl) (ev_var rfl)) (sv_lways (hA4.ex e) hpos)))) (et_notT (et_B (ev_callV (ea2 (ev_var rfl) (ev_var rfl)) (sv_lroots (hB.ex e) hND))))) fun H6 e6 => ⟨G, _, rfl, eG, hG, eH.trans e6⟩
    · obtain ⟨G, y3, rfl, eG, hG, eH⟩ := hP
      refine s_ret (ev_andT (ev_callV (ea2 (ev_methNN (R := fun x H1 => ∃ dx l, H1 x = some (.ins c.Root dx [("leading", .ref l)]) ∧ H1 l = some (.lst (nl []))) (fun H1 e1 Q k => tmkL (K := K) (xs := nl []) ((el_lst ea_nil (Nat.zero_le _)).mono e1) fun x dx l H2 nx nl' e2 hx hl => k x H2 e2 ⟨dx, l, hx, hl⟩ ⟨dx, _, hx, rfl⟩)
          (fun x H1 H2 e ⟨dx, l, h1, h2⟩ => ⟨dx, l, e _ _ h1, e _ _ h2⟩) (el_lst (vs := nl []) ea_nil (Nat.zero_le _)) fun x p H1 ⟨dx, l, h1, h2⟩ hp => sv_Root_shows (ns := []) (L := []) h1 (sq_of h2) (Nat.zero_le _) ⟨.inl hp, (fun x hx => nomatch hx), by decide⟩ rfl) ev_c) (sv_lsays rfl))
        (ev_callV (ea2 (ev_methNN (R := fun x H1 => ∃ dx l, H1 x = some (.ins c.Odd dx [("length", .int 2), ("rings", .ref l)]) ∧ IsLL K H1 l [[0, 1]]) (fun H1 e1 Q k => tmkOX (K := K) (Ls := [[0, 1]]) (ev_c.mono e1) (ill_one (A := [0, 1]) ((el_lst (ea2 ev_c ev_c) (by show 2 ≤ 100000; decide)).mono e1)) (by decide) fun x dx l rs H2 nx e2 hN hx => k x H2 e2 ⟨dx, l, hx, hN.ll⟩ ⟨dx, _, hx, rfl⟩)
          (fun x H1 H2 e ⟨dx, l, h1, h2⟩ => ⟨dx, l, e _ _ h1, h2.ex e⟩) (el_lst (vs := nl [1, 0]) (ea2 ev_c ev_c) (by show 2 ≤ 100000; decide)) fun x p H1 ⟨dx, l, h1, h2⟩ hp => sv_Odd_shows (L := [1, 0]) h1 h2 (by decide) ⟨.inl hp, by unfold Lead; decide, by decide⟩ (by decide) swap_even) ev_c) (sv_lsays rfl))) fun H15 _ => q H15


end
end Ld
namespace Ld
open PySem L2 Evl
/-! ### what the top has written -/
theorem all_mk {l : PySem.W.OpenLaw} {w : World} {K : PySem.W.Frag} {h : Heap} {mg : Str → Option Value} {fa f0 f1 f2 f3 f4 f5 f6 f7 f8 f9 f10 f11 f12 f13 f14 f15 f16 f17 f18 f19 f20 f21 f22 f23 f24 f25 f26 f27 f28 f29 f30 f31 f32 f33 f34 f35 f36 f37 f38 : Addr} {qAnswer qSteps qShut qMet qApart qRoot qOdd : Addr} (X : K.In h) (G : h.Ns mainGlobals mg) (hfa : mg "law" = some (.ref fa))
    {od0 od1 od2 od3 od4 od5 od6 od7 od8 od9 od10 od11 od12 od13 od14 od15 od16 od17 od18 od19 od20 od21 od22 od23 od24 od25 od26 od27 od28 od29 od30 od31 od32 od33 od34 od35 od36 od37 od38 an0 an1 an2 an3 an4 an5 an6 an7 an8 an9 an10 an11 an12 an13 an14 an15 an16 an17 an18 an19 an20 an21 an22 an23 an24 an25 an26 an27 an28 an29 an30 an31 an32 an33 an34 an35 an36 an37 an38 : Option Addr} {sl0 sl1 sl2 sl3 sl4 sl5 sl6 sl7 sl8 sl9 sl10 sl11 sl12 sl13 sl14 sl15 sl16 sl17 sl18 sl19 sl20 sl21 sl22 sl23 sl24 sl25 sl26 sl27 sl28 sl29 sl30 sl31 sl32 sl33 sl34 sl35 sl36 sl37 sl38 : Array (Option Value)} {oc0 oc1 oc2 oc3 oc4 oc5 oc6 oc7 oc8 oc9 oc10 oc11 oc12 oc13 oc14 oc15 oc16 oc17 oc18 oc19 oc20 oc21 oc22 oc23 oc24 oc25 oc26 oc27 oc28 oc29 oc30 oc31 oc32 oc33 oc34 oc35 oc36 oc37 oc38 kV0 kV1 kV2 kV3 kV4 kV5 kV6 kV7 kV8 kV9 kV10 kV11 kV12 kV13 kV14 kV15 kV16 kV17 kV18 kV19 kV20 kV21 kV22 kV23 kV24 kV25 kV26 kV27 kV28 kV29 kV30 kV31 kV32 kV33 kV34 kV35 kV36 kV37 kV38 dc0 dc1 dc2 dc3 dc4 dc5 dc6 dc7 dc8 dc9 dc10 dc11 dc12 dc13 dc14 dc15 dc16 dc17 dc18 dc19 dc20 dc21 dc22 dc23 dc24 dc25 dc26 dc27 dc28 dc29 dc30 dc31 dc32 dc33 dc34 dc35 dc36 dc37 dc38 pm0 pm1 pm2 pm3 pm4 pm5 pm6 pm7 pm8 pm9 pm10 pm11 pm12 pm13 pm14 pm15 pm16 pm17 pm18 pm19 pm20 pm21 pm22 pm23 pm24 pm25 pm26 pm27 pm28 pm29 pm30 pm31 pm32 pm33 pm34 pm35 pm36 pm37 pm38 cd0 cd1 cd2 cd3 cd4 cd5 cd6 cd7 cd8 cd9 cd10 cd11 cd12 cd13 cd14 cd15 cd16 cd17 cd18 cd19 cd20 cd21 cd22 cd23 cd24 cd25 cd26 cd27 cd28 cd29 cd30 cd31 cd32 cd33 cd34 cd35 cd36 cd37 cd38 ct0 ct1 ct2 ct3 ct4 ct5 ct6 ct7 ct8 ct9 ct10 ct11 ct12 ct13 ct14 ct15 ct16 ct17 ct18 ct19 ct20 ct21 ct22 ct23 ct24 ct25 ct26 ct27 ct28 ct29 ct30 ct31 ct32 ct33 ct34 ct35 ct36 ct37 ct38 : Value}
    (g_Answer : PySem.W.nsIn K mainGlobals "Answer" = some (some (.ref qAnswer))) (pg_Answer : PySem.W.plainGet K qAnswer Str.empty = true) (hd_Answer : PySem.W.hasDictIn K qAnswer = true) (po_Answer : PySem.W.plainOver K qAnswer = true) (sa_Answer : PySem.W.findIn K (.ref qAnswer) "__setattr__" = some (some (.builtin "object.__setattr__")))
    (ha_Answer : PySem.W.findIn K (.ref qAnswer) "__class__" = some (some (.builtin "object.__class__"))) (hm_Answer : PySem.W.mroIn K qAnswer (.type "object") = some true) (mk_Answer : PySem.W.makesIn K qAnswer = true) (kp_Answer : PySem.W.keepIn K (.ref qAnswer) = true)
    (g_Steps : PySem.W.nsIn K mainGlobals "Steps" = some (some (.ref qSteps))) (pg_Steps : PySem.W.plainGet K qSteps Str.empty = true) (hd_Steps : PySem.W.hasDictIn K qSteps = true) (po_Steps : PySem.W.plainOver K qSteps = true) (sa_Steps : PySem.W.findIn K (.ref qSteps) "__setattr__" = some (some (.builtin "object.__setattr__")))
    (ha_Steps : PySem.W.findIn K (.ref qSteps) "__class__" = some (some (.builtin "object.__class__"))) (hm_Steps : PySem.W.mroIn K qSteps (.type "object") = some true) (mk_Steps : PySem.W.makesIn K qSteps = true) (kp_Steps : PySem.W.keepIn K (.ref qSteps) = true)
    (g_Shut : PySem.W.nsIn K mainGlobals "Shut" = some (some (.ref qShut))) (pg_Shut : PySem.W.plainGet K qShut Str.empty = true) (hd_Shut : PySem.W.hasDictIn K qShut = true) (po_Shut : PySem.W.plainOver K qShut = true) (sa_Shut : PySem.W.findIn K (.ref qShut) "__setattr__" = some (some (.builtin "object.__setattr__")))
    (ha_Shut : PySem.W.findIn K (.ref qShut) "__class__" = some (some (.builtin "object.__class__"))) (hm_Shut : PySem.W.mroIn K qShut (.type "object") = some true) (mk_Shut : PySem.W.makesIn K qShut = true) (kp_Shut : PySem.W.keepIn K (.ref qShut) = true)
    (g_Met : PySem.W.nsIn K mainGlobals "Met" = some (some (.ref qMet))) (pg_Met : PySem.W.plainGet K qMet Str.empty = true) (hd_Met : PySem.W.hasDictIn K qMet = true) (po_Met : PySem.W.plainOver K qMet = true) (sa_Met : PySem.W.findIn K (.ref qMet) "__setattr__" = some (some (.builtin "object.__setattr__")))
    (ha_Met : PySem.W.findIn K (.ref qMet) "__class__" = some (some (.builtin "object.__class__"))) (hm_Met : PySem.W.mroIn K qMet (.type "object") = some true) (mk_Met : PySem.W.makesIn K qMet = true) (kp_Met : PySem.W.keepIn K (.ref qMet) = true)
    (g_Apart : PySem.W.nsIn K mainGlobals "Apart" = some (some (.ref qApart))) (pg_Apart : PySem.W.plainGet K qApart Str.empty = true) (hd_Apart : PySem.W.hasDictIn K qApart = true) (po_Apart : PySem.W.plainOver K qApart = true) (sa_Apart : PySem.W.findIn K (.ref qApart) "__setattr__" = some (some (.builtin "object.__setattr__")))
    (ha_Apart : PySem.W.findIn K (.ref qApart) "__class__" = some (some (.builtin "object.__class__"))) (hm_Apart : PySem.W.mroIn K qApart (.type "object") = some true) (mk_Apart : PySem.W.makesIn K qApart = true) (kp_Apart : PySem.W.keepIn K (.ref qApart) = true)
    (g_Root : PySem.W.nsIn K mainGlobals "Root" = some (some (.ref qRoot))) (pg_Root : PySem.W.plainGet K qRoot Str.empty = true) (hd_Root : PySem.W.hasDictIn K qRoot = true) (po_Root : PySem.W.plainOver K qRoot = true) (sa_Root : PySem.W.findIn K (.ref qRoot) "__setattr__" = some (some (.builtin "object.__setattr__")))
    (ha_Root : PySem.W.findIn K (.ref qRoot) "__class__" = some (some (.builtin "object.__class__"))) (hm_Root : PySem.W.mroIn K qRoot (.type "object") = some true) (mk_Root : PySem.W.makesIn K qRoot = true) (kp_Root : PySem.W.keepIn K (.ref qRoot) = true)
    (g_Odd : PySem.W.nsIn K mainGlobals "Odd" = some (some (.ref qOdd))) (pg_Odd : PySem.W.plainGet K qOdd Str.empty = true) (hd_Odd : PySem.W.hasDictIn K qOdd = true) (po_Odd : PySem.W.plainOver K qOdd = true) (sa_Odd : PySem.W.findIn K (.ref qOdd) "__setattr__" = some (some (.builtin "object.__setattr__")))
    (ha_Odd : PySem.W.findIn K (.ref qOdd) "__class__" = some (some (.builtin "object.__class__"))) (hm_Odd : PySem.W.mroIn K qOdd (.type "object") = some true) (mk_Odd : PySem.W.makesIn K qOdd = true) (kp_Odd : PySem.W.keepIn K (.ref qOdd) = true)
    (hn_ : PySem.W.specialIn K (.builtin "object.__class__") "__get__" = some (some (.builtin "getset_descriptor.__get__"))) (htk_ : PySem.W.takesIn K (.builtin "object.__class__") = some true)
    (na_Steps_many : PySem.W.findIn K (.ref qSteps) "many" = some none)
    (k_Steps_Answer : PySem.W.kitOne K (.ref qSteps) (.ref qAnswer) = some true)
    (k_Steps_Steps : PySem.W.kitOne K (.ref qSteps) (.ref qSteps) = some true)
    (k_Steps_Shut : PySem.W.kitOne K (.ref qSteps) (.ref qShut) = some false)
    (k_Steps_Met : PySem.W.kitOne K (.ref qSteps) (.ref qMet) = some false)
    (k_Steps_Apart : PySem.W.kitOne K (.ref qSteps) (.ref qApart) = some false)
    (k_Steps_Root : PySem.W.kitOne K (.ref qSteps) (.ref qRoot) = some false)
    (k_Steps_Odd : PySem.W.kitOne K (.ref qSteps) (.ref qOdd) = some false)
    (na_Shut_places : PySem.W.findIn K (.ref qShut) "places" = some none)
    (k_Shut_Answer : PySem.W.kitOne K (.ref qShut) (.ref qAnswer) = some true)
    (k_Shut_Steps : PySem.W.kitOne K (.ref qShut) (.ref qSteps) = some false)
    (k_Shut_Shut : PySem.W.kitOne K (.ref qShut) (.ref qShut) = some true)
    (k_Shut_Met : PySem.W.kitOne K (.ref qShut) (.ref qMet) = some false)
    (k_Shut_Apart : PySem.W.kitOne K (.ref qShut) (.ref qApart) = some false)
    (k_Shut_Root : PySem.W.kitOne K (.ref qShut) (.ref qRoot) = some false)
    (k_Shut_Odd : PySem.W.kitOne K (.ref qShut) (.ref qOdd) = some false)
    (na_Met_mine : PySem.W.findIn K (.ref qMet) "mine" = some none)
    (na_Met_theirs : PySem.W.findIn K (.ref qMet) "theirs" = some none)
    (k_Met_Answer : PySem.W.kitOne K (.ref qMet) (.ref qAnswer) = some true)
    (k_Met_Steps : PySem.W.kitOne K (.ref qMet) (.ref qSteps) = some false)
    (k_Met_Shut : PySem.W.kitOne K (.ref qMet) (.ref qShut) = some false)
    (k_Met_Met : PySem.W.kitOne K (.ref qMet) (.ref qMet) = some true)
    (k_Met_Apart : PySem.W.kitOne K (.ref qMet) (.ref qApart) = some false)
    (k_Met_Root : PySem.W.kitOne K (.ref qMet) (.ref qRoot) = some false)
    (k_Met_Odd : PySem.W.kitOne K (.ref qMet) (.ref qOdd) = some false)
    (na_Apart_places : PySem.W.findIn K (.ref qApart) "places" = some none)
    (k_Apart_Answer : PySem.W.kitOne K (.ref qApart) (.ref qAnswer) = some true)
    (k_Apart_Steps : PySem.W.kitOne K (.ref qApart) (.ref qSteps) = some false)
    (k_Apart_Shut : PySem.W.kitOne K (.ref qApart) (.ref qShut) = some false)
    (k_Apart_Met : PySem.W.kitOne K (.ref qApart) (.ref qMet) = some false)
    (k_Apart_Apart : PySem.W.kitOne K (.ref qApart) (.ref qApart) = some true)
    (k_Apart_Root : PySem.W.kitOne K (.ref qApart) (.ref qRoot) = some false)
    (k_Apart_Odd : PySem.W.kitOne K (.ref qApart) (.ref qOdd) = some false)
    (na_Root_leading : PySem.W.findIn K (.ref qRoot) "leading" = some none)
    (k_Root_Answer : PySem.W.kitOne K (.ref qRoot) (.ref qAnswer) = some true)
    (k_Root_Steps : PySem.W.kitOne K (.ref qRoot) (.ref qSteps) = some false)
    (k_Root_Shut : PySem.W.kitOne K (.ref qRoot) (.ref qShut) = some false)
    (k_Root_Met : PySem.W.kitOne K (.ref qRoot) (.ref qMet) = some false)
    (k_Root_Apart : PySem.W.kitOne K (.ref qRoot) (.ref qApart) = some false)
    (k_Root_Root : PySem.W.kitOne K (.ref qRoot) (.ref qRoot) = some true)
    (k_Root_Odd : PySem.W.kitOne K (.ref qRoot) (.ref qOdd) = some false)
    (na_Odd_length : PySem.W.findIn K (.ref qOdd) "length" = some none)
    (na_Odd_rings : PySem.W.findIn K (.ref qOdd) "rings" = some none)
    (k_Odd_Answer : PySem.W.kitOne K (.ref qOdd) (.ref qAnswer) = some true)
    (k_Odd_Steps : PySem.W.kitOne K (.ref qOdd) (.ref qSteps) = some false)
    (k_Odd_Shut : PySem.W.kitOne K (.ref qOdd) (.ref qShut) = some false)
    (k_Odd_Met : PySem.W.kitOne K (.ref qOdd) (.ref qMet) = some false)
    (k_Odd_Apart : PySem.W.kitOne K (.ref qOdd) (.ref qApart) = some false)
    (k_Odd_Root : PySem.W.kitOne K (.ref qOdd) (.ref qRoot) = some false)
    (k_Odd_Odd : PySem.W.kitOne K (.ref qOdd) (.ref qOdd) = some true)
    (a0 : PySem.W.nsIn K mainGlobals "is_number" = some (some (.ref f0)))
    (l0 : K.lookup f0 = some ⟨oc0, od0, .func (PySem.W.fnOf "is_number" "is_number" (defArgs s_is_number) (defBody s_is_number) (defScope s_is_number) .none kV0 dc0 pm0 an0 cd0 ct0), sl0⟩) (c0 : PySem.W.codeIn K cd0 "is_number" = true) (k0 : PySem.W.keepIn K (.ref f0) = true)
    (a1 : PySem.W.nsIn K mainGlobals "asked_back" = some (some (.ref f1)))
    (l1 : K.lookup f1 = some ⟨oc1, od1, .func (PySem.W.fnOf "asked_back" "asked_back" (defArgs s_asked_back) (defBody s_asked_back) (defScope s_asked_back) .none kV1 dc1 pm1 an1 cd1 ct1), sl1⟩) (c1 : PySem.W.codeIn K cd1 "asked_back" = true) (k1 : PySem.W.keepIn K (.ref f1) = true)
    (a2 : PySem.W.nsIn K mainGlobals "done" = some (some (.ref f2)))
    (l2 : K.lookup f2 = some ⟨oc2, od2, .func (PySem.W.fnOf "done" "done" (defArgs s_done) (defBody s_done) (defScope s_done) .none kV2 dc2 pm2 an2 cd2 ct2), sl2⟩) (c2 : PySem.W.codeIn K cd2 "done" = true) (k2 : PySem.W.keepIn K (.ref f2) = true)
    (a3 : PySem.W.nsIn K mainGlobals "is_place" = some (some (.ref f3)))
    (l3 : K.lookup f3 = some ⟨oc3, od3, .func (PySem.W.fnOf "is_place" "is_place" (defArgs s_is_place) (defBody s_is_place) (defScope s_is_place) .none kV3 dc3 pm3 an3 cd3 ct3), sl3⟩) (c3 : PySem.W.codeIn K cd3 "is_place" = true) (k3 : PySem.W.keepIn K (.ref f3) = true)
    (a4 : PySem.W.findIn K (.ref qSteps) "__init__" = some (some (.ref f4))) (i4 : PySem.W.isFn K (.ref f4) = true)
    (l4 : K.lookup f4 = some ⟨oc4, od4, .func (PySem.W.fnOf "__init__" "Steps.__init__" (defArgs s_Steps___init__) (defBody s_Steps___init__) (defScope s_Steps___init__) .none kV4 dc4 pm4 an4 cd4 ct4), sl4⟩) (c4 : PySem.W.codeIn K cd4 "Steps.__init__" = true) (k4 : PySem.W.keepIn K (.ref f4) = true)
    (a5 : PySem.W.findIn K (.ref qShut) "__init__" = some (some (.ref f5))) (i5 : PySem.W.isFn K (.ref f5) = true)
    (l5 : K.lookup f5 = some ⟨oc5, od5, .func (PySem.W.fnOf "__init__" "Shut.__init__" (defArgs s_Shut___init__) (defBody s_Shut___init__) (defScope s_Shut___init__) .none kV5 dc5 pm5 an5 cd5 ct5), sl5⟩) (c5 : PySem.W.codeIn K cd5 "Shut.__init__" = true) (k5 : PySem.W.keepIn K (.ref f5) = true)
    (a6 : PySem.W.findIn K (.ref qMet) "__init__" = some (some (.ref f6))) (i6 : PySem.W.isFn K (.ref f6) = true)
    (l6 : K.lookup f6 = some ⟨oc6, od6, .func (PySem.W.fnOf "__init__" "Met.__init__" (defArgs s_Met___init__) (defBody s_Met___init__) (defScope s_Met___init__) .none kV6 dc6 pm6 an6 cd6 ct6), sl6⟩) (c6 : PySem.W.codeIn K cd6 "Met.__init__" = true) (k6 : PySem.W.keepIn K (.ref f6) = true)
    (a7 : PySem.W.findIn K (.ref qApart) "__init__" = some (some (.ref f7))) (i7 : PySem.W.isFn K (.ref f7) = true)
    (l7 : K.lookup f7 = some ⟨oc7, od7, .func (PySem.W.fnOf "__init__" "Apart.__init__" (defArgs s_Apart___init__) (defBody s_Apart___init__) (defScope s_Apart___init__) .none kV7 dc7 pm7 an7 cd7 ct7), sl7⟩) (c7 : PySem.W.codeIn K cd7 "Apart.__init__" = true) (k7 : PySem.W.keepIn K (.ref f7) = true)
    (a8 : PySem.W.findIn K (.ref qRoot) "__init__" = some (some (.ref f8))) (i8 : PySem.W.isFn K (.ref f8) = true)
    (l8 : K.lookup f8 = some ⟨oc8, od8, .func (PySem.W.fnOf "__init__" "Root.__init__" (defArgs s_Root___init__) (defBody s_Root___init__) (defScope s_Root___init__) .none kV8 dc8 pm8 an8 cd8 ct8), sl8⟩) (c8 : PySem.W.codeIn K cd8 "Root.__init__" = true) (k8 : PySem.W.keepIn K (.ref f8) = true)
    (a9 : PySem.W.findIn K (.ref qOdd) "__init__" = some (some (.ref f9))) (i9 : PySem.W.isFn K (.ref f9) = true)
    (l9 : K.lookup f9 = some ⟨oc9, od9, .func (PySem.W.fnOf "__init__" "Odd.__init__" (defArgs s_Odd___init__) (defBody s_Odd___init__) (defScope s_Odd___init__) .none kV9 dc9 pm9 an9 cd9 ct9), sl9⟩) (c9 : PySem.W.codeIn K cd9 "Odd.__init__" = true) (k9 : PySem.W.keepIn K (.ref f9) = true)
    (a10 : PySem.W.findIn K (.ref qOdd) "shows" = some (some (.ref f10))) (i10 : PySem.W.isFn K (.ref f10) = true)
    (l10 : K.lookup f10 = some ⟨oc10, od10, .func (PySem.W.fnOf "shows" "Odd.shows" (defArgs s_Odd_shows) (defBody s_Odd_shows) (defScope s_Odd_shows) .none kV10 dc10 pm10 an10 cd10 ct10), sl10⟩) (c10 : PySem.W.codeIn K cd10 "Odd.shows" = true) (k10 : PySem.W.keepIn K (.ref f10) = true)
    (a11 : PySem.W.nsIn K mainGlobals "waits_of" = some (some (.ref f11)))
    (l11 : K.lookup f11 = some ⟨oc11, od11, .func (PySem.W.fnOf "waits_of" "waits_of" (defArgs s_waits_of) (defBody s_waits_of) (defScope s_waits_of) .none kV11 dc11 pm11 an11 cd11 ct11), sl11⟩) (c11 : PySem.W.codeIn K cd11 "waits_of" = true) (k11 : PySem.W.keepIn K (.ref f11) = true)
    (a12 : PySem.W.nsIn K mainGlobals "walked" = some (some (.ref f12)))
    (l12 : K.lookup f12 = some ⟨oc12, od12, .func (PySem.W.fnOf "walked" "walked" (defArgs s_walked) (defBody s_walked) (defScope s_walked) .none kV12 dc12 pm12 an12 cd12 ct12), sl12⟩) (c12 : PySem.W.codeIn K cd12 "walked" = true) (k12 : PySem.W.keepIn K (.ref f12) = true)
    (a13 : PySem.W.nsIn K mainGlobals "braid" = some (some (.ref f13)))
    (l13 : K.lookup f13 = some ⟨oc13, od13, .func (PySem.W.fnOf "braid" "braid" (defArgs s_braid) (defBody s_braid) (defScope s_braid) .none kV13 dc13 pm13 an13 cd13 ct13), sl13⟩) (c13 : PySem.W.codeIn K cd13 "braid" = true) (k13 : PySem.W.keepIn K (.ref f13) = true)
    (a14 : PySem.W.nsIn K mainGlobals "halve" = some (some (.ref f14)))
    (l14 : K.lookup f14 = some ⟨oc14, od14, .func (PySem.W.fnOf "halve" "halve" (defArgs s_halve) (defBody s_halve) (defScope s_halve) .none kV14 dc14 pm14 an14 cd14 ct14), sl14⟩) (c14 : PySem.W.codeIn K cd14 "halve" = true) (k14 : PySem.W.keepIn K (.ref f14) = true)
    (a15 : PySem.W.nsIn K mainGlobals "_law_leading" = some (some (.ref f15)))
    (l15 : K.lookup f15 = some ⟨oc15, od15, .func (PySem.W.fnOf "_law_leading" "_law_leading" (defArgs s_law_leading) (defBody s_law_leading) (defScope s_law_leading) .none kV15 dc15 pm15 an15 cd15 ct15), sl15⟩) (c15 : PySem.W.codeIn K cd15 "_law_leading" = true) (k15 : PySem.W.keepIn K (.ref f15) = true)
    (a16 : PySem.W.nsIn K mainGlobals "_law_after" = some (some (.ref f16)))
    (l16 : K.lookup f16 = some ⟨oc16, od16, .func (PySem.W.fnOf "_law_after" "_law_after" (defArgs s_law_after) (defBody s_law_after) (defScope s_law_after) .none kV16 dc16 pm16 an16 cd16 ct16), sl16⟩) (c16 : PySem.W.codeIn K cd16 "_law_after" = true) (k16 : PySem.W.keepIn K (.ref f16) = true)
    (a17 : PySem.W.nsIn K mainGlobals "_law_back" = some (some (.ref f17)))
    (l17 : K.lookup f17 = some ⟨oc17, od17, .func (PySem.W.fnOf "_law_back" "_law_back" (defArgs s_law_back) (defBody s_law_back) (defScope s_law_back) .none kV17 dc17 pm17 an17 cd17 ct17), sl17⟩) (c17 : PySem.W.codeIn K cd17 "_law_back" = true) (k17 : PySem.W.keepIn K (.ref f17) = true)
    (a18 : PySem.W.nsIn K mainGlobals "_law_rings" = some (some (.ref f18)))
    (l18 : K.lookup f18 = some ⟨oc18, od18, .func (PySem.W.fnOf "_law_rings" "_law_rings" (defArgs s_law_rings) (defBody s_law_rings) (defScope s_law_rings) .none kV18 dc18 pm18 an18 cd18 ct18), sl18⟩) (c18 : PySem.W.codeIn K cd18 "_law_rings" = true) (k18 : PySem.W.keepIn K (.ref f18) = true)
    (a19 : PySem.W.nsIn K mainGlobals "_law_says" = some (some (.ref f19)))
    (l19 : K.lookup f19 = some ⟨oc19, od19, .func (PySem.W.fnOf "_law_says" "_law_says" (defArgs s_law_says) (defBody s_law_says) (defScope s_law_says) .none kV19 dc19 pm19 an19 cd19 ct19), sl19⟩) (c19 : PySem.W.codeIn K cd19 "_law_says" = true) (k19 : PySem.W.keepIn K (.ref f19) = true)
    (a20 : PySem.W.nsIn K mainGlobals "_law_shut" = some (some (.ref f20)))
    (l20 : K.lookup f20 = some ⟨oc20, od20, .func (PySem.W.fnOf "_law_shut" "_law_shut" (defArgs s_law_shut) (defBody s_law_shut) (defScope s_law_shut) .none kV20 dc20 pm20 an20 cd20 ct20), sl20⟩) (c20 : PySem.W.codeIn K cd20 "_law_shut" = true) (k20 : PySem.W.keepIn K (.ref f20) = true)
    (a21 : PySem.W.nsIn K mainGlobals "_law_bent" = some (some (.ref f21)))
    (l21 : K.lookup f21 = some ⟨oc21, od21, .func (PySem.W.fnOf "_law_bent" "_law_bent" (defArgs s_law_bent) (defBody s_law_bent) (defScope s_law_bent) .none kV21 dc21 pm21 an21 cd21 ct21), sl21⟩) (c21 : PySem.W.codeIn K cd21 "_law_bent" = true) (k21 : PySem.W.keepIn K (.ref f21) = true)
    (a22 : PySem.W.nsIn K mainGlobals "asked_leading" = some (some (.ref f22)))
    (l22 : K.lookup f22 = some ⟨oc22, od22, .func (PySem.W.fnOf "asked_leading" "asked_leading" (defArgs s_asked_leading) (defBody s_asked_leading) (defScope s_asked_leading) .none kV22 dc22 pm22 an22 cd22 ct22), sl22⟩) (c22 : PySem.W.codeIn K cd22 "asked_leading" = true) (k22 : PySem.W.keepIn K (.ref f22) = true)
    (a23 : PySem.W.nsIn K mainGlobals "asked_place" = some (some (.ref f23)))
    (l23 : K.lookup f23 = some ⟨oc23, od23, .func (PySem.W.fnOf "asked_place" "asked_place" (defArgs s_asked_place) (defBody s_asked_place) (defScope s_asked_place) .none kV23 dc23 pm23 an23 cd23 ct23), sl23⟩) (c23 : PySem.W.codeIn K cd23 "asked_place" = true) (k23 : PySem.W.keepIn K (.ref f23) = true)
    (a24 : PySem.W.findIn K (.ref qSteps) "shows" = some (some (.ref f24))) (i24 : PySem.W.isFn K (.ref f24) = true)
    (l24 : K.lookup f24 = some ⟨oc24, od24, .func (PySem.W.fnOf "shows" "Steps.shows" (defArgs s_Steps_shows) (defBody s_Steps_shows) (defScope s_Steps_shows) .none kV24 dc24 pm24 an24 cd24 ct24), sl24⟩) (c24 : PySem.W.codeIn K cd24 "Steps.shows" = true) (k24 : PySem.W.keepIn K (.ref f24) = true)
    (a25 : PySem.W.findIn K (.ref qShut) "shows" = some (some (.ref f25))) (i25 : PySem.W.isFn K (.ref f25) = true)
    (l25 : K.lookup f25 = some ⟨oc25, od25, .func (PySem.W.fnOf "shows" "Shut.shows" (defArgs s_Shut_shows) (defBody s_Shut_shows) (defScope s_Shut_shows) .none kV25 dc25 pm25 an25 cd25 ct25), sl25⟩) (c25 : PySem.W.codeIn K cd25 "Shut.shows" = true) (k25 : PySem.W.keepIn K (.ref f25) = true)
    (a26 : PySem.W.findIn K (.ref qMet) "shows" = some (some (.ref f26))) (i26 : PySem.W.isFn K (.ref f26) = true)
    (l26 : K.lookup f26 = some ⟨oc26, od26, .func (PySem.W.fnOf "shows" "Met.shows" (defArgs s_Met_shows) (defBody s_Met_shows) (defScope s_Met_shows) .none kV26 dc26 pm26 an26 cd26 ct26), sl26⟩) (c26 : PySem.W.codeIn K cd26 "Met.shows" = true) (k26 : PySem.W.keepIn K (.ref f26) = true)
    (a27 : PySem.W.findIn K (.ref qApart) "shows" = some (some (.ref f27))) (i27 : PySem.W.isFn K (.ref f27) = true)
    (l27 : K.lookup f27 = some ⟨oc27, od27, .func (PySem.W.fnOf "shows" "Apart.shows" (defArgs s_Apart_shows) (defBody s_Apart_shows) (defScope s_Apart_shows) .none kV27 dc27 pm27 an27 cd27 ct27), sl27⟩) (c27 : PySem.W.codeIn K cd27 "Apart.shows" = true) (k27 : PySem.W.keepIn K (.ref f27) = true)
    (a28 : PySem.W.findIn K (.ref qRoot) "shows" = some (some (.ref f28))) (i28 : PySem.W.isFn K (.ref f28) = true)
    (l28 : K.lookup f28 = some ⟨oc28, od28, .func (PySem.W.fnOf "shows" "Root.shows" (defArgs s_Root_shows) (defBody s_Root_shows) (defScope s_Root_shows) .none kV28 dc28 pm28 an28 cd28 ct28), sl28⟩) (c28 : PySem.W.codeIn K cd28 "Root.shows" = true) (k28 : PySem.W.keepIn K (.ref f28) = true)
    (a29 : PySem.W.nsIn K mainGlobals "rings_of" = some (some (.ref f29)))
    (l29 : K.lookup f29 = some ⟨oc29, od29, .func (PySem.W.fnOf "rings_of" "rings_of" (defArgs s_rings_of) (defBody s_rings_of) (defScope s_rings_of) .none kV29 dc29 pm29 an29 cd29 ct29), sl29⟩) (c29 : PySem.W.codeIn K cd29 "rings_of" = true) (k29 : PySem.W.keepIn K (.ref f29) = true)
    (a30 : PySem.W.nsIn K mainGlobals "herd_of" = some (some (.ref f30)))
    (l30 : K.lookup f30 = some ⟨oc30, od30, .func (PySem.W.fnOf "herd_of" "herd_of" (defArgs s_herd_of) (defBody s_herd_of) (defScope s_herd_of) .none kV30 dc30 pm30 an30 cd30 ct30), sl30⟩) (c30 : PySem.W.codeIn K cd30 "herd_of" = true) (k30 : PySem.W.keepIn K (.ref f30) = true)
    (a31 : PySem.W.nsIn K mainGlobals "_law_apart" = some (some (.ref f31)))
    (l31 : K.lookup f31 = some ⟨oc31, od31, .func (PySem.W.fnOf "_law_apart" "_law_apart" (defArgs s_law_apart) (defBody s_law_apart) (defScope s_law_apart) .none kV31 dc31 pm31 an31 cd31 ct31), sl31⟩) (c31 : PySem.W.codeIn K cd31 "_law_apart" = true) (k31 : PySem.W.keepIn K (.ref f31) = true)
    (a32 : PySem.W.nsIn K mainGlobals "reached" = some (some (.ref f32)))
    (l32 : K.lookup f32 = some ⟨oc32, od32, .func (PySem.W.fnOf "reached" "reached" (defArgs s_reached) (defBody s_reached) (defScope s_reached) .none kV32 dc32 pm32 an32 cd32 ct32), sl32⟩) (c32 : PySem.W.codeIn K cd32 "reached" = true) (k32 : PySem.W.keepIn K (.ref f32) = true)
    (a33 : PySem.W.nsIn K mainGlobals "comes" = some (some (.ref f33)))
    (l33 : K.lookup f33 = some ⟨oc33, od33, .func (PySem.W.fnOf "comes" "comes" (defArgs s_comes) (defBody s_comes) (defScope s_comes) .none kV33 dc33 pm33 an33 cd33 ct33), sl33⟩) (c33 : PySem.W.codeIn K cd33 "comes" = true) (k33 : PySem.W.keepIn K (.ref f33) = true)
    (a34 : PySem.W.nsIn K mainGlobals "by_length" = some (some (.ref f34)))
    (l34 : K.lookup f34 = some ⟨oc34, od34, .func (PySem.W.fnOf "by_length" "by_length" (defArgs s_by_length) (defBody s_by_length) (defScope s_by_length) .none kV34 dc34 pm34 an34 cd34 ct34), sl34⟩) (c34 : PySem.W.codeIn K cd34 "by_length" = true) (k34 : PySem.W.keepIn K (.ref f34) = true)
    (a35 : PySem.W.nsIn K mainGlobals "root" = some (some (.ref f35)))
    (l35 : K.lookup f35 = some ⟨oc35, od35, .func (PySem.W.fnOf "root" "root" (defArgs s_root) (defBody s_root) (defScope s_root) .none kV35 dc35 pm35 an35 cd35 ct35), sl35⟩) (c35 : PySem.W.codeIn K cd35 "root" = true) (k35 : PySem.W.keepIn K (.ref f35) = true)
    (a36 : PySem.W.nsIn K mainGlobals "_law_ways_right" = some (some (.ref f36)))
    (l36 : K.lookup f36 = some ⟨oc36, od36, .func (PySem.W.fnOf "_law_ways_right" "_law_ways_right" (defArgs s_law_ways_right) (defBody s_law_ways_right) (defScope s_law_ways_right) .none kV36 dc36 pm36 an36 cd36 ct36), sl36⟩) (c36 : PySem.W.codeIn K cd36 "_law_ways_right" = true) (k36 : PySem.W.keepIn K (.ref f36) = true)
    (a37 : PySem.W.nsIn K mainGlobals "_law_roots_right" = some (some (.ref f37)))
    (l37 : K.lookup f37 = some ⟨oc37, od37, .func (PySem.W.fnOf "_law_roots_right" "_law_roots_right" (defArgs s_law_roots_right) (defBody s_law_roots_right) (defScope s_law_roots_right) .none kV37 dc37 pm37 an37 cd37 ct37), sl37⟩) (c37 : PySem.W.codeIn K cd37 "_law_roots_right" = true) (k37 : PySem.W.keepIn K (.ref f37) = true)
    (a38 : PySem.W.nsIn K mainGlobals "law" = some (some (.ref f38)))
    (l38 : K.lookup f38 = some ⟨oc38, od38, .func (PySem.W.fnOf "law" "law" (defArgs s_law) (defBody s_law) (defScope s_law) .none kV38 dc38 pm38 an38 cd38 ct38), sl38⟩) (c38 : PySem.W.codeIn K cd38 "law" = true) (k38 : PySem.W.keepIn K (.ref f38) = true)
    (z_len : PySem.W.nsIn K mainGlobals "len" = some none)
    (z_sum : PySem.W.nsIn K mainGlobals "sum" = some none)
    (z_range : PySem.W.nsIn K mainGlobals "range" = some none)
    (z_list : PySem.W.nsIn K mainGlobals "list" = some none)
    (z_enumerate : PySem.W.nsIn K mainGlobals "enumerate" = some none)
    (z_isinstance : PySem.W.nsIn K mainGlobals "isinstance" = some none)
    (z_int : PySem.W.nsIn K mainGlobals "int" = some none)
    (z_bool : PySem.W.nsIn K mainGlobals "bool" = some none)
    (z_all : PySem.W.nsIn K mainGlobals "all" = some none)
    (z_any : PySem.W.nsIn K mainGlobals "any" = some none)
    (z_max : PySem.W.nsIn K mainGlobals "max" = some none)
    (z_min : PySem.W.nsIn K mainGlobals "min" = some none)
    (z_sorted : PySem.W.nsIn K mainGlobals "sorted" = some none)
    (z_set : PySem.W.nsIn K mainGlobals "set" = some none)
    (z_reversed : PySem.W.nsIn K mainGlobals "reversed" = some none)
    (z_tuple : PySem.W.nsIn K mainGlobals "tuple" = some none)
    : ∃ fd : FuncData, (∀ (s : Shared) (v : Value), BindsTo s fd ⟨[v], []⟩ [("_law_script", v)]) ∧ ∀ base : Heap, K.In base → base.Ns mainGlobals mg → FnOk l.prog w K mg base CX0 6 fa fd ["_law_script"] (spLaw K) := by
  have e := hfa.symm.trans (PySem.W.mg_of X G a38)
  cases e
  have B : Bl mg := ⟨PySem.W.mg_none_of X G z_len, PySem.W.mg_none_of X G z_sum, PySem.W.mg_none_of X G z_range, PySem.W.mg_none_of X G z_list, PySem.W.mg_none_of X G z_enumerate, PySem.W.mg_none_of X G z_isinstance, PySem.W.mg_none_of X G z_int, PySem.W.mg_none_of X G z_bool, PySem.W.mg_none_of X G z_all, PySem.W.mg_none_of X G z_any, PySem.W.mg_none_of X G z_max, PySem.W.mg_none_of X G z_min, PySem.W.mg_none_of X G z_sorted, PySem.W.mg_none_of X G z_set, PySem.W.mg_none_of X G z_reversed, PySem.W.mg_none_of X G z_tuple⟩
  have C : Cl K mg (⟨qAnswer, qSteps, qShut, qMet, qApart, qRoot, qOdd⟩ : Cs) := ⟨⟨⟨pg_Answer, hd_Answer, po_Answer, sa_Answer⟩, PySem.W.mg_of X G g_Answer, ha_Answer, hn_, htk_, hm_Answer⟩, ⟨⟨pg_Steps, hd_Steps, po_Steps, sa_Steps⟩, PySem.W.mg_of X G g_Steps, ha_Steps, hn_, htk_, hm_Steps⟩, ⟨⟨pg_Shut, hd_Shut, po_Shut, sa_Shut⟩, PySem.W.mg_of X G g_Shut, ha_Shut, hn_, htk_, hm_Shut⟩, ⟨⟨pg_Met, hd_Met, po_Met, sa_Met⟩, PySem.W.mg_of X G g_Met, ha_Met, hn_, htk_, hm_Met⟩, ⟨⟨pg_Apart, hd_Apart, po_Apart, sa_Apart⟩, PySem.W.mg_of X G g_Apart, ha_Apart, hn_, htk_, hm_Apart⟩, ⟨⟨pg_Root, hd_Root, po_Root, sa_Root⟩, PySem.W.mg_of X G g_Root, ha_Root, hn_, htk_, hm_Root⟩, ⟨⟨pg_Odd, hd_Odd, po_Odd, sa_Odd⟩, PySem.W.mg_of X G g_Odd, ha_Odd, hn_, htk_, hm_Odd⟩, na_Steps_many, k_Steps_Answer, k_Steps_Steps, k_Steps_Shut, k_Steps_Met, k_Steps_Apart, k_Steps_Root, k_Steps_Odd, na_Shut_places, k_Shut_Answer, k_Shut_Steps, k_Shut_Shut, k_Shut_Met, k_Shut_Apart, k_Shut_Root, k_Shut_Odd, na_Met_mine, na_Met_theirs, k_Met_Answer, k_Met_Steps, k_Met_Shut, k_Met_Met, k_Met_Apart, k_Met_Root, k_Met_Odd, na_Apart_places, k_Apart_Answer, k_Apart_Steps, k_Apart_Shut, k_Apart_Met, k_Apart_Apart, k_Apart_Root, k_Apart_Odd, na_Root_leading, k_Root_Answer, k_Root_Steps, k_Root_Shut, k_Root_Met, k_Root_Apart, k_Root_Root, k_Root_Odd, na_Odd_length, na_Odd_rings, k_Odd_Answer, k_Odd_Steps, k_Odd_Shut, k_Odd_Met, k_Odd_Apart, k_Odd_Root, k_Odd_Odd⟩
  have F0 := fun_mk (st := s_is_number) l0 c0 k0
  have F1 := fun_mk (st := s_asked_back) l1 c1 k1
  have F2 := fun_mk (st := s_done) l2 c2 k2
  have F3 := fun_mk (st := s_is_place) l3 c3 k3
  have F4 := fun_mk (st := s_Steps___init__) l4 c4 k4
  have F5 := fun_mk (st := s_Shut___init__) l5 c5 k5
  have F6 := fun_mk (st := s_Met___init__) l6 c6 k6
  have F7 := fun_mk (st := s_Apart___init__) l7 c7 k7
  have F8 := fun_mk (st := s_Root___init__) l8 c8 k8
  have F9 := fun_mk (st := s_Odd___init__) l9 c9 k9
  have F10 := fun_mk (st := s_Odd_shows) l10 c10 k10
  have F11 := fun_mk (st := s_waits_of) l11 c11 k11
  have F12 := fun_mk (st := s_walked) l12 c12 k12
  have F13 := fun_mk (st := s_braid) l13 c13 k13
  have F14 := fun_mk (st := s_halve) l14 c14 k14
  have F15 := fun_mk (st := s_law_leading) l15 c15 k15
  have F16 := fun_mk (st := s_law_after) l16 c16 k16
  have F17 := fun_mk (st := s_law_back) l17 c17 k17
  have F18 := fun_mk (st := s_law_rings) l18 c18 k18
  have F19 := fun_mk (st := s_law_says) l19 c19 k19
  have F20 := fun_mk (st := s_law_shut) l20 c20 k20
  have F21 := fun_mk (st := s_law_bent) l21 c21 k21
  have F22 := fun_mk (st := s_asked_leading) l22 c22 k22
  have F23 := fun_mk (st := s_asked_place) l23 c23 k23
  have F24 := fun_mk (st := s_Steps_shows) l24 c24 k24
  have F25 := fun_mk (st := s_Shut_shows) l25 c25 k25
  have F26 := fun_mk (st := s_Met_shows) l26 c26 k26
  have F27 := fun_mk (st := s_Apart_shows) l27 c27 k27
  have F28 := fun_mk (st := s_Root_shows) l28 c28 k28
  have F29 := fun_mk (st := s_rings_of) l29 c29 k29
  have F30 := fun_mk (st := s_herd_of) l30 c30 k30
  have F31 := fun_mk (st := s_law_apart) l31 c31 k31
  have F32 := fun_mk (st := s_reached) l32 c32 k32
  have F33 := fun_mk (st := s_comes) l33 c33 k33
  have F34 := fun_mk (st := s_by_length) l34 c34 k34
  have F35 := fun_mk (st := s_root) l35 c35 k35
  have F36 := fun_mk (st := s_law_ways_right) l36 c36 k36
  have F37 := fun_mk (st := s_law_roots_right) l37 c37 k37
  have F38 := fun_mk (st := s_law) l38 c38 k38
  refine ⟨PySem.W.fnOf "law" "law" (defArgs s_law) (defBody s_law) (defScope s_law) .none kV38 dc38 pm38 an38 cd38 ct38, fun s v => .of_eq rfl, fun base _ _ => ?_⟩
  have D_is_number : Dk l.prog w K mg base CX0 1 "is_number" ["thing", "least", "most"] spIsNum := ⟨_, _, ok_is_number F0 B, PySem.W.mg_of X G a0, k0, F0.binds fun _ _ _ _ _ _ us hl => match us, hl with | [_, _, _], _ => rfl⟩
  have D_asked_back : Dk l.prog w K mg base CX0 1 "asked_back" ["leading"] spAskedB := ⟨_, _, ok_asked_back F1 B, PySem.W.mg_of X G a1, k1, F1.binds fun _ _ _ _ _ _ us hl => match us, hl with | [_], _ => rfl⟩
  have D_done : Dk l.prog w K mg base CX0 1 "done" ["leading", "steps"] spDone := ⟨_, _, ok_done F2 B, PySem.W.mg_of X G a2, k2, F2.binds fun _ _ _ _ _ _ us hl => match us, hl with | [_, _], _ => rfl⟩
  have D_is_place : Dk l.prog w K mg base CX0 1 "is_place" ["leading", "place"] spIsPlace := ⟨_, _, ok_is_place F3 B, PySem.W.mg_of X G a3, k3, F3.binds fun _ _ _ _ _ _ us hl => match us, hl with | [_, _], _ => rfl⟩
  have I_Steps : Cn l.prog w K mg base CX0 1 "Steps" qSteps ["self", "many"] (spInit1 qSteps "many") := ⟨⟨_, _, ok_Steps___init__ F4 C, ⟨mk_Steps, a4, i4, kp_Steps⟩, F4.binds fun _ _ _ _ _ _ us hl => match us, hl with | [_, _], _ => rfl⟩, PySem.W.mg_of X G g_Steps⟩
  have I_Shut : Cn l.prog w K mg base CX0 1 "Shut" qShut ["self", "places"] (spInitL K qShut "places") := ⟨⟨_, _, ok_Shut___init__ F5 B C, ⟨mk_Shut, a5, i5, kp_Shut⟩, F5.binds fun _ _ _ _ _ _ us hl => match us, hl with | [_, _], _ => rfl⟩, PySem.W.mg_of X G g_Shut⟩
  have I_Met : Cn l.prog w K mg base CX0 1 "Met" qMet ["self", "mine", "theirs"] (spInitM qMet) := ⟨⟨_, _, ok_Met___init__ F6 C, ⟨mk_Met, a6, i6, kp_Met⟩, F6.binds fun _ _ _ _ _ _ us hl => match us, hl with | [_, _, _], _ => rfl⟩, PySem.W.mg_of X G g_Met⟩
  have I_Apart : Cn l.prog w K mg base CX0 1 "Apart" qApart ["self", "places"] (spInitL K qApart "places") := ⟨⟨_, _, ok_Apart___init__ F7 B C, ⟨mk_Apart, a7, i7, kp_Apart⟩, F7.binds fun _ _ _ _ _ _ us hl => match us, hl with | [_, _], _ => rfl⟩, PySem.W.mg_of X G g_Apart⟩
  have I_Root : Cn l.prog w K mg base CX0 1 "Root" qRoot ["self", "leading"] (spInitL K qRoot "leading") := ⟨⟨_, _, ok_Root___init__ F8 B C, ⟨mk_Root, a8, i8, kp_Root⟩, F8.binds fun _ _ _ _ _ _ us hl => match us, hl with | [_, _], _ => rfl⟩, PySem.W.mg_of X G g_Root⟩
  have I_Odd : Cn l.prog w K mg base CX0 1 "Odd" qOdd ["self", "length", "rings"] (spInitO K qOdd) := ⟨⟨_, _, ok_Odd___init__ F9 B C, ⟨mk_Odd, a9, i9, kp_Odd⟩, F9.binds fun _ _ _ _ _ _ us hl => match us, hl with | [_, _, _], _ => rfl⟩, PySem.W.mg_of X G g_Odd⟩
  have M_Odd_shows : Mt l.prog w K mg base CX0 1 qOdd "shows" ["self", "leading"] (spOddShows K qOdd) := ⟨_, _, ok_Odd_shows F10 B C, ⟨a10, i10, k10⟩, F10.binds fun _ _ _ _ _ _ us hl => match us, hl with | [_, _], _ => rfl⟩
  have D_waits_of : Dk l.prog w K mg base CX0 1 "waits_of" ["leading"] spWaitsOf := ⟨_, _, ok_waits_of F11 B, PySem.W.mg_of X G a11, k11, F11.binds fun _ _ _ _ _ _ us hl => match us, hl with | [_], _ => rfl⟩
  have D_walked : Dk l.prog w K mg base CX0 1 "walked" ["leading", "place"] spWalked := ⟨_, _, ok_walked F12, PySem.W.mg_of X G a12, k12, F12.binds fun _ _ _ _ _ _ us hl => match us, hl with | [_, _], _ => rfl⟩
  have D_braid : Dk l.prog w K mg base CX0 1 "braid" ["found", "one", "other"] (spBraid K) := ⟨_, _, ok_braid F13 B, PySem.W.mg_of X G a13, k13, F13.binds fun _ _ _ _ _ _ us hl => match us, hl with | [_, _, _], _ => rfl⟩
  have D_halve : Dk l.prog w K mg base CX0 1 "halve" ["found", "ring"] (spHalve K) := ⟨_, _, ok_halve F14 B, PySem.W.mg_of X G a14, k14, F14.binds fun _ _ _ _ _ _ us hl => match us, hl with | [_, _], _ => rfl⟩
  have D_law_leading : Dk l.prog w K mg base CX0 1 "_law_leading" ["_law_script"] (spLLead K) := ⟨_, _, ok_law_leading F15 B, PySem.W.mg_of X G a15, k15, F15.binds fun _ _ _ _ _ _ us hl => match us, hl with | [_], _ => rfl⟩
  have D_law_after : Dk l.prog w K mg base CX0 1 "_law_after" ["_law_leading_here", "_law_place", "_law_steps"] spLAfter := ⟨_, _, ok_law_after F16 B, PySem.W.mg_of X G a16, k16, F16.binds fun _ _ _ _ _ _ us hl => match us, hl with | [_, _, _], _ => rfl⟩
  have D_law_back : Dk l.prog w K mg base CX0 1 "_law_back" ["_law_script"] (spLBack K) := ⟨_, _, ok_law_back F17 B, PySem.W.mg_of X G a17, k17, F17.binds fun _ _ _ _ _ _ us hl => match us, hl with | [_], _ => rfl⟩
  have D_law_rings : Dk l.prog w K mg base CX0 1 "_law_rings" ["_law_leading_here", "_law_length"] spLRingsL := ⟨_, _, ok_law_rings F18 B, PySem.W.mg_of X G a18, k18, F18.binds fun _ _ _ _ _ _ us hl => match us, hl with | [_, _], _ => rfl⟩
  have D_law_says : Dk l.prog w K mg base CX0 1 "_law_says" ["_law_said", "_law_due"] spLSays := ⟨_, _, ok_law_says F19 B, PySem.W.mg_of X G a19, k19, F19.binds fun _ _ _ _ _ _ us hl => match us, hl with | [_, _], _ => rfl⟩
  have D_law_shut : Dk l.prog w K mg base CX0 1 "_law_shut" ["_law_leading_here", "_law_one", "_law_other", "_law_places"] (spLShut K) := ⟨_, _, ok_law_shut F20 B, PySem.W.mg_of X G a20, k20, F20.binds fun _ _ _ _ _ _ us hl => match us, hl with | [_, _, _, _], _ => rfl⟩
  have D_law_bent : Dk l.prog w K mg base CX0 1 "_law_bent" ["_law_some", "_law_cell", "_law_more"] (spLBent K) := ⟨_, _, ok_law_bent F21 B, PySem.W.mg_of X G a21, k21, F21.binds fun _ _ _ _ _ _ us hl => match us, hl with | [_, _, _], _ => rfl⟩
  have D_asked_leading : Dk l.prog w K mg base CX0 2 "asked_leading" ["leading"] spAskedL := ⟨_, _, ok_asked_leading F22 B D_is_number, PySem.W.mg_of X G a22, k22, F22.binds fun _ _ _ _ _ _ us hl => match us, hl with | [_], _ => rfl⟩
  have D_asked_place : Dk l.prog w K mg base CX0 2 "asked_place" ["leading", "place"] spAskedP := ⟨_, _, ok_asked_place F23 B D_is_number, PySem.W.mg_of X G a23, k23, F23.binds fun _ _ _ _ _ _ us hl => match us, hl with | [_, _], _ => rfl⟩
  have M_Steps_shows : Mt l.prog w K mg base CX0 2 qSteps "shows" ["self", "leading", "one", "other"] (spStepsShows qSteps) := ⟨_, _, ok_Steps_shows F24 C D_done, ⟨a24, i24, k24⟩, F24.binds fun _ _ _ _ _ _ us hl => match us, hl with | [_, _, _, _], _ => rfl⟩
  have M_Shut_shows : Mt l.prog w K mg base CX0 2 qShut "shows" ["self", "leading", "one", "other"] (spShutShows K qShut) := ⟨_, _, ok_Shut_shows F25 B C D_is_place, ⟨a25, i25, k25⟩, F25.binds fun _ _ _ _ _ _ us hl => match us, hl with | [_, _, _, _], _ => rfl⟩
  have M_Met_shows : Mt l.prog w K mg base CX0 2 qMet "shows" ["self", "leading", "one", "other"] (spMetShows qMet) := ⟨_, _, ok_Met_shows F26 C D_done, ⟨a26, i26, k26⟩, F26.binds fun _ _ _ _ _ _ us hl => match us, hl with | [_, _, _, _], _ => rfl⟩
  have M_Apart_shows : Mt l.prog w K mg base CX0 2 qApart "shows" ["self", "leading", "one", "other"] (spApartShows K qApart) := ⟨_, _, ok_Apart_shows F27 B C D_is_place, ⟨a27, i27, k27⟩, F27.binds fun _ _ _ _ _ _ us hl => match us, hl with | [_, _, _, _], _ => rfl⟩
  have M_Root_shows : Mt l.prog w K mg base CX0 2 qRoot "shows" ["self", "leading"] (spRootShows K qRoot) := ⟨_, _, ok_Root_shows F28 B C D_is_place, ⟨a28, i28, k28⟩, F28.binds fun _ _ _ _ _ _ us hl => match us, hl with | [_, _], _ => rfl⟩
  have D_rings_of : Dk l.prog w K mg base CX0 2 "rings_of" ["leading"] spRingsOf := ⟨_, _, ok_rings_of F29 B D_waits_of, PySem.W.mg_of X G a29, k29, F29.binds fun _ _ _ _ _ _ us hl => match us, hl with | [_], _ => rfl⟩
  have D_herd_of : Dk l.prog w K mg base CX0 2 "herd_of" ["leading", "place"] spHerd := ⟨_, _, ok_herd_of F30 B D_walked, PySem.W.mg_of X G a30, k30, F30.binds fun _ _ _ _ _ _ us hl => match us, hl with | [_, _], _ => rfl⟩
  have D_law_apart : Dk l.prog w K mg base CX0 2 "_law_apart" ["_law_leading_here", "_law_one", "_law_other", "_law_places"] (spLApart K) := ⟨_, _, ok_law_apart F31 B D_law_shut, PySem.W.mg_of X G a31, k31, F31.binds fun _ _ _ _ _ _ us hl => match us, hl with | [_, _, _, _], _ => rfl⟩
  have D_reached : Dk l.prog w K mg base CX0 3 "reached" ["leading", "one", "other"] (spReached (⟨qAnswer, qSteps, qShut, qMet, qApart, qRoot, qOdd⟩ : Cs)) := ⟨_, _, ok_reached F32 B C D_asked_leading D_asked_place D_walked I_Steps I_Shut, PySem.W.mg_of X G a32, k32, F32.binds fun _ _ _ _ _ _ us hl => match us, hl with | [_, _, _], _ => rfl⟩
  have D_comes : Dk l.prog w K mg base CX0 3 "comes" ["leading", "one", "other"] (spComes (⟨qAnswer, qSteps, qShut, qMet, qApart, qRoot, qOdd⟩ : Cs)) := ⟨_, _, ok_comes F33 B D_asked_leading D_asked_place D_walked D_herd_of I_Met I_Apart, PySem.W.mg_of X G a33, k33, F33.binds fun _ _ _ _ _ _ us hl => match us, hl with | [_, _, _], _ => rfl⟩
  have D_by_length : Dk l.prog w K mg base CX0 3 "by_length" ["leading"] spByLen := ⟨_, _, ok_by_length F34 B D_rings_of, PySem.W.mg_of X G a34, k34, F34.binds fun _ _ _ _ _ _ us hl => match us, hl with | [_], _ => rfl⟩
  have D_root : Dk l.prog w K mg base CX0 4 "root" ["leading"] (spRoot (⟨qAnswer, qSteps, qShut, qMet, qApart, qRoot, qOdd⟩ : Cs)) := ⟨_, _, ok_root F35 B C D_asked_leading D_asked_back D_by_length D_braid D_halve I_Odd I_Root, PySem.W.mg_of X G a35, k35, F35.binds fun _ _ _ _ _ _ us hl => match us, hl with | [_], _ => rfl⟩
  have D_law_ways_right : Dk l.prog w K mg base CX0 4 "_law_ways_right" ["_law_leading_here", "_law_cell"] spLWays := ⟨_, _, ok_law_ways_right F36 B C D_law_after D_law_says D_law_bent D_law_shut D_law_apart D_reached D_comes I_Steps I_Met I_Shut I_Apart M_Steps_shows M_Met_shows M_Shut_shows M_Apart_shows, PySem.W.mg_of X G a36, k36, F36.binds fun _ _ _ _ _ _ us hl => match us, hl with | [_, _], _ => rfl⟩
  have D_law_roots_right : Dk l.prog w K mg base CX0 5 "_law_roots_right" ["_law_leading_here", "_law_cell"] spLRoots := ⟨_, _, ok_law_roots_right F37 B C D_law_says D_law_bent D_law_rings D_root I_Odd I_Root M_Root_shows M_Odd_shows, PySem.W.mg_of X G a37, k37, F37.binds fun _ _ _ _ _ _ us hl => match us, hl with | [_, _], _ => rfl⟩
  exact ok_law F38 B C D_law_leading D_law_back D_law_says D_law_ways_right D_law_roots_right I_Odd I_Root M_Root_shows M_Odd_shows
end Ld
open PySem PySem.W PyProof.Rows
set_option maxRecDepth 100000 in
set_option maxHeartbeats 0 in
theorem PySem.Challenge.cw_leadson_k07_answers_by_hand_holds : PySem.Challenge.rw_leadson_k07_answers_by_hand.Holds := by
  w_on; o_law; k_head; (case hw => w_witness2)
  k_fill
  refine L2.walk_of (l := PySem.Challenge.rw_leadson_k07_answers_by_hand) (n := 63) (k := 6) (x := "_law_script") (CX := fun _ => L2.CX0) (sp := fun w => Ld.spLaw _) rfl (by decide) rfl ⟨rfl, by decide, by decide⟩ (fun w h Y => PySem.W.kIn_of Y) ?F (fun _ _ a ns hl _ hS => ⟨a, ns, rfl, hS, hl, fun _ => rfl⟩) (fun _ _ _ _ _ h => h)
  case F =>
    intro w mg fa h KX G hmg
    refine' Ld.all_mk KX G hmg ?g_Answer ?pg_Answer ?hd_Answer ?po_Answer ?sa_Answer ?ha_Answer ?hm_Answer ?mk_Answer ?kp_Answer ?g_Steps ?pg_Steps ?hd_Steps ?po_Steps ?sa_Steps ?ha_Steps ?hm_Steps ?mk_Steps ?kp_Steps ?g_Shut ?pg_Shut ?hd_Shut ?po_Shut ?sa_Shut ?ha_Shut ?hm_Shut ?mk_Shut ?kp_Shut ?g_Met ?pg_Met ?hd_Met ?po_Met ?sa_Met ?ha_Met ?hm_Met ?mk_Met ?kp_Met ?g_Apart ?pg_Apart ?hd_Apart ?po_Apart ?sa_Apart ?ha_Apart ?hm_Apart ?mk_Apart ?kp_Apart ?g_Root ?pg_Root ?hd_Root ?po_Root ?sa_Root ?ha_Root ?hm_Root ?mk_Root ?kp_Root ?g_Odd ?pg_Odd ?hd_Odd ?po_Odd ?sa_Odd ?ha_Odd ?hm_Odd ?mk_Odd ?kp_Odd ?hn_ ?htk_ ?na_Steps_many ?k_Steps_Answer ?k_Steps_Steps ?k_Steps_Shut ?k_Steps_Met ?k_Steps_Apart ?k_Steps_Root ?k_Steps_Odd ?na_Shut_places ?k_Shut_Answer ?k_Shut_Steps ?k_Shut_Shut ?k_Shut_Met ?k_Shut_Apart ?k_Shut_Root ?k_Shut_Odd ?na_Met_mine ?na_Met_theirs ?k_Met_Answer ?k_Met_Steps ?k_Met_Shut ?k_Met_Met ?k_Met_Apart ?k_Met_Root ?k_Met_Odd ?na_Apart_places ?k_Apart_Answer ?k_Apart_Steps ?k_Apart_Shut ?k_Apart_Met ?k_Apart_Apart ?k_Apart_Root ?k_Apart_Odd ?na_Root_leading ?k_Root_Answer ?k_Root_Steps ?k_Root_Shut ?k_Root_Met ?k_Root_Apart ?k_Root_Root ?k_Root_Odd ?na_Odd_length ?na_Odd_rings ?k_Odd_Answer ?k_Odd_Steps ?k_Odd_Shut ?k_Odd_Met ?k_Odd_Apart ?k_Odd_Root ?k_Odd_Odd ?a0 ?l0 ?c0 ?k0 ?a1 ?l1 ?c1 ?k1 ?a2 ?l2 ?c2 ?k2 ?a3 ?l3 ?c3 ?k3 ?a4 ?i4 ?l4 ?c4 ?k4 ?a5 ?i5 ?l5 ?c5 ?k5 ?a6 ?i6 ?l6 ?c6 ?k6 ?a7 ?i7 ?l7 ?c7 ?k7 ?a8 ?i8 ?l8 ?c8 ?k8 ?a9 ?i9 ?l9 ?c9 ?k9 ?a10 ?i10 ?l10 ?c10 ?k10 ?a11 ?l11 ?c11 ?k11 ?a12 ?l12 ?c12 ?k12 ?a13 ?l13 ?c13 ?k13 ?a14 ?l14 ?c14 ?k14 ?a15 ?l15 ?c15 ?k15 ?a16 ?l16 ?c16 ?k16 ?a17 ?l17 ?c17 ?k17 ?a18 ?l18 ?c18 ?k18 ?a19 ?l19 ?c19 ?k19 ?a20 ?l20 ?c20 ?k20 ?a21 ?l21 ?c21 ?k21 ?a22 ?l22 ?c22 ?k22 ?a23 ?l23 ?c23 ?k23 ?a24 ?i24 ?l24 ?c24 ?k24 ?a25 ?i25 ?l25 ?c25 ?k25 ?a26 ?i26 ?l26 ?c26 ?k26 ?a27 ?i27 ?l27 ?c27 ?k27 ?a28 ?i28 ?l28 ?c28 ?k28 ?a29 ?l29 ?c29 ?k29 ?a30 ?l30 ?c30 ?k30 ?a31 ?l31 ?c31 ?k31 ?a32 ?l32 ?c32 ?k32 ?a33 ?l33 ?c33 ?k33 ?a34 ?l34 ?c34 ?k34 ?a35 ?l35 ?c35 ?k35 ?a36 ?l36 ?c36 ?k36 ?a37 ?l37 ?c37 ?k37 ?a38 ?l38 ?c38 ?k38 ?z_len ?z_sum ?z_range ?z_list ?z_enumerate ?z_isinstance ?z_int ?z_bool ?z_all ?z_any ?z_max ?z_min ?z_sorted ?z_set ?z_reversed ?z_tuple
    (case g_Answer => k_is)
    (case pg_Answer => k_is)
    (case hd_Answer => k_is)
    (case po_Answer => k_is)
    (case sa_Answer => k_is)
    (case ha_Answer => k_is)
    (case hm_Answer => k_is)
    (case mk_Answer => k_is)
    (case kp_Answer => k_is)
    (case g_Steps => k_is)
    (case pg_Steps => k_is)
    (case hd_Steps => k_is)
    (case po_Steps => k_is)
    (case sa_Steps => k_is)
    (case ha_Steps => k_is)
    (case hm_Steps => k_is)
    (case mk_Steps => k_is)
    (case kp_Steps => k_is)
    (case g_Shut => k_is)
    (case pg_Shut => k_is)
    (case hd_Shut => k_is)
    (case po_Shut => k_is)
    (case sa_Shut => k_is)
    (case ha_Shut => k_is)
    (case hm_Shut => k_is)
    (case mk_Shut => k_is)
    (case kp_Shut => k_is)
    (case g_Met => k_is)
    (case pg_Met => k_is)
    (case hd_Met => k_is)
    (case po_Met => k_is)
    (case sa_Met => k_is)
    (case ha_Met => k_is)
    (case hm_Met => k_is)
    (case mk_Met => k_is)
    (case kp_Met => k_is)
    (case g_Apart => k_is)
    (case pg_Apart => k_is)
    (case hd_Apart => k_is)
    (case po_Apart => k_is)
    (case sa_Apart => k_is)
    (case ha_Apart => k_is)
    (case hm_Apart => k_is)
    (case mk_Apart => k_is)
    (case kp_Apart => k_is)
    (case g_Root => k_is)
    (case pg_Root => k_is)
    (case hd_Root => k_is)
    (case po_Root => k_is)
    (case sa_Root => k_is)
    (case ha_Root => k_is)
    (case hm_Root => k_is)
    (case mk_Root => k_is)
    (case kp_Root => k_is)
    (case g_Odd => k_is)
    (case pg_Odd => k_is)
    (case hd_Odd => k_is)
    (case po_Odd => k_is)
    (case sa_Odd => k_is)
    (case ha_Odd => k_is)
    (case hm_Odd => k_is)
    (case mk_Odd => k_is)
    (case kp_Odd => k_is)
    (case hn_ => k_is)
    (case htk_ => k_is)
    (case na_Steps_many => k_is)
    (case k_Steps_Answer => kit_is)
    (case k_Steps_Steps => kit_is)
    (case k_Steps_Shut => kit_is)
    (case k_Steps_Met => kit_is)
    (case k_Steps_Apart => kit_is)
    (case k_Steps_Root => kit_is)
    (case k_Steps_Odd => kit_is)
    (case na_Shut_places => k_is)
    (case k_Shut_Answer => kit_is)
    (case k_Shut_Steps => kit_is)
    (case k_Shut_Shut => kit_is)
    (case k_Shut_Met => kit_is)
    (case k_Shut_Apart => kit_is)
    (case k_Shut_Root => kit_is)
    (case k_Shut_Odd => kit_is)
    (case na_Met_mine => k_is)
    (case na_Met_theirs => k_is)
    (case k_Met_Answer => kit_is)
    (case k_Met_Steps => kit_is)
    (case k_Met_Shut => kit_is)
    (case k_Met_Met => kit_is)
    (case k_Met_Apart => kit_is)
    (case k_Met_Root => kit_is)
    (case k_Met_Odd => kit_is)
    (case na_Apart_places => k_is)
    (case k_Apart_Answer => kit_is)
    (case k_Apart_Steps => kit_is)
    (case k_Apart_Shut => kit_is)
    (case k_Apart_Met => kit_is)
    (case k_Apart_Apart => kit_is)
    (case k_Apart_Root => kit_is)
    (case k_Apart_Odd => kit_is)
    (case na_Root_leading => k_is)
    (case k_Root_Answer => kit_is)
    (case k_Root_Steps => kit_is)
    (case k_Root_Shut => kit_is)
    (case k_Root_Met => kit_is)
    (case k_Root_Apart => kit_is)
    (case k_Root_Root => kit_is)
    (case k_Root_Odd => kit_is)
    (case na_Odd_length => k_is)
    (case na_Odd_rings => k_is)
    (case k_Odd_Answer => kit_is)
    (case k_Odd_Steps => kit_is)
    (case k_Odd_Shut => kit_is)
    (case k_Odd_Met => kit_is)
    (case k_Odd_Apart => kit_is)
    (case k_Odd_Root => kit_is)
    (case k_Odd_Odd => kit_is)
    (case a0 => k_is)
    (case l0 => k_is)
    (case c0 => k_is)
    (case k0 => k_is)
    (case a1 => k_is)
    (case l1 => k_is)
    (case c1 => k_is)
    (case k1 => k_is)
    (case a2 => k_is)
    (case l2 => k_is)
    (case c2 => k_is)
    (case k2 => k_is)
    (case a3 => k_is)
    (case l3 => k_is)
    (case c3 => k_is)
    (case k3 => k_is)
    (case a4 => k_is)
    (case i4 => k_is)
    (case l4 => k_is)
    (case c4 => k_is)
    (case k4 => k_is)
    (case a5 => k_is)
    (case i5 => k_is)
    (case l5 => k_is)
    (case c5 => k_is)
    (case k5 => k_is)
    (case a6 => k_is)
    (case i6 => k_is)
    (case l6 => k_is)
    (case c6 => k_is)
    (case k6 => k_is)
    (case a7 => k_is)
    (case i7 => k_is)
    (case l7 => k_is)
    (case c7 => k_is)
    (case k7 => k_is)
    (case a8 => k_is)
    (case i8 => k_is)
    (case l8 => k_is)
    (case c8 => k_is)
    (case k8 => k_is)
    (case a9 => k_is)
    (case i9 => k_is)
    (case l9 => k_is)
    (case c9 => k_is)
    (case k9 => k_is)
    (case a10 => k_is)
    (case i10 => k_is)
    (case l10 => k_is)
    (case c10 => k_is)
    (case k10 => k_is)
    (case a11 => k_is)
    (case l11 => k_is)
    (case c11 => k_is)
    (case k11 => k_is)
    (case a12 => k_is)
    (case l12 => k_is)
    (case c12 => k_is)
    (case k12 => k_is)
    (case a13 => k_is)
    (case l13 => k_is)
    (case c13 => k_is)
    (case k13 => k_is)
    (case a14 => k_is)
    (case l14 => k_is)
    (case c14 => k_is)
    (case k14 => k_is)
    (case a15 => k_is)
    (case l15 => k_is)
    (case c15 => k_is)
    (case k15 => k_is)
    (case a16 => k_is)
    (case l16 => k_is)
    (case c16 => k_is)
    (case k16 => k_is)
    (case a17 => k_is)
    (case l17 => k_is)
    (case c17 => k_is)
    (case k17 => k_is)
    (case a18 => k_is)
    (case l18 => k_is)
    (case c18 => k_is)
    (case k18 => k_is)
    (case a19 => k_is)
    (case l19 => k_is)
    (case c19 => k_is)
    (case k19 => k_is)
    (case a20 => k_is)
    (case l20 => k_is)
    (case c20 => k_is)
    (case k20 => k_is)
    (case a21 => k_is)
    (case l21 => k_is)
    (case c21 => k_is)
    (case k21 => k_is)
    (case a22 => k_is)
    (case l22 => k_is)
    (case c22 => k_is)
    (case k22 => k_is)
    (case a23 => k_is)
    (case l23 => k_is)
    (case c23 => k_is)
    (case k23 => k_is)
    (case a24 => k_is)
    (case i24 => k_is)
    (case l24 => k_is)
    (case c24 => k_is)
    (case k24 => k_is)
    (case a25 => k_is)
    (case i25 => k_is)
    (case l25 => k_is)
    (case c25 => k_is)
    (case k25 => k_is)
    (case a26 => k_is)
    (case i26 => k_is)
    (case l26 => k_is)
    (case c26 => k_is)
    (case k26 => k_is)
    (case a27 => k_is)
    (case i27 => k_is)
    (case l27 => k_is)
    (case c27 => k_is)
    (case k27 => k_is)
    (case a28 => k_is)
    (case i28 => k_is)
    (case l28 => k_is)
    (case c28 => k_is)
    (case k28 => k_is)
    (case a29 => k_is)
    (case l29 => k_is)
    (case c29 => k_is)
    (case k29 => k_is)
    (case a30 => k_is)
    (case l30 => k_is)
    (case c30 => k_is)
    (case k30 => k_is)
    (case a31 => k_is)
    (case l31 => k_is)
    (case c31 => k_is)
    (case k31 => k_is)
    (case a32 => k_is)
    (case l32 => k_is)
    (case c32 => k_is)
    (case k32 => k_is)
    (case a33 => k_is)
    (case l33 => k_is)
    (case c33 => k_is)
    (case k33 => k_is)
    (case a34 => k_is)
    (case l34 => k_is)
    (case c34 => k_is)
    (case k34 => k_is)
    (case a35 => k_is)
    (case l35 => k_is)
    (case c35 => k_is)
    (case k35 => k_is)
    (case a36 => k_is)
    (case l36 => k_is)
    (case c36 => k_is)
    (case k36 => k_is)
    (case a37 => k_is)
    (case l37 => k_is)
    (case c37 => k_is)
    (case k37 => k_is)
    (case a38 => k_is)
    (case l38 => k_is)
    (case c38 => k_is)
    (case k38 => k_is)
    (case z_len => k_is)
    (case z_sum => k_is)
    (case z_range => k_is)
    (case z_list => k_is)
    (case z_enumerate => k_is)
    (case z_isinstance => k_is)
    (case z_int => k_is)
    (case z_bool => k_is)
    (case z_all => k_is)
    (case z_any => k_is)
    (case z_max => k_is)
    (case z_min => k_is)
    (case z_sorted => k_is)
    (case z_set => k_is)
    (case z_reversed => k_is)
    (case z_tuple => k_is)
