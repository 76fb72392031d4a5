import PyProof.Rows.All
import Wide.All
import OpenK.AllK
import Wide.FinOn
import HandS.ForMost
import HandS.Evl
import HandS.IsInst
import HandS.SortInts
import HandS.Zip
import HandS.Style
import HandS.More
import HandS.SortKw
import KE.DataMinMax
import HandS.Strs
import HandS.SetFor
import HandS.Exc
import HandS.TryOnly
import HandS.ExcOwn
import HandS.ExcIs
import HandS.WordsExc
import PySem.Challenge.RW_leadson_k08_refused
set_option Elab.async false
set_option linter.all false
set_option maxRecDepth 100000
set_option maxHeartbeats 4000000
/-! Ma: leadings as lists of numbers: a step, many steps, done so often. Plain Lean. -/
namespace Ld
/-- one step -/
def st (L : List Nat) (p : Nat) : Nat := L.getD p 0
/-- so many steps -/
def it (L : List Nat) : Nat → Nat → Nat
  | 0, p => p
  | k + 1, p => it L k (st L p)
def Lead (L : List Nat) : Prop := ∀ x ∈ L, x < L.length
/-- done so often -/
def tm (L : List Nat) (k : Nat) : List Nat := (List.range L.length).map fun p => it L k p

theorem st_get {L : List Nat} {p : Nat} (h : p < L.length) : L[p]? = some (st L p) := by
  unfold st
  rw [List.getD_eq_getElem?_getD, List.getElem?_eq_getElem h]
  rfl
theorem st_eq {L : List Nat} {p : Nat} (h : p < L.length) : st L p = L[p] := by
  have e := st_get h
  rw [List.getElem?_eq_getElem h] at e
  exact (Option.some.inj e).symm
theorem st_mem {L : List Nat} {p : Nat} (h : p < L.length) : st L p ∈ L := by
  rw [st_eq h]
  exact List.getElem_mem h
theorem st_lt {L : List Nat} {p : Nat} (hL : Lead L) (h : p < L.length) : st L p < L.length := hL _ (st_mem h)
theorem it_lt {L : List Nat} (hL : Lead L) : ∀ (k : Nat) {p : Nat}, p < L.length → it L k p < L.length
  | 0, _, h => h
  | k + 1, _, h => it_lt hL k (st_lt hL h)
theorem it_add (L : List Nat) : ∀ (a b p : Nat), it L (a + b) p = it L b (it L a p)
  | 0, b, p => by rw [Nat.zero_add]; rfl
  | a + 1, b, p => by
    rw [show a + 1 + b = (a + b) + 1 by omega]
    show it L (a + b) (st L p) = it L b (it L a (st L p))
    exact it_add L a b _
theorem it_succ (L : List Nat) (k p : Nat) : it L (k + 1) p = st L (it L k p) := it_add L k 1 p
theorem tm_length (L : List Nat) (k : Nat) : (tm L k).length = L.length := by
  unfold tm
  rw [List.length_map, List.length_range]
theorem tm_get {L : List Nat} {k p : Nat} (h : p < L.length) : (tm L k)[p]? = some (it L k p) := by
  unfold tm
  rw [List.getElem?_map, List.getElem?_range h]
  rfl
theorem st_tm {L : List Nat} {k p : Nat} (h : p < L.length) : st (tm L k) p = it L k p := by
  have e := st_get (L := tm L k) (p := p) (by rw [tm_length]; exact h)
  rw [tm_get h] at e
  exact (Option.some.inj e).symm
theorem lead_tm {L : List Nat} (hL : Lead L) (k : Nat) : Lead (tm L k) := fun x hx => by
  rw [tm_length]
  unfold tm at hx
  obtain ⟨p, hp, rfl⟩ := List.mem_map.mp hx
  exact it_lt hL k (List.mem_range.mp hp)
theorem tm_zero (L : List Nat) : tm L 0 = List.range L.length := by
  unfold tm
  show List.map (fun p => p) _ = _
  rw [List.map_id']
theorem tm_one (L : List Nat) : tm L 1 = L := by
  refine List.ext_getElem? fun i => ?_
  by_cases h : i < L.length
  · rw [tm_get h, st_get h]
    rfl
  · rw [List.getElem?_eq_none (by rw [tm_length]; omega), List.getElem?_eq_none (by omega)]
/-- the one, then the other -/
theorem tm_then {L : List Nat} (hL : Lead L) (a b : Nat) : (tm L a).map (fun x => st (tm L b) x) = tm L (a + b) := by
  unfold tm
  rw [List.map_map]
  refine List.map_congr_left fun p hp => ?_
  have hp' := List.mem_range.mp hp
  show st (tm L b) (it L a p) = it L (a + b) p
  rw [st_tm (it_lt hL a hp'), it_add]
theorem it_tm {L : List Nat} (hL : Lead L) (a : Nat) : ∀ (b : Nat) {p : Nat}, p < L.length → it (tm L a) b p = it L (a * b) p
  | 0, _, _ => rfl
  | b + 1, p, h => by
    show it (tm L a) b (st (tm L a) p) = _
    rw [st_tm h, it_tm hL a b (it_lt hL a h), ← it_add, Nat.mul_succ, Nat.add_comm]
theorem tm_tm {L : List Nat} (hL : Lead L) (a b : Nat) : tm (tm L a) b = tm L (a * b) := by
  refine List.ext_getElem? fun i => ?_
  by_cases h : i < L.length
  · rw [tm_get (by rw [tm_length]; exact h), tm_get h, it_tm hL a b h]
  · rw [List.getElem?_eq_none (by rw [tm_length, tm_length]; omega), List.getElem?_eq_none (by rw [tm_length]; omega)]

/-! ### no more than n different numbers below n -/
theorem nodup_erase_len {n : Nat} : ∀ {l : List Nat}, l.Nodup → (∀ x ∈ l, x < n) → l.length ≤ n := by
  induction n with
  | zero =>
    intro l _ h
    cases l with
    | nil => exact Nat.le_refl 0
    | cons x r => exact absurd (h x (List.mem_cons_self ..)) (Nat.not_lt_zero x)
  | succ n ih =>
    intro l nd h
    have h1 : (l.erase n).length ≤ n := ih (nd.erase n) fun x hx => by
      have h2 := h x (List.mem_of_mem_erase hx)
      have h3 : x ≠ n := fun e => by
        subst e
        exact (nd.not_mem_erase) hx
      omega
    have h4 : l.length ≤ (l.erase n).length + 1 := by
      by_cases hm : n ∈ l
      · rw [List.length_erase_of_mem hm]
        omega
      · rw [List.erase_of_not_mem hm]
        omega
    omega
theorem nodup_len {n : Nat} {l : List Nat} (nd : l.Nodup) (h : ∀ x ∈ l, x < n) : l.length ≤ n := nodup_erase_len nd h
/-- injective by numbers: a list by a function -/
theorem nodup_of_inj {m : Nat} {f : Nat → Nat} (h : ∀ i j, i < j → j < m → f i ≠ f j) : ((List.range m).map f).Nodup := by
  rw [List.Nodup, List.pairwise_map]
  refine List.Pairwise.imp_of_mem (fun {a b} ha hb hab => ?_) List.pairwise_lt_range
  exact h a b hab (List.mem_range.mp hb)
theorem inj_of_nodup {m : Nat} {f : Nat → Nat} (h : ((List.range m).map f).Nodup) {i j : Nat} (hi : i < m) (hj : j < m) (e : f i = f j) : i = j := by
  have h1 : ((List.range m).map f)[i]? = some (f i) := by rw [List.getElem?_map, List.getElem?_range hi]; rfl
  have h2 : ((List.range m).map f)[j]? = some (f j) := by rw [List.getElem?_map, List.getElem?_range hj]; rfl
  obtain ⟨l1, e1⟩ := List.getElem?_eq_some_iff.mp h1
  obtain ⟨l2, e2⟩ := List.getElem?_eq_some_iff.mp h2
  exact (List.getElem_inj h).mp (e1.trans (e.trans e2.symm))

/-! ### once round: behind a first meeting all comes again -/
theorem it_period {L : List Nat} {p a d : Nat} (h : it L (a + d) p = it L a p) : ∀ k, it L (a + k * d) p = it L a p
  | 0 => by rw [Nat.zero_mul]; rfl
  | k + 1 => by
    rw [Nat.succ_mul, ← Nat.add_assoc, Nat.add_right_comm, it_add, h, ← it_add]
    exact it_period h k
theorem it_round {L : List Nat} {p a d : Nat} (h : it L (a + d) p = it L a p) (r : Nat) : it L (a + d + r % d) p = it L (a + d + r) p := by
  have e1 : r % d + d * (r / d) = r := Nat.mod_add_div r d
  have e2 : it L (a + d + r) p = it L (r % d) (it L (a + (1 + r / d) * d) p) := by
    rw [← it_add]
    congr 1
    rw [Nat.add_mul, Nat.one_mul, Nat.mul_comm (r / d) d]
    omega
  rw [e2, it_period h, it_add, h]
end Ld
/-! Mb: leadings that can be taken back: no place twice. Plain Lean. -/
namespace Ld
def Inj (L : List Nat) : Prop := ∀ a b, a < L.length → b < L.length → st L a = st L b → a = b
theorem inj_of {L : List Nat} (h : L.Nodup) : Inj L := fun a b ha hb e => by
  rw [st_eq ha, st_eq hb] at e
  exact (List.getElem_inj h).mp e
theorem nodup_of {L : List Nat} (h : Inj L) : L.Nodup := by
  rw [List.Nodup, List.pairwise_iff_getElem]
  intro i j hi hj hij e
  have := h i j hi hj (by rw [st_eq hi, st_eq hj]; exact e)
  omega
theorem surj {L : List Nat} (hL : Lead L) (nd : L.Nodup) {q : Nat} (hq : q < L.length) : q ∈ L := by
  refine Classical.byContradiction fun h => ?_
  have h1 := nodup_len (n := L.length) (l := q :: L) (List.nodup_cons.mpr ⟨h, nd⟩) fun x hx => by
    rcases List.mem_cons.mp hx with rfl | hx
    · exact hq
    · exact hL x hx
  rw [List.length_cons] at h1
  omega
theorem st_set {L : List Nat} {j x p : Nat} (hj : j < L.length) : st (L.set j x) p = if p = j then x else st L p := by
  unfold st
  rw [List.getD_eq_getElem?_getD, List.getD_eq_getElem?_getD, List.getElem?_set]
  by_cases e : p = j
  · subst e
    rw [if_pos rfl, if_pos hj, if_pos rfl]
    rfl
  · rw [if_neg fun q => e q.symm, if_neg e]
theorem set_self {L : List Nat} {j : Nat} (hj : j < L.length) : L.set j (st L j) = L := by
  refine List.ext_getElem? fun i => ?_
  rw [List.getElem?_set]
  by_cases e : j = i
  · subst e
    rw [if_pos rfl, if_pos hj, st_get hj]
  · rw [if_neg e]
/-- two places exchanged -/
theorem swap_inj {L : List Nat} (h : Inj L) {i j : Nat} (hi : i < L.length) (hj : j < L.length) : Inj ((L.set i (st L j)).set j (st L i)) := by
  have hs : ∀ p, st ((L.set i (st L j)).set j (st L i)) p = st L (if p = j then i else if p = i then j else p) := fun p => by
    rw [st_set (by rw [List.length_set]; exact hj)]
    by_cases e : p = j
    · rw [if_pos e, if_pos e]
    · rw [if_neg e, if_neg e, st_set hi]
      by_cases e2 : p = i
      · rw [if_pos e2, if_pos e2]
      · rw [if_neg e2, if_neg e2]
  intro a b ha hb e
  rw [List.length_set, List.length_set] at ha hb
  rw [hs, hs] at e
  have h1 := h _ _ (by split <;> (try split) <;> omega) (by split <;> (try split) <;> omega) e
  split at h1 <;> split at h1 <;> (try split at h1) <;> (try split at h1) <;> omega
/-! ### taken back -/
def inv (L : List Nat) : List Nat := (List.range L.length).map fun q => L.idxOf q
theorem inv_len (L : List Nat) : (inv L).length = L.length := by
  unfold inv
  rw [List.length_map, List.length_range]
theorem inv_st {L : List Nat} {q : Nat} (hq : q < L.length) : st (inv L) q = L.idxOf q := by
  have h := st_get (L := inv L) (p := q) (by rw [inv_len]; exact hq)
  unfold inv at h
  rw [List.getElem?_map, List.getElem?_range hq] at h
  exact (Option.some.inj h).symm
theorem idx_st {L : List Nat} (nd : L.Nodup) {p : Nat} (hp : p < L.length) : L.idxOf (st L p) = p := by
  rw [st_eq hp]
  exact nd.idxOf_getElem p hp
theorem st_idx {L : List Nat} {q : Nat} (h : q ∈ L) : st L (L.idxOf q) = q := by
  have h1 : L.idxOf q < L.length := List.idxOf_lt_length_iff.mpr h
  rw [st_eq h1]
  exact List.getElem_idxOf h1
theorem inv_back {L : List Nat} (hL : Lead L) (nd : L.Nodup) {p : Nat} (hp : p < L.length) : st (inv L) (st L p) = p := by
  rw [inv_st (st_lt hL hp), idx_st nd hp]
theorem inv_fwd {L : List Nat} (hL : Lead L) (nd : L.Nodup) {q : Nat} (hq : q < L.length) : st L (st (inv L) q) = q := by
  rw [inv_st hq, st_idx (surj hL nd hq)]
theorem inv_lead {L : List Nat} (hL : Lead L) (nd : L.Nodup) : Lead (inv L) := fun x hx => by
  rw [inv_len]
  unfold inv at hx
  obtain ⟨q, hq, rfl⟩ := List.mem_map.mp hx
  exact List.idxOf_lt_length_iff.mpr (surj hL nd (List.mem_range.mp hq))
theorem inv_nodup {L : List Nat} (hL : Lead L) (nd : L.Nodup) : (inv L).Nodup := by
  refine nodup_of fun a b ha hb e => ?_
  rw [inv_len] at ha hb
  have h1 := inv_fwd hL nd ha
  rw [e, inv_fwd hL nd hb] at h1
  exact h1.symm
theorem ext_st {A B : List Nat} (hl : A.length = B.length) (h : ∀ p, p < A.length → st A p = st B p) : A = B := by
  refine List.ext_getElem? fun i => ?_
  by_cases hi : i < A.length
  · rw [st_get hi, st_get (by omega), h i hi]
  · rw [List.getElem?_eq_none (by omega), List.getElem?_eq_none (by omega)]
theorem inv_inv {L : List Nat} (hL : Lead L) (nd : L.Nodup) : inv (inv L) = L := by
  refine ext_st (by rw [inv_len, inv_len]) fun p hp => ?_
  rw [inv_len, inv_len] at hp
  have h1 := inv_back (inv_lead hL nd) (inv_nodup hL nd) (p := st L p) (by rw [inv_len]; exact st_lt hL hp)
  rw [inv_back hL nd hp] at h1
  exact h1
theorem st_map {A : List Nat} {f : Nat → Nat} {p : Nat} (hp : p < A.length) : st (A.map f) p = f (st A p) := by
  have h := st_get (L := A.map f) (p := p) (by rw [List.length_map]; exact hp)
  rw [List.getElem?_map, st_get hp] at h
  exact (Option.some.inj h).symm
theorem st_range {n p : Nat} (hp : p < n) : st (List.range n) p = p := by
  have h := st_get (L := List.range n) (p := p) (by rw [List.length_range]; exact hp)
  rw [List.getElem?_range hp] at h
  exact (Option.some.inj h).symm
/-- the one, then the other -/
theorem inv_then {L : List Nat} (hL : Lead L) (nd : L.Nodup) : L.map (st (inv L)) = List.range L.length := by
  refine ext_st (by rw [List.length_map, List.length_range]) fun p hp => ?_
  rw [List.length_map] at hp
  rw [st_map hp, inv_back hL nd hp, st_range hp]
theorem then_inv {L : List Nat} (hL : Lead L) (nd : L.Nodup) : (inv L).map (st L) = List.range L.length := by
  refine ext_st (by rw [List.length_map, List.length_range, inv_len]) fun p hp => ?_
  rw [List.length_map, inv_len] at hp
  rw [st_map (by rw [inv_len]; exact hp), inv_fwd hL nd hp, st_range hp]
/-- all places of a leading that can be taken back, in turn -/
theorem perm_range {L : List Nat} (hL : Lead L) (nd : L.Nodup) : L.Perm (List.range L.length) := by
  refine (List.perm_ext_iff_of_nodup nd List.nodup_range).mpr fun a => ⟨fun h => List.mem_range.mpr (hL a h), fun h => surj hL nd (List.mem_range.mp h)⟩
theorem range_sorted (n : Nat) : ((List.range n).map fun (x : Nat) => (x : Int)).Pairwise (· ≤ ·) := by
  rw [List.pairwise_map]
  exact List.Pairwise.imp (fun {a b} h => by omega) List.pairwise_lt_range
theorem sorted_is {A B : List Int} (h : A.Perm B) (ha : A.Pairwise (· ≤ ·)) (hb : B.Pairwise (· ≤ ·)) : A = B :=
  List.Perm.eq_of_pairwise (fun _ _ _ _ h1 h2 => Int.le_antisymm h1 h2) ha hb h
theorem sorted_range {L : List Nat} (hL : Lead L) (nd : L.Nodup) {A : List Int} (h : A.Perm (L.map fun (x : Nat) => (x : Int))) (ha : A.Pairwise (· ≤ ·)) : A = (List.range L.length).map fun (x : Nat) => (x : Int) :=
  sorted_is (h.trans ((perm_range hL nd).map _)) ha (range_sorted _)
/-! ### a walk that writes the places of a leading where they lead from -/
def back (L : List Nat) (k : Nat) : List Nat := (List.range L.length).map fun q => if L.idxOf q < k then L.idxOf q else 0
theorem back_len (L : List Nat) (k : Nat) : (back L k).length = L.length := by
  unfold back
  rw [List.length_map, List.length_range]
theorem back_st {L : List Nat} {k q : Nat} (hq : q < L.length) : st (back L k) q = if L.idxOf q < k then L.idxOf q else 0 := by
  unfold back
  rw [st_map (by rw [List.length_range]; exact hq), st_range hq]
theorem back_zero (L : List Nat) : back L 0 = List.replicate L.length 0 := by
  unfold back
  rw [List.map_congr_left (g := fun _ => 0) fun q _ => if_neg (Nat.not_lt_zero _), List.map_const', List.length_range]
theorem back_step {L : List Nat} (hL : Lead L) (nd : L.Nodup) {k : Nat} (hk : k < L.length) : (back L k).set (st L k) k = back L (k + 1) := by
  have h1 := st_lt hL hk
  refine ext_st (by rw [List.length_set, back_len, back_len]) fun q hq => ?_
  rw [List.length_set, back_len] at hq
  rw [st_set (by rw [back_len]; exact h1), back_st hq, back_st hq]
  have hm := surj hL nd hq
  by_cases e : q = st L k
  · subst e
    rw [if_pos rfl, idx_st nd hk, if_pos (by omega)]
  · rw [if_neg e]
    have h2 : L.idxOf q ≠ k := fun e2 => by
      have h3 := st_idx hm
      rw [e2] at h3
      exact e h3.symm
    by_cases h4 : L.idxOf q < k
    · rw [if_pos h4, if_pos (by omega)]
    · rw [if_neg h4, if_neg (by omega)]
theorem back_all {L : List Nat} (hL : Lead L) (nd : L.Nodup) : back L L.length = inv L := by
  unfold back inv
  refine List.map_congr_left fun q hq => ?_
  rw [if_pos (List.idxOf_lt_length_iff.mpr (surj hL nd (List.mem_range.mp hq)))]
/-! ### many alike rings -/
def rot (w p : Nat) : Nat := p / w * w + (p % w + 1) % w
theorem rot_div {w p : Nat} (hw : 0 < w) : rot w p / w = p / w := by
  unfold rot
  have h1 := Nat.mod_lt (p % w + 1) hw
  rw [Nat.mul_comm, Nat.mul_add_div hw, Nat.div_eq_of_lt h1, Nat.add_zero]
theorem rot_mod {w p : Nat} (hw : 0 < w) : rot w p % w = (p % w + 1) % w := by
  unfold rot
  rw [Nat.mul_comm, Nat.mul_add_mod, Nat.mod_mod]
theorem succ_mod_inj {w a b : Nat} (ha : a < w) (hb : b < w) (e : (a + 1) % w = (b + 1) % w) : a = b := by
  by_cases h1 : a + 1 = w
  · by_cases h2 : b + 1 = w
    · omega
    · rw [h1, Nat.mod_self, Nat.mod_eq_of_lt (show b + 1 < w by omega)] at e
      omega
  · rw [Nat.mod_eq_of_lt (show a + 1 < w by omega)] at e
    by_cases h2 : b + 1 = w
    · rw [h2, Nat.mod_self] at e
      omega
    · rw [Nat.mod_eq_of_lt (show b + 1 < w by omega)] at e
      omega
theorem rot_inj {w p q : Nat} (hw : 0 < w) (e : rot w p = rot w q) : p = q := by
  have h1 := rot_div (p := p) hw
  have h2 := rot_div (p := q) hw
  have h3 := rot_mod (p := p) hw
  have h4 := rot_mod (p := q) hw
  rw [e] at h1 h3
  have h5 := succ_mod_inj (Nat.mod_lt p hw) (Nat.mod_lt q hw) (h3.symm.trans h4)
  have h6 := Nat.div_add_mod p w
  have h7 := Nat.div_add_mod q w
  rw [← h1, h2, h5] at h6
  omega
theorem rot_lt {w J p : Nat} (hw : 0 < w) (h : p < J * w) : rot w p < J * w := by
  have h1 : rot w p / w < J := by
    rw [rot_div hw]
    exact Nat.div_lt_of_lt_mul (by rw [Nat.mul_comm]; exact h)
  have h2 := (Nat.div_lt_iff_lt_mul hw).mp h1
  exact h2
theorem rot_at {w j i : Nat} (hi : i < w) : rot w (j * w + i) = j * w + (i + 1) % w := by
  have hw : 0 < w := by omega
  unfold rot
  rw [Nat.mul_comm j w, Nat.mul_add_div hw, Nat.div_eq_of_lt hi, Nat.add_zero, Nat.mul_add_mod, Nat.mod_eq_of_lt hi, Nat.mul_comm j w]
def blk (n w k : Nat) : List Nat := (List.range n).map fun p => if p < k then rot w p else p
theorem blk_len (n w k : Nat) : (blk n w k).length = n := by
  unfold blk
  rw [List.length_map, List.length_range]
theorem blk_st {n w k p : Nat} (hp : p < n) : st (blk n w k) p = if p < k then rot w p else p := by
  unfold blk
  rw [st_map (by rw [List.length_range]; exact hp), st_range hp]
theorem blk_zero (n w : Nat) : blk n w 0 = List.range n := by
  unfold blk
  rw [List.map_congr_left (g := fun p => p) fun p _ => if_neg (Nat.not_lt_zero p), List.map_id']
theorem blk_step {n w k : Nat} (hk : k < n) : (blk n w k).set k (rot w k) = blk n w (k + 1) := by
  refine ext_st (by rw [List.length_set, blk_len, blk_len]) fun q hq => ?_
  rw [List.length_set, blk_len] at hq
  rw [st_set (by rw [blk_len]; exact hk), blk_st hq, blk_st hq]
  by_cases e : q = k
  · subst e
    rw [if_pos rfl, if_pos (by omega)]
  · rw [if_neg e]
    by_cases h : q < k
    · rw [if_pos h, if_pos (by omega)]
    · rw [if_neg h, if_neg (by omega)]
theorem blk_lead {n w J : Nat} (hw : 0 < w) (hJ : J * w ≤ n) : Lead (blk n w (J * w)) := fun x hx => by
  rw [blk_len]
  unfold blk at hx
  obtain ⟨p, hp, rfl⟩ := List.mem_map.mp hx
  have hp := List.mem_range.mp hp
  split
  · rename_i h
    have := rot_lt hw h
    omega
  · exact hp
theorem blk_inj {n w J : Nat} (hw : 0 < w) : Inj (blk n w (J * w)) := fun a b ha hb e => by
  rw [blk_len] at ha hb
  rw [blk_st ha, blk_st hb] at e
  split at e <;> split at e
  · exact rot_inj hw e
  · rename_i h1 h2
    have := rot_lt hw h1
    omega
  · rename_i h1 h2
    have := rot_lt hw h2
    omega
  · exact e
end Ld
/-! Mc: the way from a place, sorted lists of places. Plain Lean. -/
namespace Ld
/-- the first m places of the way from p -/
def path (L : List Nat) (p m : Nat) : List Nat := (List.range m).map fun k => it L k p
/-- m: all places that are come to from p -/
structure Orb (L : List Nat) (p m : Nat) : Prop where
  pos : 0 < m
  inj : ∀ i j, i < j → j < m → it L i p ≠ it L j p
  back : ∃ i, i < m ∧ it L m p = it L i p
theorem path_len (L : List Nat) (p m : Nat) : (path L p m).length = m := by
  unfold path
  rw [List.length_map, List.length_range]
theorem mem_path {L : List Nat} {p m x : Nat} : x ∈ path L p m ↔ ∃ i, i < m ∧ x = it L i p := by
  unfold path
  rw [List.mem_map]
  exact ⟨fun ⟨i, h1, h2⟩ => ⟨i, List.mem_range.mp h1, h2.symm⟩, fun ⟨i, h1, h2⟩ => ⟨i, List.mem_range.mpr h1, h2.symm⟩⟩
theorem path_succ (L : List Nat) (p m : Nat) : path L p (m + 1) = path L p m ++ [it L m p] := by
  unfold path
  rw [List.range_succ, List.map_append]
  rfl
theorem path_get {L : List Nat} {p m i : Nat} (h : i < m) : (path L p m)[i]? = some (it L i p) := by
  unfold path
  rw [List.getElem?_map, List.getElem?_range h]
  rfl
theorem path_lt {L : List Nat} (hL : Lead L) {p : Nat} (hp : p < L.length) (m : Nat) {x : Nat} (h : x ∈ path L p m) : x < L.length := by
  obtain ⟨i, _, rfl⟩ := mem_path.mp h
  exact it_lt hL i hp
theorem Orb.mem {L : List Nat} {p m : Nat} (h : Orb L p m) : p ∈ path L p m := mem_path.mpr ⟨0, h.pos, rfl⟩
theorem Orb.shut {L : List Nat} {p m x : Nat} (h : Orb L p m) (hx : x ∈ path L p m) : st L x ∈ path L p m := by
  obtain ⟨i, hi, rfl⟩ := mem_path.mp hx
  rw [← it_succ]
  by_cases e : i + 1 = m
  · obtain ⟨j, hj, ej⟩ := h.back
    rw [e, ej]
    exact mem_path.mpr ⟨j, hj, rfl⟩
  · exact mem_path.mpr ⟨i + 1, by omega, rfl⟩
theorem Orb.nodup {L : List Nat} {p m : Nat} (h : Orb L p m) : (path L p m).Nodup := nodup_of_inj h.inj
theorem Orb.le {L : List Nat} (hL : Lead L) {p m : Nat} (hp : p < L.length) (h : Orb L p m) : m ≤ L.length := by
  have h1 := nodup_len h.nodup fun x hx => path_lt hL hp m hx
  rw [path_len] at h1
  exact h1
theorem inj_le {L : List Nat} (hL : Lead L) {p m : Nat} (hp : p < L.length) (h : ∀ i j, i < j → j < m → it L i p ≠ it L j p) : m ≤ L.length := by
  have h1 := nodup_len (nodup_of_inj h) (n := L.length) fun x hx => by
    obtain ⟨i, _, rfl⟩ := List.mem_map.mp hx
    exact it_lt hL i hp
  rw [List.length_map, List.length_range] at h1
  exact h1
/-- all that is come to -/
theorem Orb.all {L : List Nat} {p m : Nat} (h : Orb L p m) : ∀ k, it L k p ∈ path L p m
  | 0 => h.mem
  | k + 1 => by
    rw [it_succ]
    exact h.shut (h.all k)
theorem path_idx {L : List Nat} {p m x : Nat} (h : x ∈ path L p m) : it L ((path L p m).idxOf x) p = x := by
  have h1 : (path L p m).idxOf x < (path L p m).length := List.idxOf_lt_length_iff.mpr h
  have h2 := st_idx h
  rw [path_len] at h1
  have h3 := path_get (L := L) (p := p) h1
  rw [st_get (by rw [path_len]; exact h1), h2] at h3
  exact (Option.some.inj h3).symm
theorem Orb.uniq {L : List Nat} {p m n : Nat} (hm : Orb L p m) (hn : Orb L p n) : m = n := by
  obtain ⟨i, hi, e⟩ := hm.back
  obtain ⟨j, hj, e2⟩ := hn.back
  by_cases h : m < n
  · exact absurd e.symm (hn.inj i m hi h)
  · by_cases h2 : n < m
    · exact absurd e2.symm (hm.inj j n hj h2)
    · omega
theorem orb_ex {L : List Nat} (hL : Lead L) {p : Nat} (hp : p < L.length) : ∃ m, Orb L p m := by
  have h : ∀ k, (∀ i j, i < j → j < k → it L i p ≠ it L j p) ∨ ∃ m, Orb L p m := fun k => by
    induction k with
    | zero => exact .inl fun i j _ h => absurd h (Nat.not_lt_zero j)
    | succ k ih =>
      rcases ih with ih | ih
      · by_cases hb : ∃ i, i < k ∧ it L k p = it L i p
        · obtain ⟨i, hi, e⟩ := hb
          exact .inr ⟨k, by omega, ih, i, hi, e⟩
        · refine .inl fun i j hij hj e => ?_
          by_cases ej : j = k
          · subst ej
            exact hb ⟨i, hij, e.symm⟩
          · exact ih i j hij (by omega) e
      · exact .inr ih
  rcases h (L.length + 1) with h | h
  · have := inj_le hL hp h
    omega
  · exact h
/-! ### rising -/
def srt (L : List Nat) : List Nat := L.mergeSort fun a b => decide (a ≤ b)
theorem srt_perm (L : List Nat) : (srt L).Perm L := List.mergeSort_perm L _
theorem srt_le (L : List Nat) : (srt L).Pairwise (· ≤ ·) := by
  have h := List.pairwise_mergeSort (le := fun (a b : Nat) => decide (a ≤ b)) (fun a b c h1 h2 => by
    rw [decide_eq_true_eq] at h1 h2 ⊢
    omega) (fun a b => by
    rw [Bool.or_eq_true, decide_eq_true_eq, decide_eq_true_eq]
    omega) L
  exact h.imp fun h => of_decide_eq_true h
theorem srt_cast (L : List Nat) : ((srt L).map fun (x : Nat) => (x : Int)).Pairwise (· ≤ ·) := by
  rw [List.pairwise_map]
  exact (srt_le L).imp fun h => by omega
theorem mem_srt {L : List Nat} {x : Nat} : x ∈ srt L ↔ x ∈ L := (srt_perm L).mem_iff
theorem srt_len (L : List Nat) : (srt L).length = L.length := (srt_perm L).length_eq
/-! ### what the answers' own word asks -/
def shutB (L : List Nat) (p q : Nat) (ps : List Int) : Bool := (decide ((p : Int) ∈ ps) && !decide ((q : Int) ∈ ps)) && ps.all fun x => (decide (0 ≤ x) && decide (x < (L.length : Int))) && decide ((st L x.toNat : Int) ∈ ps)
theorem shutB_nat {L : List Nat} {p q : Nat} {ps : List Nat} (h1 : p ∈ ps) (h2 : q ∉ ps) (h3 : ∀ y ∈ ps, y < L.length ∧ st L y ∈ ps) : shutB L p q (ps.map fun (x : Nat) => (x : Int)) = true := by
  have hm : ∀ i : Nat, (i : Int) ∈ ps.map (fun (x : Nat) => (x : Int)) ↔ i ∈ ps := fun i => by
    rw [List.mem_map]
    refine ⟨fun ⟨j, h1, h2⟩ => ?_, fun h => ⟨i, h, rfl⟩⟩
    have : j = i := by omega
    rw [← this]
    exact h1
  unfold shutB
  rw [decide_eq_true ((hm p).mpr h1), decide_eq_false fun h => h2 ((hm q).mp h), List.all_map]
  show (ps.all _) = true
  refine List.all_eq_true.mpr fun y hy => ?_
  obtain ⟨h4, h5⟩ := h3 y hy
  show ((decide (0 ≤ (y : Int)) && decide ((y : Int) < (L.length : Int))) && decide ((st L (y : Int).toNat : Int) ∈ _)) = true
  rw [decide_eq_true (by omega), decide_eq_true (by omega), Int.toNat_natCast, decide_eq_true ((hm _).mpr h5)]
  rfl
theorem shutB_no {L : List Nat} {p q : Nat} {ps : List Int} (h : (q : Int) ∈ ps) : shutB L p q ps = false := by
  unfold shutB
  rw [decide_eq_true h, Bool.not_true, Bool.and_false, Bool.false_and]
end Ld
/-! Md: ways that meet. Plain Lean. -/
namespace Ld
/-- their ways come to one place -/
def Meets (L : List Nat) (x p : Nat) : Prop := ∃ i j, it L i x = it L j p
theorem meets_self (L : List Nat) (p : Nat) : Meets L p p := ⟨0, 0, rfl⟩
theorem meets_st {L : List Nat} {x p : Nat} : Meets L (st L x) p ↔ Meets L x p := by
  refine ⟨fun ⟨i, j, h⟩ => ⟨i + 1, j, h⟩, fun ⟨i, j, h⟩ => ?_⟩
  cases i with
  | zero => exact ⟨0, j + 1, by rw [it_succ, ← h]; rfl⟩
  | succ i => exact ⟨i, j, h⟩
theorem meets_it {L : List Nat} {x p : Nat} : ∀ k, Meets L (it L k x) p ↔ Meets L x p
  | 0 => Iff.rfl
  | k + 1 => by
    rw [it_succ, meets_st]
    exact meets_it k
theorem path_meets {L : List Nat} {p m x : Nat} (h : x ∈ path L p m) : Meets L x p := by
  obtain ⟨i, _, rfl⟩ := mem_path.mp h
  exact ⟨0, i, rfl⟩
theorem meets_comm {L : List Nat} {x p : Nat} (h : Meets L x p) : Meets L p x := by
  obtain ⟨i, j, h⟩ := h
  exact ⟨j, i, h.symm⟩
/-- where two ways don't meet within their places they never do -/
theorem no_meet {L : List Nat} {p q m n : Nat} (hp : Orb L p m) (hq : Orb L q n) (h : ∀ x ∈ path L q n, x ∉ path L p m) : ¬ Meets L q p := fun ⟨i, j, e⟩ => h _ (hq.all i) (by
  rw [e]
  exact hp.all j)
/-! ### a dict's keys, as they are put in -/
def addK (ks : List Nat) (k : Nat) : List Nat := if k ∈ ks then ks else ks ++ [k]
theorem mem_addK {ks : List Nat} {k x : Nat} : x ∈ addK ks k ↔ x ∈ ks ∨ x = k := by
  unfold addK
  split
  · rename_i h
    exact ⟨.inl, fun h2 => h2.elim id fun e => by rw [e]; exact h⟩
  · rw [List.mem_append, List.mem_singleton]
theorem nodup_addK {ks : List Nat} {k : Nat} (h : ks.Nodup) : (addK ks k).Nodup := by
  unfold addK
  split
  · exact h
  · rename_i hk
    rw [List.nodup_append]
    exact ⟨h, List.nodup_cons.mpr ⟨List.not_mem_nil, List.nodup_nil⟩, fun a ha b hb e => by
      rw [List.mem_singleton] at hb
      subst hb
      subst e
      exact hk ha⟩
theorem addK_new {ks : List Nat} {k : Nat} (h : k ∉ ks) : addK ks k = ks ++ [k] := if_neg h
theorem addK_len (ks : List Nat) (k : Nat) : (addK ks k).length ≤ ks.length + 1 := by
  unfold addK
  split
  · omega
  · rw [List.length_append]
    exact Nat.le_refl _
/-! ### what Apart's own word asks -/
def apartB (L : List Nat) (p q : Nat) (ps : List Int) : Bool := ((decide ((p : Int) ∈ ps) && !decide ((q : Int) ∈ ps)) && ps.all fun x => decide (0 ≤ x) && decide (x < (L.length : Int))) &&
  (List.range L.length).all fun k => decide (decide ((k : Int) ∈ ps) = decide ((st L k : Int) ∈ ps))
theorem mem_castN {ps : List Nat} (i : Nat) : (i : Int) ∈ ps.map (fun (x : Nat) => (x : Int)) ↔ i ∈ ps := by
  rw [List.mem_map]
  refine ⟨fun ⟨j, h1, h2⟩ => ?_, fun h => ⟨i, h, rfl⟩⟩
  have : j = i := by omega
  rw [← this]
  exact h1
theorem apartB_nat {L : List Nat} {p q : Nat} {ps : List Nat} (h1 : p ∈ ps) (h2 : q ∉ ps) (h3 : ∀ y ∈ ps, y < L.length) (h4 : ∀ y, y < L.length → (y ∈ ps ↔ st L y ∈ ps)) : apartB L p q (ps.map fun (x : Nat) => (x : Int)) = true := by
  unfold apartB
  rw [decide_eq_true ((mem_castN p).mpr h1), decide_eq_false fun h => h2 ((mem_castN q).mp h)]
  rw [show (ps.map fun (x : Nat) => (x : Int)).all (fun x => decide (0 ≤ x) && decide (x < (L.length : Int))) = true from List.all_eq_true.mpr fun x hx => by
    obtain ⟨y, hy, rfl⟩ := List.mem_map.mp hx
    have := h3 y hy
    rw [decide_eq_true (by omega), decide_eq_true (by omega)]
    rfl]
  show ((true && !false) && true && _) = true
  rw [Bool.not_false, Bool.and_self, Bool.and_self, Bool.true_and]
  refine List.all_eq_true.mpr fun k hk => ?_
  rw [decide_eq_true_eq]
  exact decide_eq_decide.mpr ((mem_castN k).trans ((h4 k (List.mem_range.mp hk)).trans (mem_castN _).symm))
theorem apartB_no {L : List Nat} {p q : Nat} {ps : List Int} (h : (q : Int) ∈ ps) : apartB L p q ps = false := by
  unfold apartB
  rw [decide_eq_true h, Bool.not_true, Bool.and_false, Bool.false_and, Bool.false_and]
end Ld
/-! Me: rings, and ways into them. Plain Lean. -/
namespace Ld
/-- on a ring -/
def OnR (L : List Nat) (x : Nat) : Prop := ∃ k, 0 < k ∧ it L k x = x
theorem onR_st {L : List Nat} {x : Nat} (h : OnR L x) : OnR L (st L x) := by
  obtain ⟨k, hk, e⟩ := h
  refine ⟨k, hk, ?_⟩
  have h1 : it L (k + 1) x = st L (it L k x) := it_succ L k x
  rw [e] at h1
  exact h1
theorem onR_it {L : List Nat} {x : Nat} (h : OnR L x) : ∀ k, OnR L (it L k x)
  | 0 => h
  | k + 1 => by
    rw [it_succ]
    exact onR_st (onR_it h k)
/-- the steps to a ring -/
def IsWait (L : List Nat) (x k : Nat) : Prop := OnR L (it L k x) ∧ ∀ j, j < k → ¬ OnR L (it L j x)
theorem IsWait.uniq {L : List Nat} {x k j : Nat} (h1 : IsWait L x k) (h2 : IsWait L x j) : k = j := by
  by_cases h : k < j
  · exact absurd h1.1 (h2.2 k h)
  · by_cases h' : j < k
    · exact absurd h2.1 (h1.2 j h')
    · omega
theorem isWait_zero {L : List Nat} {x : Nat} (h : OnR L x) : IsWait L x 0 := ⟨h, fun j hj => absurd hj (Nat.not_lt_zero j)⟩
theorem isWait_succ {L : List Nat} {x k : Nat} (h : ¬ OnR L x) (hw : IsWait L (st L x) k) : IsWait L x (k + 1) := ⟨hw.1, fun j hj => by
  cases j with
  | zero => exact h
  | succ j => exact hw.2 j (by omega)⟩
theorem wait_zero {L : List Nat} {x : Nat} (h : IsWait L x 0) : OnR L x := h.1
/-! ### how many lead to a place, but for some -/
def cnt (L Pr : List Nat) (p : Nat) : Nat := (List.range L.length).countP fun x => decide (st L x = p) && !decide (x ∈ Pr)
theorem cnt_zero {L Pr : List Nat} {p : Nat} : cnt L Pr p = 0 ↔ ∀ x, x < L.length → st L x = p → x ∈ Pr := by
  unfold cnt
  rw [List.countP_eq_zero]
  refine ⟨fun h x hx e => ?_, fun h x hx => ?_⟩
  · have h1 := h x (List.mem_range.mpr hx)
    rw [decide_eq_true e, Bool.true_and, Bool.not_eq_true', decide_eq_false_iff_not] at h1
    exact Classical.byContradiction h1
  · intro e
    rw [Bool.and_eq_true, decide_eq_true_eq, Bool.not_eq_true', decide_eq_false_iff_not] at e
    exact e.2 (h x (List.mem_range.mp hx) e.1)
theorem countP_but {y : Nat} {q q' : Nat → Bool} (hq : ∀ x, x ≠ y → q' x = q x) (hy : q' y = false) (hy2 : q y = true) : ∀ {l : List Nat}, l.Nodup → y ∈ l → l.countP q = l.countP q' + 1
  | a :: r, nd, hm => by
    have nd' := List.nodup_cons.mp nd
    rw [List.countP_cons, List.countP_cons]
    by_cases e : a = y
    · subst e
      have h1 : r.countP q = r.countP q' := by
        refine List.countP_congr fun x hx => ?_
        rw [hq x fun e => nd'.1 (by rw [← e]; exact hx)]
      rw [hy, hy2, h1]
      rfl
    · have hm' : y ∈ r := (List.mem_cons.mp hm).elim (fun h => absurd h.symm e) id
      rw [countP_but hq hy hy2 nd'.2 hm', hq a e]
      omega
theorem cnt_snoc {L Pr : List Nat} {y p : Nat} (hy : y < L.length) (hn : y ∉ Pr) : cnt L (Pr ++ [y]) p = if p = st L y then cnt L Pr p - 1 else cnt L Pr p := by
  by_cases e : p = st L y
  · rw [if_pos e]
    subst e
    have h := countP_but (y := y) (q := fun x => decide (st L x = st L y) && !decide (x ∈ Pr)) (q' := fun x => decide (st L x = st L y) && !decide (x ∈ Pr ++ [y])) (fun x hx => by
      have e : decide (x ∈ Pr ++ [y]) = decide (x ∈ Pr) := decide_eq_decide.mpr (by
        rw [List.mem_append, List.mem_singleton]
        exact ⟨fun h => h.elim id fun h => absurd h hx, .inl⟩)
      rw [e]) (by
      rw [decide_eq_true (show y ∈ Pr ++ [y] from List.mem_append_right _ (List.mem_singleton.mpr rfl)), Bool.not_true, Bool.and_false]) (by
      rw [decide_eq_true rfl, decide_eq_false hn]
      rfl) List.nodup_range (List.mem_range.mpr hy)
    unfold cnt
    omega
  · rw [if_neg e]
    unfold cnt
    refine List.countP_congr fun x hx => ?_
    by_cases e2 : st L x = p
    · have hxy : x ≠ y := fun e3 => e (by rw [← e2, e3])
      have e4 : decide (x ∈ Pr ++ [y]) = decide (x ∈ Pr) := decide_eq_decide.mpr (by
        rw [List.mem_append, List.mem_singleton]
        exact ⟨fun h => h.elim id fun h => absurd h hxy, .inl⟩)
      rw [e4]
    · rw [decide_eq_false e2]
      rfl
theorem cnt_pos {L Pr : List Nat} {y p : Nat} (hy : y < L.length) (hn : y ∉ Pr) (e : st L y = p) : 0 < cnt L Pr p := by
  cases h : cnt L Pr p with
  | zero => exact absurd (cnt_zero.mp h y hy e) hn
  | succ k => omega
theorem map_st (L : List Nat) : (List.range L.length).map (st L) = L := by
  refine ext_st (by rw [List.length_map, List.length_range]) fun p hp => ?_
  rw [List.length_map, List.length_range] at hp
  rw [st_map (by rw [List.length_range]; exact hp), st_range hp]
theorem cnt_nil (L : List Nat) (p : Nat) : L.count p = cnt L [] p := by
  have h : L.count p = ((List.range L.length).map (st L)).count p := by rw [map_st]
  rw [h]
  unfold cnt List.count
  rw [List.countP_map]
  refine List.countP_congr fun x hx => ?_
  show (st L x == p) = true ↔ _
  rw [beq_iff_eq, Bool.and_eq_true, decide_eq_true_eq]
  exact ⟨fun h => ⟨h, rfl⟩, fun h => h.1⟩
/-! ### the places that wait, in turn -/
/-- W: so far; k of them gone through -/
structure Que (L W : List Nat) (k : Nat) : Prop where
  nd : W.Nodup
  lt : ∀ x ∈ W, x < L.length
  all : ∀ p, p < L.length → (p ∈ W ↔ cnt L (W.take k) p = 0)
  ord : ∀ i y, W[i]? = some y → ∀ x, x < L.length → st L x = y → x ∈ W.take i
  le : k ≤ W.length
def que0 (L : List Nat) : List Nat := (List.range L.length).filter fun p => decide (cnt L [] p = 0)
theorem que_start (L : List Nat) : Que L (que0 L) 0 where
  nd := List.Nodup.sublist List.filter_sublist List.nodup_range
  lt := fun x hx => List.mem_range.mp (List.mem_filter.mp hx).1
  all := fun p hp => by
    rw [List.take_zero]
    unfold que0
    rw [List.mem_filter, decide_eq_true_eq]
    exact ⟨fun h => h.2, fun h => ⟨List.mem_range.mpr hp, h⟩⟩
  ord := fun i y hy x hx e => by
    have h1 := (List.mem_filter.mp (List.mem_of_getElem? hy)).2
    rw [decide_eq_true_eq] at h1
    exact absurd (cnt_zero.mp h1 x hx e) List.not_mem_nil
  le := Nat.zero_le _
theorem take_snoc {W : List Nat} {k y : Nat} (h : W[k]? = some y) : W.take (k + 1) = W.take k ++ [y] := by
  rw [List.take_add_one, h]
  rfl
theorem nodup_take {W : List Nat} (nd : W.Nodup) {k y : Nat} (h : W[k]? = some y) : y ∉ W.take k := fun hm => by
  obtain ⟨j, hj⟩ := List.mem_iff_getElem?.mp hm
  rw [List.getElem?_take] at hj
  split at hj
  · rename_i hjk
    obtain ⟨h1, e1⟩ := List.getElem?_eq_some_iff.mp hj
    obtain ⟨h2, e2⟩ := List.getElem?_eq_some_iff.mp h
    have := (List.getElem_inj nd).mp (e1.trans e2.symm)
    omega
  · cases hj
/-- a turn: the place that the next one leads to joins, or not -/
theorem que_step {L W : List Nat} {k y : Nat} (hL : Lead L) (h : Que L W k) (hy : W[k]? = some y) :
    (cnt L (W.take k ++ [y]) (st L y) = 0 → Que L (W ++ [st L y]) (k + 1)) ∧ (cnt L (W.take k ++ [y]) (st L y) ≠ 0 → Que L W (k + 1)) := by
  have hyW : y ∈ W := List.mem_of_getElem? hy
  have hyl := h.lt y hyW
  have hyn := nodup_take h.nd hy
  have hk : k < W.length := (List.getElem?_eq_some_iff.mp hy).1
  have hsl := st_lt hL hyl
  -- the place led to does not stand in W yet
  have hsW : st L y ∉ W := fun hm => by
    have h1 := (h.all _ hsl).mp hm
    exact hyn (cnt_zero.mp h1 y hyl rfl)
  have hcnt : ∀ p, p ≠ st L y → cnt L (W.take k ++ [y]) p = cnt L (W.take k) p := fun p hp => by rw [cnt_snoc hyl hyn, if_neg hp]
  refine ⟨fun hz => ?_, fun hz => ?_⟩
  · have ht : (W ++ [st L y]).take (k + 1) = W.take k ++ [y] := by
      rw [List.take_append_of_le_length (by omega), take_snoc hy]
    refine ⟨?_, fun x hx => ?_, fun p hp => ?_, fun i z hz' x hx e => ?_, ?_⟩
    · rw [List.nodup_append]
      exact ⟨h.nd, List.nodup_cons.mpr ⟨List.not_mem_nil, List.nodup_nil⟩, fun a ha b hb e => by
        rw [List.mem_singleton] at hb
        subst hb
        subst e
        exact hsW ha⟩
    · rcases List.mem_append.mp hx with hx | hx
      · exact h.lt x hx
      · rw [List.mem_singleton.mp hx]
        exact hsl
    · rw [ht, List.mem_append, List.mem_singleton]
      by_cases e : p = st L y
      · subst e
        exact ⟨fun _ => hz, fun _ => .inr rfl⟩
      · rw [hcnt p e, ← h.all p hp]
        exact ⟨fun h => h.elim id fun h => absurd h e, .inl⟩
    · by_cases hi : i < W.length
      · rw [List.getElem?_append_left hi] at hz'
        rw [List.take_append_of_le_length (by omega)]
        exact h.ord i z hz' x hx e
      · have hi2 : i = W.length := by
          have := (List.getElem?_eq_some_iff.mp hz').1
          rw [List.length_append, List.length_singleton] at this
          omega
        subst hi2
        rw [List.getElem?_append_right (Nat.le_refl _), Nat.sub_self] at hz'
        obtain rfl : st L y = z := Option.some.inj hz'
        rw [List.take_append_of_le_length (Nat.le_refl _), List.take_length]
        have h1 := cnt_zero.mp hz x hx e
        rcases List.mem_append.mp h1 with h1 | h1
        · exact List.mem_of_mem_take h1
        · rw [List.mem_singleton.mp h1]
          exact hyW
    · rw [List.length_append, List.length_singleton]
      omega
  · refine ⟨h.nd, h.lt, fun p hp => ?_, h.ord, by omega⟩
    rw [take_snoc hy]
    by_cases e : p = st L y
    · subst e
      exact ⟨fun h => absurd h hsW, fun h => absurd h hz⟩
    · rw [hcnt p e]
      exact h.all p hp
/-! ### at the end those wait that are on no ring -/
theorem que_ring {L W : List Nat} {k : Nat} (hL : Lead L) (h : Que L W k) : ∀ (i x : Nat), W[i]? = some x → ¬ OnR L x := by
  intro i
  induction i using Nat.strongRecOn with
  | ind i ih =>
    intro x hx hr
    obtain ⟨d, hd, e⟩ := hr
    obtain ⟨d, rfl⟩ : ∃ j, d = j + 1 := ⟨d - 1, by omega⟩
    have hxl := h.lt x (List.mem_of_getElem? hx)
    have e1 : st L (it L d x) = x := by
      rw [← it_succ]
      exact e
    have hm := h.ord i x hx _ (it_lt hL d hxl) e1
    obtain ⟨j, hj⟩ := List.mem_iff_getElem?.mp hm
    rw [List.getElem?_take] at hj
    split at hj
    · rename_i hji
      exact ih j hji _ hj (onR_it ⟨d + 1, hd, e⟩ d)
    · cases hj
/-- a way back through places outside -/
theorem back_chain {L W : List Nat} (h : ∀ p, p < L.length → p ∉ W → ∃ y, y < L.length ∧ st L y = p ∧ y ∉ W) {x : Nat} (hx : x < L.length) (hW : x ∉ W) : ∃ z : Nat → Nat, z 0 = x ∧ ∀ i, z i < L.length ∧ z i ∉ W ∧ st L (z (i + 1)) = z i := by
  have hg : ∀ p : { p : Nat // p < L.length ∧ p ∉ W }, ∃ y : { p : Nat // p < L.length ∧ p ∉ W }, st L y.1 = p.1 := fun ⟨p, h1, h2⟩ => by
    obtain ⟨y, h3, h4, h5⟩ := h p h1 h2
    exact ⟨⟨y, h3, h5⟩, h4⟩
  let g := fun p => Classical.choose (hg p)
  have hgs : ∀ p, st L (g p).1 = p.1 := fun p => Classical.choose_spec (hg p)
  let z : Nat → { p : Nat // p < L.length ∧ p ∉ W } := fun i => Nat.rec ⟨x, hx, hW⟩ (fun _ p => g p) i
  exact ⟨fun i => (z i).1, rfl, fun i => ⟨(z i).2.1, (z i).2.2, hgs (z i)⟩⟩
theorem chain_it {L : List Nat} {z : Nat → Nat} (h : ∀ i, st L (z (i + 1)) = z i) : ∀ d i, it L d (z (i + d)) = z i
  | 0, _ => rfl
  | d + 1, i => by
    show it L d (st L (z (i + d + 1))) = z i
    rw [h (i + d)]
    exact chain_it h d i
theorem que_end {L W : List Nat} (hL : Lead L) (h : Que L W W.length) {x : Nat} (hx : x < L.length) : x ∈ W ↔ ¬ OnR L x := by
  refine ⟨fun hm => ?_, fun hr => ?_⟩
  · obtain ⟨i, hi⟩ := List.mem_iff_getElem?.mp hm
    exact que_ring hL h i x hi
  · refine Classical.byContradiction fun hW => ?_
    obtain ⟨z, z0, hz⟩ := back_chain (L := L) (W := W) (fun p hp hpW => by
      refine Classical.byContradiction fun hno => hpW ((h.all p hp).mpr (cnt_zero.mpr fun y hy e => ?_))
      rw [List.take_length]
      exact Classical.byContradiction fun hyW => hno ⟨y, hy, e, hyW⟩) hx hW
    -- two of n + 1 places are one
    have hrep : ∃ i j, i < j ∧ z i = z j := by
      refine Classical.byContradiction fun hno => ?_
      have h1 := nodup_len (nodup_of_inj (m := L.length + 1) (f := z) fun i j hij _ e => hno ⟨i, j, hij, e⟩) (n := L.length) fun y hy => by
        obtain ⟨i, _, rfl⟩ := List.mem_map.mp hy
        exact (hz i).1
      rw [List.length_map, List.length_range] at h1
      omega
    obtain ⟨i, j, hij, e⟩ := hrep
    have hst : ∀ i, st L (z (i + 1)) = z i := fun i => (hz i).2.2
    have h2 := chain_it hst (j - i) i
    rw [show i + (j - i) = j by omega] at h2
    have hor : OnR L (z j) := ⟨j - i, by omega, by rw [h2, e]⟩
    have h3 := chain_it hst j 0
    rw [Nat.zero_add, z0] at h3
    exact hr (by
      rw [← h3]
      exact onR_it hor j)
/-- the waits, told from the last one on: those from k on are told -/
def Told (L W F : List Nat) (k : Nat) : Prop := F.length = L.length ∧ (∀ x, x < L.length → OnR L x → st F x = 0) ∧ ∀ i x, k ≤ i → W[i]? = some x → IsWait L x (st F x)
theorem told_start (L W : List Nat) : Told L W (List.replicate L.length 0) W.length := by
  refine ⟨List.length_replicate, fun x hx _ => ?_, fun i x hi hx => ?_⟩
  · have h := st_get (L := List.replicate L.length 0) (p := x) (by rw [List.length_replicate]; exact hx)
    rw [List.getElem?_replicate, if_pos hx] at h
    exact (Option.some.inj h).symm
  · have := (List.getElem?_eq_some_iff.mp hx).1
    omega
theorem told_step {L W F : List Nat} {k x : Nat} (hL : Lead L) (h : Que L W W.length) (hT : Told L W F (k + 1)) (hx : W[k]? = some x) : Told L W (F.set x (st F (st L x) + 1)) k := by
  obtain ⟨h1, h2, h3⟩ := hT
  have hxW := List.mem_of_getElem? hx
  have hxl := h.lt x hxW
  have hxr := (que_end hL h hxl).mp hxW
  have hsl := st_lt hL hxl
  have hF : x < F.length := by omega
  refine ⟨by rw [List.length_set, h1], fun y hy hr => ?_, fun i y hi hy => ?_⟩
  · rw [st_set hF, if_neg fun e => hxr (by rw [← e]; exact hr)]
    exact h2 y hy hr
  · rw [st_set hF]
    by_cases e : y = x
    · subst e
      rw [if_pos rfl]
      refine isWait_succ hxr ?_
      by_cases hr : OnR L (st L y)
      · rw [h2 _ hsl hr]
        exact isWait_zero hr
      · have hsW := (que_end hL h hsl).mpr hr
        obtain ⟨j, hj⟩ := List.mem_iff_getElem?.mp hsW
        have hm := h.ord j _ hj y hxl rfl
        obtain ⟨j', hj'⟩ := List.mem_iff_getElem?.mp hm
        rw [List.getElem?_take] at hj'
        split at hj'
        · rename_i hlt
          have : j' = k := by
            obtain ⟨a1, b1⟩ := List.getElem?_eq_some_iff.mp hj'
            obtain ⟨a2, b2⟩ := List.getElem?_eq_some_iff.mp hx
            exact (List.getElem_inj h.nd).mp (b1.trans b2.symm)
          exact h3 j _ (by omega) hj
        · cases hj'
    · rw [if_neg e]
      refine h3 i y ?_ hy
      by_cases hik : i = k
      · subst hik
        rw [hx] at hy
        exact absurd (Option.some.inj hy).symm e
      · omega
theorem told_end {L W F : List Nat} (hL : Lead L) (h : Que L W W.length) (hT : Told L W F 0) {x : Nat} (hx : x < L.length) : IsWait L x (st F x) := by
  by_cases hr : OnR L x
  · rw [hT.2.1 x hx hr]
    exact isWait_zero hr
  · obtain ⟨i, hi⟩ := List.mem_iff_getElem?.mp ((que_end hL h hx).mpr hr)
    exact hT.2.2 i x (Nat.zero_le i) hi
/-! ### all rings, each begun with its least place, rising -/
open Classical in
noncomputable def per (L : List Nat) (p : Nat) : Nat := if h : ∃ m, Orb L p m then Classical.choose h else 0
theorem per_orb {L : List Nat} (hL : Lead L) {p : Nat} (hp : p < L.length) : Orb L p (per L p) := by
  unfold per
  rw [dif_pos (orb_ex hL hp)]
  exact Classical.choose_spec (orb_ex hL hp)
noncomputable def ringAt (L : List Nat) (p : Nat) : List Nat := path L p (per L p)
open Classical in
noncomputable def rgs (L : List Nat) : Nat → List (List Nat)
  | 0 => []
  | k + 1 => if OnR L k ∧ k ∉ (rgs L k).flatten then rgs L k ++ [ringAt L k] else rgs L k
/-- on a ring the way comes back to where it began -/
theorem orb_ring {L : List Nat} {p m : Nat} (h : Orb L p m) (hr : OnR L p) : it L m p = p := by
  obtain ⟨d, hd, e⟩ := hr
  obtain ⟨i, hi, e2⟩ := h.back
  -- it m p = it i p, i < m; if 0 < i, one step back both: not different
  cases i with
  | zero => exact e2
  | succ i =>
    have hm : m = (m - 1) + 1 := by omega
    have hback : ∀ a, it L (d - 1) (it L (a + 1) p) = it L a p := fun a => by
      rw [← it_add, show a + 1 + (d - 1) = d + a by omega, it_add, e]
    have h1 := hback (m - 1)
    rw [← hm, e2, hback i] at h1
    exact absurd h1 (h.inj i (m - 1) (by omega) (by omega))
theorem ring_shut_back {L : List Nat} {p m : Nat} (h : Orb L p m) (hr : OnR L p) {x : Nat} (hx : x ∈ path L p m) : OnR L x ∧ ∃ j, it L j x = p := by
  obtain ⟨i, hi, rfl⟩ := mem_path.mp hx
  refine ⟨onR_it hr i, m - i, ?_⟩
  rw [← it_add, show i + (m - i) = m by omega]
  exact orb_ring h hr
/-- what stands in the rings so far is closed, ahead and behind -/
structure Rgs (L : List Nat) (k : Nat) : Prop where
  lt : ∀ r ∈ rgs L k, ∀ x ∈ r, x < L.length ∧ OnR L x
  has : ∀ x, x < k → x < L.length → OnR L x → x ∈ (rgs L k).flatten
  fwd : ∀ x ∈ (rgs L k).flatten, st L x ∈ (rgs L k).flatten
  form : ∀ r ∈ rgs L k, ∃ p, p < k ∧ p < L.length ∧ OnR L p ∧ r = ringAt L p
theorem rgs_yes {L : List Nat} {k : Nat} (h1 : OnR L k) (h2 : k ∉ (rgs L k).flatten) : rgs L (k + 1) = rgs L k ++ [ringAt L k] := if_pos ⟨h1, h2⟩
theorem rgs_no {L : List Nat} {k : Nat} (h : ¬ (OnR L k ∧ k ∉ (rgs L k).flatten)) : rgs L (k + 1) = rgs L k := if_neg h
theorem rgs_ok {L : List Nat} (hL : Lead L) : ∀ k, k ≤ L.length → Rgs L k
  | 0, _ => ⟨fun r hr => (nomatch hr), fun x h => absurd h (Nat.not_lt_zero x), fun x hx => (nomatch hx), fun r hr => (nomatch hr)⟩
  | k + 1, hk => by
    have ih := rgs_ok hL k (by omega)
    have hkl : k < L.length := by omega
    have ho := per_orb hL hkl
    by_cases hc : OnR L k ∧ k ∉ (rgs L k).flatten
    · have e := rgs_yes hc.1 hc.2
      refine ⟨fun r hr => ?_, fun x hx hl hor => ?_, fun x hx => ?_, fun r hr => ?_⟩
      · rw [e] at hr
        rcases List.mem_append.mp hr with hr | hr
        · exact ih.lt r hr
        · rw [List.mem_singleton.mp hr]
          exact fun x hx => ⟨path_lt hL hkl _ hx, (ring_shut_back ho hc.1 hx).1⟩
      · rw [e, List.flatten_append, List.mem_append]
        by_cases e : x = k
        · subst e
          refine .inr ?_
          rw [List.flatten_singleton]
          exact ho.mem
        · exact .inl (ih.has x (by omega) hl hor)
      · rw [e, List.flatten_append, List.mem_append, List.flatten_singleton] at *
        exact hx.elim (fun h => .inl (ih.fwd x h)) fun h => .inr (ho.shut h)
      · rw [e] at hr
        rcases List.mem_append.mp hr with hr | hr
        · obtain ⟨p, h1, h2⟩ := ih.form r hr
          exact ⟨p, by omega, h2⟩
        · exact ⟨k, by omega, hkl, hc.1, List.mem_singleton.mp hr⟩
    · have e := rgs_no hc
      refine ⟨fun r hr => ?_, fun x hx hl hor => ?_, fun x hx => ?_, fun r hr => ?_⟩
      · rw [e] at hr
        exact ih.lt r hr
      · rw [e]
        by_cases e2 : x = k
        · subst e2
          exact Classical.byContradiction fun h => hc ⟨hor, h⟩
        · exact ih.has x (by omega) hl hor
      · rw [e] at *
        exact ih.fwd x hx
      · rw [e] at hr
        obtain ⟨p, h1, h2⟩ := ih.form r hr
        exact ⟨p, by omega, h2⟩
theorem rgs_fwd_it {L : List Nat} {k : Nat} (h : Rgs L k) {x : Nat} (hx : x ∈ (rgs L k).flatten) : ∀ j, it L j x ∈ (rgs L k).flatten
  | 0 => hx
  | j + 1 => by
    rw [it_succ]
    exact h.fwd _ (rgs_fwd_it h hx j)
/-- a new ring has nothing of those before -/
theorem rgs_new {L : List Nat} (hL : Lead L) {k : Nat} (h : Rgs L k) (hk : k < L.length) (hr : OnR L k) (hn : k ∉ (rgs L k).flatten) (j : Nat) : it L j k ∉ (rgs L k).flatten := fun hm => by
  have ho := per_orb hL hk
  obtain ⟨i, hi, e⟩ := mem_path.mp (ho.all j)
  obtain ⟨_, t, e2⟩ := ring_shut_back ho hr (mem_path.mpr ⟨i, hi, rfl⟩)
  rw [e] at hm
  have h1 := rgs_fwd_it h hm t
  rw [e2] at h1
  exact hn h1
end Ld
namespace Ld
/-! ### the counts as a list -/
def cl (L Pr : List Nat) : List Nat := (List.range L.length).map (cnt L Pr)
theorem cl_len (L Pr : List Nat) : (cl L Pr).length = L.length := by
  unfold cl
  rw [List.length_map, List.length_range]
theorem cl_st {L Pr : List Nat} {p : Nat} (hp : p < L.length) : st (cl L Pr) p = cnt L Pr p := by
  unfold cl
  rw [st_map (by rw [List.length_range]; exact hp), st_range hp]
theorem cl_step {L Pr : List Nat} {y : Nat} (hL : Lead L) (hy : y < L.length) (hn : y ∉ Pr) : (cl L Pr).set (st L y) (cnt L Pr (st L y) - 1) = cl L (Pr ++ [y]) := by
  have hs := st_lt hL hy
  refine ext_st (by rw [List.length_set, cl_len, cl_len]) fun p hp => ?_
  rw [List.length_set, cl_len] at hp
  rw [st_set (by rw [cl_len]; exact hs), cl_st hp, cl_st hp, cnt_snoc hy hn]
  by_cases e : p = st L y
  · subst e
    simp only [if_true]
  · rw [if_neg e, if_neg e]
def ct (L : List Nat) (i : Nat) : List Nat := (List.range L.length).map fun p => (L.take i).count p
theorem ct_len (L : List Nat) (i : Nat) : (ct L i).length = L.length := by
  unfold ct
  rw [List.length_map, List.length_range]
theorem ct_st {L : List Nat} {i p : Nat} (hp : p < L.length) : st (ct L i) p = (L.take i).count p := by
  unfold ct
  rw [st_map (by rw [List.length_range]; exact hp), st_range hp]
theorem ct_zero (L : List Nat) : ct L 0 = List.replicate L.length 0 := by
  unfold ct
  rw [List.map_congr_left (g := fun _ => 0) fun p _ => by rw [List.take_zero, List.count_nil], List.map_const', List.length_range]
theorem ct_step {L : List Nat} {i : Nat} (hL : Lead L) (hi : i < L.length) : (ct L i).set (st L i) ((L.take i).count (st L i) + 1) = ct L (i + 1) := by
  have hs := st_lt hL hi
  refine ext_st (by rw [List.length_set, ct_len, ct_len]) fun p hp => ?_
  rw [List.length_set, ct_len] at hp
  rw [st_set (by rw [ct_len]; exact hs), ct_st hp, ct_st hp, List.take_add_one, st_get hi, List.count_append]
  show _ = _ + List.count p [st L i]
  by_cases e : p = st L i
  · subst e
    rw [if_pos rfl, List.count_singleton_self]
  · rw [if_neg e, List.count_singleton, if_neg (by rw [beq_iff_eq]; exact fun h => e h.symm), Nat.add_zero]
theorem ct_all (L : List Nat) : ct L L.length = cl L [] := by
  unfold ct cl
  rw [List.take_length]
  exact List.map_congr_left fun p _ => cnt_nil L p
end Ld
namespace Ld
/-! ### the waits as a list -/
theorem onR_of_orb {L : List Nat} {p m i : Nat} (hi : i < m) (e : it L m p = it L i p) : OnR L (it L i p) := ⟨m - i, by omega, by rw [← it_add, show i + (m - i) = m by omega, e]⟩
theorem wait_ex {L : List Nat} (hL : Lead L) {x : Nat} (hx : x < L.length) : ∃ k, IsWait L x k := by
  obtain ⟨m, hm⟩ := orb_ex hL hx
  obtain ⟨i, hi, e⟩ := hm.back
  have hor := onR_of_orb hi e
  have h : ∀ k, (∀ j, j < k → ¬ OnR L (it L j x)) ∨ ∃ k, IsWait L x k := fun k => by
    induction k with
    | zero => exact .inl fun j h => absurd h (Nat.not_lt_zero j)
    | succ k ih =>
      rcases ih with ih | ih
      · by_cases hk : OnR L (it L k x)
        · exact .inr ⟨k, hk, ih⟩
        · refine .inl fun j hj => ?_
          by_cases e : j = k
          · subst e
            exact hk
          · exact ih j (by omega)
      · exact .inr ih
  rcases h (i + 1) with h | h
  · exact absurd hor (h i (by omega))
  · exact h
open Classical in
noncomputable def wt (L : List Nat) (x : Nat) : Nat := if h : ∃ k, IsWait L x k then Classical.choose h else 0
theorem wt_is {L : List Nat} (hL : Lead L) {x : Nat} (hx : x < L.length) : IsWait L x (wt L x) := by
  unfold wt
  rw [dif_pos (wait_ex hL hx)]
  exact Classical.choose_spec (wait_ex hL hx)
noncomputable def wtl (L : List Nat) : List Nat := (List.range L.length).map (wt L)
theorem wtl_len (L : List Nat) : (wtl L).length = L.length := by
  unfold wtl
  rw [List.length_map, List.length_range]
theorem wtl_st {L : List Nat} {x : Nat} (hx : x < L.length) : st (wtl L) x = wt L x := by
  unfold wtl
  rw [st_map (by rw [List.length_range]; exact hx), st_range hx]
theorem wtl_uniq {L F : List Nat} (hL : Lead L) (h1 : F.length = L.length) (h2 : ∀ x, x < L.length → IsWait L x (st F x)) : F = wtl L := ext_st (by rw [wtl_len, h1]) fun x hx => by
  rw [wtl_st (by omega)]
  exact (h2 x (by omega)).uniq (wt_is hL (by omega))
theorem wt_zero {L : List Nat} (hL : Lead L) {x : Nat} (hx : x < L.length) : wt L x = 0 ↔ OnR L x := by
  refine ⟨fun h => ?_, fun h => ?_⟩
  · have h1 := wt_is hL hx
    rw [h] at h1
    exact wait_zero h1
  · exact (wt_is hL hx).uniq (isWait_zero h)
theorem wt_lt {L : List Nat} (hL : Lead L) {x : Nat} (hx : x < L.length) : wt L x < L.length := by
  obtain ⟨m, hm⟩ := orb_ex hL hx
  obtain ⟨i, hi, e⟩ := hm.back
  have h1 := hm.le hL hx
  have h2 := wt_is hL hx
  have h3 : ¬ i < wt L x := fun h => h2.2 i h (onR_of_orb hi e)
  omega
theorem flat_nodup_len {L : List Nat} (hL : Lead L) {k : Nat} (hk : k ≤ L.length) {ks : List Nat} (nd : ks.Nodup) (h : ∀ x, x ∈ ks → x ∈ (rgs L k).flatten) : ks.length ≤ L.length := nodup_len nd fun x hx => by
  obtain ⟨r, hr, hxr⟩ := List.mem_flatten.mp (h x hx)
  exact ((rgs_ok hL k hk).lt r hr x hxr).1
/-! ### the turns -/
def lc (t m : Nat) : Nat := t / Nat.gcd t m * m
noncomputable def tf (L : List Nat) (i : Nat) : Nat := ((rgs L L.length).take i).foldl (fun t r => lc t r.length) 1
noncomputable def turnsOf (L : List Nat) : Nat := (rgs L L.length).foldl (fun t r => lc t r.length) 1
theorem tf_all (L : List Nat) : tf L (rgs L L.length).length = turnsOf L := by
  unfold tf turnsOf
  rw [List.take_length]
theorem tf_step {L l : List Nat} {i : Nat} (h : (rgs L L.length)[i]? = some l) : tf L (i + 1) = lc (tf L i) l.length := by
  unfold tf
  rw [List.take_add_one, h, List.foldl_append]
  rfl
end Ld
namespace Ld
theorem rgs_len (L : List Nat) : ∀ k, (rgs L k).length ≤ k
  | 0 => Nat.le_refl 0
  | k + 1 => by
    have ih := rgs_len L k
    by_cases h : OnR L k ∧ k ∉ (rgs L k).flatten
    · rw [rgs_yes h.1 h.2, List.length_append, List.length_singleton]
      omega
    · rw [rgs_no h]
      omega
end Ld
/-! Mf: all settles, and when; primes. Plain Lean. -/
namespace Ld
/-! ### the places on rings -/
theorem onR_far {L : List Nat} (hL : Lead L) {p : Nat} (hp : p < L.length) : OnR L (it L L.length p) := by
  have h1 := (wt_is hL hp).1
  have h2 := wt_lt hL hp
  rw [show L.length = wt L p + (L.length - wt L p) by omega, it_add]
  exact onR_it h1 _
theorem onR_from {L : List Nat} (hL : Lead L) {x : Nat} (hx : x < L.length) (h : OnR L x) : ∃ p, p < L.length ∧ it L L.length p = x := by
  obtain ⟨m, hm, e⟩ := h
  have h1 := it_period (L := L) (p := x) (a := 0) (d := m) (by rw [Nat.zero_add]; exact e) L.length
  rw [Nat.zero_add] at h1
  have h2 : L.length ≤ L.length * m := Nat.le_mul_of_pos_right _ hm
  refine ⟨it L (L.length * m - L.length) x, it_lt hL _ hx, ?_⟩
  rw [← it_add, Nat.sub_add_cancel h2, h1]
  rfl
theorem rgs_gap {L : List Nat} {a : Nat} : ∀ d, (∀ y, a ≤ y → y < a + d → ¬ OnR L y) → rgs L (a + d) = rgs L a
  | 0, _ => rfl
  | d + 1, h => by
    rw [show a + (d + 1) = a + d + 1 by omega, rgs_no fun hc => h (a + d) (by omega) (by omega) hc.1]
    exact rgs_gap d fun y h1 h2 => h y h1 (by omega)
theorem srt_lt {ks : List Nat} (nd : ks.Nodup) : (srt ks).Pairwise (· < ·) := by
  have h1 := srt_le ks
  have h2 : (srt ks).Nodup := (srt_perm ks).nodup_iff.mpr nd
  exact (h1.and h2).imp fun h => Nat.lt_of_le_of_ne h.1 h.2
theorem pair_at {ys : List Nat} (h : ys.Pairwise (· < ·)) {i j x y : Nat} (hi : ys[i]? = some x) (hj : ys[j]? = some y) : i < j ↔ x < y := by
  obtain ⟨h1, rfl⟩ := List.getElem?_eq_some_iff.mp hi
  obtain ⟨h2, rfl⟩ := List.getElem?_eq_some_iff.mp hj
  refine ⟨fun h3 => List.pairwise_iff_getElem.mp h i j h1 h2 h3, fun h3 => Classical.byContradiction fun h4 => ?_⟩
  by_cases h5 : i = j
  · subst h5
    omega
  · have := List.pairwise_iff_getElem.mp h j i h2 h1 (by omega)
    omega
/-! ### least common multiples -/
theorem lc_lcm (t m : Nat) : lc t m = Nat.lcm t m := by
  unfold lc Nat.lcm
  exact Nat.div_mul_right_comm (Nat.gcd_dvd_left t m) m
def gl (rs : List (List Nat)) (t : Nat) : Nat := rs.foldl (fun t r => lc t r.length) t
theorem gl_dvd : ∀ (rs : List (List Nat)) (t : Nat), t ∣ gl rs t ∧ ∀ r ∈ rs, r.length ∣ gl rs t
  | [], t => ⟨Nat.dvd_refl t, fun r hr => (nomatch hr)⟩
  | a :: rs, t => by
    obtain ⟨h1, h2⟩ := gl_dvd rs (lc t a.length)
    show t ∣ gl rs (lc t a.length) ∧ _
    have h3 : t ∣ lc t a.length ∧ a.length ∣ lc t a.length := by
      rw [lc_lcm]
      exact ⟨Nat.dvd_lcm_left _ _, Nat.dvd_lcm_right _ _⟩
    refine ⟨Nat.dvd_trans h3.1 h1, fun r hr => ?_⟩
    rcases List.mem_cons.mp hr with rfl | hr
    · exact Nat.dvd_trans h3.2 h1
    · exact h2 r hr
theorem gl_least {k : Nat} : ∀ (rs : List (List Nat)) (t : Nat), t ∣ k → (∀ r ∈ rs, r.length ∣ k) → gl rs t ∣ k
  | [], t, h, _ => h
  | a :: rs, t, h, hr => by
    show gl rs (lc t a.length) ∣ k
    refine gl_least rs _ ?_ fun r h1 => hr r (List.mem_cons_of_mem _ h1)
    rw [lc_lcm]
    exact Nat.lcm_dvd h (hr a List.mem_cons_self)
theorem ring_len {L r : List Nat} (hL : Lead L) (hr : r ∈ rgs L L.length) : ∃ p, p < L.length ∧ OnR L p ∧ r.length = per L p ∧ r = path L p (per L p) := by
  obtain ⟨p, _, h2, h3, h4⟩ := (rgs_ok hL L.length (Nat.le_refl _)).form r hr
  exact ⟨p, h2, h3, by rw [h4]; exact path_len _ _ _, h4⟩
theorem ring_pos {L r : List Nat} (hL : Lead L) (hr : r ∈ rgs L L.length) : 0 < r.length ∧ r.length ≤ L.length := by
  obtain ⟨p, h2, _, h4, _⟩ := ring_len hL hr
  rw [h4]
  exact ⟨(per_orb hL h2).pos, (per_orb hL h2).le hL h2⟩
theorem turns_dvd {L r : List Nat} (hr : r ∈ rgs L L.length) : r.length ∣ turnsOf L := (gl_dvd (rgs L L.length) 1).2 r hr
theorem gl_pos : ∀ (rs : List (List Nat)) (t : Nat), 0 < t → (∀ r ∈ rs, 0 < r.length) → 0 < gl rs t
  | [], t, h, _ => h
  | a :: rs, t, h, hr => by
    show 0 < gl rs (lc t a.length)
    refine gl_pos rs _ ?_ fun r h1 => hr r (List.mem_cons_of_mem _ h1)
    rw [lc_lcm]
    exact Nat.lcm_pos h (hr a List.mem_cons_self)
theorem turns_pos {L : List Nat} (hL : Lead L) : 0 < turnsOf L := gl_pos _ 1 Nat.one_pos fun r hr => (ring_pos hL hr).1
/-! ### all settles -/
theorem it_mul {L : List Nat} {q l : Nat} (h : it L l q = q) (k : Nat) : it L (k * l) q = q := by
  have h1 := it_period (L := L) (p := q) (a := 0) (d := l) (by rw [Nat.zero_add]; exact h) k
  rw [Nat.zero_add] at h1
  exact h1
theorem ring_turn {L : List Nat} (hL : Lead L) {q : Nat} (hq : q < L.length) (h : OnR L q) : it L (turnsOf L) q = q := by
  have hR := rgs_ok hL L.length (Nat.le_refl _)
  obtain ⟨r, hr, hqr⟩ := List.mem_flatten.mp (hR.has q hq hq h)
  obtain ⟨p, h2, h3, h4, h5⟩ := ring_len hL hr
  have ho := per_orb hL h2
  obtain ⟨k, hk⟩ := turns_dvd hr
  rw [h5] at hqr
  obtain ⟨i, hi, rfl⟩ := mem_path.mp hqr
  have e : it L (per L p) (it L i p) = it L i p := by
    rw [← it_add, Nat.add_comm, it_add, orb_ring ho h3]
  rw [hk, h4, Nat.mul_comm]
  exact it_mul e k
theorem settles {L : List Nat} (hL : Lead L) {W : Nat} (hW : ∀ x, x < L.length → wt L x ≤ W) : tm L (W + turnsOf L) = tm L W := by
  unfold tm
  refine List.map_congr_left fun p hp => ?_
  have hp := List.mem_range.mp hp
  have h1 : OnR L (it L W p) := by
    have h2 := hW p hp
    rw [show W = wt L p + (W - wt L p) by omega, it_add]
    exact onR_it (wt_is hL hp).1 _
  rw [it_add]
  exact ring_turn hL (it_lt hL _ hp) h1
theorem orb_back {L : List Nat} {p m t : Nat} (h : Orb L p m) (hr : OnR L p) (e : it L t p = p) : m ∣ t := by
  have h1 : it L (t % m) p = p := by
    have h2 : it L (t / m * m + t % m) p = p := by
      rw [Nat.div_add_mod']
      exact e
    rw [it_add, it_mul (orb_ring h hr)] at h2
    exact h2
  cases hz : t % m with
  | zero => exact Nat.dvd_of_mod_eq_zero hz
  | succ k =>
    rw [hz] at h1
    exact absurd h1.symm (h.inj 0 (k + 1) (Nat.succ_pos k) (by rw [← hz]; exact Nat.mod_lt _ h.pos))
/-- with fewer turns it doesn't settle -/
theorem unsettled {L : List Nat} (hL : Lead L) {W t : Nat} (h0 : 0 < t) (ht : t < turnsOf L) : tm L (W + t) ≠ tm L W := fun e => by
  have h : ∀ r ∈ rgs L L.length, r.length ∣ t := fun r hr => by
    obtain ⟨p, h2, h3, h4, _⟩ := ring_len hL hr
    have ho := per_orb hL h2
    have e1 : it L (W + t) p = it L W p := by
      have := congrArg (fun l => st l p) e
      have this : st (tm L (W + t)) p = st (tm L W) p := this
      rw [st_tm h2, st_tm h2] at this
      exact this
    have hle : W ≤ W * per L p := Nat.le_mul_of_pos_right _ ho.pos
    have e2 := congrArg (it L (W * per L p - W)) e1
    rw [← it_add, ← it_add, show W + t + (W * per L p - W) = W * per L p + t by omega, show W + (W * per L p - W) = W * per L p by omega, it_add, it_mul (orb_ring ho h3)] at e2
    rw [h4]
    exact orb_back ho h3 e2
  have h1 : turnsOf L ∣ t := gl_least _ 1 (Nat.one_dvd t) h
  have := Nat.le_of_dvd h0 h1
  omega
/-! ### primes -/
def IsP (p : Nat) : Prop := 2 ≤ p ∧ ∀ d, d ∣ p → d = 1 ∨ d = p
theorem isP_split {p a b : Nat} (hp : IsP p) (h : p ∣ a * b) : p ∣ a ∨ p ∣ b := by
  rcases hp.2 (Nat.gcd p a) (Nat.gcd_dvd_left p a) with e | e
  · exact .inr (Nat.Coprime.dvd_of_dvd_mul_left e h)
  · exact .inl (by rw [← e]; exact Nat.gcd_dvd_right p a)
theorem isP_ex : ∀ n, 2 ≤ n → ∃ p, IsP p ∧ p ∣ n := fun n => by
  induction n using Nat.strongRecOn with
  | _ n ih =>
    intro h
    by_cases hp : ∀ d, d ∣ n → d = 1 ∨ d = n
    · exact ⟨n, ⟨h, hp⟩, Nat.dvd_refl n⟩
    · obtain ⟨d, hd⟩ := Classical.not_forall.mp hp
      obtain ⟨h1, h2⟩ := Classical.not_imp.mp hd
      obtain ⟨h3, h4⟩ := not_or.mp h2
      have h5 := Nat.le_of_dvd (by omega) h1
      have h6 : 0 < d := Nat.pos_of_dvd_of_pos h1 (by omega)
      obtain ⟨p, hp1, hp2⟩ := ih d (by omega) (by omega)
      exact ⟨p, hp1, Nat.dvd_trans hp2 h1⟩
theorem isP_gl {p : Nat} (hp : IsP p) : ∀ (rs : List (List Nat)) (t : Nat), p ∣ gl rs t → p ∣ t ∨ ∃ r ∈ rs, p ∣ r.length
  | [], t, h => .inl h
  | a :: rs, t, h => by
    rcases isP_gl hp rs (lc t a.length) h with h | ⟨r, hr, h⟩
    · rw [lc_lcm] at h
      rcases isP_split hp (Nat.dvd_trans h (Nat.lcm_dvd_mul t a.length)) with h | h
      · exact .inl h
      · exact .inr ⟨a, List.mem_cons_self, h⟩
    · exact .inr ⟨r, List.mem_cons_of_mem _ hr, h⟩
theorem isP_turns {L : List Nat} {p : Nat} (hp : IsP p) (h : p ∣ turnsOf L) : ∃ r ∈ rgs L L.length, p ∣ r.length := by
  rcases isP_gl hp _ 1 h with h | h
  · have := Nat.le_of_dvd Nat.one_pos h
    have := hp.1
    omega
  · exact h
/-- the primes of N, as far as M and d: F those found -/
structure Prm (N : Nat) (F : List Nat) (M d : Nat) : Prop where
  npos : 0 < N
  two : 2 ≤ d
  pos : 0 < M
  dvd : M ∣ N
  good : ∀ q ∈ F, 2 ≤ q ∧ q ∣ N
  all : ∀ p, IsP p → p ∣ N → p ∣ M ∨ p ∈ F
  low : ∀ p, IsP p → p ∣ M → d ≤ p
  len : F.length + 2 ≤ d
  top : d = 2 ∨ d ≤ N
theorem prm_start {N : Nat} (h : 0 < N) : Prm N [] N 2 := ⟨h, Nat.le_refl 2, h, Nat.dvd_refl N, fun q hq => (nomatch hq), fun p _ h => .inl h, fun p hp _ => hp.1, Nat.le_refl 2, .inl rfl⟩
/-- within a turn of the loop: M by d, so often -/
structure PrmI (N : Nat) (F : List Nat) (M0 d M : Nat) : Prop where
  pos : 0 < M
  dvd : M ∣ M0
  all : ∀ p, IsP p → p ∣ M0 → p ∣ M ∨ p = d
theorem prmI_start {N M d : Nat} {F : List Nat} (h : Prm N F M d) : PrmI N F M d M := ⟨h.pos, Nat.dvd_refl M, fun p _ h => .inl h⟩
theorem prmI_step {N M0 d M : Nat} {F : List Nat} (h : Prm N F M0 d) (hi : PrmI N F M0 d M) (hd : M % d = 0) : PrmI N F M0 d (M / d) ∧ M / d < M := by
  have h2 := h.two
  obtain ⟨k, rfl⟩ := Nat.dvd_of_mod_eq_zero hd
  rw [Nat.mul_div_cancel_left k (by omega)]
  have hp := hi.pos
  have hk : 0 < k := Nat.pos_of_ne_zero fun e => by
    subst e
    omega
  refine ⟨⟨hk, Nat.dvd_trans (Nat.dvd_mul_left k d) hi.dvd, fun p hp h1 => ?_⟩, ?_⟩
  · rcases hi.all p hp h1 with h3 | h3
    · rcases isP_split hp h3 with h4 | h4
      · have h5 := Nat.le_of_dvd (by omega) h4
        have h6 := h.low p hp h1
        exact .inr (by omega)
      · exact .inl h4
    · exact .inr h3
  · have : 2 * k ≤ d * k := Nat.mul_le_mul_right k h2
    omega
/-- the turn's end -/
theorem prm_next {N M0 d M : Nat} {F : List Nat} (h : Prm N F M0 d) (hdd : d * d ≤ M0) (hi : PrmI N F M0 d M) (hd : M % d ≠ 0) : Prm N (if M0 % d = 0 then F ++ [d] else F) M (d + 1) := by
  have h2 := h.two
  have hN := Nat.le_of_dvd h.npos h.dvd
  have hdl : d + 1 ≤ d * d := by
    have : 2 * d ≤ d * d := Nat.mul_le_mul_right d h2
    omega
  have hno : ∀ p, IsP p → p ∣ M → p ≠ d := fun p _ h1 e => hd (Nat.mod_eq_zero_of_dvd (e ▸ h1))
  refine ⟨h.npos, by omega, hi.pos, Nat.dvd_trans hi.dvd h.dvd, fun q hq => ?_, fun p hp h1 => ?_, fun p hp h1 => ?_, ?_, .inr (by omega)⟩
  · split at hq
    · rename_i hz
      rcases List.mem_append.mp hq with hq | hq
      · exact h.good q hq
      · rw [List.mem_singleton.mp hq]
        exact ⟨h2, Nat.dvd_trans (Nat.dvd_of_mod_eq_zero hz) h.dvd⟩
    · exact h.good q hq
  · rcases h.all p hp h1 with h3 | h3
    · rcases hi.all p hp h3 with h4 | h4
      · exact .inl h4
      · subst h4
        rw [if_pos (Nat.mod_eq_zero_of_dvd h3)]
        exact .inr (List.mem_append_right _ (List.mem_singleton.mpr rfl))
    · refine .inr ?_
      split
      · exact List.mem_append_left _ h3
      · exact h3
  · have h3 := h.low p hp (Nat.dvd_trans h1 hi.dvd)
    have h4 := hno p hp h1
    omega
  · have := h.len
    split
    · rw [List.length_append, List.length_singleton]
      omega
    · omega
/-- what _law_primes gives back -/
def primesOf (F : List Nat) (M : Nat) : List Nat := if 1 < M then F ++ [M] else F
structure PrmOk (N : Nat) (F : List Nat) : Prop where
  good : ∀ q ∈ F, 2 ≤ q ∧ q ∣ N
  all : ∀ p, IsP p → p ∣ N → p ∈ F
  len : F.length ≤ N
theorem prm_end {N M d : Nat} {F : List Nat} (h : Prm N F M d) (hdd : M < d * d) : PrmOk N (primesOf F M) := by
  have h2 := h.two
  unfold primesOf
  refine ⟨fun q hq => ?_, fun p hp h1 => ?_, ?_⟩
  · split at hq
    · rcases List.mem_append.mp hq with hq | hq
      · exact h.good q hq
      · rw [List.mem_singleton.mp hq]
        exact ⟨by omega, h.dvd⟩
    · exact h.good q hq
  · rcases h.all p hp h1 with h3 | h3
    · have hpM := Nat.le_of_dvd h.pos h3
      have hp2 := hp.1
      rw [if_pos (by omega)]
      refine List.mem_append_right _ (List.mem_singleton.mpr ?_)
      obtain ⟨k, hk⟩ := h3
      have hkp : 0 < k := Nat.pos_of_ne_zero fun e => by
        subst e
        have := h.pos
        omega
      by_cases hk1 : k = 1
      · rw [hk, hk1, Nat.mul_one]
      · obtain ⟨p2, h4, h5⟩ := isP_ex k (by omega)
        have h6 := h.low p2 h4 (Nat.dvd_trans h5 ⟨p, by rw [hk, Nat.mul_comm]⟩)
        have h7 := Nat.le_of_dvd hkp h5
        have h8 := h.low p hp ⟨k, hk⟩
        have h9 : d * d ≤ p * k := Nat.mul_le_mul h8 (by omega)
        omega
    · split
      · exact List.mem_append_left _ h3
      · exact h3
  · have := h.len
    have := h.top
    have := h.npos
    split
    · rw [List.length_append, List.length_singleton]
      omega
    · omega
/-! ### lengths, each once -/
theorem sum_sub : ∀ {ms ls : List Nat}, ms.Nodup → (∀ x ∈ ms, x ∈ ls) → ms.sum ≤ ls.sum
  | [], ls, _, _ => Nat.zero_le _
  | m :: ms, ls, nd, h => by
    obtain ⟨n1, n2⟩ := List.nodup_cons.mp nd
    have hm := h m List.mem_cons_self
    have hp := (List.perm_cons_erase hm).sum_nat
    have ih := sum_sub (ls := ls.erase m) n2 fun x hx => (List.mem_erase_of_ne fun e => n1 (by rw [← e]; exact hx)).mpr (h x (List.mem_cons_of_mem _ hx))
    rw [List.sum_cons] at hp ⊢
    omega
theorem flat_nodup {L : List Nat} (hL : Lead L) : ∀ k, k ≤ L.length → (rgs L k).flatten.Nodup
  | 0, _ => List.nodup_nil
  | k + 1, hk => by
    have ih := flat_nodup hL k (by omega)
    by_cases hc : OnR L k ∧ k ∉ (rgs L k).flatten
    · rw [rgs_yes hc.1 hc.2, List.flatten_append, List.flatten_singleton, List.nodup_append]
      refine ⟨ih, (per_orb hL (by omega)).nodup, fun x hx y hy e => ?_⟩
      subst e
      obtain ⟨i, _, rfl⟩ := mem_path.mp hy
      exact rgs_new hL (rgs_ok hL k (by omega)) (by omega) hc.1 hc.2 i hx
    · rw [rgs_no hc]
      exact ih
theorem lens_sum {L : List Nat} (hL : Lead L) {ms : List Nat} (nd : ms.Nodup) (h : ∀ x ∈ ms, x ∈ (rgs L L.length).map List.length) : ms.sum ≤ L.length := by
  have h1 := sum_sub nd h
  have h2 : (rgs L L.length).flatten.length ≤ L.length := flat_nodup_len hL (Nat.le_refl _) (flat_nodup hL _ (Nat.le_refl _)) fun x hx => hx
  rw [List.length_flatten] at h2
  omega
/-- once no prime of the lengths goes into what is left, that is one -/
theorem left_one {L : List Nat} {PH : List Nat} {M : Nat} (hd : M ∣ turnsOf L) (h0 : 0 < M) (hall : ∀ p, IsP p → ∀ r ∈ rgs L L.length, p ∣ r.length → p ∈ PH) (hno : ∀ q ∈ PH, 2 ≤ q → ¬ q ∣ M) : M = 1 := by
  refine Classical.byContradiction fun h => ?_
  obtain ⟨p, hp, h1⟩ := isP_ex M (by omega)
  obtain ⟨r, hr, h2⟩ := isP_turns hp (Nat.dvd_trans h1 hd)
  exact hno p (hall p hp r hr h2) hp.1 h1
/-! ### the greatest wait -/
theorem mx_nat : ∀ (l : List Nat) (d : Nat), (l.map fun (x : Nat) => (x : Int)).foldl max (d : Int) = ((l.foldl max d : Nat) : Int)
  | [], d => rfl
  | a :: l, d => by
    rw [List.map_cons, List.foldl_cons, List.foldl_cons, show max (d : Int) (a : Int) = ((max d a : Nat) : Int) by omega]
    exact mx_nat l (max d a)
theorem le_mx : ∀ (l : List Nat) (d : Nat), d ≤ l.foldl max d ∧ ∀ x ∈ l, x ≤ l.foldl max d
  | [], d => ⟨Nat.le_refl d, fun x hx => (nomatch hx)⟩
  | a :: l, d => by
    obtain ⟨h1, h2⟩ := le_mx l (max d a)
    rw [List.foldl_cons]
    refine ⟨by omega, fun x hx => ?_⟩
    rcases List.mem_cons.mp hx with rfl | hx
    · omega
    · exact h2 x hx
end Ld
/-! Mg: roots of what can be taken back. Plain Lean. -/
namespace Ld
/-! ### all places on rings -/
theorem it_inj {L : List Nat} (hL : Lead L) (hI : Inj L) : ∀ (k : Nat) {a b : Nat}, a < L.length → b < L.length → it L k a = it L k b → a = b
  | 0, _, _, _, _, h => h
  | k + 1, a, b, ha, hb, h => by
    rw [it_succ, it_succ] at h
    exact it_inj hL hI k ha hb (hI _ _ (it_lt hL k ha) (it_lt hL k hb) h)
theorem onR_all {L : List Nat} (hL : Lead L) (nd : L.Nodup) {p : Nat} (hp : p < L.length) : OnR L p := by
  have ho := per_orb hL hp
  obtain ⟨i, hi, e⟩ := ho.back
  refine ⟨per L p - i, by omega, it_inj hL (inj_of nd) i (it_lt hL _ hp) hp ?_⟩
  rw [← it_add, Nat.sub_add_cancel (by omega), e]
theorem per_back {L : List Nat} (hL : Lead L) (nd : L.Nodup) {p : Nat} (hp : p < L.length) : it L (per L p) p = p := orb_ring (per_orb hL hp) (onR_all hL nd hp)
/-! ### rings, each once -/
theorem rgs_disj {L : List Nat} (hL : Lead L) : ∀ k, k ≤ L.length → ∀ {r s : List Nat} {p : Nat}, r ∈ rgs L k → s ∈ rgs L k → p ∈ r → p ∈ s → r = s
  | 0, _, r, s, p, h, _, _, _ => nomatch h
  | k + 1, hk, r, s, p, h1, h2, h3, h4 => by
    by_cases hc : OnR L k ∧ k ∉ (rgs L k).flatten
    · have hno : ∀ t ∈ rgs L k, p ∈ t → p ∈ ringAt L k → False := fun t ht hp hq => by
        obtain ⟨i, _, e⟩ := mem_path.mp hq
        exact rgs_new hL (rgs_ok hL k (by omega)) (by omega) hc.1 hc.2 i (by rw [← e]; exact List.mem_flatten.mpr ⟨t, ht, hp⟩)
      rw [rgs_yes hc.1 hc.2, List.mem_append, List.mem_singleton] at h1 h2
      rcases h1 with h1 | h1 <;> rcases h2 with h2 | h2
      · exact rgs_disj hL k (by omega) h1 h2 h3 h4
      · exact (hno r h1 h3 (h2 ▸ h4)).elim
      · exact (hno s h2 h4 (h1 ▸ h3)).elim
      · rw [h1, h2]
    · rw [rgs_no hc] at h1 h2
      exact rgs_disj hL k (by omega) h1 h2 h3 h4
theorem rgs_nodup {L : List Nat} (hL : Lead L) : ∀ k, k ≤ L.length → (rgs L k).Nodup
  | 0, _ => List.nodup_nil
  | k + 1, hk => by
    have ih := rgs_nodup hL k (by omega)
    by_cases hc : OnR L k ∧ k ∉ (rgs L k).flatten
    · rw [rgs_yes hc.1 hc.2, List.nodup_append]
      refine ⟨ih, List.nodup_cons.mpr ⟨List.not_mem_nil, List.nodup_nil⟩, fun x hx y hy e => ?_⟩
      rw [List.mem_singleton] at hy
      subst hy
      subst e
      exact hc.2 (List.mem_flatten.mpr ⟨_, hx, (per_orb hL (by omega)).mem⟩)
    · rw [rgs_no hc]
      exact ih
/-- a ring, as a list -/
structure RingL (L A : List Nat) : Prop where
  pos : 0 < A.length
  nd : A.Nodup
  lt : ∀ a, a < A.length → st A a < L.length
  step : ∀ a, a < A.length → st L (st A a) = st A ((a + 1) % A.length)
theorem path_st {L : List Nat} {p m a : Nat} (h : a < m) : st (path L p m) a = it L a p := by
  have h1 := path_get (L := L) (p := p) h
  rw [st_get (by rw [path_len]; exact h)] at h1
  exact Option.some.inj h1
theorem ring_is {L r : List Nat} (hL : Lead L) (hr : r ∈ rgs L L.length) : RingL L r := by
  obtain ⟨p, h2, h3, h4, h5⟩ := ring_len hL hr
  have ho := per_orb hL h2
  have hb := orb_ring ho h3
  subst h5
  refine ⟨by rw [path_len]; exact ho.pos, ho.nodup, fun a ha => ?_, fun a ha => ?_⟩
  · rw [path_len] at ha
    rw [path_st ha]
    exact it_lt hL _ h2
  · rw [path_len] at ha ⊢
    have hm : (a + 1) % per L p < per L p := Nat.mod_lt _ ho.pos
    rw [path_st ha, path_st hm, ← it_succ]
    by_cases e : a + 1 = per L p
    · rw [e, Nat.mod_self, hb]
      rfl
    · rw [Nat.mod_eq_of_lt (by omega)]
theorem st_inj {A : List Nat} (nd : A.Nodup) {a b : Nat} (ha : a < A.length) (hb : b < A.length) (e : st A a = st A b) : a = b := by
  rw [st_eq ha, st_eq hb] at e
  exact (List.getElem_inj nd).mp e
theorem mem_st {A : List Nat} {x : Nat} (h : x ∈ A) : ∃ a, a < A.length ∧ x = st A a := by
  obtain ⟨a, ha, e⟩ := List.getElem_of_mem h
  exact ⟨a, ha, by rw [st_eq ha, e]⟩
/-! ### two rings, by turns -/
def brF (F A B : List Nat) : Nat → List Nat
  | 0 => F
  | i + 1 => ((brF F A B i).set (st A i) (st B i)).set (st B i) (st A ((i + 1) % A.length))
structure BrA (L A B : List Nat) : Prop where
  a : RingL L A
  b : RingL L B
  len : B.length = A.length
  dis : ∀ x, x ∈ A → x ∈ B → False
structure Br (F A B : List Nat) (i : Nat) (F' : List Nat) : Prop where
  len : F'.length = F.length
  out : ∀ p, p ∉ A → p ∉ B → st F' p = st F p
  one : ∀ a, a < i → st F' (st A a) = st B a
  two : ∀ a, a < i → st F' (st B a) = st A ((a + 1) % A.length)
theorem br_step {L F A B : List Nat} (h : BrA L A B) (hF : F.length = L.length) : ∀ i, i ≤ A.length → Br F A B i (brF F A B i)
  | 0, _ => ⟨rfl, fun _ _ _ => rfl, fun a h => absurd h (Nat.not_lt_zero a), fun a h => absurd h (Nat.not_lt_zero a)⟩
  | i + 1, hi => by
    have ih := br_step h hF i (by omega)
    have hA := h.a.lt i (by omega)
    have hBl : i < B.length := by
      have := h.len
      omega
    have hB := h.b.lt i hBl
    have mA : st A i ∈ A := st_mem (by omega)
    have mB : st B i ∈ B := st_mem hBl
    have hl := ih.len
    have hs : ∀ p, st (brF F A B (i + 1)) p = if p = st B i then st A ((i + 1) % A.length) else if p = st A i then st B i else st (brF F A B i) p := fun p => by
      show st (((brF F A B i).set (st A i) (st B i)).set (st B i) _) p = _
      rw [st_set (by rw [List.length_set]; omega), st_set (by omega)]
    refine ⟨?_, fun p h1 h2 => ?_, fun a ha => ?_, fun a ha => ?_⟩
    · show (((brF F A B i).set _ _).set _ _).length = _
      rw [List.length_set, List.length_set]
      exact hl
    · have n1 : p ≠ st B i := fun e => h2 (by rw [e]; exact mB)
      have n2 : p ≠ st A i := fun e => h1 (by rw [e]; exact mA)
      rw [hs, if_neg n1, if_neg n2]
      exact ih.out p h1 h2
    · have n1 : st A a ≠ st B i := fun e => h.dis _ (st_mem (L := A) (p := a) (by omega)) (by rw [e]; exact mB)
      rw [hs, if_neg n1]
      by_cases e : a = i
      · rw [if_pos (by rw [e]), e]
      · rw [if_neg fun e2 => e (st_inj h.a.nd (by omega) (by omega) e2)]
        exact ih.one a (by omega)
    · rw [hs]
      by_cases e : a = i
      · rw [if_pos (by rw [e]), e]
      · have n2 : st B a ≠ st A i := fun e2 => h.dis (st B a) (by rw [e2]; exact mA) (st_mem (L := B) (p := a) (by omega))
        rw [if_neg fun e2 => e (st_inj h.b.nd (by omega) (by omega) e2), if_neg n2]
        exact ih.two a (by omega)
/-! ### a ring of odd length -/
def hvF (F A : List Nat) : Nat → List Nat
  | 0 => F
  | i + 1 => (hvF F A i).set (st A i) (st A ((i + (A.length + 1) / 2) % A.length))
structure Hv (F A : List Nat) (i : Nat) (F' : List Nat) : Prop where
  len : F'.length = F.length
  out : ∀ p, p ∉ A → st F' p = st F p
  one : ∀ a, a < i → st F' (st A a) = st A ((a + (A.length + 1) / 2) % A.length)
theorem hv_step {L F A : List Nat} (h : RingL L A) (hF : F.length = L.length) : ∀ i, i ≤ A.length → Hv F A i (hvF F A i)
  | 0, _ => ⟨rfl, fun _ _ => rfl, fun a h => absurd h (Nat.not_lt_zero a)⟩
  | i + 1, hi => by
    have ih := hv_step h hF i (by omega)
    have hA := h.lt i (by omega)
    have mA : st A i ∈ A := st_mem (by omega)
    have hl := ih.len
    have hs : ∀ p, st (hvF F A (i + 1)) p = if p = st A i then st A ((i + (A.length + 1) / 2) % A.length) else st (hvF F A i) p := fun p => by
      show st ((hvF F A i).set (st A i) _) p = _
      rw [st_set (by omega)]
    refine ⟨?_, fun p h1 => ?_, fun a ha => ?_⟩
    · show ((hvF F A i).set _ _).length = _
      rw [List.length_set]
      exact hl
    · have n2 : p ≠ st A i := fun e => h1 (by rw [e]; exact mA)
      rw [hs, if_neg n2]
      exact ih.out p h1
    · rw [hs]
      by_cases e : a = i
      · rw [if_pos (by rw [e]), e]
      · rw [if_neg fun e2 => e (st_inj h.nd (by omega) (by omega) e2)]
        exact ih.one a (by omega)
/-! ### half of the way, ring by ring -/
structure Half (L F : List Nat) (Hl : List (List Nat)) : Prop where
  len : F.length = L.length
  sub : ∀ r ∈ Hl, r ∈ rgs L L.length
  ok : ∀ r ∈ Hl, ∀ p ∈ r, (∃ s ∈ Hl, st F p ∈ s) ∧ st F (st F p) = st L p
theorem Half.far {L F : List Nat} {Hl : List (List Nat)} (hL : Lead L) (h : Half L F Hl) {A : List Nat} (hA : A ∈ rgs L L.length) (hn : A ∉ Hl) {r : List Nat} (hr : r ∈ Hl) {p : Nat} (hp : p ∈ r) : p ∉ A := fun hq =>
  hn (rgs_disj hL _ (Nat.le_refl _) hA (h.sub r hr) hq hp ▸ hr)
theorem half_braid {L F F' A B : List Nat} {Hl : List (List Nat)} (hL : Lead L) (h : Half L F Hl) (hA : A ∈ rgs L L.length) (hB : B ∈ rgs L L.length) (hab : BrA L A B) (nA : A ∉ Hl) (nB : B ∉ Hl) (hb : Br F A B A.length F') : Half L F' (Hl ++ [A, B]) := by
  have mA : A ∈ Hl ++ [A, B] := List.mem_append_right _ List.mem_cons_self
  have mB : B ∈ Hl ++ [A, B] := List.mem_append_right _ (List.mem_cons_of_mem _ List.mem_cons_self)
  have hl := hab.len
  have hpos := hab.a.pos
  refine ⟨hb.len.trans h.len, fun r hr => ?_, fun r hr p hp => ?_⟩
  · rcases List.mem_append.mp hr with hr | hr
    · exact h.sub r hr
    · rcases List.mem_cons.mp hr with rfl | hr
      · exact hA
      · rw [List.mem_singleton.mp hr]
        exact hB
  · rcases List.mem_append.mp hr with hr | hr
    · obtain ⟨⟨s, hs, h1⟩, h2⟩ := h.ok r hr p hp
      have e1 : st F' p = st F p := hb.out p (h.far hL hA nA hr hp) (h.far hL hB nB hr hp)
      have e2 : st F' (st F p) = st F (st F p) := hb.out _ (h.far hL hA nA hs h1) (h.far hL hB nB hs h1)
      rw [e1, e2]
      exact ⟨⟨s, List.mem_append_left _ hs, h1⟩, h2⟩
    · rcases List.mem_cons.mp hr with rfl | hr
      · obtain ⟨a, ha, rfl⟩ := mem_st hp
        rw [hb.one a ha, hb.two a ha, hab.a.step a ha]
        exact ⟨⟨B, mB, st_mem (by omega)⟩, rfl⟩
      · rw [List.mem_singleton.mp hr] at hp
        obtain ⟨a, ha, rfl⟩ := mem_st hp
        have ha' : a < A.length := by omega
        have hm := Nat.mod_lt (a + 1) hpos
        rw [hb.two a ha', hb.one _ hm, hab.b.step a ha, hl]
        exact ⟨⟨A, mA, st_mem hm⟩, rfl⟩
theorem half_halve {L F F' A : List Nat} {Hl : List (List Nat)} (hL : Lead L) (h : Half L F Hl) (hA : A ∈ rgs L L.length) (hodd : A.length % 2 = 1) (nA : A ∉ Hl) (hb : Hv F A A.length F') : Half L F' (Hl ++ [A]) := by
  have mA : A ∈ Hl ++ [A] := List.mem_append_right _ List.mem_cons_self
  have hR := ring_is hL hA
  have hpos := hR.pos
  refine ⟨hb.len.trans h.len, fun r hr => ?_, fun r hr p hp => ?_⟩
  · rcases List.mem_append.mp hr with hr | hr
    · exact h.sub r hr
    · rw [List.mem_singleton.mp hr]
      exact hA
  · rcases List.mem_append.mp hr with hr | hr
    · obtain ⟨⟨s, hs, h1⟩, h2⟩ := h.ok r hr p hp
      have e1 : st F' p = st F p := hb.out p (h.far hL hA nA hr hp)
      have e2 : st F' (st F p) = st F (st F p) := hb.out _ (h.far hL hA nA hs h1)
      rw [e1, e2]
      exact ⟨⟨s, List.mem_append_left _ hs, h1⟩, h2⟩
    · rw [List.mem_singleton.mp hr] at hp
      obtain ⟨a, ha, rfl⟩ := mem_st hp
      have hm := Nat.mod_lt (a + (A.length + 1) / 2) hpos
      rw [hb.one a ha, hb.one _ hm, hR.step a ha]
      refine ⟨⟨A, mA, st_mem hm⟩, ?_⟩
      rw [Nat.mod_add_mod, show a + (A.length + 1) / 2 + (A.length + 1) / 2 = a + 1 + A.length by omega, Nat.add_mod_right]
theorem half_all {L F : List Nat} {Hl : List (List Nat)} (hL : Lead L) (nd : L.Nodup) (h : Half L F Hl) (hall : ∀ r ∈ rgs L L.length, r ∈ Hl) : Lead F ∧ F.length = L.length ∧ F.map (st F) = L := by
  have hR := rgs_ok hL L.length (Nat.le_refl _)
  have hp : ∀ p, p < L.length → st F p < L.length ∧ st F (st F p) = st L p := fun p hp => by
    obtain ⟨r, hr, hpr⟩ := List.mem_flatten.mp (hR.has p hp hp (onR_all hL nd hp))
    obtain ⟨⟨s, hs, h1⟩, h2⟩ := h.ok r (hall r hr) p hpr
    exact ⟨(hR.lt s (h.sub s hs) _ h1).1, h2⟩
  refine ⟨fun x hx => ?_, h.len, ext_st (by rw [List.length_map]; exact h.len) fun p hp2 => ?_⟩
  · obtain ⟨a, ha, rfl⟩ := mem_st hx
    rw [h.len] at ha ⊢
    exact (hp a ha).1
  · rw [List.length_map] at hp2
    rw [st_map hp2]
    exact (hp p (h.len ▸ hp2)).2
/-! ### rings of a length -/
noncomputable def ofLen (L : List Nat) (m : Nat) : List (List Nat) := (rgs L L.length).filter fun r => decide (r.length = m)
theorem mem_ofLen {L r : List Nat} {m : Nat} : r ∈ ofLen L m ↔ r ∈ rgs L L.length ∧ r.length = m := by
  unfold ofLen
  rw [List.mem_filter, decide_eq_true_eq]
theorem ofLen_nodup {L : List Nat} (hL : Lead L) (m : Nat) : (ofLen L m).Nodup := List.Nodup.sublist List.filter_sublist (rgs_nodup hL _ (Nat.le_refl _))
theorem nodup_takeG {α : Type} {W : List α} (nd : W.Nodup) {k : Nat} {y : α} (h : W[k]? = some y) : y ∉ W.take k := fun hm => by
  obtain ⟨j, hj⟩ := List.mem_iff_getElem?.mp hm
  rw [List.getElem?_take] at hj
  split at hj
  · obtain ⟨h1, e1⟩ := List.getElem?_eq_some_iff.mp hj
    obtain ⟨h2, e2⟩ := List.getElem?_eq_some_iff.mp h
    have := (List.getElem_inj nd).mp (e1.trans e2.symm)
    omega
  · cases hj
end Ld
/-! Mh: what is done twice has rings of each even length in even number. Plain Lean. -/
namespace Ld
theorem even_inv {α : Type} [DecidableEq α] (f : α → α) : ∀ (n : Nat) (l : List α), l.length ≤ n → l.Nodup → (∀ x ∈ l, f x ∈ l ∧ f (f x) = x ∧ f x ≠ x) → l.length % 2 = 0
  | _, [], _, _, _ => rfl
  | 0, x :: t, h, _, _ => by
    rw [List.length_cons] at h
    omega
  | n + 1, x :: t, h, nd, hf => by
    obtain ⟨n1, n2⟩ := List.nodup_cons.mp nd
    obtain ⟨h1, h2, h3⟩ := hf x List.mem_cons_self
    have hm : f x ∈ t := (List.mem_cons.mp h1).resolve_left h3
    have hl := List.length_erase_of_mem hm
    have hpos : 0 < t.length := List.length_pos_of_mem hm
    rw [List.length_cons] at h
    have ih := even_inv f n (t.erase (f x)) (by omega) (n2.erase _) fun y hy => by
      obtain ⟨hy1, hy2⟩ := (List.Nodup.mem_erase_iff n2).mp hy
      obtain ⟨g1, g2, g3⟩ := hf y (List.mem_cons_of_mem _ hy2)
      refine ⟨(List.Nodup.mem_erase_iff n2).mpr ⟨fun e => ?_, (List.mem_cons.mp g1).resolve_left fun e => ?_⟩, g2, g3⟩
      · have e2 := congrArg f e
        rw [g2, h2] at e2
        exact n1 (e2 ▸ hy2)
      · have e2 := congrArg f e
        rw [g2] at e2
        exact hy1 e2
    rw [List.length_cons]
    omega
def twice (L : List Nat) : List Nat := L.map (st L)
theorem twice_len (L : List Nat) : (twice L).length = L.length := List.length_map _
theorem twice_st {L : List Nat} {p : Nat} (hp : p < L.length) : st (twice L) p = st L (st L p) := st_map hp
theorem twice_lead {L : List Nat} (hL : Lead L) : Lead (twice L) := fun x hx => by
  rw [twice_len]
  obtain ⟨y, hy, rfl⟩ := List.mem_map.mp hx
  exact st_lt hL (hL y hy)
theorem twice_it {L : List Nat} (hL : Lead L) : ∀ (k : Nat) {p : Nat}, p < L.length → it (twice L) k p = it L (2 * k) p
  | 0, _, _ => rfl
  | k + 1, p, hp => by
    rw [it_succ, twice_it hL k hp, twice_st (it_lt hL _ hp), show 2 * (k + 1) = 2 * k + 1 + 1 by omega, it_succ, it_succ]
theorem twice_nodup {L : List Nat} (hL : Lead L) (nd : L.Nodup) : (twice L).Nodup := nodup_of fun a b ha hb e => by
  rw [twice_len] at ha hb
  rw [twice_st ha, twice_st hb] at e
  exact inj_of nd _ _ ha hb (inj_of nd _ _ (st_lt hL ha) (st_lt hL hb) e)
theorem twice_swap {L : List Nat} (hL : Lead L) {p : Nat} (hp : p < L.length) (k : Nat) : it (twice L) k (st L p) = st L (it (twice L) k p) := by
  rw [twice_it hL k (st_lt hL hp), twice_it hL k hp, ← it_succ, show st L p = it L 1 p from rfl, ← it_add, Nat.add_comm]
/-- rings of what is done twice: that of a place, and what stands on it -/
theorem ring_of {T : List Nat} (hL : Lead T) (nd : T.Nodup) {q : Nat} (hq : q < T.length) : ∃ s ∈ rgs T T.length, q ∈ s ∧ (∀ x, x ∈ s ↔ ∃ b, x = it T b q) ∧ it T s.length q = q ∧ ∀ t, it T t q = q → s.length ∣ t := by
  have hR := rgs_ok hL T.length (Nat.le_refl _)
  obtain ⟨s, hs, hqs⟩ := List.mem_flatten.mp (hR.has q hq hq (onR_all hL nd hq))
  obtain ⟨p, h2, h3, h4, h5⟩ := ring_len hL hs
  have ho := per_orb hL h2
  have hb := orb_ring ho h3
  rw [h5] at hqs
  obtain ⟨j, hj, rfl⟩ := mem_path.mp hqs
  refine ⟨s, hs, by rw [h5]; exact hqs, fun x => ?_, ?_, fun t ht => ?_⟩
  · rw [h5]
    constructor
    · intro hx
      obtain ⟨i, hi, rfl⟩ := mem_path.mp hx
      refine ⟨per T p - j + i, ?_⟩
      rw [← it_add, show j + (per T p - j + i) = per T p + i by omega, it_add, hb]
    · rintro ⟨b, rfl⟩
      rw [← it_add]
      exact ho.all _
  · rw [h4, ← it_add, Nat.add_comm, it_add, hb]
  · rw [h4]
    refine orb_back ho h3 (it_inj hL (inj_of nd) j (it_lt hL _ h2) h2 ?_)
    rw [← it_add, Nat.add_comm, it_add]
    exact ht
open Classical in
noncomputable def mate (L : List Nat) (m : Nat) (r : List Nat) : List Nat := if h : ∃ s ∈ ofLen (twice L) m, st L (st r 0) ∈ s then choose h else r
theorem mate_is {L r s : List Nat} {m : Nat} (hL : Lead L) (hs : s ∈ ofLen (twice L) m) (h : st L (st r 0) ∈ s) : mate L m r = s := by
  have hex : ∃ s ∈ ofLen (twice L) m, st L (st r 0) ∈ s := ⟨s, hs, h⟩
  unfold mate
  rw [dif_pos hex]
  obtain ⟨h1, h2⟩ := Classical.choose_spec hex
  exact rgs_disj (twice_lead hL) _ (Nat.le_refl _) (mem_ofLen.mp h1).1 (mem_ofLen.mp hs).1 h2 h
theorem twice_even {L : List Nat} (hL : Lead L) (nd : L.Nodup) {m : Nat} (hm : m % 2 = 0) : (ofLen (twice L) m).length % 2 = 0 := by
  have hT := twice_lead hL
  have ndT := twice_nodup hL nd
  have hlen := twice_len L
  refine even_inv (mate L m) _ _ (Nat.le_refl _) (ofLen_nodup hT m) fun r hr => ?_
  obtain ⟨hr1, hr2⟩ := mem_ofLen.mp hr
  have hRr := ring_is hT hr1
  have hp := hRr.lt 0 hRr.pos
  have mp : st r 0 ∈ r := st_mem hRr.pos
  generalize ep : st r 0 = p at hp mp
  have hpL : p < L.length := by omega
  -- r is the ring of p
  obtain ⟨r', k1, k2, k3, k4, k5⟩ := ring_of hT ndT hp
  have er : r' = r := rgs_disj hT _ (Nat.le_refl _) k1 hr1 k2 mp
  subst er
  rw [hr2] at k4 k5
  -- the ring of L p
  have hq : st L p < (twice L).length := by
    rw [hlen]
    exact st_lt hL hpL
  obtain ⟨s, g1, g2, g3, g4, g5⟩ := ring_of hT ndT hq
  have hsm : s.length = m := by
    refine Nat.dvd_antisymm (g5 m ?_) (k5 s.length ?_)
    · rw [twice_swap hL hpL, k4]
    · rw [twice_swap hL hpL] at g4
      exact inj_of nd _ _ (hlen ▸ it_lt hT _ hp) hpL g4
  have hs : s ∈ ofLen (twice L) m := mem_ofLen.mpr ⟨g1, hsm⟩
  have e1 : mate L m r' = s := mate_is hL hs (by rw [ep]; exact g2)
  rw [e1]
  refine ⟨hs, ?_, fun e => ?_⟩
  · have hRs := ring_is hT g1
    obtain ⟨b, hb⟩ := (g3 (st s 0)).mp (st_mem hRs.pos)
    refine mate_is hL hr ?_
    rw [hb, twice_swap hL hpL, ← twice_st (hlen ▸ it_lt hT b hp), ← it_succ]
    exact (k3 _).mpr ⟨b + 1, rfl⟩
  · rw [e] at g2
    obtain ⟨a, ha⟩ := (k3 _).mp g2
    rw [twice_it hL a hpL] at ha
    have hu : ∃ u, u % 2 = 1 ∧ it L u p = p := by
      cases a with
      | zero => exact ⟨1, rfl, ha⟩
      | succ a =>
        refine ⟨2 * a + 1, by omega, ?_⟩
        rw [show 2 * (a + 1) = 2 * a + 1 + 1 by omega, it_succ] at ha
        exact (inj_of nd _ _ hpL (it_lt hL _ hpL) ha).symm
    obtain ⟨u, hu1, hu2⟩ := hu
    have hd := k5 u (by rw [twice_it hL u hpL, show 2 * u = u + u by omega, it_add, hu2, hu2])
    have := Nat.mod_mod_of_dvd u (Nat.dvd_of_mod_eq_zero hm)
    obtain ⟨c, hc⟩ := Nat.dvd_trans (Nat.dvd_of_mod_eq_zero hm) hd
    omega
/-- places exchanged: one ring, of length two -/
theorem swap_rings : ofLen [1, 0] 2 = [[0, 1]] := by
  have hL : Lead [1, 0] := fun x hx => by
    rcases List.mem_cons.mp hx with rfl | hx
    · decide
    · rw [List.mem_singleton.mp hx]
      decide
  have hO : Orb [1, 0] 0 2 := ⟨by decide, fun i j hij hj => by
    have hi : i = 0 := by omega
    have hj : j = 1 := by omega
    subst hi
    subst hj
    decide, 0, by decide, rfl⟩
  have hper : per [1, 0] 0 = 2 := (per_orb hL (by decide)).uniq hO
  have hr0 : OnR [1, 0] 0 := ⟨2, by decide, rfl⟩
  have hring : ringAt [1, 0] 0 = [0, 1] := by
    unfold ringAt
    rw [hper]
    rfl
  have e1 : rgs [1, 0] 1 = [[0, 1]] := by
    rw [rgs_yes hr0 (fun h => (nomatch h)), hring]
    rfl
  have e2 : rgs [1, 0] 2 = [[0, 1]] := by
    rw [rgs_no (fun h => h.2 (by rw [e1]; decide)), e1]
  unfold ofLen
  rw [show ([1, 0] : List Nat).length = 2 from rfl, e2]
  rfl
theorem swap_odd : (∀ m, m % 2 = 0 → (ofLen [1, 0] m).length % 2 = 0) → False := fun h => by
  have h2 := h 2 rfl
  rw [swap_rings] at h2
  cases h2
end Ld
/-! Evx: what readings evaluate to: further rules over Evl. -/
namespace Ld
open PySem L2 Evl
/-! ### names of the built-ins -/
theorem bo_len : bootBuiltins "len" = some (.builtin "len") := by decide +kernel
theorem bo_sum : bootBuiltins "sum" = some (.builtin "sum") := by decide +kernel
theorem bo_all : bootBuiltins "all" = some (.builtin "all") := by decide +kernel
theorem bo_any : bootBuiltins "any" = some (.builtin "any") := by decide +kernel
theorem bo_max : bootBuiltins "max" = some (.builtin "max") := by decide +kernel
theorem bo_min : bootBuiltins "min" = some (.builtin "min") := by decide +kernel
theorem bo_sorted : bootBuiltins "sorted" = some (.builtin "sorted") := by decide +kernel
theorem bo_isinstance : bootBuiltins "isinstance" = some (.builtin "isinstance") := by decide +kernel
theorem bo_list : bootBuiltins "list" = some (.type "list") := by decide +kernel
theorem bo_int : bootBuiltins "int" = some (.type "int") := by decide +kernel
theorem bo_bool : bootBuiltins "bool" = some (.type "bool") := by decide +kernel
theorem bo_str : bootBuiltins "str" = some (.type "str") := by decide +kernel
theorem bo_tuple : bootBuiltins "tuple" = some (.type "tuple") := by decide +kernel
/-- no built-in that the texts call is another thing -/
structure Bl (mg : Str → Option Value) : Prop where
  len_ : mg "len" = none
  sum_ : mg "sum" = none
  range_ : mg "range" = none
  list_ : mg "list" = none
  enumerate_ : mg "enumerate" = none
  isinstance_ : mg "isinstance" = none
  int_ : mg "int" = none
  bool_ : mg "bool" = none
  all_ : mg "all" = none
  any_ : mg "any" = none
  max_ : mg "max" = none
  min_ : mg "min" = none
  sorted_ : mg "sorted" = none
  set_ : mg "set" = none
  reversed_ : mg "reversed" = none
  tuple_ : mg "tuple" = none

/-! ### a def that keeps its promise, wherever it stands -/
structure Dk (P : Program) (w : World) (K : PySem.W.Frag) (mg : Str → Option Value) (base : Heap) (CX : CXT) (k : Nat) (x : Str) (ps : List Str) (sp : Sp) : Prop where
  ex : ∃ (f : Addr) (fd : FuncData), FnOk P w K mg base CX k f fd ps sp ∧ mg x = some (.ref f) ∧ PySem.W.keepIn K (.ref f) = true ∧ Binds K fd ps []
theorem pe_callD {X : Cx} {CX : CXT} {k : Nat} {x : Str} {ps : List Str} {sp : Sp} {E : XK} {e : Expr} {es : List Expr} {t : TA} {p pos : Pos} (D : Dk X.prog X.w X.K X.mg X.base CX k x ps sp) (hr : Room k X.A) (hg : Gl X x) (hx : Passes CX X E)
    (ha : PA X (e :: es) t) (hdb : (x == ("__debug__" : Str)) = false := by decide) (he : starEach (e :: es) X.env = (false, eval e X.env) :: starEach es X.env := by rfl) (hpl : (backTo pos (starEach es X.env)).any (·.1) = false := by rfl) :
    PE X (.Call (.Name x p) (e :: es) [] pos) (tCall sp [] E t) := by
  obtain ⟨f, fd, F, m, kp, b⟩ := D.ex
  exact pe_call F hr hg m kp b .nil hx ha hdb he hpl

/-! ### rules with the written part named -/
section
variable {X : Cx} {K : PySem.W.Frag}
def rLen1 (K : PySem.W.Frag) : List V → Hp → VK → Prop := fun xs H Q => ∃ p ys, xs = [V.ref p] ∧ (SqL K H p ys ∨ SqT K H p ys) ∧ Q (.int ys.length) H
def rList1 (K : PySem.W.Frag) : List V → Hp → VK → Prop := fun xs H Q => ∃ p ys, xs = [V.ref p] ∧ (SqL K H p ys ∨ SqT K H p ys) ∧ ∀ l, H l = none → Q (.ref l) (upd H l (.lst ys))
theorem call_lenK (h : X.K = K) : CallR X (.builtin "len") (rLen1 K) := by
  subst h
  exact call_len_seq
theorem call_listK (h : X.K = K) : CallR X (.type "list") (rList1 K) := by
  subst h
  exact call_list_of
theorem cr_sumK (h : X.K = K) (hc : X.calm = true) : CallR X (.builtin "sum") (rSum K) := by
  subst h
  exact cr_sum hc
theorem cr_allK (h : X.K = K) (hc : X.calm = true) : CallR X (.builtin "all") (rAll K) := by
  subst h
  exact cr_all hc
theorem cr_anyK (h : X.K = K) (hc : X.calm = true) : CallR X (.builtin "any") (rAny K) := by
  subst h
  exact cr_any hc
theorem cr_sortedK (h : X.K = K) : CallR X (.builtin "sorted") (rSortedI K) := by
  subst h
  exact cr_sortedI
theorem call_isiK' (h : X.K = K) : CallR X (.builtin "isinstance") (rIsi K) := by
  subst h
  exact call_isi
theorem ix_listK (h : X.K = K) : IxR X (rIxL K) := by
  subst h
  exact ix_list
theorem ix_tupK (h : X.K = K) : IxR X (rIxT K) := by
  subst h
  exact ix_tup
theorem op_inK (h : X.K = K) : OpR X (compareOp .In) (rIn K false) := by
  subst h
  exact op_in_seq
theorem op_notInK (h : X.K = K) : OpR X (compareOp .NotIn) (rIn K true) := by
  subst h
  exact op_notIn_seq
theorem op_eqK (h : X.K = K) (hu : X.A.units + 64 < cLine) : OpR X (compareOp .Eq) (rEqD K) := by
  subst h
  exact op_eqD hu
theorem op_neK (h : X.K = K) (hu : X.A.units + 64 < cLine) : OpR X (compareOp .NotEq) (rNeD K) := by
  subst h
  exact op_neD hu
theorem sl_listK (h : X.K = K) : SlR X (rSlL K) := by
  subst h
  exact sl_list
end

/-! ### lists of numbers -/
def nl (L : List Nat) : List V := L.map fun (x : Nat) => V.int (x : Int)
def il (L : List Int) : List V := L.map V.int
theorem nl_len (L : List Nat) : (nl L).length = L.length := by unfold nl; rw [List.length_map]
theorem il_len (L : List Int) : (il L).length = L.length := by unfold il; rw [List.length_map]
theorem nl_il (L : List Nat) : nl L = il (L.map fun (x : Nat) => (x : Int)) := by
  unfold nl il
  rw [List.map_map]
  rfl
theorem nl_get {L : List Nat} {i : Nat} {x : Nat} (h : L[i]? = some x) : (nl L)[i]? = some (.int (x : Int)) := by
  unfold nl
  rw [List.getElem?_map, h]
  rfl
theorem nl_st {L : List Nat} {p : Nat} (h : p < L.length) : (nl L)[p]? = some (.int (st L p : Int)) := nl_get (st_get h)
theorem at_nl {L : List Nat} {p : Nat} (h : p < L.length) : atI (nl L) (p : Int) = some (.int (st L p : Int)) := atI_nat (nl_st h)
theorem nl_inv {L : List Nat} {i : Nat} {x : V} (h : (nl L)[i]? = some x) : ∃ (y : Nat), L[i]? = some y ∧ x = .int (y : Int) ∧ i < L.length := by
  unfold nl at h
  rw [List.getElem?_map] at h
  cases e : L[i]? with
  | none =>
    rw [e] at h
    cases h
  | some y =>
    rw [e] at h
    exact ⟨y, rfl, (Option.some.inj h).symm, (List.getElem?_eq_some_iff.mp e).1⟩
theorem il_inv {L : List Int} {i : Nat} {x : V} (h : (il L)[i]? = some x) : ∃ (y : Int), L[i]? = some y ∧ x = .int y ∧ i < L.length := by
  unfold il at h
  rw [List.getElem?_map] at h
  cases e : L[i]? with
  | none =>
    rw [e] at h
    cases h
  | some y =>
    rw [e] at h
    exact ⟨y, rfl, (Option.some.inj h).symm, (List.getElem?_eq_some_iff.mp e).1⟩

section
variable {K : PySem.W.Frag} {σ : L2.St} {H H' : Hp} {ta tb tc te tx td ty : TE} {t u : TT} {x y z v : V} {r r' : R2} {p q : Addr}
/-! ### comparisons -/
theorem rv_dec {g : Int → Int → V} {i j : Int} {w : V} (e : g i j = w) : RV (rI0 g) (.int i) (.int j) H w := by
  rw [← e]
  exact rv_I0
theorem rv_IW {C : Int → Int → Prop} {g : Int → Int → V} {i j : Int} {w : V} (hc : C i j) (e : g i j = w) : RV (rI C g) (.int i) (.int j) H w := by
  rw [← e]
  exact rv_I hc
theorem ev_chain {b c : Bool} (ha : Ev ta σ H x) (hb : Ev tb σ H y) (hc : Ev tc σ H z) (h1 : RV r x y H (.bl b)) (h2 : RV r' y z H (.bl c)) : Ev (tChain r r' ta tb tc) σ H (.bl (b && c)) := fun H1 e Q q =>
  ha H1 e _ fun H2 e2 => hb H2 (e.trans e2) _ fun H3 e3 => h1 H3 ((e.trans e2).trans e3) _ fun H4 e4 => ⟨b, rfl, by
    cases b with
    | true =>
      rw [if_pos rfl]
      exact hc H4 (((e.trans e2).trans e3).trans e4) _ fun H5 e5 => h2 H5 ((((e.trans e2).trans e3).trans e4).trans e5) Q fun H6 e6 => q H6 ((((e2.trans e3).trans e4).trans e5).trans e6)
    | false =>
      rw [if_neg Bool.false_ne_true]
      exact q H4 ((e2.trans e3).trans e4)⟩
theorem dpAll_int {K : PySem.W.Frag} {H : Hp} : ∀ L : List Int, DpAll K H (il L) (L.map PyData.int)
  | [] => .nil
  | x :: r => .cons (.int x) (dpAll_int r)
theorem dp_il {L : List Int} (h : SqL K H p (il L)) : Dp K H (.ref p) (.list (L.map PyData.int)) := .lst h (dpAll_int L)
theorem eqvAll_int : ∀ A B : List Int, PyData.eqvAll (A.map PyData.int) (B.map PyData.int) = decide (A = B)
  | [], [] => rfl
  | [], _ :: _ => rfl
  | _ :: _, [] => rfl
  | a :: r, b :: s => by
    show (PyData.eqv (.int a) (.int b) && PyData.eqvAll (r.map PyData.int) (s.map PyData.int)) = _
    rw [eqvAll_int r s]
    show ((a == b) && decide (r = s)) = decide (a :: r = b :: s)
    rw [Bool.eq_iff_iff]
    simp
theorem eqv_int (A B : List Int) : PyData.eqv (.list (A.map PyData.int)) (.list (B.map PyData.int)) = decide (A = B) := eqvAll_int A B
theorem canAll_int : ∀ A : List Int, PyData.canLayAll0 (A.map PyData.int) = true
  | [] => rfl
  | a :: r => by
    show (PyData.canLay0 (.int a) && PyData.canLayAll0 (r.map PyData.int)) = true
    rw [canAll_int r]
    rfl

theorem depthAll_int : ∀ A : List Int, PyData.depthAll (A.map PyData.int) = 0
  | [] => rfl
  | a :: r => by
    show max (PyData.depth (.int a)) (PyData.depthAll (r.map PyData.int)) = 0
    rw [depthAll_int r]
    rfl
theorem shaped_int (A : List Int) : SeqAt.shaped (.list (A.map PyData.int)) = true := by
  unfold SeqAt.shaped
  have h1 : PyData.canLay0 (.list (A.map PyData.int)) = true := canAll_int A
  have h2 : PyData.depth (.list (A.map PyData.int)) = 1 := by
    show PyData.depthAll (A.map PyData.int) + 1 = 1
    rw [depthAll_int]
  rw [h1, h2]
  rfl
theorem rv_eqI {A B : List Int} (h1 : SqL K H p (il A)) (h2 : SqL K H q (il B)) : RV (rEqD K) (.ref p) (.ref q) H (.bl (decide (A = B))) := fun H1 e Q k =>
  ⟨_, _, dp_il (ex_l e h1), dp_il (ex_l e h2), shaped_int A, shaped_int B, by
    rw [eqv_int]
    exact k H1 (Ex.refl H1)⟩
theorem rv_neI {A B : List Int} (h1 : SqL K H p (il A)) (h2 : SqL K H q (il B)) : RV (rNeD K) (.ref p) (.ref q) H (.bl (!decide (A = B))) := fun H1 e Q k =>
  ⟨_, _, dp_il (ex_l e h1), dp_il (ex_l e h2), shaped_int A, shaped_int B, by
    rw [eqv_int]
    exact k H1 (Ex.refl H1)⟩
theorem cast_inj {A B : List Nat} : (A.map fun (x : Nat) => (x : Int)) = (B.map fun (x : Nat) => (x : Int)) ↔ A = B := by
  refine ⟨fun h => ?_, fun h => by rw [h]⟩
  refine List.map_inj_right (fun x y e => ?_) |>.mp h
  omega
theorem rv_eqN {A B : List Nat} (h1 : SqL K H p (nl A)) (h2 : SqL K H q (nl B)) : RV (rEqD K) (.ref p) (.ref q) H (.bl (decide (A = B))) := by
  rw [nl_il] at h1 h2
  have h := rv_eqI h1 h2
  rw [decide_eq_decide.mpr cast_inj] at h
  exact h
theorem rv_neN {A B : List Nat} (h1 : SqL K H p (nl A)) (h2 : SqL K H q (nl B)) : RV (rNeD K) (.ref p) (.ref q) H (.bl (!decide (A = B))) := by
  rw [nl_il] at h1 h2
  have h := rv_neI h1 h2
  rw [decide_eq_decide.mpr cast_inj] at h
  exact h
theorem rv_neN0 {A B : List Nat} (h1 : SqL K H p (nl A)) (h2 : SqL K H q (nl B)) (e : A = B) : RV (rNeD K) (.ref p) (.ref q) H (.bl false) := by
  have h := rv_neN h1 h2
  rw [decide_eq_true e] at h
  exact h
theorem rv_eqN1 {A B : List Nat} (h1 : SqL K H p (nl A)) (h2 : SqL K H q (nl B)) (e : A = B) : RV (rEqD K) (.ref p) (.ref q) H (.bl true) := by
  have h := rv_eqN h1 h2
  rw [decide_eq_true e] at h
  exact h
/-- one number from a list of numbers, by its place -/
theorem rv_ixN {L : List Nat} {j : Nat} (h : SqL K H p (nl L)) (hj : j < L.length) : RV (rIxL K) (.ref p) (.int (j : Int)) H (.int (st L j : Int)) := rv_ixL h (at_nl hj)

/-! ### tests -/
theorem et_yes : EvT tYes σ H true := fun H1 _ _ q => q H1 (Ex.refl H1)
theorem et_orF {tt uu : TT} (h1 : EvT tt σ H false) (h2 : EvT uu σ H false) : EvT (tOr tt uu) σ H false := et_or h1 fun _ => h2
theorem et_notT {tt : TT} (h1 : EvT tt σ H true) : EvT (tNot tt) σ H false := et_not h1
theorem et_notF {tt : TT} (h1 : EvT tt σ H false) : EvT (tNot tt) σ H true := et_not h1
theorem et_andT {tt uu : TT} (h1 : EvT tt σ H true) (h2 : EvT uu σ H true) : EvT (tAnd tt uu) σ H true := et_and h1 fun _ => h2
theorem ev_andT (h1 : Ev ta σ H (.bl true)) (h2 : Ev tb σ H (.bl true)) : Ev (tAndV ta tb) σ H (.bl true) := ev_andV h1 fun _ => h2
theorem ev_notF (h1 : Ev ta σ H (.bl false)) : Ev (tNotV ta) σ H (.bl true) := ev_notV h1

/-! ### calls on values -/
theorem ev_isi {c : V} {t u : Value} {b : Bool} (ha : Ev ta σ H x) (hc : Ev tb σ H c) (hk : ClsV c u) (ht : ∀ H1, Ex H H1 → TyX K H1 x t) (hb : PySem.W.kitOne K t u = some b) : Ev (tCB (rIsi K) (tCons ta (tCons tb tNil))) σ H (.bl b) := fun H1 e Q q =>
  ha H1 e _ fun H2 e2 => hc H2 (e.trans e2) _ fun H3 e3 => ⟨x, c, t, u, b, rfl, hk, ht H3 ((e.trans e2).trans e3), hb, q H3 (e2.trans e3)⟩
theorem ev_isiInt {i : Int} (ha : Ev ta σ H (.int i)) : Ev (tCB (rIsi K) (tCons ta (tCons (tC (.ty "int")) tNil))) σ H (.bl true) := ev_isi ha ev_c (.ty "int") (fun _ _ => .base (.int i)) (kit_ty (by decide +kernel))
theorem ev_isiBool {i : Int} (ha : Ev ta σ H (.int i)) : Ev (tCB (rIsi K) (tCons ta (tCons (tC (.ty "bool")) tNil))) σ H (.bl false) := ev_isi ha ev_c (.ty "bool") (fun _ _ => .base (.int i)) (kit_ty (by decide +kernel))
theorem ty_list {xs : List V} (h : Rd H p (.lst xs)) {H1 : Hp} (e : Ex H H1) : TyX K H1 (.ref p) (.type "list") := by
  rcases h with h | ⟨o, h⟩
  · exact .base (.lst (e _ _ h))
  · exact .base (.frz (e _ _ h))
theorem ev_isiList {xs : List V} (ha : Ev ta σ H (.ref p)) (h : Rd H p (.lst xs)) : Ev (tCB (rIsi K) (tCons ta (tCons (tC (.ty "list")) tNil))) σ H (.bl true) := ev_isi ha ev_c (.ty "list") (fun _ e => ty_list h e) (kit_ty (by decide +kernel))
theorem ev_lenL {xs : List V} (ha : Ev ta σ H (.ref p)) (h : SqL K H p xs) : Ev (tCB (rLen1 K) (tCons ta tNil)) σ H (.int (xs.length : Int)) := ev_len ha h
theorem ev_lenNl {L : List Nat} (ha : Ev ta σ H (.ref p)) (h : SqL K H p (nl L)) : Ev (tCB (rLen1 K) (tCons ta tNil)) σ H (.int (L.length : Int)) := by
  have h1 := ev_lenL ha h
  rw [nl_len] at h1
  exact h1
theorem ev_lenIl {L : List Int} (ha : Ev ta σ H (.ref p)) (h : SqL K H p (il L)) : Ev (tCB (rLen1 K) (tCons ta tNil)) σ H (.int (L.length : Int)) := by
  have h1 := ev_lenL ha h
  rw [il_len] at h1
  exact h1
theorem el_listOf {xs : List V} (ha : Ev ta σ H (.ref p)) (h : SqL K H p xs) : EvL (tCB (rList1 K) (tCons ta tNil)) σ H xs := el_list ha h
theorem ev_sum {ns : List Int} (ha : Ev ta σ H (.ref p)) (h : SqL K H p (il ns)) : Ev (tCB (rSum K) (tCons ta tNil)) σ H (.int ns.sum) := fun H1 e Q q =>
  ha H1 e _ fun H2 e2 => ⟨p, ns, rfl, ex_l (e.trans e2) h, q H2 e2⟩
theorem ev_all {bs : List Bool} (ha : EvL ta σ H (bs.map V.bl)) : Ev (tCB (rAll K) (tCons ta tNil)) σ H (.bl (bs.all id)) := fun H1 e Q q =>
  ha H1 e _ fun p H2 _ e2 h2 => ⟨p, bs, rfl, sq_of h2, q H2 e2⟩
theorem ev_allT {n : Nat} (ha : EvL ta σ H (List.replicate n (V.bl true))) : Ev (tCB (rAll K) (tCons ta tNil)) σ H (.bl true) := by
  have e : List.replicate n (V.bl true) = (List.replicate n true).map V.bl := by rw [List.map_replicate]
  rw [e] at ha
  have h := ev_all (K := K) ha
  rw [show (List.replicate n true).all id = true from List.all_eq_true.mpr fun x hx => (List.mem_replicate.mp hx).2] at h
  exact h
/-- a call of a def: a value, a new list -/
theorem ev_callV {sp : Sp} {vs : List V} {E : XK} {ta : TA} (h : EvA ta σ H vs) (hs : SpV sp vs H z) : Ev (tCall sp [] E ta) σ H z := ev_call h (by rw [List.append_nil]; exact hs)
theorem el_callL {sp : Sp} {vs xs : List V} {E : XK} {ta : TA} (h : EvA ta σ H vs) (hs : SpL sp vs H xs) : EvL (tCall sp [] E ta) σ H xs := el_call h (by rw [List.append_nil]; exact hs)
/-- .. one of whose arguments is a new list -/
theorem ev_callN1 {sp : Sp} {xs : List V} {E : XK} (h : EvL ta σ H xs) (hs : ∀ p H1, Ex H H1 → H1 p = some (.lst xs) → SpV sp [.ref p] H1 z) : Ev (tCall sp [] E (tCons ta tNil)) σ H z := fun H1 e Q q =>
  h H1 e _ fun p H2 _ e2 hp => hs p H2 (e.trans e2) hp H2 (Ex.refl H2) Q (fun H3 e3 => q H3 (e2.trans e3)) E

/-! ### dicts with numbers for keys -/
def valI (kvs : List (Key × V)) (k : Int) : Option V := valV kvs (.inl k)
theorem valI_put (kvs : List (Key × V)) (k j : Int) (y : V) : valI (putK kvs (.inl k) y) j = if j = k then some y else valI kvs j := by
  unfold valI
  rw [valV_put]
  by_cases e : j = k
  · subst e
    rw [if_pos rfl, if_pos rfl]
  · rw [if_neg e, if_neg fun q => e (Sum.inl.inj q)]
theorem putK_len (kvs : List (Key × V)) (k : Key) (v : V) : (putK kvs k v).length ≤ kvs.length + 1 := by
  unfold putK
  split
  · rw [List.length_map]
    omega
  · rw [List.length_append]
    exact Nat.le_refl _
/-- a dict at d: n entries at most, its values by M -/
def DM (H : Hp) (d : Addr) (n : Nat) (M : Int → Option V) : Prop := ∃ kvs : List (Key × V), H d = some (.dK kvs) ∧ kvs.length ≤ n ∧ ∀ k : Int, valI kvs k = M k
theorem DM.ex {n : Nat} {M : Int → Option V} (h : DM H p n M) (e : Ex H H') : DM H' p n M := by
  obtain ⟨kvs, h1, h2, h3⟩ := h
  exact ⟨kvs, e _ _ h1, h2, h3⟩
theorem dm_nil : DM (upd H p (.dK [])) p 0 (fun _ => none) := ⟨[], upd_same, Nat.le_refl 0, fun _ => rfl⟩
theorem DM.get {n : Nat} {M : Int → Option V} {k : Int} (h : DM H p n M) : DGet H p (.int k) (M k) := by
  obtain ⟨kvs, h1, h2, h3⟩ := h
  rw [← h3 k]
  exact DGet.k (k := Sum.inl k) h1
theorem ev_din {n : Nat} {M : Int → Option V} {k : Int} (hk : Ev ty σ H (.int k)) (hd : Ev td σ H (.ref p)) (h : DM H p n M) : Ev (tDIn ty td) σ H (.bl (M k).isSome) := fun H1 e Q q =>
  hk H1 e _ fun H2 e2 => hd H2 (e.trans e2) _ fun H3 e3 => ⟨p, M k, rfl, (h.ex ((e.trans e2).trans e3)).get, q H3 (e2.trans e3)⟩
theorem ev_dnotin {n : Nat} {M : Int → Option V} {k : Int} (hk : Ev ty σ H (.int k)) (hd : Ev td σ H (.ref p)) (h : DM H p n M) : Ev (tDNotIn ty td) σ H (.bl (!(M k).isSome)) := fun H1 e Q q =>
  hk H1 e _ fun H2 e2 => hd H2 (e.trans e2) _ fun H3 e3 => ⟨p, M k, rfl, (h.ex ((e.trans e2).trans e3)).get, q H3 (e2.trans e3)⟩
theorem ev_dget {n : Nat} {M : Int → Option V} {k : Int} (hd : Ev td σ H (.ref p)) (hk : Ev ty σ H (.int k)) (h : DM H p n M) (hm : M k = some v) : Ev (tDGet td ty) σ H v := fun H1 e Q q =>
  hd H1 e _ fun H2 e2 => hk H2 (e.trans e2) _ fun H3 e3 => ⟨p, v, rfl, by
    rw [← hm]
    exact (h.ex ((e.trans e2).trans e3)).get, q H3 (e2.trans e3)⟩
variable {D : Ends} {tu tw tz : TS}
theorem s_dput {n : Nat} {M : Int → Option V} {k : Int} (hv : Ev tx σ H v) (hd : Ev td σ H (.ref p)) (hk : Ev ty σ H (.int k)) (h : DM H p n M) (hn : n < 100000)
    (go : ∀ H1, Ex H H1 → ∀ o, DM (upd H1 p o) p (n + 1) (fun j => if j = k then some v else M j) → D.nx σ (upd H1 p o)) : sDPut td ty tx D σ H :=
  hv H (Ex.refl H) _ fun H1 e1 => hd H1 e1 _ fun H2 e2 => hk H2 (e1.trans e2) _ fun H3 e3 => by
    obtain ⟨kvs, h1, h2, h3⟩ := h
    have h4 := ((e1.trans e2).trans e3) _ _ h1
    refine ⟨p, _, rfl, DPut.k (k := Sum.inl k) h4 (sz_lt (by omega)), ?_⟩
    refine go H3 ((e1.trans e2).trans e3) _ ⟨_, upd_same, Nat.le_trans (putK_len _ _ _) (by omega), fun j => ?_⟩
    rw [valI_put, h3]
theorem q_dput {n : Nat} {M : Int → Option V} {k : Int} (hv : Ev tx σ H v) (hd : Ev td σ H (.ref p)) (hk : Ev ty σ H (.int k)) (h : DM H p n M) (hn : n < 100000)
    (go : ∀ H1, Ex H H1 → ∀ o, DM (upd H1 p o) p (n + 1) (fun j => if j = k then some v else M j) → tz D σ (upd H1 p o)) : tSeq (sDPut td ty tx) tz D σ H := s_dput (D := { D with nx := tz D }) hv hd hk h hn go
theorem q_dnew {i : Nat} (k : ∀ d H1, H d = none → Ex H H1 → DM H1 d 0 (fun _ => none) → tz D (σ.set i (some (.ref d))) H1) : tSeq (tAsg tDNewK (gName i)) tz D σ H := fun d hd => k d _ hd (Ex.new hd) dm_nil

/-! ### statements -/
/-- an if whose test never holds -/
theorem q_skip (h : EvT t σ H false) (k : ∀ H1, Ex H H1 → tz D σ H1) : tSeq (tIfS t tu tNext) tz D σ H := q_when h (fun b => nomatch b) fun _ H1 e => k H1 e
theorem s_skip (h : EvT t σ H false) (k : ∀ H1, Ex H H1 → D.nx σ H1) : tIfS t tu tNext D σ H := s_when h (fun b => nomatch b) fun _ H1 e => k H1 e
/-- a def's end by a list, by a value -/
theorem ret_L {xs : List V} {H0 : Hp} {rt : VK} (q : RetL xs H0 rt) (e : Ex H0 H) (h : EvL te σ H xs) : te σ H rt := h H (Ex.refl H) _ fun p H2 n e2 h2 => q.go e n e2 h2
theorem ret_V {H0 : Hp} {rt : VK} (q : RetV v H0 rt) (e : Ex H0 H) (h : Ev te σ H v) : te σ H rt := h H (Ex.refl H) _ fun H2 e2 => q H2 (e.trans e2)
/-- a name that holds a list made here is given back -/
theorem ret_N {xs : List V} {H0 : Hp} {rt : VK} {i : Nat} (q : RetL xs H0 rt) (e : Ex H0 H) (n : H0 p = none) (h : H p = some (.lst xs)) (hi : σ[i]? = some (some (.ref p))) : tVar i σ H rt := ⟨_, hi, q p H n e h⟩

/-! ### comprehensions -/
theorem wipe1 (σ : L2.St) (j : Nat) (x : V) : wipe ((wipe σ [j]).set j (some x)) [j] = wipe σ [j] := by
  show (((σ.set j none).set j (some x)).set j none) = σ.set j none
  rw [List.set_set, List.set_set]
theorem given_all (n : Nat) (v : Nat → V) : given n (fun _ => true) v = (List.range n).map v := by
  unfold given
  rw [List.filter_eq_self.mpr fun _ _ => rfl]
/-- [e for x in xs], xs a list of numbers -/
theorem el_mapN {L : List Nat} {tl : TE} {j : Nat} (g : Nat → V) (h : Ev tl σ H (.ref p)) (hx : SqL K H p (nl L)) (hz : L.length ≤ 40000)
    (he : ∀ (x : Nat) H1, Ex H H1 → x ∈ L → Ev te ((wipe σ [j]).set j (some (.int (x : Int)))) H1 (g x)) : EvL (tLc (iList K tl) (gName j) tYes te [j]) σ H (L.map g) := by
  have h1 := el_lcL (j := j) (te := te) (vs := [j]) (t := tYes) (fun _ => true) (fun i => g (st L i)) h hx (by rw [nl_len]; exact hz) (fun x => wipe1 σ j x) (fun _ _ _ _ _ => et_yes) (fun i x H1 e hi _ => by
    obtain ⟨y, h2, rfl, h3⟩ := nl_inv hi
    have h4 : st L i = y := by
      rw [st_get h3] at h2
      exact Option.some.inj h2
    rw [h4]
    exact he y H1 e (List.mem_of_getElem? h2))
  rw [given_all, nl_len] at h1
  have e : (List.range L.length).map (fun i => g (st L i)) = L.map g := by
    refine List.ext_getElem? fun i => ?_
    rw [List.getElem?_map, List.getElem?_map]
    by_cases hi : i < L.length
    · rw [List.getElem?_range hi, st_get hi]
      rfl
    · rw [List.getElem?_eq_none (by rw [List.length_range]; omega), List.getElem?_eq_none (by omega)]
      rfl
  rw [e] at h1
  exact h1
/-- .. all items alike -/
theorem el_mapNc {L : List Nat} {tl : TE} {j : Nat} (h : Ev tl σ H (.ref p)) (hx : SqL K H p (nl L)) (hz : L.length ≤ 40000)
    (he : ∀ (x : Nat) H1, Ex H H1 → x ∈ L → Ev te ((wipe σ [j]).set j (some (.int (x : Int)))) H1 v) : EvL (tLc (iList K tl) (gName j) tYes te [j]) σ H (List.replicate L.length v) := by
  have h1 := el_mapN (fun _ => v) h hx hz he
  rw [List.map_const'] at h1
  exact h1
theorem el_mapI {L : List Int} {tl : TE} {j : Nat} (g : Int → V) (h : Ev tl σ H (.ref p)) (hx : SqL K H p (il L)) (hz : L.length ≤ 40000)
    (he : ∀ (x : Int) H1, Ex H H1 → x ∈ L → Ev te ((wipe σ [j]).set j (some (.int x))) H1 (g x)) : EvL (tLc (iList K tl) (gName j) tYes te [j]) σ H (L.map g) := by
  have h1 := el_lcL (j := j) (te := te) (vs := [j]) (t := tYes) (fun _ => true) (fun i => g (L.getD i 0)) h hx (by rw [il_len]; exact hz) (fun x => wipe1 σ j x) (fun _ _ _ _ _ => et_yes) (fun i x H1 e hi _ => by
    obtain ⟨y, h2, rfl, h3⟩ := il_inv hi
    have h4 : L.getD i 0 = y := by
      rw [List.getD_eq_getElem?_getD, h2]
      rfl
    rw [h4]
    exact he y H1 e (List.mem_of_getElem? h2))
  rw [given_all, il_len] at h1
  have e : (List.range L.length).map (fun i => g (L.getD i 0)) = L.map g := by
    refine List.ext_getElem? fun i => ?_
    rw [List.getElem?_map, List.getElem?_map]
    by_cases hi : i < L.length
    · rw [List.getElem?_range hi, List.getElem?_eq_getElem hi]
      show some (g (L.getD i 0)) = some (g L[i])
      rw [List.getD_eq_getElem?_getD, List.getElem?_eq_getElem hi]
      rfl
    · rw [List.getElem?_eq_none (by rw [List.length_range]; omega), List.getElem?_eq_none (by omega)]
      rfl
  rw [e] at h1
  exact h1
theorem el_mapIc {L : List Int} {tl : TE} {j : Nat} (h : Ev tl σ H (.ref p)) (hx : SqL K H p (il L)) (hz : L.length ≤ 40000)
    (he : ∀ (x : Int) H1, Ex H H1 → x ∈ L → Ev te ((wipe σ [j]).set j (some (.int x))) H1 v) : EvL (tLc (iList K tl) (gName j) tYes te [j]) σ H (List.replicate L.length v) := by
  have h1 := el_mapI (fun _ => v) h hx hz he
  rw [List.map_const'] at h1
  exact h1
/-- [e for k in range(n)] -/
theorem el_mapR {ta : TA} {j n : Nat} (g : Nat → V) (h : EvA ta σ H [.int (n : Int)]) (hz : n ≤ 40000)
    (he : ∀ (i : Nat) H1, Ex H H1 → i < n → Ev te ((wipe σ [j]).set j (some (.int (i : Int)))) H1 (g i)) : EvL (tLc (iRng1 ta) (gName j) tYes te [j]) σ H ((List.range n).map g) := by
  have h1 := el_lcR1 (j := j) (te := te) (vs := [j]) (t := tYes) (fun _ => true) g h (by omega) (fun x => wipe1 σ j x) (fun _ _ _ _ => et_yes) (fun i H1 e hi _ => he i H1 e (by omega))
  rw [given_all, Int.toNat_natCast] at h1
  exact h1
/-- [e for k in range(n) if t] -/
theorem el_filR {ta : TA} {j n : Nat} (f : Nat → Bool) (g : Nat → V) (h : EvA ta σ H [.int (n : Int)]) (hz : n ≤ 40000)
    (ht : ∀ (i : Nat) H1, Ex H H1 → i < n → EvT t ((wipe σ [j]).set j (some (.int (i : Int)))) H1 (f i))
    (he : ∀ (i : Nat) H1, Ex H H1 → i < n → Ev te ((wipe σ [j]).set j (some (.int (i : Int)))) H1 (g i)) : EvL (tLc (iRng1 ta) (gName j) t te [j]) σ H (((List.range n).filter f).map g) := by
  have h1 := el_lcR1 (j := j) (te := te) (vs := [j]) (t := t) f g h (by omega) (fun x => wipe1 σ j x) (fun i H1 e hi => ht i H1 e (by omega)) (fun i H1 e hi _ => he i H1 e (by omega))
  rw [Int.toNat_natCast] at h1
  exact h1
theorem ea1 (h : Ev ta σ H x) : EvA (tCons ta tNil) σ H [x] := ea_cons h ea_nil
theorem ea2 (h : Ev ta σ H x) (h2 : Ev tb σ H y) : EvA (tCons ta (tCons tb tNil)) σ H [x, y] := ea_cons h (ea1 h2)
theorem ea3 (h : Ev ta σ H x) (h2 : Ev tb σ H y) (h3 : Ev tc σ H z) : EvA (tCons ta (tCons tb (tCons tc tNil))) σ H [x, y, z] := ea_cons h (ea2 h2 h3)

/-! ### enumerate -/
theorem for_enum {a : Addr} {xs : List V} {g : TG} {tb : TS} {D : Ends} {σ : L2.St} {H : Hp} (Pv : Nat → L2.St → Hp → Prop) (h0 : Pv 0 σ H) (hl : ∀ i σ H, i ≤ xs.length → Pv i σ H → SqL K H a xs)
    (hs : ∀ i x σ H T, xs[i]? = some x → Pv i σ H → H T = none → g (.ref T) σ (upd H T (.tup [.int (i : Nat), x])) fun σ2 H2 => tb { D with nx := Pv (i + 1), ct := Pv (i + 1), bk := D.nx } σ2 H2) (hd : ∀ σ H, Pv xs.length σ H → D.nx σ H) :
    ∃ W : Nat → Nat → L2.St → Hp → Prop, (∃ m, W 0 m σ H) ∧ ∀ i m σ H, W i m σ H →
      ((Ite K a).stop i H ∧ D.nx σ H) ∨ ((Ite K a).go i H ∧ ∃ N : L2.St → Hp → Prop, (∀ σ' H', N σ' H' → ∃ m', m' < m ∧ W (i + 1) m' σ' H') ∧ ∀ x H', (Ite K a).yld i H x H' → g x σ H' fun σ2 H2 => tb { D with nx := N, ct := N, bk := D.nx } σ2 H2) := by
  refine ⟨fun i m σ H => m = xs.length - i ∧ i ≤ xs.length ∧ Pv i σ H, ⟨xs.length, by simp, Nat.zero_le _, h0⟩, ?_⟩
  rintro i m σ H ⟨rfl, hi, p⟩
  have q := hl i σ H hi p
  by_cases hlt : i < xs.length
  · refine .inr ⟨⟨xs, xs[i], q, by simp [hlt]⟩, Pv (i + 1), fun σ' H' p' => ⟨xs.length - (i + 1), by omega, rfl, hlt, p'⟩, fun v H' y => ?_⟩
    obtain ⟨T, x, rfl, nT, rfl, f⟩ := y
    exact hs i x σ H T (f xs q) p nT
  · have e : i = xs.length := by omega
    subst e
    exact .inl ⟨⟨xs, q, Nat.le_refl _⟩, hd σ H p⟩
theorem lc_enum {a : Addr} {xs : List V} {g : TG} {tt : TT} {te : TE} {vs : List Nat} {σ : L2.St} {H1 : Hp} {D : Addr} {Qd : Hp → Prop} (Pv : Nat → Hp → Prop) (h0 : Pv 0 (upd H1 D (.lst []))) (hl : ∀ i H, i ≤ xs.length → Pv i H → SqL K H a xs)
    (hs : ∀ i x H T, xs[i]? = some x → Pv i H → H T = none → g (.ref T) (wipe σ vs) (upd H T (.tup [.int (i : Nat), x])) fun σ2 H2 => wipe σ2 vs = wipe σ vs ∧ tt σ2 H2 fun b H3 =>
      if b = true then te σ2 H3 fun y H4 => ∃ acc, H4 D = some (.lst acc) ∧ acc.length < sizeLine ∧ Pv (i + 1) (upd H4 D (.lst (acc ++ [y]))) else Pv (i + 1) H3) (hd : ∀ H, Pv xs.length H → Qd H) :
    ∃ W : Nat → Nat → Hp → Prop, (∃ m, W 0 m (upd H1 D (.lst []))) ∧ ∀ i m H, W i m H →
      ((Ite K a).stop i H ∧ Qd H) ∨ ((Ite K a).go i H ∧ ∃ Nx : Hp → Prop, (∀ H', Nx H' → ∃ m', m' < m ∧ W (i + 1) m' H') ∧ ∀ x H', (Ite K a).yld i H x H' → g x (wipe σ vs) H' fun σ2 H2 => wipe σ2 vs = wipe σ vs ∧ tt σ2 H2 fun b H3 =>
        if b = true then te σ2 H3 fun y H4 => ∃ acc, H4 D = some (.lst acc) ∧ acc.length < sizeLine ∧ Nx (upd H4 D (.lst (acc ++ [y]))) else Nx H3) := by
  refine ⟨fun i m H => m = xs.length - i ∧ i ≤ xs.length ∧ Pv i H, ⟨xs.length, by simp, Nat.zero_le _, h0⟩, ?_⟩
  rintro i m H ⟨rfl, hi, p⟩
  have q := hl i H hi p
  by_cases hlt : i < xs.length
  · refine .inr ⟨⟨xs, xs[i], q, by simp [hlt]⟩, Pv (i + 1), fun H' p' => ⟨xs.length - (i + 1), by omega, rfl, hlt, p'⟩, fun v H' y => ?_⟩
    obtain ⟨T, x, rfl, nT, rfl, f⟩ := y
    exact hs i x H T (f xs q) p nT
  · have e : i = xs.length := by omega
    subst e
    exact .inl ⟨⟨xs, q, Nat.le_refl _⟩, hd H p⟩
/-- two names from a pair -/
abbrev g2 (K : PySem.W.Frag) (i j : Nat) : TG := gTup K 2 (gCons (gName i) (gCons (gName j) gNil))
theorem g2_go {i j : Nat} {T : Addr} {a b : V} {Q : L2.St → Hp → Prop} (h : SqT K H T [a, b]) (q : Q ((σ.set i (some a)).set j (some b)) H) : g2 K i j (.ref T) σ H Q :=
  ⟨T, [a, b], rfl, h, rfl, a, [b], rfl, b, [], rfl, rfl, q⟩
/-- for i, x in enumerate(xs) -/
theorem s_forE {a : Addr} {xs : List V} {tl : TE} {i j : Nat} (h : Ev tl σ H (.ref a)) (hx : SqL K H a xs) (Pv : Nat → L2.St → Hp → Prop) (h0 : ∀ H1, Ex H H1 → Pv 0 σ H1) (hl : ∀ i σ' H', i ≤ xs.length → Pv i σ' H' → SqL K H' a xs)
    (hs : ∀ k x σ' H' H2, xs[k]? = some x → Pv k σ' H' → Ex H' H2 → (∀ b, H2 b = none → H' b = none) → tu { D with nx := Pv (k + 1), ct := Pv (k + 1), bk := D.nx } ((σ'.set i (some (.int (k : Int)))).set j (some x)) H2) (hd : ∀ σ' H', Pv xs.length σ' H' → D.nx σ' H') :
    tFor (iEnum K (tCons tl tNil)) (g2 K i j) tu D σ H :=
  h H (Ex.refl H) _ fun H1 e => ⟨a, xs, rfl, ex_l e hx, for_enum Pv (h0 H1 e) hl (fun k x σ' H' T hk p nT => g2_go (st_of upd_same) (hs k x σ' H' _ hk p (Ex.new nT) fun b hb => fresh_back (Ex.new nT) hb)) hd⟩
theorem q_forE {a : Addr} {xs : List V} {tl : TE} {i j : Nat} (h : Ev tl σ H (.ref a)) (hx : SqL K H a xs) (Pv : Nat → L2.St → Hp → Prop) (h0 : ∀ H1, Ex H H1 → Pv 0 σ H1) (hl : ∀ i σ' H', i ≤ xs.length → Pv i σ' H' → SqL K H' a xs)
    (hs : ∀ k x σ' H' H2, xs[k]? = some x → Pv k σ' H' → Ex H' H2 → (∀ b, H2 b = none → H' b = none) → tu { D with nx := Pv (k + 1), ct := Pv (k + 1), bk := tz D } ((σ'.set i (some (.int (k : Int)))).set j (some x)) H2) (hd : ∀ σ' H', Pv xs.length σ' H' → tz D σ' H') :
    tSeq (tFor (iEnum K (tCons tl tNil)) (g2 K i j) tu) tz D σ H := s_forE (D := { D with nx := tz D }) h hx Pv h0 hl hs hd
theorem wipe2 (σ : L2.St) (i j : Nat) (hij : i ≠ j) (x y : V) : wipe (((wipe σ [i, j]).set i (some x)).set j (some y)) [i, j] = wipe σ [i, j] := by
  show ((((((σ.set j none).set i none).set i (some x)).set j (some y)).set j none).set i none) = (σ.set j none).set i none
  rw [List.set_set, List.set_set, List.set_comm _ _ hij.symm, List.set_set, List.set_comm _ _ hij.symm, List.set_set]
  first
    | done
    | rw [List.set_comm _ _ hij, List.set_set]
/-- [e for i, x in enumerate(xs) if t] -/
theorem el_lcE {a : Addr} {xs : List V} {tl : TE} {i j : Nat} (hij : i ≠ j) (f : Nat → Bool) (g : Nat → V) (h : Ev tl σ H (.ref a)) (hx : SqL K H a xs) (hz : xs.length ≤ 40000)
    (ht : ∀ (k : Nat) (x : V) H1, Ex H H1 → xs[k]? = some x → EvT t (((wipe σ [i, j]).set i (some (.int (k : Int)))).set j (some x)) H1 (f k))
    (he : ∀ (k : Nat) (x : V) H1, Ex H H1 → xs[k]? = some x → f k = true → Ev te (((wipe σ [i, j]).set i (some (.int (k : Int)))).set j (some x)) H1 (g k)) :
    EvL (tLc (iEnum K (tCons tl tNil)) (g2 K i j) t te [i, j]) σ H (given xs.length f g) := fun H0 e Q q => h H0 e _ fun H1 e1 => ⟨a, xs, rfl, ex_l (e.trans e1) hx, fun Dl hD =>
  lc_enum (xs := xs) (Cw H1 f g Dl) ⟨hD, Ex.new hD, upd_same⟩ (fun i H' _ p => ex_l ((e.trans e1).trans p.2.1) hx) (fun k x H' T hk p nT => g2_go (st_of upd_same) ⟨wipe2 σ i j hij _ _, by
    have hT : Dl ≠ T := ne_of_none p.2.2 nT
    refine cw_turn (p := ⟨p.1, p.2.1.trans (Ex.new nT), by rw [upd_ne hT]; exact p.2.2⟩) (by have := (List.getElem?_eq_some_iff.mp hk).1; omega) (ht k x H1 (e.trans e1) hk) (fun hf => he k x H1 (e.trans e1) hk hf)⟩)
    (fun H' p => q Dl H' (fresh_back e1 p.1) (e1.trans p.2.1) p.2.2)⟩

/-! ### numbers that are not negative -/
theorem vdiv (x m : Nat) : V.int ((x : Int).fdiv (m : Int)) = V.int ((x / m : Nat) : Int) := by
  rw [Int.fdiv_eq_ediv_of_nonneg _ (Int.natCast_nonneg m), Int.natCast_ediv]
theorem vmod (x m : Nat) : V.int ((x : Int).fmod (m : Int)) = V.int ((x % m : Nat) : Int) := by
  rw [Int.fmod_eq_emod_of_nonneg _ (Int.natCast_nonneg m), Int.natCast_emod]
theorem vadd (x m : Nat) : V.int ((x : Int) + (m : Int)) = V.int ((x + m : Nat) : Int) := by rw [Int.natCast_add]
theorem rv_eqB {i j : Int} {b : Bool} (e : decide (i = j) = b) : RV rEq (.int i) (.int j) H (.bl b) := by
  have h := rv_eq (H := H) (x := .int i) (y := .int j) rfl
  rw [show decide (V.int i = V.int j) = b by
    rw [← e]
    exact decide_eq_decide.mpr ⟨fun h => V.int.inj h, fun h => by rw [h]⟩] at h
  exact h
theorem rv_neB {i j : Int} {b : Bool} (e : (!decide (i = j)) = b) : RV rNe (.int i) (.int j) H (.bl b) := by
  have h := rv_ne (H := H) (x := .int i) (y := .int j) rfl
  rw [show decide (V.int i = V.int j) = decide (i = j) from decide_eq_decide.mpr ⟨fun h => V.int.inj h, fun h => by rw [h]⟩, e] at h
  exact h
/-- a number within, by % of any number -/
theorem fmod_lt (x : Int) {m : Nat} (h : 0 < m) : ∃ r : Nat, x.fmod (m : Int) = (r : Int) ∧ r < m := by
  have h1 : (0 : Int) < m := by omega
  have h2 := Int.fmod_nonneg_of_pos x h1
  have h3 := Int.fmod_lt_of_pos x h1
  exact ⟨(x.fmod m).toNat, by omega, by omega⟩

/-- .. enumerate of a new list -/
theorem el_lcNE {xs : List V} {tl : TE} {i j : Nat} (hij : i ≠ j) (f : Nat → Bool) (g : Nat → V) (h : EvL tl σ H xs) (hz : xs.length ≤ 40000)
    (ht : ∀ (k : Nat) (x : V) H1, Ex H H1 → xs[k]? = some x → EvT t (((wipe σ [i, j]).set i (some (.int (k : Int)))).set j (some x)) H1 (f k))
    (he : ∀ (k : Nat) (x : V) H1, Ex H H1 → xs[k]? = some x → f k = true → Ev te (((wipe σ [i, j]).set i (some (.int (k : Int)))).set j (some x)) H1 (g k)) :
    EvL (tLc (iEnum K (tCons tl tNil)) (g2 K i j) t te [i, j]) σ H (given xs.length f g) := fun H0 e Q q => h H0 e _ fun a H1 ha e1 hx => ⟨a, xs, rfl, sq_of hx, fun Dl hD =>
  lc_enum (xs := xs) (Cw H1 f g Dl) ⟨hD, Ex.new hD, upd_same⟩ (fun i H' _ p => sq_of (p.2.1 a _ hx)) (fun k x H' T hk p nT => g2_go (st_of upd_same) ⟨wipe2 σ i j hij _ _, by
    have hT : Dl ≠ T := ne_of_none p.2.2 nT
    refine cw_turn (p := ⟨p.1, p.2.1.trans (Ex.new nT), by rw [upd_ne hT]; exact p.2.2⟩) (by have := (List.getElem?_eq_some_iff.mp hk).1; omega) (ht k x H1 (e.trans e1) hk) (fun hf => he k x H1 (e.trans e1) hk hf)⟩)
    (fun H' p => q Dl H' (fresh_back e1 p.1) (e1.trans p.2.1) p.2.2)⟩
/-- a name is given what a call gives back -/
theorem q_asgX {sp : Sp} {vs : List V} {E : XK} {ta : TA} {i : Nat} (h : EvA ta σ H vs) (hs : ∀ H1, Ex H H1 → sp vs H1 (fun v H2 => tz D (σ.set i (some v)) H2) E) : tSeq (tAsg (tCall sp [] E ta) (gName i)) tz D σ H :=
  h H (Ex.refl H) _ fun H1 e => by
    rw [List.append_nil]
    exact hs H1 e
theorem nl_set {L : List Nat} {j x : Nat} : (nl L).set j (.int (x : Int)) = nl (L.set j x) := by
  unfold nl
  rw [List.map_set]
theorem lead_of {n : Nat} (v : Nat → Int) (h : ∀ k, k < n → 0 ≤ v k ∧ v k < n) : ∃ L, Lead L ∧ L.length = n ∧ (List.range n).map (fun k => V.int (v k)) = nl L := by
  refine ⟨(List.range n).map fun k => (v k).toNat, fun x hx => ?_, by rw [List.length_map, List.length_range], ?_⟩
  · rw [List.length_map, List.length_range]
    obtain ⟨k, hk, rfl⟩ := List.mem_map.mp hx
    have := h k (List.mem_range.mp hk)
    omega
  · unfold nl
    rw [List.map_map]
    refine List.map_congr_left fun k hk => ?_
    have := h k (List.mem_range.mp hk)
    show V.int (v k) = V.int ((v k).toNat : Int)
    rw [Int.toNat_of_nonneg this.1]
theorem Lead.set {L : List Nat} (h : Lead L) {j x : Nat} (hx : x < L.length) : Lead (L.set j x) := fun y hy => by
  rw [List.length_set]
  rcases List.mem_or_eq_of_mem_set hy with h1 | rfl
  · exact h y h1
  · exact hx

theorem ev_ifOr {b : Bool} {i j : Int} (h : EvT t σ H b) (h1 : Ev ta σ H (.int i)) (h2 : Ev tb σ H (.int j)) : Ev (tIf t ta tb) σ H (.int (if b = true then i else j)) := by
  cases b with
  | true => exact ev_if h (fun _ => h1) (fun b => nomatch b)
  | false => exact ev_if h (fun b => nomatch b) (fun _ => h2)
theorem cutV_mem {xs : List V} {lo hi : Option Int} {i : Nat} {x : V} (h : (cutV xs lo hi)[i]? = some x) : x ∈ xs := by
  have h1 := List.mem_of_getElem? h
  unfold cutV at h1
  exact List.mem_of_mem_drop (List.mem_of_mem_take h1)
theorem mem_il {ns : List Int} {x : V} (h : x ∈ il ns) : ∃ z, z ∈ ns ∧ x = .int z := by
  unfold il at h
  obtain ⟨z, h1, h2⟩ := List.mem_map.mp h
  exact ⟨z, h1, h2.symm⟩
theorem nl_tm (L : List Nat) (n : Nat) : (List.range L.length).map (fun i => V.int (it L n i : Int)) = nl (tm L n) := by
  unfold nl tm
  rw [List.map_map]
  rfl
theorem pos_of_mem {ns : List Int} {z : Int} (h : z ∈ ns) : 0 < ns.length := List.length_pos_of_mem h

theorem el_callN2 {sp : Sp} {xs zs : List V} {E : XK} (h : EvL ta σ H xs) (h2 : Ev tb σ H y) (hs : ∀ p H1, Ex H H1 → H1 p = some (.lst xs) → SpL sp [.ref p, y] H1 zs) : EvL (tCall sp [] E (tCons ta (tCons tb tNil))) σ H zs := fun H1 e Q q =>
  h H1 e _ fun p H2 _ e2 hp => h2 H2 (e.trans e2) _ fun H3 e3 => hs p H3 ((e.trans e2).trans e3) (e3 _ _ hp) H3 (Ex.refl H3) Q (fun r H4 n4 e4 h4 => q r H4 (fresh_back (e2.trans e3) n4) ((e2.trans e3).trans e4) h4) E

theorem s_forNLn {xs : List V} {tl : TE} {j : Nat} (h : EvL tl σ H xs) (Pv : Addr → Nat → L2.St → Hp → Prop) (h0 : ∀ p H1, H p = none → Ex H H1 → H1 p = some (.lst xs) → Pv p 0 σ H1) (hl : ∀ p i σ' H', i ≤ xs.length → Pv p i σ' H' → SqL K H' p xs)
    (hs : ∀ p i x σ' H', xs[i]? = some x → Pv p i σ' H' → tu { D with nx := Pv p (i + 1), ct := Pv p (i + 1), bk := D.nx } (σ'.set j (some x)) H') (hd : ∀ p σ' H', Pv p xs.length σ' H' → D.nx σ' H') : tFor (iList K tl) (gName j) tu D σ H :=
  s_forNL h Pv h0 hl hs hd
end
end Ld
/-! Evy: sets' lengths, lists of lists compared, ranges with a step, sorted. -/
namespace Ld
open PySem L2 Evl
section
variable {X : Cx} {K : PySem.W.Frag}
theorem pe_revLK {e : Expr} {te : TE} {k : Nat} {p1 p2 p3 pos : Pos} (h : X.K = K) (he : PE X e te) : PE X (.Subscript e (.Slice none none (some (.UnaryOp .USub (.Constant (.int 1) k p1) p2)) p3) pos) (tRevL K te) := by
  subst h
  exact pe_revL he
theorem pe_lenSetK {a : Expr} {ta : TE} {p p2 q pos : Pos} (h : X.K = K) (hg : Gl X "len") (hm : X.mg "len" = none) (hg2 : Gl X "set") (hm2 : X.mg "set" = none) (ha : PE X a ta) (hc : X.calm = true)
    (na : starEach [a] X.env = (false, eval a X.env) :: starEach [] X.env := by rfl) : PE X (.Call (.Name "len" p) [.Call (.Name "set" p2) [a] [] q] [] pos) (RZ.tLenSetI K ta) := by
  subst h
  exact RZ.pe_lenSetI hg hm hg2 hm2 ha hc na
end
section
variable {K : PySem.W.Frag} {σ : L2.St} {H H' : Hp} {ta tb tc te tx td ty : TE} {t u : TT} {x y z v : V} {r r' : R2} {p q : Addr}
theorem el_rev {xs : List V} (ha : Ev ta σ H (.ref p)) (h : SqL K H p xs) : EvL (tRevL K ta) σ H xs.reverse := fun H1 e Q k =>
  ha H1 e _ fun H2 e2 => ⟨p, xs, rfl, ex_l (e.trans e2) h, fun r hr => k r _ (fresh_back e2 hr) (e2.trans (Ex.new hr)) upd_same⟩
theorem il_rev (L : List Int) : (il L).reverse = il L.reverse := by
  unfold il
  rw [List.map_reverse]
theorem nodup_cast {L : List Nat} (h : L.Nodup) : (L.map fun (x : Nat) => (x : Int)).Nodup := by
  rw [List.Nodup, List.pairwise_map]
  exact List.Pairwise.imp (fun {a b} hab e => hab (by omega)) h
theorem ev_lenSet {L : List Nat} (ha : Ev ta σ H (.ref p)) (h : SqL K H p (nl L)) (nd : L.Nodup) (hz : L.length ≤ 4000) : Ev (RZ.tLenSetI K ta) σ H (.int (L.length : Int)) := fun H1 e Q k =>
  ha H1 e _ fun H2 e2 => ⟨p, L.map fun (x : Nat) => (x : Int), rfl, by
    have h2 := ex_l (e.trans e2) h
    rw [nl_il] at h2
    exact h2, nodup_cast nd, by rw [List.length_map]; exact hz, by
    rw [List.length_map]
    exact k H2 e2⟩
/-- a call of two new lists -/
theorem el_callNN {sp : Sp} {xs ys zs : List V} {E : XK} (h : EvL ta σ H xs) (h2 : EvL tb σ H ys) (hs : ∀ p q H1, Ex H H1 → H1 p = some (.lst xs) → H1 q = some (.lst ys) → SpL sp [.ref p, .ref q] H1 zs) : EvL (tCall sp [] E (tCons ta (tCons tb tNil))) σ H zs := fun H1 e Q k =>
  h H1 e _ fun p H2 _ e2 hp => h2 H2 (e.trans e2) _ fun q H3 _ e3 hq => hs p q H3 ((e.trans e2).trans e3) (e3 _ _ hp) hq H3 (Ex.refl H3) Q (fun r H4 n4 e4 h4 => k r H4 (fresh_back (e2.trans e3) n4) ((e2.trans e3).trans e4) h4) E
theorem el_callN1 {sp : Sp} {xs zs : List V} {E : XK} (h : EvL ta σ H xs) (hs : ∀ p H1, Ex H H1 → H1 p = some (.lst xs) → SpL sp [.ref p] H1 zs) : EvL (tCall sp [] E (tCons ta tNil)) σ H zs := fun H1 e Q k =>
  h H1 e _ fun p H2 _ e2 hp => hs p H2 (e.trans e2) hp H2 (Ex.refl H2) Q (fun r H4 n4 e4 h4 => k r H4 (fresh_back e2 n4) (e2.trans e4) h4) E
/-- [e for x in a new list of numbers] -/
theorem el_mapIN {L : List Int} {tl : TE} {j : Nat} (g : Int → V) (h : EvL tl σ H (il L)) (hz : L.length ≤ 40000)
    (he : ∀ (x : Int) H1, Ex H H1 → x ∈ L → Ev te ((wipe σ [j]).set j (some (.int x))) H1 (g x)) : EvL (tLc (iList K tl) (gName j) tYes te [j]) σ H (L.map g) := by
  have h1 := el_lcNL (K := K) (j := j) (te := te) (vs := [j]) (t := tYes) (fun _ => true) (fun i => g (L.getD i 0)) h (by rw [il_len]; exact hz) (fun x => wipe1 σ j x) (fun _ _ _ _ _ => et_yes) (fun i x H1 e hi _ => by
    obtain ⟨y, h2, rfl, h3⟩ := il_inv hi
    have h4 : L.getD i 0 = y := by
      rw [List.getD_eq_getElem?_getD, h2]
      rfl
    rw [h4]
    exact he y H1 e (List.mem_of_getElem? h2))
  rw [given_all, il_len] at h1
  have e : (List.range L.length).map (fun i => g (L.getD i 0)) = L.map g := by
    refine List.ext_getElem? fun i => ?_
    rw [List.getElem?_map, List.getElem?_map]
    by_cases hi : i < L.length
    · rw [List.getElem?_range hi, List.getElem?_eq_getElem hi]
      show some (g (L.getD i 0)) = some (g L[i])
      rw [List.getD_eq_getElem?_getD, List.getElem?_eq_getElem hi]
      rfl
    · rw [List.getElem?_eq_none (by rw [List.length_range]; omega), List.getElem?_eq_none (by omega)]
      rfl
  rw [e] at h1
  exact h1
/-- sorted(xs): the rising list of the same numbers -/
theorem el_sorted {A ns : List Int} (ha : Ev ta σ H (.ref p)) (h : SqL K H p (il ns)) (hA : A.Perm ns) (hs : A.Pairwise (· ≤ ·)) : EvL (tCB (rSortedI K) (tCons ta tNil)) σ H (il A) := fun H1 e Q k =>
  ha H1 e _ fun H2 e2 => ⟨p, ns, rfl, ex_l (e.trans e2) h, fun B r h1 h2 hr => k r _ (fresh_back e2 hr) (e2.trans (Ex.new hr)) (by
    rw [upd_same, sorted_is (h1.trans hA.symm) h2 hs]
    rfl)⟩
theorem ev_min2 {i j : Int} (ha : Ev ta σ H (.int i)) (hb : Ev tb σ H (.int j)) : Ev (tCB (fun xs H Q => ∃ i j : Int, xs = [V.int i, V.int j] ∧ Q (.int (if j < i then j else i)) H) (tCons ta (tCons tb tNil))) σ H (.int (if j < i then j else i)) := fun H1 e Q q =>
  ha H1 e _ fun H2 e2 => hb H2 (e.trans e2) _ fun H3 e3 => ⟨i, j, rfl, q H3 (e2.trans e3)⟩
theorem ev_max2' {i j : Int} (ha : Ev ta σ H (.int i)) (hb : Ev tb σ H (.int j)) : Ev (tCB (fun xs H Q => ∃ i j : Int, xs = [V.int i, V.int j] ∧ Q (.int (if j > i then j else i)) H) (tCons ta (tCons tb tNil))) σ H (.int (if j > i then j else i)) := fun H1 e Q q =>
  ha H1 e _ fun H2 e2 => hb H2 (e.trans e2) _ fun H3 e3 => ⟨i, j, rfl, q H3 (e2.trans e3)⟩

/-! ### lists of lists -/
def LLs (K : PySem.W.Frag) (H : Hp) : List Addr → List (List Nat) → Prop := Paired fun r l => SqL K H r (nl l)
theorem LLs.ex {rs : List Addr} {Ls : List (List Nat)} (h : LLs K H rs Ls) (e : Ex H H') : LLs K H' rs Ls := Paired.mapP h fun _ _ q => ex_l e q
theorem dp_nl {L : List Nat} (h : SqL K H p (nl L)) : Dp K H (.ref p) (.list (L.map fun (x : Nat) => PyData.int (x : Int))) := by
  rw [nl_il] at h
  have h1 := dp_il h
  rw [List.map_map] at h1
  exact h1
def dl (l : List Nat) : PyData := .list (l.map fun (x : Nat) => PyData.int (x : Int))
theorem dl_eq (l : List Nat) : dl l = .list ((l.map fun (x : Nat) => (x : Int)).map PyData.int) := by
  unfold dl
  rw [List.map_map]
  rfl
theorem dpAll_ll : ∀ {rs : List Addr} {Ls : List (List Nat)}, LLs K H rs Ls → DpAll K H (rs.map V.ref) (Ls.map dl)
  | _, _, .nil => .nil
  | _, _, .cons h t => .cons (dp_nl h) (dpAll_ll t)
theorem eqvAll_ll : ∀ A B : List (List Nat), PyData.eqvAll (A.map dl) (B.map dl) = decide (A = B)
  | [], [] => rfl
  | [], _ :: _ => rfl
  | _ :: _, [] => rfl
  | a :: r, b :: s => by
    show (PyData.eqv (dl a) (dl b) && PyData.eqvAll (r.map dl) (s.map dl)) = _
    rw [eqvAll_ll r s, dl_eq, dl_eq, eqv_int]
    rw [Bool.eq_iff_iff, Bool.and_eq_true, decide_eq_true_eq, decide_eq_true_eq, decide_eq_true_eq, cast_inj, List.cons.injEq]
theorem canAll_ll : ∀ A : List (List Nat), PyData.canLayAll0 (A.map dl) = true
  | [] => rfl
  | a :: r => by
    show (PyData.canLay0 (dl a) && PyData.canLayAll0 (r.map dl)) = true
    rw [canAll_ll r, dl_eq]
    show (PyData.canLayAll0 ((a.map fun (x : Nat) => (x : Int)).map PyData.int) && true) = true
    rw [canAll_int]
    rfl
theorem depthAll_ll : ∀ A : List (List Nat), PyData.depthAll (A.map dl) ≤ 1
  | [] => Nat.zero_le 1
  | a :: r => by
    show max (PyData.depth (dl a)) (PyData.depthAll (r.map dl)) ≤ 1
    have h1 : PyData.depth (dl a) = 1 := by
      rw [dl_eq]
      show PyData.depthAll ((a.map fun (x : Nat) => (x : Int)).map PyData.int) + 1 = 1
      rw [depthAll_int]
    have h2 := depthAll_ll r
    rw [h1]
    omega
theorem shaped_ll (A : List (List Nat)) : SeqAt.shaped (.list (A.map dl)) = true := by
  unfold SeqAt.shaped
  have h1 : PyData.canLay0 (.list (A.map dl)) = true := canAll_ll A
  have h2 : PyData.depth (.list (A.map dl)) ≤ 64 := by
    show PyData.depthAll (A.map dl) + 1 ≤ 64
    have := depthAll_ll A
    omega
  rw [h1, decide_eq_true h2]
  rfl
/-- a list of lists of numbers at p -/
def IsLL (K : PySem.W.Frag) (H : Hp) (p : Addr) (Ls : List (List Nat)) : Prop := ∃ rs : List Addr, SqL K H p (rs.map V.ref) ∧ LLs K H rs Ls
theorem IsLL.ex {Ls : List (List Nat)} (h : IsLL K H p Ls) (e : Ex H H') : IsLL K H' p Ls := by
  obtain ⟨rs, h1, h2⟩ := h
  exact ⟨rs, ex_l e h1, h2.ex e⟩
theorem IsLL.dp {Ls : List (List Nat)} (h : IsLL K H p Ls) : Dp K H (.ref p) (.list (Ls.map dl)) := by
  obtain ⟨rs, h1, h2⟩ := h
  exact .lst h1 (dpAll_ll h2)
theorem rv_eqLL {A B : List (List Nat)} (h1 : IsLL K H p A) (h2 : IsLL K H q B) : RV (rEqD K) (.ref p) (.ref q) H (.bl (decide (A = B))) := fun H1 e Q k =>
  ⟨_, _, (h1.ex e).dp, (h2.ex e).dp, shaped_ll A, shaped_ll B, by
    rw [show PyData.eqv (.list (A.map dl)) (.list (B.map dl)) = decide (A = B) from eqvAll_ll A B]
    exact k H1 (Ex.refl H1)⟩
theorem rv_neLL {A B : List (List Nat)} (h1 : IsLL K H p A) (h2 : IsLL K H q B) : RV (rNeD K) (.ref p) (.ref q) H (.bl (!decide (A = B))) := fun H1 e Q k =>
  ⟨_, _, (h1.ex e).dp, (h2.ex e).dp, shaped_ll A, shaped_ll B, by
    rw [show PyData.eqv (.list (A.map dl)) (.list (B.map dl)) = decide (A = B) from eqvAll_ll A B]
    exact k H1 (Ex.refl H1)⟩
theorem rv_neLL0 {A B : List (List Nat)} (h1 : IsLL K H p A) (h2 : IsLL K H q B) (e : A = B) : RV (rNeD K) (.ref p) (.ref q) H (.bl false) := by
  have h := rv_neLL h1 h2
  rw [decide_eq_true e] at h
  exact h
/-- [a, b] of two new lists -/
theorem tl_two {xs ys : List V} {Q : VK} (h1 : EvL ta σ H xs) (h2 : EvL tb σ H ys) (k : ∀ p q r H2, H r = none → Ex H H2 → H2 p = some (.lst xs) → H2 q = some (.lst ys) → H2 r = some (.lst [.ref p, .ref q]) → Q (.ref r) H2) : tLst (tCons ta (tCons tb tNil)) σ H Q :=
  h1 H (Ex.refl H) _ fun p H1 _ e1 hp => h2 H1 e1 _ fun q H2 _ e2 hq => ⟨by show 2 ≤ sizeLine; decide, fun r hr => k p q r _ (fresh_back (e1.trans e2) hr) ((e1.trans e2).trans (Ex.new hr)) (Ex.new hr _ _ (e2 _ _ hp)) (Ex.new hr _ _ hq) upd_same⟩

/-! ### for i in range(a, b, c) -/
variable {D : Ends} {tu tw tz : TS}
theorem rg_up {n w : Nat} (hw : 0 < w) (hw2 : w < 1000) (hn : n ≤ 1000) : RgC 0 ((n : Int) - (w : Int) + 1) (w : Int) (n / w) := by
  have hsz : Builtin.Range.rangeSize 0 ((n : Int) - (w : Int) + 1) (w : Int) = ((n / w : Nat) : Int) := by
    unfold Builtin.Range.rangeSize
    rw [if_pos (by omega)]
    by_cases h : w ≤ n
    · rw [if_pos (by omega)]
      have e : (n : Int) - (w : Int) + 1 - 0 - 1 = ((n - w : Nat) : Int) := by omega
      rw [e, ← Int.natCast_ediv]
      have h2 : n / w = (n - w) / w + 1 := by
        rw [Nat.div_eq_sub_div hw h]
      rw [h2, Int.natCast_add]
      rfl
    · rw [if_neg (by omega), Nat.div_eq_of_lt (by omega)]
      rfl
  refine ⟨by omega, by omega, ?_, hsz⟩
  unfold Builtin.Range.small
  rw [hsz]
  have h1 : n / w * w ≤ n := Nat.div_mul_le_self n w
  have h2 : n / w ≤ n := Nat.div_le_self n w
  simp only [Builtin.Range.rangeFitsLong, Bool.and_eq_true, Bool.or_eq_true, decide_eq_true_eq, beq_iff_eq]
  rw [if_pos (by omega)]
  generalize n / w = m at h1 h2 ⊢
  refine ⟨by omega, .inr ?_⟩
  rw [Bool.and_eq_true, decide_eq_true_eq, decide_eq_true_eq]
  omega
theorem s_forR3 {ta : TA} {j : Nat} {a b c : Int} {n : Nat} (h : EvA ta σ H [.int a, .int b, .int c]) (hn : RgC a b c n) (Pv : Nat → L2.St → Hp → Prop) (h0 : ∀ H1, Ex H H1 → Pv 0 σ H1)
    (hs : ∀ (i : Nat) σ' H', i < n → Pv i σ' H' → tu { D with nx := Pv (i + 1), ct := Pv (i + 1), bk := D.nx } (σ'.set j (some (.int (a + (i : Nat) * c)))) H') (hd : ∀ σ' H', Pv n σ' H' → D.nx σ' H') : tFor (iRng3 ta) (gName j) tu D σ H :=
  h H (Ex.refl H) _ fun H1 e => ⟨a, b, c, n, rfl, hn, for_rangeC Pv (h0 H1 e) hs hd⟩
theorem q_forR3 {ta : TA} {j : Nat} {a b c : Int} {n : Nat} (h : EvA ta σ H [.int a, .int b, .int c]) (hn : RgC a b c n) (Pv : Nat → L2.St → Hp → Prop) (h0 : ∀ H1, Ex H H1 → Pv 0 σ H1)
    (hs : ∀ (i : Nat) σ' H', i < n → Pv i σ' H' → tu { D with nx := Pv (i + 1), ct := Pv (i + 1), bk := tz D } (σ'.set j (some (.int (a + (i : Nat) * c)))) H') (hd : ∀ σ' H', Pv n σ' H' → tz D σ' H') : tSeq (tFor (iRng3 ta) (gName j) tu) tz D σ H :=
  s_forR3 (D := { D with nx := tz D }) h hn Pv h0 hs hd

theorem nl_map_st (A : List Nat) (f : Nat → Nat) : (List.range A.length).map (fun i => V.int (f (st A i) : Int)) = nl (A.map f) := by
  unfold nl
  rw [List.map_map]
  refine List.ext_getElem? fun i => ?_
  rw [List.getElem?_map, List.getElem?_map]
  by_cases hi : i < A.length
  · rw [List.getElem?_range hi, st_get hi]
    rfl
  · rw [List.getElem?_eq_none (by rw [List.length_range]; omega), List.getElem?_eq_none (by omega)]
    rfl
theorem nl_map (A : List Nat) (f : Nat → Nat) : A.map (fun x => V.int (f x : Int)) = nl (A.map f) := by
  unfold nl
  rw [List.map_map]
  rfl
/-- a name is given what a call of a new list gives back -/
theorem q_asgXN {sp : Sp} {xs : List V} {E : XK} {i : Nat} (h : EvL ta σ H xs) (hs : ∀ p H1, H p = none → Ex H H1 → H1 p = some (.lst xs) → sp [.ref p] H1 (fun v H2 => tz D (σ.set i (some v)) H2) E) : tSeq (tAsg (tCall sp [] E (tCons ta tNil)) (gName i)) tz D σ H :=
  h H (Ex.refl H) _ fun p H1 n e h1 => hs p H1 n e h1
theorem q_two {xs ys : List V} {i : Nat} (h1 : EvL ta σ H xs) (h2 : EvL tb σ H ys) (k : ∀ p q r H2, H r = none → Ex H H2 → H2 p = some (.lst xs) → H2 q = some (.lst ys) → H2 r = some (.lst [.ref p, .ref q]) → tz D (σ.set i (some (.ref r))) H2) : tSeq (tAsg (tLst (tCons ta (tCons tb tNil))) (gName i)) tz D σ H :=
  tl_two (Q := fun x H1 => tz D (σ.set i (some x)) H1) h1 h2 k
end
end Ld
/-! Evz: classes and their instances, slices with a step, places in lists. -/
namespace Ld
open PySem L2 Evl
/-! ### slices with a step -/
def stepV {α : Type} (xs : List α) (lo hi st : Option Int) : List α :=
  (PySem.sliceRange (PySem.sliceBounds lo hi st xs.length).1 (PySem.sliceBounds lo hi st xs.length).2.1 (PySem.sliceBounds lo hi st xs.length).2.2).filterMap (xs[·]?)
theorem stepV_mem {α : Type} {xs : List α} {lo hi st : Option Int} {y : α} (h : y ∈ stepV xs lo hi st) : y ∈ xs := by
  unfold stepV at h
  obtain ⟨i, _, e⟩ := List.mem_filterMap.mp h
  exact List.mem_of_getElem? e
theorem vals_pick {xs : List V} {us : List Value} (r : Vals xs us) : ∀ R : List Nat, Vals (R.filterMap (xs[·]?)) (R.filterMap (us.toArray[·]?))
  | [] => .nil
  | i :: R => by
    have ih := vals_pick r R
    rw [List.filterMap_cons, List.filterMap_cons]
    cases h : xs[i]? with
    | none =>
      have h2 : us.toArray[i]? = none := by
        rw [List.getElem?_toArray]
        exact Vals.none_of r h
      rw [h2]
      exact ih
    | some x =>
      obtain ⟨u, h2, rx⟩ := Vals.get r h
      have h3 : us.toArray[i]? = some u := by
        rw [List.getElem?_toArray]
        exact h2
      rw [h3]
      exact .cons rx ih
theorem vals_step {xs : List V} {us : List Value} {lo hi st : Option Int} (r : Vals xs us) : Vals (stepV xs lo hi st) (PySem.slicePick us.toArray lo hi st).toList := by
  unfold stepV PySem.slicePick
  rw [r.length, List.size_toArray]
  exact vals_pick r _
def tStepL (K : PySem.W.Frag) (te : TE) (l c : Int) : TE := fun σ H Q => te σ H fun x H1 => ∃ a xs, x = .ref a ∧ c ≠ 0 ∧ SqL K H1 a xs ∧ ∀ p, H1 p = none → Q (.ref p) (upd H1 p (.lst (stepV xs (some l) none (some c))))
open PySem.Spec PyProof.Rows in
theorem pe_stepL {X : Cx} {e : Expr} {te : TE} {l c : Int} {k0 k : Nat} {p0 p1 p3 pos : Pos} (he : PE X e te) :
    PE X (.Subscript e (.Slice (some (.Constant (.int l) k0 p0)) none (some (.Constant (.int c) k p1)) p3) pos) (tStepL X.K te l c) := by
  refine ⟨fun pins s σ H Q I h => ?_⟩
  refine Subscript_ (thn (he.run pins s σ H _ I h) fun v s1 ⟨x, H1, I1, r1, q1⟩ => ?_)
  obtain ⟨a, xs, ex, hc, hx, q⟩ := q1
  subst ex
  cases r1
  have hlo : PO X (some (.Constant (.int l) k0 p0)) (tPart (tC (.int l))) := po_some pe_int
  have hst : PO X (some (.Constant (.int c) k p1)) (tPart (tC (.int c))) := po_some pe_int
  refine PySem.wpAny_Slice (thn (hlo.run pins s1 σ H1 (fun o H2 => o = some l ∧ H2 = H1) I1 ⟨l, rfl, rfl, rfl⟩) fun vl s2 ⟨o1, H2, I2, pl, el, e2⟩ => ?_)
  subst el e2
  refine thn (po_none.run pins s2 σ H2 (fun o H3 => o = none ∧ H3 = H2) I2 ⟨rfl, rfl⟩) fun vu s3 ⟨u, H3, I3, pu, eu, e3⟩ => ?_
  subst eu e3
  refine thn (hst.run pins s3 σ H3 (fun o H4 => o = some c ∧ H4 = H3) I3 ⟨c, rfl, rfl, rfl⟩) fun vs s4 ⟨o, H4, I4, ps, eo, e4⟩ => ?_
  subst eo e4
  have I5 : Inv X pins σ H4 { s4 with heap := s4.heap.push { cls := .type "slice", data := .fields #[vl, vu, vs] } } := I4.kept (t' := s4.toks) fun b ob q => Heap.get?_push_of_some _ q
  obtain ⟨its, r, ht, hz⟩ := I5.list hx
  have hlen := r.length
  have hv := vals_step (lo := some l) (hi := none) (st := some c) r
  have hsz := PySem.slicePick_size_le its.toArray (some l) none (some c)
  show wpAny (model X.prog X.w) X.A (subscriptTail e (.Slice (some (.Constant (.int l) k0 p0)) none (some (.Constant (.int c) k p1)) p3) (.ref a) (.ref s4.heap.objs.size)) (EP X pins σ Q) X.xe { s4 with heap := s4.heap.push { cls := .type "slice", data := .fields #[vl, vu, vs] } }
  refine tail_any (ops := [.ref a, .ref s4.heap.objs.size]) ht.isList.typeIs (PySem.slot_list_getitem.lookup) ?_ (by with_unfolding_all rfl)
  refine PySem.wpAny_getItem_list_slice ht.isList (Heap.IsSliceOf.new _ vl vu vs) pl pu ps (fun z => hc (Option.some.inj z)) ?_ (by rw [List.size_toArray]; omega)
  refine ⟨.ref _, _, I5.laid (t' := s4.toks) (o := .lst (stepV xs (some l) none (some c))) (fun b ob q => Heap.get?_push_of_some _ q) (Nat.le_refl _) ?_, rfl, q _ (I5.hok.fresh (Nat.le_refl _))⟩
  refine ⟨?_, (PySem.slicePick its.toArray (some l) none (some c)).toList, 0, hv, ?_⟩
  · have h5 : its.toArray.size = its.length := List.size_toArray
    rw [hv.length, Array.length_toList]
    omega
  · rw [Array.toArray_toList]
    exact Heap.get?_push_size _ rfl
theorem pe_stepLK {X : Cx} {K : PySem.W.Frag} {e : Expr} {te : TE} {l c : Int} {k0 k : Nat} {p0 p1 p3 pos : Pos} (h : X.K = K) (he : PE X e te) :
    PE X (.Subscript e (.Slice (some (.Constant (.int l) k0 p0)) none (some (.Constant (.int c) k p1)) p3) pos) (tStepL K te l c) := by
  subst h
  exact pe_stepL he

/-! ### classes -/
/-- what is asked of a class of the text -/
structure Ck (K : PySem.W.Frag) (mg : Str → Option Value) (x : Str) (C : Addr) : Prop where
  cl : Cls K C
  g : mg x = some (.ref C)
  ha : PySem.W.findIn K (.ref C) "__class__" = some (some (.builtin "object.__class__"))
  hn : PySem.W.specialIn K (.builtin "object.__class__") "__get__" = some (some (.builtin "getset_descriptor.__get__"))
  htk : PySem.W.takesIn K (.builtin "object.__class__") = some true
  hm : PySem.W.mroIn K C (.type "object") = some true
/-- a method that keeps its promise; a class made by an __init__ that keeps its promise -/
structure Mt (P : Program) (w : World) (K : PySem.W.Frag) (mg : Str → Option Value) (base : Heap) (CX : CXT) (k : Nat) (C : Addr) (m : Str) (ps : List Str) (sp : Sp) : Prop where
  ex : ∃ (f : Addr) (fd : FuncData), FnOk P w K mg base CX k f fd ps sp ∧ Meth K C m f ∧ Binds K fd ps []
structure Cn (P : Program) (w : World) (K : PySem.W.Frag) (mg : Str → Option Value) (base : Heap) (CX : CXT) (k : Nat) (x : Str) (C : Addr) (ps : List Str) (sp : Sp) : Prop where
  ex : ∃ (f : Addr) (fd : FuncData), FnOk P w K mg base CX k f fd ps sp ∧ Mk K C f ∧ Binds K fd ps []
  g : mg x = some (.ref C)
section
variable {X : Cx} {K : PySem.W.Frag}
theorem pe_methD {CX : CXT} {k : Nat} {C : Addr} {m : Str} {ps : List Str} {sp : Sp} {E : XK} {o e : Expr} {es : List Expr} {ta : TE} {t : TA} {apos pos : Pos} {pl : Sem Bool} (c : Cls X.K C) (D : Mt X.prog X.w X.K X.mg X.base CX k C m ps sp) (hr : Room k X.A) (hx : Passes CX X E) (he : PE X o ta)
    (ha : PA X (e :: es) t) (hst : starEach (e :: es) X.env = (false, eval e X.env) :: starEach es X.env := by rfl) (hpl : (backTo pos (starEach es X.env)).any (·.1) = false := by rfl)
    (ht : eval (.Call (.Attribute o m apos) (e :: es) [] pos) X.env = (do
      let ov ← eval o X.env
      standAt apos.atName
      let (f, first) ← holding [ov] (getMethod ov m pl)
      callWith pos f first (backTo pos (starEach (e :: es) X.env)) (backToKw pos (keywordEach [] X.env))) := by rfl) : PE X (.Call (.Attribute o m apos) (e :: es) [] pos) (tMeth C m sp [] E ta t) := by
  obtain ⟨f, fd, F, M, b⟩ := D.ex
  exact pe_meth he c M F hr b .nil hx ha hst hpl ht
theorem pe_makeD {CX : CXT} {k : Nat} {x : Str} {C : Addr} {ps : List Str} {sp : Sp} {E : XK} {e : Expr} {es : List Expr} {t : TA} {p pos : Pos} (D : Cn X.prog X.w X.K X.mg X.base CX k x C ps sp) (hr : Room (k + 1) X.A) (hg : Gl X x) (hx : Passes CX X E)
    (ha : PA X (e :: es) t) (hdb : (x == ("__debug__" : Str)) = false := by decide) (he : starEach (e :: es) X.env = (false, eval e X.env) :: starEach es X.env := by rfl) (hpl : (backTo pos (starEach es X.env)).any (·.1) = false := by rfl) :
    PE X (.Call (.Name x p) (e :: es) [] pos) (tMake C sp [] E t) := by
  obtain ⟨f, fd, F, M, b⟩ := D.ex
  exact pe_make M F hr hg D.g b .nil hx ha hdb he hpl
/-- one of two readings -/
def tOr2 (t1 t2 : TE) : TE := fun σ H Q => t1 σ H Q ∨ t2 σ H Q
theorem pe_or2 {e : Expr} {t1 t2 : TE} (h1 : PE X e t1) (h2 : PE X e t2) : PE X e (tOr2 t1 t2) := ⟨fun pins s σ H Q I h => by
  rcases h with h | h
  · exact h1.run pins s σ H Q I h
  · exact h2.run pins s σ H Q I h⟩
theorem pe_fldK {e : Expr} {ta : TE} {f : Str} {pos : Pos} (h : X.K = K) (he : PE X e ta) (hb : attributeBase e f X.env (eval e X.env) = eval e X.env) : PE X (.Attribute e f pos) (tFld K ta f) := by
  subst h
  exact pe_fld he hb
theorem ps_fldK {o value : Expr} {ta tv : TE} {f : Str} {pos pos' : Pos} (h : X.K = K) (ha : PE X o ta) (hv : PE X value tv) (hs : swapsWith value (some (.Attribute o f pos')) pos.line X.env = pure false) : PS X (.Assign [.Attribute o f pos'] value pos) (sFld K ta tv f) := by
  subst h
  exact ps_fld ha hv hs
theorem mt_indexK (h : X.K = K) : MtR X "list.index" (rIndex K) := by
  subst h
  exact mt_index
end
/-- all but x as it was -/
def ExB (x : Addr) (H H' : Hp) : Prop := ∀ b o, b ≠ x → H b = some o → H' b = some o
theorem ex_made {H H' : Hp} {x dx : Addr} {o o' : HO} (nx : H x = none) (nd : H dx = none) (h : ExB x (upd (upd H dx o') x o) H') : Ex H H' := fun b u e => by
  have h1 : b ≠ x := ne_of_none e nx
  exact h b u h1 (by rw [upd_ne h1, upd_ne (ne_of_none e nd)]; exact e)
theorem look1 {f : Str} {v : V} : List.lookup f [(f, v)] = some v := by
  unfold List.lookup
  rw [beq_self_eq_true]
theorem lookA {f : Str} {v : V} {r : List (Str × V)} : List.lookup f ((f, v) :: r) = some v := by
  unfold List.lookup
  rw [beq_self_eq_true]
theorem lookB {f g : Str} {v w : V} (h : (f == g) = false) : List.lookup f [(g, v), (f, w)] = some w := by
  unfold List.lookup
  rw [h]
  exact lookA
theorem putB {f g : Str} {v w : V} (h : ¬ g = f) : putF f w [(g, v)] = [(g, v), (f, w)] := by
  show (if g = f then [(g, w)] else (g, v) :: putF f w []) = _
  rw [if_neg h]
  rfl
section
variable {K : PySem.W.Frag} {mg : Str → Option Value} {σ : L2.St} {H H' : Hp} {ta tb tc te tx td ty : TE} {t u : TT} {x y z v : V} {r r' : R2} {p q : Addr} {D : Ends} {tu tw tz : TS}
theorem el_step {xs : List V} {l c : Int} (ha : Ev ta σ H (.ref p)) (h : SqL K H p xs) (hc : c ≠ 0) : EvL (tStepL K ta l c) σ H (stepV xs (some l) none (some c)) := fun H1 e Q k =>
  ha H1 e _ fun H2 e2 => ⟨p, xs, rfl, hc, ex_l (e.trans e2) h, fun r hr => k r _ (fresh_back e2 hr) (e2.trans (Ex.new hr)) upd_same⟩
/-- xs + ys of two new lists -/
theorem el_cat {xs ys : List V} (ha : EvL ta σ H xs) (hb : EvL tb σ H ys) (hz : xs.length + ys.length ≤ 100000) : EvL (tOp rCat ta tb) σ H (xs ++ ys) := fun H1 e Q k =>
  ha H1 e _ fun p H2 _ e2 hp => hb H2 (e.trans e2) _ fun q H3 _ e3 hq => ⟨p, q, xs, ys, rfl, rfl, e3 _ _ hp, hq, sz_of hz, fun r hr => k r _ (fresh_back (e2.trans e3) hr) ((e2.trans e3).trans (Ex.new hr)) upd_same⟩
theorem inV_il (i : Int) : ∀ L : List Int, inV (.int i) (il L) = decide (i ∈ L)
  | [] => rfl
  | a :: r => by
    have ih := inV_il i r
    unfold inV at ih ⊢
    show (eqV (.int a) (.int i) || (il r).any fun y => eqV y (.int i)) = _
    rw [ih]
    show ((a == i) || decide (i ∈ r)) = _
    rw [Bool.eq_iff_iff, Bool.or_eq_true, decide_eq_true_eq, decide_eq_true_eq, List.mem_cons, beq_iff_eq]
    exact ⟨fun h => h.imp Eq.symm id, fun h => h.imp Eq.symm id⟩
theorem flat_il : ∀ L : List Int, (il L).all flatV = true
  | [] => rfl
  | a :: r => by
    show (flatV (.int a) && (il r).all flatV) = true
    rw [flat_il r]
    rfl
theorem mem_cast {i : Nat} {L : List Nat} : (i : Int) ∈ L.map (fun (x : Nat) => (x : Int)) ↔ i ∈ L := by
  rw [List.mem_map]
  refine ⟨fun ⟨j, h1, h2⟩ => ?_, fun h => ⟨i, h, rfl⟩⟩
  have : j = i := by omega
  rw [← this]
  exact h1
theorem rv_inI {i : Int} {L : List Int} {b : Bool} (h : SqL K H p (il L)) (e : decide (i ∈ L) = b) : RV (rIn K false) (.int i) (.ref p) H (.bl b) := by
  have h1 := rv_isL (x := .int i) h rfl (flat_il L)
  rw [inV_il, e] at h1
  exact h1
theorem rv_ninI {i : Int} {L : List Int} {b : Bool} (h : SqL K H p (il L)) (e : (!decide (i ∈ L)) = b) : RV (rIn K true) (.int i) (.ref p) H (.bl b) := by
  have h1 := rv_niL (x := .int i) h rfl (flat_il L)
  rw [inV_il, e] at h1
  exact h1
theorem rv_inN {i : Nat} {L : List Nat} {b : Bool} (h : SqL K H p (nl L)) (e : decide (i ∈ L) = b) : RV (rIn K false) (.int (i : Int)) (.ref p) H (.bl b) := by
  rw [nl_il] at h
  exact rv_inI h (by rw [← e]; exact decide_eq_decide.mpr mem_cast)
theorem rv_ninN {i : Nat} {L : List Nat} {b : Bool} (h : SqL K H p (nl L)) (e : (!decide (i ∈ L)) = b) : RV (rIn K true) (.int (i : Int)) (.ref p) H (.bl b) := by
  rw [nl_il] at h
  exact rv_ninI h (by rw [← e]; rw [decide_eq_decide.mpr mem_cast])
/-- xs.index(x), x in xs -/
theorem ev_index {i : Nat} {L : List Nat} (ha : Ev ta σ H (.ref p)) (hL : Rd H p (.lst (nl L))) (hb : Ev tb σ H (.int (i : Int))) (hi : i ∈ L) : Ev (tBM K "list" (rIndex K) ta (tCons tb tNil)) σ H (.int (L.idxOf i : Int)) := fun H1 e Q k =>
  ha H1 e _ fun H2 e2 => ⟨.inl ⟨rfl, _, .inl (ex_rd (e.trans e2) hL)⟩, hb H2 (e.trans e2) _ fun H3 e3 => by
    have h1 : L.idxOf i < L.length := List.idxOf_lt_length_iff.mpr hi
    refine ⟨p, nl L, .int (i : Int), L.idxOf i, .int (i : Int), rfl, rfl, .inl (ex_rd ((e.trans e2).trans e3) hL), rfl, by rw [nl_il]; exact flat_il _, ?_, ?_, ?_, k H3 (e2.trans e3)⟩
    · have h2 := nl_st h1
      rw [st_idx hi] at h2
      exact h2
    · show ((i : Int) == (i : Int)) = true
      exact beq_self_eq_true _
    · intro m z hm hz
      obtain ⟨y, hy, rfl, hl⟩ := nl_inv hz
      show ((y : Int) == (i : Int)) = false
      refine beq_eq_false_iff_ne.mpr fun e => ?_
      have e2 : y = i := by omega
      subst e2
      have h3 := List.not_of_lt_findIdx (p := (· == y)) (xs := L) (i := m) (by exact hm)
      have h4 : L[m] = y := by
        rw [List.getElem?_eq_getElem hl] at hy
        exact Option.some.inj hy
      rw [h4] at h3
      simp at h3⟩
/-! ### instances -/
theorem ty_ins {C dx : Addr} {x : Str} {fs : List (Str × V)} (c : Ck K mg x C) (h : H p = some (.ins C dx fs)) {H1 : Hp} (e : Ex H H1) : TyX K H1 (.ref p) (.ref C) := .base (.ins (e _ _ h) c.cl c.ha c.hn c.htk c.hm)
theorem ev_isiC {C C2 dx : Addr} {x : Str} {fs : List (Str × V)} {b : Bool} (c : Ck K mg x C) (ha : Ev ta σ H (.ref p)) (h : H p = some (.ins C dx fs)) (hb : PySem.W.kitOne K (.ref C) (.ref C2) = some b) : Ev (tCB (rIsi K) (tCons ta (tCons (tC (.ref C2)) tNil))) σ H (.bl b) :=
  ev_isi ha ev_c (.own C2) (fun _ e => ty_ins c h e) hb
theorem ev_fld {C dx : Addr} {f : Str} {fs : List (Str × V)} (c : Cls K C) (n : NoAttr K C f) (ha : Ev ta σ H (.ref p)) (h : H p = some (.ins C dx fs)) (hl : fs.lookup f = some v) : Ev (tFld K ta f) σ H v := fun H1 e Q k =>
  ha H1 e _ fun H2 e2 => ⟨p, C, dx, fs, v, rfl, (e.trans e2) _ _ h, c, n, hl, k H2 e2⟩
theorem ev_meth {C dx : Addr} {m : Str} {fs : List (Str × V)} {sp : Sp} {E : XK} {ta' : TA} {vs : List V} (ha : Ev ta σ H (.ref p)) (h : H p = some (.ins C dx fs)) (hl : fs.lookup m = none) (hv : EvA ta' σ H vs) (hs : SpV sp (.ref p :: vs) H z) : Ev (tMeth C m sp [] E ta ta') σ H z := fun H1 e Q k =>
  ha H1 e _ fun H2 e2 => ⟨p, dx, fs, rfl, (e.trans e2) _ _ h, hl, hv H2 (e.trans e2) _ fun H3 e3 => by
    rw [List.append_nil]
    exact hs H3 ((e.trans e2).trans e3) Q (fun H4 e4 => k H4 ((e2.trans e3).trans e4)) E⟩
theorem ev_or2l (h : Ev ta σ H v) : Ev (tOr2 ta tb) σ H v := fun H1 e Q k => .inl (h H1 e Q k)
theorem ev_or2r (h : Ev tb σ H v) : Ev (tOr2 ta tb) σ H v := fun H1 e Q k => .inr (h H1 e Q k)
/-- o.f = e in an __init__ -/
theorem s_fld {C dx : Addr} {f : Str} {fs : List (Str × V)} (c : Cls K C) (n : NoAttr K C f) (hv : Ev tx σ H v) (ha : Ev ta σ H (.ref p)) (h : H p = some (.ins C dx fs)) (hz : fs.length < 1000) (k : ∀ H1, Ex H H1 → D.nx σ (upd H1 p (.ins C dx (putF f v fs)))) : sFld K ta tx f D σ H :=
  hv H (Ex.refl H) _ fun H1 e1 => ha H1 e1 _ fun H2 e2 => ⟨p, C, dx, fs, rfl, (e1.trans e2) _ _ h, c, n, hz, k H2 (e1.trans e2)⟩
theorem s_fldL {C dx : Addr} {f : Str} {fs : List (Str × V)} {xs : List V} (c : Cls K C) (n : NoAttr K C f) (hv : EvL tx σ H xs) (ha : Ev ta σ H (.ref p)) (h : H p = some (.ins C dx fs)) (hz : fs.length < 1000)
    (k : ∀ l H1, H l = none → Ex H H1 → H1 l = some (.lst xs) → D.nx σ (upd H1 p (.ins C dx (putF f (.ref l) fs)))) : sFld K ta tx f D σ H :=
  hv H (Ex.refl H) _ fun l H1 nl e1 hl => ha H1 e1 _ fun H2 e2 => ⟨p, C, dx, fs, rfl, (e1.trans e2) _ _ h, c, n, hz, k l H2 nl (e1.trans e2) (e2 _ _ hl)⟩
theorem q_fld {C dx : Addr} {f : Str} {fs : List (Str × V)} (c : Cls K C) (n : NoAttr K C f) (hv : Ev tx σ H v) (ha : Ev ta σ H (.ref p)) (h : H p = some (.ins C dx fs)) (hz : fs.length < 1000) (k : ∀ H1, Ex H H1 → tz D σ (upd H1 p (.ins C dx (putF f v fs)))) : tSeq (sFld K ta tx f) tz D σ H :=
  s_fld (D := { D with nx := tz D }) c n hv ha h hz k
theorem DM.upd {n : Nat} {M : Int → Option V} {o : HO} (h : DM H p n M) (hne : p ≠ q) : DM (upd H q o) p n M := by
  obtain ⟨kvs, h1, h2, h3⟩ := h
  exact ⟨kvs, by rw [upd_ne hne]; exact h1, h2, h3⟩
/-- for i, x in enumerate(a new list) -/
theorem s_forNE {xs : List V} {tl : TE} {i j : Nat} (h : EvL tl σ H xs) (Pv : Addr → Nat → L2.St → Hp → Prop) (h0 : ∀ p H1, H p = none → Ex H H1 → H1 p = some (.lst xs) → Pv p 0 σ H1) (hl : ∀ p i σ' H', i ≤ xs.length → Pv p i σ' H' → SqL K H' p xs)
    (hs : ∀ p k x σ' H' H2, xs[k]? = some x → Pv p k σ' H' → Ex H' H2 → (∀ b, H2 b = none → H' b = none) → tu { D with nx := Pv p (k + 1), ct := Pv p (k + 1), bk := D.nx } ((σ'.set i (some (.int (k : Int)))).set j (some x)) H2) (hd : ∀ p σ' H', Pv p xs.length σ' H' → D.nx σ' H') :
    tFor (iEnum K (tCons tl tNil)) (g2 K i j) tu D σ H :=
  h H (Ex.refl H) _ fun p H1 n e hp => ⟨p, xs, rfl, sq_of hp, for_enum (Pv p) (h0 p H1 n e hp) (hl p) (fun k x σ' H' T hk pv nT => g2_go (st_of upd_same) (hs p k x σ' H' _ hk pv (Ex.new nT) fun b hb => fresh_back (Ex.new nT) hb)) (hd p)⟩
theorem q_forNE {xs : List V} {tl : TE} {i j : Nat} (h : EvL tl σ H xs) (Pv : Addr → Nat → L2.St → Hp → Prop) (h0 : ∀ p H1, H p = none → Ex H H1 → H1 p = some (.lst xs) → Pv p 0 σ H1) (hl : ∀ p i σ' H', i ≤ xs.length → Pv p i σ' H' → SqL K H' p xs)
    (hs : ∀ p k x σ' H' H2, xs[k]? = some x → Pv p k σ' H' → Ex H' H2 → (∀ b, H2 b = none → H' b = none) → tu { D with nx := Pv p (k + 1), ct := Pv p (k + 1), bk := tz D } ((σ'.set i (some (.int (k : Int)))).set j (some x)) H2) (hd : ∀ p σ' H', Pv p xs.length σ' H' → tz D σ' H') :
    tSeq (tFor (iEnum K (tCons tl tNil)) (g2 K i j) tu) tz D σ H := s_forNE (D := { D with nx := tz D }) h Pv h0 hl hs hd
/-- some cells of the script: the first ones, then each some places on -/
def cells (ns : List Int) (k l c : Int) : List V := cutV (il ns) none (some k) ++ stepV (il ns) (some l) none (some c)
theorem mem_cells {ns : List Int} {k l c : Int} {i : Nat} {x : V} (h : (cells ns k l c)[i]? = some x) : ∃ z, z ∈ ns ∧ x = .int z := by
  have h1 := List.mem_of_getElem? h
  unfold cells at h1
  rcases List.mem_append.mp h1 with h1 | h1
  · unfold cutV at h1
    exact mem_il (List.mem_of_mem_drop (List.mem_of_mem_take h1))
  · exact mem_il (stepV_mem h1)
theorem stepV_len (xs : List V) (l c : Int) (hc : 0 < c) : (stepV xs (some l) none (some c)).length ≤ xs.length := by
  have hb : PySem.sliceBounds (some l) none (some c) xs.length = (max 0 (min (if l < 0 then l + xs.length else l) xs.length), (xs.length : Int), c) := by
    unfold PySem.sliceBounds
    dsimp only [Option.getD]
    rw [if_pos (show c > 0 from hc), if_pos (show c > 0 from hc)]
  unfold stepV
  rw [hb]
  refine Nat.le_trans (List.length_filterMap_le _ _) (PySem.sliceRange_length_le _ _ _ xs.length (fun _ => ⟨?_, Int.le_refl _⟩) fun h => absurd hc h)
  show (0 : Int) ≤ max 0 (min (if l < 0 then l + xs.length else l) xs.length)
  omega
theorem cells_len (ns : List Int) (k l c : Int) (hc : 0 < c) : (cells ns k l c).length ≤ 2 * ns.length := by
  unfold cells
  rw [List.length_append]
  have h1 := cutV_length (il ns) none (some k)
  have h2 := stepV_len (il ns) l c hc
  rw [il_len] at h1 h2
  omega
theorem el_cells {ns : List Int} {k l c : Int} {tk : TE} (ha : Ev ta σ H (.ref p)) (ha2 : Ev tb σ H (.ref p)) (h : SqL K H p (il ns)) (hk : Ev tk σ H (.int k)) (hc : 0 < c) (h63 : ns.length ≤ 63) : EvL (tOp rCat (tSl (rSlL K) ta tNoPart (tPart tk)) (tStepL K tb l c)) σ H (cells ns k l c) :=
  el_cat (el_sl ha eo_none (eo_some hk) h) (el_step ha2 h (by omega)) (by
    have h1 := cutV_length (il ns) none (some k)
    have h2 := stepV_len (il ns) l c hc
    rw [il_len] at h1 h2
    omega)
/-- a method of what a call gives back -/
theorem ev_methC {C : Addr} {m : Str} {sp sp1 : Sp} {E E1 : XK} {t1 t2 : TA} {vs ws : List V} (h : EvA t1 σ H vs) (h2 : EvA t2 σ H ws)
    (hs : ∀ H1, Ex H H1 → ∀ R : VK, (∀ x dx fs H2, Ex H1 H2 → H2 x = some (.ins C dx fs) → fs.lookup m = none → SpV sp (.ref x :: ws) H2 z → R (.ref x) H2) → sp1 vs H1 R E1) : Ev (tMeth C m sp [] E (tCall sp1 [] E1 t1) t2) σ H z := fun H1 e Q k =>
  h H1 e _ fun H2 e2 => by
    rw [List.append_nil]
    exact hs H2 (e.trans e2) _ fun x dx fs H3 e3 hx hl hsp => ⟨x, dx, fs, rfl, hx, hl, h2 H3 ((e.trans e2).trans e3) _ fun H4 e4 => by
      rw [List.append_nil]
      exact hsp H4 e4 Q (fun H5 e5 => k H5 (((e2.trans e3).trans e4).trans e5)) E⟩
/-! ### is True, any -/
theorem rv_isB {a b c : Bool} (e : decide (a = b) = c) : RV rIsB (.bl a) (.bl b) H (.bl c) := fun H1 _ _ q => ⟨a, b, rfl, rfl, by
  rw [e]
  exact q H1 (Ex.refl H1)⟩
theorem rv_isnB {a b c : Bool} (e : (!decide (a = b)) = c) : RV rNotB (.bl a) (.bl b) H (.bl c) := fun H1 _ _ q => ⟨a, b, rfl, rfl, by
  rw [e]
  exact q H1 (Ex.refl H1)⟩
theorem rv_eqBl {a b c : Bool} (e : decide (a = b) = c) : RV rEq (.bl a) (.bl b) H (.bl c) := by
  have h := rv_eq (H := H) (x := .bl a) (y := .bl b) rfl
  rw [show decide (V.bl a = V.bl b) = c by
    rw [← e]
    exact decide_eq_decide.mpr ⟨fun h => V.bl.inj h, fun h => by rw [h]⟩] at h
  exact h
theorem ev_any {bs : List Bool} (ha : Ev ta σ H (.ref p)) (h : SqL K H p (bs.map V.bl)) : Ev (tCB (rAny K) (tCons ta tNil)) σ H (.bl (bs.any id)) := fun H1 e Q q =>
  ha H1 e _ fun H2 e2 => ⟨p, bs, rfl, ex_l (e.trans e2) h, q H2 e2⟩
theorem ev_allB {α : Type} {L : List α} {f : α → Bool} (ha : EvL ta σ H (L.map fun x => V.bl (f x))) : Ev (tCB (rAll K) (tCons ta tNil)) σ H (.bl (L.all f)) := by
  have e : (L.map fun x => V.bl (f x)) = (L.map f).map V.bl := by
    rw [List.map_map]
    rfl
  rw [e] at ha
  have h := ev_all (K := K) ha
  rw [List.all_map] at h
  exact h
end
end Ld
/-! Evd: dicts by their keys, pairs walked, what a call gives back asked for its class. -/
namespace Ld
open PySem L2 Evl
section
variable {K : PySem.W.Frag} {mg : Str → Option Value} {σ : L2.St} {H H' : Hp} {ta tb tc te tx td ty : TE} {t u : TT} {x y z v : V} {r r' : R2} {p q : Addr} {D : Ends} {tu tw tz : TS}
/-- a dict whose keys are ks, in their turn -/
def DKs (H : Hp) (d : Addr) (ks : List Nat) : Prop := ∃ kvs : List (Key × V), H d = some (.dK kvs) ∧ kvs.map (·.1) = ks.map fun (k : Nat) => (Sum.inl (k : Int) : Key)
theorem DKs.ex {ks : List Nat} (h : DKs H p ks) (e : Ex H H') : DKs H' p ks := by
  obtain ⟨kvs, h1, h2⟩ := h
  exact ⟨kvs, e _ _ h1, h2⟩
theorem DKs.upd {ks : List Nat} {o : HO} (h : DKs H p ks) (hne : p ≠ q) : DKs (upd H q o) p ks := by
  obtain ⟨kvs, h1, h2⟩ := h
  exact ⟨kvs, by rw [upd_ne hne]; exact h1, h2⟩
theorem DKs.some {ks : List Nat} (h : DKs H p ks) : ∃ kvs, H p = some (.dK kvs) := by
  obtain ⟨kvs, h1, h2⟩ := h
  exact ⟨kvs, h1⟩
theorem keyMem {kvs : List (Key × V)} {ks : List Nat} (h : kvs.map (·.1) = ks.map fun (k : Nat) => (Sum.inl (k : Int) : Key)) (k : Nat) : (valV kvs (Sum.inl (k : Int) : Key)).isSome = decide (k ∈ ks) := by
  rw [← valV_any, Bool.eq_iff_iff, List.any_eq_true, decide_eq_true_eq]
  refine ⟨fun ⟨kv, h1, h2⟩ => ?_, fun hk => ?_⟩
  · have h3 : kv.1 ∈ kvs.map (·.1) := List.mem_map.mpr ⟨kv, h1, rfl⟩
    rw [h] at h3
    obtain ⟨j, hj, e⟩ := List.mem_map.mp h3
    have h4 : (Sum.inl (j : Int) : Key) = Sum.inl (k : Int) := e.trans (of_decide_eq_true h2)
    have h5 : j = k := by
      have := Sum.inl.inj h4
      omega
    rw [← h5]
    exact hj
  · have h3 : (Sum.inl (k : Int) : Key) ∈ kvs.map (·.1) := by
      rw [h]
      exact List.mem_map.mpr ⟨k, hk, rfl⟩
    obtain ⟨kv, h4, h5⟩ := List.mem_map.mp h3
    exact ⟨kv, h4, decide_eq_true h5⟩
theorem keyPut {kvs : List (Key × V)} {ks : List Nat} (h : kvs.map (·.1) = ks.map fun (k : Nat) => (Sum.inl (k : Int) : Key)) (k : Nat) (v : V) : (putK kvs (Sum.inl (k : Int)) v).map (·.1) = (addK ks k).map fun (k : Nat) => (Sum.inl (k : Int) : Key) := by
  have hm := keyMem h k
  unfold putK addK
  rw [valV_any, hm]
  by_cases hk : k ∈ ks
  · rw [decide_eq_true hk, if_pos rfl, if_pos hk, List.map_map, ← h]
    refine List.map_congr_left fun kv _ => ?_
    show (if kv.1 = (Sum.inl (k : Int) : Key) then (kv.1, v) else kv).1 = kv.1
    split <;> rfl
  · rw [decide_eq_false hk, if_neg Bool.false_ne_true, if_neg hk, List.map_append, List.map_append, h]
    rfl
theorem DKs.getI {ks : List Nat} {k : Nat} (h : DKs H p ks) : ∃ o : Option V, DGet H p (.int (k : Int)) o ∧ o.isSome = decide (k ∈ ks) := by
  obtain ⟨kvs, h1, h2⟩ := h
  exact ⟨_, DGet.k (k := Sum.inl (k : Int)) h1, keyMem h2 k⟩
theorem ev_dinK {ks : List Nat} {k : Nat} {b : Bool} (hk : Ev ty σ H (.int (k : Int))) (hd : Ev td σ H (.ref p)) (h : DKs H p ks) (e : decide (k ∈ ks) = b) : Ev (tDIn ty td) σ H (.bl b) := fun H1 e1 Q q =>
  hk H1 e1 _ fun H2 e2 => hd H2 (e1.trans e2) _ fun H3 e3 => by
    obtain ⟨o, h1, h2⟩ := (h.ex ((e1.trans e2).trans e3)).getI (k := k)
    refine ⟨p, o, rfl, h1, ?_⟩
    rw [h2, e]
    exact q H3 (e2.trans e3)
theorem ev_dnotinK {ks : List Nat} {k : Nat} {b : Bool} (hk : Ev ty σ H (.int (k : Int))) (hd : Ev td σ H (.ref p)) (h : DKs H p ks) (e : (!decide (k ∈ ks)) = b) : Ev (tDNotIn ty td) σ H (.bl b) := fun H1 e1 Q q =>
  hk H1 e1 _ fun H2 e2 => hd H2 (e1.trans e2) _ fun H3 e3 => by
    obtain ⟨o, h1, h2⟩ := (h.ex ((e1.trans e2).trans e3)).getI (k := k)
    refine ⟨p, o, rfl, h1, ?_⟩
    rw [h2, e]
    exact q H3 (e2.trans e3)
theorem s_dputK {ks : List Nat} {k : Nat} (hv : Ev tx σ H v) (hd : Ev td σ H (.ref p)) (hk : Ev ty σ H (.int (k : Int))) (h : DKs H p ks) (hn : ks.length < 100000)
    (go : ∀ H1, Ex H H1 → ∀ o, DKs (L2.upd H1 p o) p (addK ks k) → D.nx σ (L2.upd H1 p o)) : sDPut td ty tx D σ H :=
  hv H (Ex.refl H) _ fun H1 e1 => hd H1 e1 _ fun H2 e2 => hk H2 (e1.trans e2) _ fun H3 e3 => by
    obtain ⟨kvs, h1, h2⟩ := h
    have h4 := ((e1.trans e2).trans e3) _ _ h1
    have h5 : kvs.length = ks.length := by
      have := congrArg List.length h2
      rw [List.length_map, List.length_map] at this
      exact this
    refine ⟨p, _, rfl, DPut.k (k := Sum.inl (k : Int)) h4 (sz_lt (by omega)), ?_⟩
    exact go H3 ((e1.trans e2).trans e3) _ ⟨_, upd_same, keyPut h2 k v⟩
theorem q_dputK {ks : List Nat} {k : Nat} (hv : Ev tx σ H v) (hd : Ev td σ H (.ref p)) (hk : Ev ty σ H (.int (k : Int))) (h : DKs H p ks) (hn : ks.length < 100000)
    (go : ∀ H1, Ex H H1 → ∀ o, DKs (L2.upd H1 p o) p (addK ks k) → tz D σ (L2.upd H1 p o)) : tSeq (sDPut td ty tx) tz D σ H := s_dputK (D := { D with nx := tz D }) hv hd hk h hn go
theorem q_dnewK {i : Nat} (k : ∀ d H1, H d = none → Ex H H1 → DKs H1 d [] → tz D (σ.set i (some (.ref d))) H1) : tSeq (tAsg tDNewK (gName i)) tz D σ H := fun d hd => k d _ hd (Ex.new hd) ⟨[], upd_same, rfl⟩
/-- sorted(d) -/
theorem el_sortedD {ks : List Nat} (ha : Ev ta σ H (.ref p)) (h : DKs H p ks) (hz : ks.length < 64) : EvL (tCB (fun xs H Q => ∃ (a : Addr) (kvs : List (Key × V)) (ks : List Int), xs = [V.ref a] ∧ Rd H a (.dK kvs) ∧ kvs.map (·.1) = ks.map Sum.inl ∧ ks.length < 64 ∧
    ∀ (ys : List Int) (p : Addr), ys.Perm ks → ys.Pairwise (· ≤ ·) → H p = none → Q (.ref p) (L2.upd H p (.lst (ys.map V.int)))) (tCons ta tNil)) σ H (nl (srt ks)) := fun H1 e Q k =>
  ha H1 e _ fun H2 e2 => by
    obtain ⟨kvs, h1, h2⟩ := h.ex (e.trans e2)
    refine ⟨p, kvs, ks.map fun (k : Nat) => (k : Int), rfl, .inl h1, by rw [h2, List.map_map]; rfl, by rw [List.length_map]; exact hz, fun ys r h3 h4 hr => ?_⟩
    refine k r _ (fresh_back e2 hr) (e2.trans (Ex.new hr)) ?_
    rw [upd_same, nl_il, sorted_is (h3.trans ((srt_perm ks).map _).symm) h4 (srt_cast ks)]
    rfl
/-- for a, b in [(..), (..)] -/
theorem s_forTT {a b c d : V} {i j : Nat} (h1 : EvU ta σ H [a, b]) (h2 : EvU tb σ H [c, d]) (Pv : Hp → Nat → L2.St → Hp → Prop) (hex : ∀ G k σ' H', Pv G k σ' H' → Ex G H') (h0 : ∀ G, Ex H G → Pv G 0 σ G)
    (hs0 : ∀ G σ' H', Ex H G → Pv G 0 σ' H' → tu { D with nx := Pv G 1, ct := Pv G 1, bk := D.nx } ((σ'.set i (some a)).set j (some b)) H')
    (hs1 : ∀ G σ' H', Ex H G → Pv G 1 σ' H' → tu { D with nx := Pv G 2, ct := Pv G 2, bk := D.nx } ((σ'.set i (some c)).set j (some d)) H') (hd : ∀ G σ' H', Ex H G → Pv G 2 σ' H' → D.nx σ' H') :
    tFor (iList K (tLst (tCons ta (tCons tb tNil)))) (g2 K i j) tu D σ H :=
  h1 H (Ex.refl H) _ fun p H1 _ e1 hp => h2 H1 e1 _ fun q H2 _ e2 hq => ⟨by show 2 ≤ sizeLine; decide, fun r hr => by
    have eG : Ex H (L2.upd H2 r (.lst [.ref p, .ref q])) := (e1.trans e2).trans (Ex.new hr)
    have hpG : L2.upd H2 r (.lst [.ref p, .ref q]) p = some (.tup [a, b]) := Ex.new hr _ _ (e2 _ _ hp)
    have hqG : L2.upd H2 r (.lst [.ref p, .ref q]) q = some (.tup [c, d]) := Ex.new hr _ _ hq
    refine ⟨r, rfl, ⟨_, sq_of upd_same⟩, for_list (xs := [.ref p, .ref q]) (Pv (L2.upd H2 r (.lst [.ref p, .ref q]))) (h0 _ eG) (fun k σ' H' _ hP => sq_of (hex _ _ _ _ hP _ _ upd_same)) (fun k x σ' H' hx hP => ?_) (fun σ' H' hP => hd _ σ' H' eG hP)⟩
    match k, hx with
    | 0, hx =>
      obtain rfl : V.ref p = x := Option.some.inj hx
      exact g2_go (st_of (hex _ _ _ _ hP _ _ hpG)) (hs0 _ σ' H' eG hP)
    | 1, hx =>
      obtain rfl : V.ref q = x := Option.some.inj hx
      exact g2_go (st_of (hex _ _ _ _ hP _ _ hqG)) (hs1 _ σ' H' eG hP)
    | k + 2, hx => cases hx⟩
theorem q_forTT {a b c d : V} {i j : Nat} (h1 : EvU ta σ H [a, b]) (h2 : EvU tb σ H [c, d]) (Pv : Hp → Nat → L2.St → Hp → Prop) (hex : ∀ G k σ' H', Pv G k σ' H' → Ex G H') (h0 : ∀ G, Ex H G → Pv G 0 σ G)
    (hs0 : ∀ G σ' H', Ex H G → Pv G 0 σ' H' → tu { D with nx := Pv G 1, ct := Pv G 1, bk := tz D } ((σ'.set i (some a)).set j (some b)) H')
    (hs1 : ∀ G σ' H', Ex H G → Pv G 1 σ' H' → tu { D with nx := Pv G 2, ct := Pv G 2, bk := tz D } ((σ'.set i (some c)).set j (some d)) H') (hd : ∀ G σ' H', Ex H G → Pv G 2 σ' H' → tz D σ' H') :
    tSeq (tFor (iList K (tLst (tCons ta (tCons tb tNil)))) (g2 K i j) tu) tz D σ H := s_forTT (D := { D with nx := tz D }) h1 h2 Pv hex h0 hs0 hs1 hd
/-- for x in reversed(xs) -/
theorem for_rev {a : Addr} {xs : List V} {g : TG} {tb : TS} {D : Ends} {σ : L2.St} {H : Hp} (Pv : Nat → L2.St → Hp → Prop) (h0 : Pv 0 σ H) (hl : ∀ i σ H, i ≤ xs.length → Pv i σ H → SqL K H a xs)
    (hs : ∀ i x σ H, i < xs.length → xs[xs.length - 1 - i]? = some x → Pv i σ H → g x σ H fun σ2 H2 => tb { D with nx := Pv (i + 1), ct := Pv (i + 1), bk := D.nx } σ2 H2) (hd : ∀ σ H, Pv xs.length σ H → D.nx σ H) :
    ∃ W : Nat → Nat → L2.St → Hp → Prop, (∃ m, W 0 m σ H) ∧ ∀ i m σ H, W i m σ H →
      ((Itv K a xs.length).stop i H ∧ D.nx σ H) ∨ ((Itv K a xs.length).go i H ∧ ∃ N : L2.St → Hp → Prop, (∀ σ' H', N σ' H' → ∃ m', m' < m ∧ W (i + 1) m' σ' H') ∧ ∀ x H', (Itv K a xs.length).yld i H x H' → g x σ H' fun σ2 H2 => tb { D with nx := N, ct := N, bk := D.nx } σ2 H2) := by
  refine ⟨fun i m σ H => m = xs.length - i ∧ i ≤ xs.length ∧ Pv i σ H, ⟨xs.length, by simp, Nat.zero_le _, h0⟩, ?_⟩
  rintro i m σ H ⟨rfl, hi, p⟩
  have q := hl i σ H hi p
  by_cases hlt : i < xs.length
  · refine .inr ⟨⟨hlt, xs, xs[xs.length - 1 - i], q, List.getElem?_eq_getElem (by omega)⟩, Pv (i + 1), fun σ' H' p' => ⟨xs.length - (i + 1), by omega, rfl, hlt, p'⟩, fun x H' y => ?_⟩
    obtain ⟨rfl, f⟩ := y
    exact hs i x σ _ hlt (f xs q) p
  · exact .inl ⟨by show xs.length ≤ i; omega, hd σ H (by rw [show xs.length = i by omega]; exact p)⟩
theorem s_forRev {a : Addr} {xs : List V} {tl : TE} {j : Nat} (h : Ev tl σ H (.ref a)) (hx : SqL K H a xs) (Pv : Nat → L2.St → Hp → Prop) (h0 : ∀ H1, Ex H H1 → Pv 0 σ H1) (hl : ∀ i σ' H', i ≤ xs.length → Pv i σ' H' → SqL K H' a xs)
    (hs : ∀ i x σ' H', i < xs.length → xs[xs.length - 1 - i]? = some x → Pv i σ' H' → tu { D with nx := Pv (i + 1), ct := Pv (i + 1), bk := D.nx } (σ'.set j (some x)) H') (hd : ∀ σ' H', Pv xs.length σ' H' → D.nx σ' H') : tFor (iRev K (tCons tl tNil)) (gName j) tu D σ H :=
  h H (Ex.refl H) _ fun H1 e => ⟨a, xs, rfl, ex_l e hx, for_rev Pv (h0 H1 e) hl hs hd⟩
theorem q_forRev {a : Addr} {xs : List V} {tl : TE} {j : Nat} (h : Ev tl σ H (.ref a)) (hx : SqL K H a xs) (Pv : Nat → L2.St → Hp → Prop) (h0 : ∀ H1, Ex H H1 → Pv 0 σ H1) (hl : ∀ i σ' H', i ≤ xs.length → Pv i σ' H' → SqL K H' a xs)
    (hs : ∀ i x σ' H', i < xs.length → xs[xs.length - 1 - i]? = some x → Pv i σ' H' → tu { D with nx := Pv (i + 1), ct := Pv (i + 1), bk := tz D } (σ'.set j (some x)) H') (hd : ∀ σ' H', Pv xs.length σ' H' → tz D σ' H') : tSeq (tFor (iRev K (tCons tl tNil)) (gName j) tu) tz D σ H :=
  s_forRev (D := { D with nx := tz D }) h hx Pv h0 hl hs hd
/-- isinstance(a call, C) -/
theorem ev_isiR {C2 : Addr} {sp1 : Sp} {E1 : XK} {t1 : TA} {vs : List V} {b : Bool} (h : EvA t1 σ H vs)
    (hs : ∀ H1, Ex H H1 → ∀ R : VK, (∀ x dx fs C nm H2, Ex H1 H2 → H2 x = some (.ins C dx fs) → Ck K mg nm C → PySem.W.kitOne K (.ref C) (.ref C2) = some b → R (.ref x) H2) → sp1 vs H1 R E1) : Ev (tCB (rIsi K) (tCons (tCall sp1 [] E1 t1) (tCons (tC (.ref C2)) tNil))) σ H (.bl b) := fun H1 e Q k =>
  h H1 e _ fun H2 e2 => by
    rw [List.append_nil]
    exact hs H2 (e.trans e2) _ fun x dx fs C nm H3 e3 hx hc hb => ⟨.ref x, .ref C2, .ref C, .ref C2, b, rfl, .own C2, ty_ins hc hx (Ex.refl _), hb, k H3 (e2.trans e3)⟩
end
end Ld
/-! Evs: max with a default, lists of lists made, two names at once. -/
namespace Ld
open PySem L2 Evl
/-! ### max(xs, default=d) -/
def mx (d : Int) : List Int → Int
  | [] => d
  | n :: r => r.foldl max n
def rMaxDef (K : PySem.W.Frag) : List V → List V → Hp → VK → Prop := fun xs zs H Q => ∃ (a : Addr) (ns : List Int) (d : Int), xs = [V.ref a] ∧ zs = [V.int d] ∧ SqL K H a (il ns) ∧ Q (.int (mx d ns)) H
theorem readsInts {h : Heap} : ∀ {us : List Value} {ns : List Int}, Vals (il ns) us → ReadsAll h us (ns.map PyData.int) []
  | _, [], .nil => .nil
  | _, n :: r, .cons q t => by
    obtain ⟨k, rfl⟩ := q
    exact ReadsAll.cons (as := []) (bs := []) (Reads.int n k) (readsInts (ns := r) t)
theorem cr_maxDef {X : Cx} {K : PySem.W.Frag} (hK : X.K = K) (hc : X.calm = true) (hu : X.A.units + 1 < cLine) : CallRK X (.builtin "max") ["default"] (rMaxDef K) := by
  subst hK
  intro pins s σ H xs zs us ws Q I rx rz h
  obtain ⟨a, ns, d, rfl, rfl, hs, q⟩ := h
  obtain ⟨its, rv, hl, _⟩ := I.list hs
  rw [Vals.ref1 rx]
  obtain ⟨w1, rfl, t, rfl⟩ := vals1 rz
  refine PySem.W.max_list_default (xs := ns.map PyData.int) (as := []) (I.ok.hd hc) hl.isList (readsInts rv) ⟨fun x hx y hy => ?_, fun x hx => ?_⟩ (by rw [depthAll_int]; exact hu) (fun e h' tk hk => ?_) (fun y ys i v h' tk bs e hv hr hk => ?_)
  · obtain ⟨i, _, rfl⟩ := List.mem_map.mp hx
    obtain ⟨j, _, rfl⟩ := List.mem_map.mp hy
    rfl
  · obtain ⟨i, _, rfl⟩ := List.mem_map.mp hx
    exact fun z => nomatch z
  · have e2 : ns = [] := List.map_eq_nil_iff.mp e
    subst e2
    exact ⟨.int d, H, I.kept hk, ⟨_, rfl⟩, q⟩
  · cases ns with
    | nil => cases e
    | cons n r =>
      rw [List.map_cons, List.cons.injEq] at e
      obtain ⟨rfl, rfl⟩ := e
      rw [PySem.W.maxD_ints] at hr
      cases hr with
      | int => exact ⟨.int _, H, I.kept hk, ⟨_, rfl⟩, q⟩
section
variable {K : PySem.W.Frag} {mg : Str → Option Value} {σ : L2.St} {H H' : Hp} {ta tb tc te tx td ty : TE} {t u : TT} {x y z v : V} {r r' : R2} {p q : Addr} {D : Ends} {tu tw tz : TS}
theorem ev_maxDef {ns : List Int} {d : Int} (h : EvL ta σ H (il ns)) (hd : Ev tb σ H (.int d)) : Ev (tCKw (rMaxDef K) (tCons ta tNil) (tCons tb tNil)) σ H (.int (mx d ns)) := fun H1 e Q k =>
  h H1 e _ fun p H2 _ e2 hp => hd H2 (e.trans e2) _ fun H3 e3 => ⟨p, ns, d, rfl, rfl, sq_of (e3 _ _ hp), k H3 (e2.trans e3)⟩
theorem ev_maxDefR {ns : List Int} {d : Int} (h : Ev ta σ H (.ref p)) (hp : SqL K H p (il ns)) (hd : Ev tb σ H (.int d)) : Ev (tCKw (rMaxDef K) (tCons ta tNil) (tCons tb tNil)) σ H (.int (mx d ns)) := fun H1 e Q k =>
  h H1 e _ fun H2 e2 => hd H2 (e.trans e2) _ fun H3 e3 => ⟨p, ns, d, rfl, rfl, ex_l ((e.trans e2).trans e3) hp, k H3 (e2.trans e3)⟩
/-! ### a new list of new lists -/
def AllAt (H : Hp) : List Addr → List (List Nat) → Prop := Paired fun r l => H r = some (.lst (nl l))
theorem AllAt.ex {rs : List Addr} {Ls : List (List Nat)} (h : AllAt H rs Ls) (e : Ex H H') : AllAt H' rs Ls := Paired.mapP h fun _ _ q => e _ _ q
theorem AllAt.upd {o : HO} : ∀ {rs : List Addr} {Ls : List (List Nat)}, AllAt H rs Ls → p ∉ rs → AllAt (upd H p o) rs Ls
  | _, _, .nil, _ => .nil
  | r :: rs, _, .cons h t, hn => .cons (by
      rw [upd_ne fun e => hn (by rw [e]; exact List.mem_cons_self)]
      exact h) (AllAt.upd t fun h => hn (List.mem_cons_of_mem _ h))
theorem AllAt.lls {rs : List Addr} {Ls : List (List Nat)} (h : AllAt H rs Ls) : LLs K H rs Ls := Paired.mapP h fun _ _ q => sq_of q
theorem AllAt.mem : ∀ {rs : List Addr} {Ls : List (List Nat)}, AllAt H rs Ls → ∀ {r : Addr}, r ∈ rs → ∃ l, l ∈ Ls ∧ H r = some (.lst (nl l))
  | _, _, .nil, _, h => (nomatch h)
  | r :: rs, l :: ls, .cons h t, r', hm => by
    rcases List.mem_cons.mp hm with rfl | hm
    · exact ⟨l, List.mem_cons_self, h⟩
    · obtain ⟨l', h1, h2⟩ := AllAt.mem t hm
      exact ⟨l', List.mem_cons_of_mem _ h1, h2⟩
theorem AllAt.get : ∀ {rs : List Addr} {Ls : List (List Nat)}, AllAt H rs Ls → ∀ {i : Nat} {r : Addr}, rs[i]? = some r → ∃ l, Ls[i]? = some l ∧ H r = some (.lst (nl l))
  | _, _, .nil, _, _, h => by simp at h
  | r :: rs, l :: ls, .cons h t, 0, r', hi => by
    obtain rfl := Option.some.inj hi
    exact ⟨l, rfl, h⟩
  | r :: rs, l :: ls, .cons h t, i + 1, r', hi => AllAt.get t (i := i) hi
theorem AllAt.len {rs : List Addr} {Ls : List (List Nat)} (h : AllAt H rs Ls) : rs.length = Ls.length := Paired.length h
/-- p: a new list of the new lists rs, which hold Ls -/
structure NLL (H0 H2 : Hp) (p : Addr) (rs : List Addr) (Ls : List (List Nat)) : Prop where
  fp : H0 p = none
  frs : ∀ r ∈ rs, H0 r = none
  top : H2 p = some (.lst (rs.map V.ref))
  el : AllAt H2 rs Ls
  nd : (p :: rs).Nodup
theorem NLL.back {H0 H1 H2 : Hp} {rs : List Addr} {Ls : List (List Nat)} (h : NLL H1 H2 p rs Ls) (e : Ex H0 H1) : NLL H0 H2 p rs Ls := ⟨fresh_back e h.fp, fun r hr => fresh_back e (h.frs r hr), h.top, h.el, h.nd⟩
theorem NLL.ll {H0 H2 : Hp} {rs : List Addr} {Ls : List (List Nat)} (h : NLL H0 H2 p rs Ls) : IsLL K H2 p Ls := ⟨rs, sq_of h.top, h.el.lls⟩
def RetLL (Ls : List (List Nat)) (H : Hp) (Q : VK) : Prop := ∀ p rs H2, Ex H H2 → NLL H H2 p rs Ls → Q (.ref p) H2
theorem RetLL.mv {Ls : List (List Nat)} {Q : VK} (k : RetLL Ls H Q) (e : Ex H H') : RetLL Ls H' Q := fun p rs H2 e2 h => k p rs H2 (e.trans e2) (h.back e)
/-- what a call gives back is given back -/
theorem ret_X {sp : Sp} {vs : List V} {E : XK} {t1 : TA} {rt : VK} (h : EvA t1 σ H vs) (hs : ∀ H1, Ex H H1 → sp vs H1 rt E) : tCall sp [] E t1 σ H rt := h H (Ex.refl H) _ fun H1 e1 => by
  rw [List.append_nil]
  exact hs H1 e1
/-- for x in a call's new list of lists -/
theorem q_forLL {Ls : List (List Nat)} {sp : Sp} {vs : List V} {E : XK} {t1 : TA} {j : Nat} (h : EvA t1 σ H vs) (hs : ∀ H1, Ex H H1 → ∀ R, RetLL Ls H1 R → sp vs H1 R E) (Pv : Hp → Addr → List Addr → Nat → L2.St → Hp → Prop)
    (h0 : ∀ p rs G, Ex H G → NLL H G p rs Ls → Pv G p rs 0 σ G) (hl : ∀ G p rs i σ' H', NLL H G p rs Ls → Pv G p rs i σ' H' → SqL K H' p (rs.map V.ref))
    (hst : ∀ G p rs i r l σ' H', Ex H G → NLL H G p rs Ls → rs[i]? = some r → Ls[i]? = some l → Pv G p rs i σ' H' → tu { D with nx := Pv G p rs (i + 1), ct := Pv G p rs (i + 1), bk := tz D } (σ'.set j (some (.ref r))) H')
    (hd : ∀ G p rs σ' H', Ex H G → NLL H G p rs Ls → Pv G p rs Ls.length σ' H' → tz D σ' H') : tSeq (tFor (iList K (tCall sp [] E t1)) (gName j) tu) tz D σ H :=
  h H (Ex.refl H) _ fun H1 e1 => by
    rw [List.append_nil]
    refine hs H1 e1 _ fun p rs G eG hN => ?_
    have hN' := hN.back e1
    have eHG := e1.trans eG
    refine ⟨p, rfl, ⟨_, sq_of hN.top⟩, for_list (xs := rs.map V.ref) (Pv G p rs) (h0 p rs G eHG hN') (fun i σ' H' _ hP => hl G p rs i σ' H' hN' hP) (fun i x σ' H' hx hP => ?_) (fun σ' H' hP => ?_)⟩
    · rw [List.getElem?_map] at hx
      cases hr : rs[i]? with
      | none =>
        rw [hr] at hx
        cases hx
      | some r =>
        rw [hr] at hx
        obtain rfl : V.ref r = x := Option.some.inj hx
        obtain ⟨l, h1, _⟩ := hN.el.get hr
        exact hst G p rs i r l σ' H' eHG hN' hr h1 hP
    · rw [List.length_map, hN.el.len] at hP
      exact hd G p rs σ' H' eHG hN' hP
/-- a, b = e, f -/
theorem s_par {i j : Nat} {ta : TA} (h : EvA ta σ H [x, y]) (k : ∀ H1, Ex H H1 → D.nx ((σ.set i (some x)).set j (some y)) H1) : tPar i j ta D σ H := h H (Ex.refl H) _ fun H1 e => ⟨x, y, rfl, k H1 e⟩
end
end Ld
/-! Evt: the set of a list of ints, sorted. -/
namespace Ld
open PySem PySem.Spec PyProof.Rows L2 Evl
section
variable {P : Program} {w : World} {A : Around} {E : Value → Shared → Prop} {s : Shared}
abbrev void (w : World) : Obj := { cls := .type "set", dict := none, data := .set #[] 0 (.fresh 0 0 (!w.params.followText "set-order")) }

/-- what set.__init__ leaves behind when it is handed a list of ints -/
theorem fill_set {B : Around} {N l : Addr} {its : Array Value} {ns : List Int} {R : Result → Shared → Prop} (nh : A.handled = none)
    (at0 : s.heap.get? N = some (void w)) (il : s.heap.IsList l its) (nl : l ≠ N) (ni : IntsAre its.toList ns) (few : ns.length + 1 < scanBound)
    (k : ∀ (h' : Heap) (tk c : Nat), SetR w h' N (fun j => decide (j ∈ ns)) c → c ≤ ns.length → (∀ b o, b ≠ N → s.heap.get? b = some o → h'.get? b = some o) → R (.ok (.ret .none)) { s with heap := h', toks := tk }) :
    wpAny (model P w) A (Builtin.«set.__init__» ⟨[.ref N, .ref l], []⟩) (fun fin s' => match fin with | .done f => R (.ok f) s' | .again c' => c'.quiet = true ∧ codeAny (model P w) B c' R s') (fun e s' => R (.error e) s') s := by
  have size : its.size = ns.length := by rw [← Array.length_toList]; exact IntsAre.length ni
  have lN := Heap.lt_size at0
  have ⟨⟨lc, ld, ldat, lsl⟩, gl, ec, lk, ed⟩ := il
  cases ec
  cases ed
  have no1 := F.sub_list_set
  have no2 := F.sub_list_frozenset
  have no3 : (Value.type "list" == Value.type "dict") = false := by decide
  have tN : s.TypeIs (.ref N) "set" := ⟨_, at0, rfl⟩
  unfold Builtin.«set.__init__» noKeywords Builtin.Frozenset.updateFrom
  generalize gi : pyIter = it0
  wp_walk
  subst gi
  refine wpAny_pyIter_list il (wpAny_bind (wpAny_runValue ?_))
  let I : Addr := s.heap.objs.size
  let h1 : Heap := s.heap.push { cls := .type "list_iterator", data := .fields #[.ref l, .int 0 0] }
  have g1 : h1.get? N = some (void w) := Heap.get?_push_of_some _ at0
  have lI : l ≠ I := Nat.ne_of_lt (Heap.lt_size gl)
  have NI : N ≠ I := Nat.ne_of_lt lN
  have far : N ∉ [I, l] := by
    intro z
    rcases List.mem_cons.mp z with z | z
    · exact NI z
    · exact nl (List.mem_singleton.mp z).symm
  have vals : ∀ (i : Nat) (v : Value), its[i]? = some v → ∃ k t, ns[i]? = some k ∧ v = .int k t := fun i v e => by
    obtain ⟨t, q⟩ := IntsAre.int_at ni i v (by rw [Array.getElem?_toList]; exact e)
    have li : i < ns.length := size ▸ (Array.getElem?_eq_some_iff.mp e).1
    exact ⟨ns.getD i 0, t, by rw [List.getD_eq_getElem?_getD, List.getElem?_eq_getElem li] <;> rfl, q⟩
  refine set_update_ints (Walks.list (by simp [nh]) I l lI its).toS N far ns size few vals its.size 0 _ (Nat.sub_zero _) (Nat.zero_le _) ⟨⟨_, Heap.get?_push_size _ rfl, rfl, rfl⟩, il.push _⟩
    ⟨0, Nat.zero_le _, setR_new_at g1⟩ fun s' c mv cn made => ?_
  have same : s' = { s with heap := s'.heap, toks := s'.toks } := by
    have a1 : s'.gens = s.gens := mv.gens
    have a2 : s'.drawn = s.drawn := mv.drawn
    have a3 : s'.os = s.os := mv.os
    cases s'
    cases a1
    cases a2
    cases a3
    rfl
  rw [same]
  refine wpAny_pure (wpAny_pure (k s'.heap s'.toks c made (size ▸ cn) fun b o bn e => mv.heap b o (fun z => ?_) (Heap.get?_push_of_some _ e)))
  rcases List.mem_cons.mp z with z | z
  · exact bn z
  · exact Nat.lt_irrefl _ ((List.mem_singleton.mp z) ▸ Heap.lt_size e)

def Filled (w : World) (s : Shared) (ns : List Int) : Value → Shared → Prop := fun v s' => v = .none ∧ ∃ h' tk c, s' = { s with heap := h', toks := tk } ∧ SetR w h' s.heap.objs.size (fun j => decide (j ∈ ns)) c ∧ c ≤ ns.length ∧ ∀ b o, s.heap.get? b = some o → h'.get? b = some o
/-- set(xs), xs a list of ints -/
theorem made_set {l : Addr} {its : Array Value} {ns : List Int} {Q : Value → Shared → Prop} (nh : A.handled = none)
    (il : s.heap.IsList l its) (ni : IntsAre its.toList ns) (few : ns.length + 1 < scanBound)
    (k : ∀ (h' : Heap) (tk c : Nat), SetR w h' s.heap.objs.size (fun j => decide (j ∈ ns)) c → c ≤ ns.length → (∀ b o, s.heap.get? b = some o → h'.get? b = some o) → Q (.ref s.heap.objs.size) { s with heap := h', toks := tk }) :
    wpAny (model P w) A (call (.type "set") [.ref l]) Q E s := by
  have ⟨c, tl, m0⟩ := F.called_set.mro
  have m1 := F.called_set.made
  have m2 := F.called_set.sub
  have m3 := F.called_set.notType
  have m4 := F.called_set.canCreate
  have m5 := F.typeCall_set_1 (.ref l)
  refine wpAny_call (codeAny_of_tree (wpAny_pure ⟨Code.quiet_builtin _ (by decide +kernel), codeAny_builtin F.entry_type_call ?_⟩))
  rw [Around.under_plain (weight_type_call_type "set" [.ref l] []) rfl]
  repeat (any_goals (first | assumption | wp_step))
  let s1 : Shared := { s with heap := s.heap.push (void w) }
  refine codeAny_mono (code_set_led1 (.ref l) (E := E) (Q₁ := fun v s' => v = .ref s.heap.objs.size ∧ s' = s1) ⟨rfl, rfl⟩) fun r s' fact => ?_
  match r, fact with
  | .error e, fact => exact fact
  | .ok (.ret v), fact =>
    cases fact.1
    cases fact.2
    have at0 : s1.heap.get? s.heap.objs.size = some (void w) := Heap.get?_push_size _ rfl
    have tN : s1.TypeIs (.ref s.heap.objs.size) "set" := ⟨_, at0, rfl⟩
    have ⟨_, gl, _⟩ := il
    have m6 := F.called_set.init.lookup
    have m7 := F.called_set.init.bind (.ref s.heap.objs.size)
    repeat (any_goals (first | assumption | wp_step))
    refine codeAny_mono (codeAny_call_builtin (R := wants (Filled w s ns) E) F.called_set.init.plain F.entry_set_init (check_set_init_1 tN ?_)) fun r s' fact => ?_
    · exact fill_set (P := P) (A := A.in1.in1) (B := A.in1) (R := wants (Filled w s ns) E) nh at0 (il.push _) (Nat.ne_of_lt (Heap.lt_size gl)) ni few fun h' tk c made cn kept =>
        ⟨rfl, h', tk, c, rfl, made, cn, fun b o e => kept b o (Nat.ne_of_lt (Heap.lt_size e)) (Heap.get?_push_of_some _ e)⟩
    match r, fact with
    | .error e, fact => exact fact
    | .ok (.ret v), fact =>
      obtain ⟨rfl, h', tk, c, rfl, made, cn, kept⟩ := fact
      repeat (any_goals (first | assumption | wp_step))
      exact k h' tk c made cn kept
end

section
variable {X : Cx} {a : Expr} {ta : TE} {p p2 q pos : Pos}
/-- sorted(set(xs)), fewer than 64 ints in xs -/
def tSortedSet (K : PySem.W.Frag) (ta : TE) : TE := fun σ H Q => ta σ H fun x H1 => ∃ (l : Addr) (ns : List Int), x = V.ref l ∧ SqL K H1 l (ns.map V.int) ∧ ns.length < 64 ∧
  ∀ (ms : List Int) (r : Addr), ms.Pairwise (· < ·) → (∀ k : Int, k ∈ ms ↔ k ∈ ns) → H1 r = none → Q (.ref r) (upd H1 r (.lst (ms.map V.int)))
theorem pe_sortedSet (hc : X.calm = true) (hg : Gl X "sorted") (hm : X.mg "sorted" = none) (hg2 : Gl X "set") (hm2 : X.mg "set" = none) (ha : PE X a ta)
    (na : starEach [a] X.env = (false, eval a X.env) :: starEach [] X.env := by rfl) : PE X (.Call (.Name "sorted" p) [.Call (.Name "set" p2) [a] [] q] [] pos) (tSortedSet X.K ta) := by
  refine ⟨fun pins s σ H Q I h => ?_⟩
  refine Call_ (ld_blt I hg hm boot_sorted ?_)
  refine PyProof.Rows.callWith_builtin1 (PyProof.Rows.args_cons ?_ rfl) rfl rfl
  refine Call_ (ld_blt I hg2 hm2 boot_set ?_)
  refine callWith_type1 (args_cons (thn (ha.run pins s σ H _ I h) fun v s1 ⟨x, H1, I1, r1, q1⟩ => args_nil ?_) na) na rfl
  obtain ⟨l, ns, rfl, hq, few, q1⟩ := q1
  cases r1
  have ⟨its, r, pl, hz⟩ := I1.list hq
  refine made_set (I1.ok.hd hc) pl.isList (ns := ns) (by simpa using r.ints) (by unfold scanBound; omega) fun h' tk c made cn kept => args_nil ?_
  have I2 : Inv X pins σ H1 { s1 with heap := h', toks := tk } := I1.kept kept
  refine sorted_set made (I2.ok.hd hc) (by omega) fun s2 r out cc ms kp g o hp hg hi hs hm hl => ?_
  have fit : (ms.map V.int).length ≤ sizeLine := by rw [List.length_map, hl, sizeLine_eq]; omega
  have fresh : H1 r = none := I2.hok.fresh hp
  have obj : ObjOk X.prog X.w (upd H1 r (.lst (ms.map V.int))) s2.heap r (.lst (ms.map V.int)) := ⟨fit, out.toList, cc, vals_of_ints hi, hg⟩
  have J : Inv X pins σ (upd H1 r (.lst (ms.map V.int))) { s2 with os := s1.os } :=
    I2.call (ch := []) (s := { s1 with heap := h', toks := tk }) (h' := s2.heap) (g' := s2.gens) (t' := s2.toks) (d' := s2.drawn) (Un.laid kp hp fresh) (I2.hok.laid kp hp obj) (by rw [g]; exact I2.bare) (fun _ z => nomatch z)
  have e : s2 = { s2 with os := s1.os } := by
    cases s2
    cases o
    rfl
  rw [e]
  exact ⟨.ref r, _, J, rfl, q1 ms r hs (fun k => (hm k).trans (by rw [decide_eq_true_eq])) fresh⟩
theorem pe_sortedSetK {K : PySem.W.Frag} (h : X.K = K) (hc : X.calm = true) (hg : Gl X "sorted") (hm : X.mg "sorted" = none) (hg2 : Gl X "set") (hm2 : X.mg "set" = none) (ha : PE X a ta)
    (na : starEach [a] X.env = (false, eval a X.env) :: starEach [] X.env := by rfl) : PE X (.Call (.Name "sorted" p) [.Call (.Name "set" p2) [a] [] q] [] pos) (tSortedSet K ta) := by
  subst h
  exact pe_sortedSet hc hg hm hg2 hm2 ha na
end

/-- the members, once each, rising -/
def sset (L : List Nat) : List Nat := (List.range (L.sum + 1)).filter fun x => decide (x ∈ L)
theorem le_sum : ∀ {L : List Nat} {x : Nat}, x ∈ L → x ≤ L.sum
  | a :: L, x, h => by
    rw [List.sum_cons]
    rcases List.mem_cons.mp h with rfl | h
    · omega
    · have := le_sum h
      omega
theorem mem_sset {L : List Nat} {x : Nat} : x ∈ sset L ↔ x ∈ L := by
  unfold sset
  rw [List.mem_filter, List.mem_range, decide_eq_true_eq]
  exact ⟨fun h => h.2, fun h => ⟨by have := le_sum h; omega, h⟩⟩
theorem sset_lt (L : List Nat) : (sset L).Pairwise (· < ·) := List.Pairwise.filter _ List.pairwise_lt_range
theorem sset_nodup (L : List Nat) : (sset L).Nodup := (sset_lt L).imp fun h => Nat.ne_of_lt h
theorem sset_is {L : List Nat} {ms : List Int} (h1 : ms.Pairwise (· < ·)) (h2 : ∀ k : Int, k ∈ ms ↔ k ∈ L.map fun (x : Nat) => (x : Int)) : ms = (sset L).map fun (x : Nat) => (x : Int) := by
  have n1 : ms.Nodup := h1.imp fun h => Int.ne_of_lt h
  have p2 : ((sset L).map fun (x : Nat) => (x : Int)).Pairwise (· < ·) := List.pairwise_map.mpr ((sset_lt L).imp fun h => Int.ofNat_lt.mpr h)
  have n2 : ((sset L).map fun (x : Nat) => (x : Int)).Nodup := p2.imp fun h => Int.ne_of_lt h
  refine sorted_is ((List.perm_ext_iff_of_nodup n1 n2).mpr fun k => ?_) (h1.imp fun h => Int.le_of_lt h) (p2.imp fun h => Int.le_of_lt h)
  rw [h2 k, List.mem_map, List.mem_map]
  exact ⟨fun ⟨x, hx, e⟩ => ⟨x, mem_sset.mpr hx, e⟩, fun ⟨x, hx, e⟩ => ⟨x, mem_sset.mp hx, e⟩⟩
section
variable {K : PySem.W.Frag} {σ : L2.St} {H H' : Hp} {p : Addr} {ta tb : TE} {t : TT} {rt : VK}
theorem el_sset {L : List Nat} (ha : Ev ta σ H (.ref p)) (h : SqL K H p (nl L)) (hz : L.length < 64) : EvL (tSortedSet K ta) σ H (nl (sset L)) := fun H1 e Q k =>
  ha H1 e _ fun H2 e2 => ⟨p, L.map fun (x : Nat) => (x : Int), rfl, by rw [← il, ← nl_il]; exact ex_l (e.trans e2) h, by rw [List.length_map]; exact hz, fun ms r h1 h2 hr => k r _ (fresh_back e2 hr) (e2.trans (Ex.new hr)) (by
    rw [upd_same, nl_il, sset_is h1 h2]
    rfl)⟩
theorem el_ssetL {L : List Nat} (ha : EvL ta σ H (nl L)) (hz : L.length < 64) : EvL (tSortedSet K ta) σ H (nl (sset L)) := fun H1 e Q k =>
  ha H1 e _ fun p H2 _ e2 hp => ⟨p, L.map fun (x : Nat) => (x : Int), rfl, by rw [← il, ← nl_il]; exact sq_of hp, by rw [List.length_map]; exact hz, fun ms r h1 h2 hr => k r _ (fresh_back e2 hr) (e2.trans (Ex.new hr)) (by
    rw [upd_same, nl_il, sset_is h1 h2]
    rfl)⟩
theorem el_catV {xs ys : List V} (ha : Ev ta σ H (.ref p)) (hp : H p = some (.lst xs)) (hb : EvL tb σ H ys) (hz : xs.length + ys.length ≤ 100000) : EvL (tOp rCat ta tb) σ H (xs ++ ys) := fun H1 e Q k =>
  ha H1 e _ fun H2 e2 => hb H2 (e.trans e2) _ fun q H3 _ e3 hq => ⟨p, q, xs, ys, rfl, rfl, ((e.trans e2).trans e3) _ _ hp, hq, sz_of hz, fun r hr => k r _ (fresh_back (e2.trans e3) hr) ((e2.trans e3).trans (Ex.new hr)) upd_same⟩
/-- what an if gives back -/
theorem ret_if {b : Bool} (h : EvT t σ H b) (h1 : b = true → ∀ H1, Ex H H1 → ta σ H1 rt) (h2 : b = false → ∀ H1, Ex H H1 → tb σ H1 rt) : tIf t ta tb σ H rt := h H (Ex.refl H) _ fun H2 e2 => by
  cases b with
  | true => exact h1 rfl H2 e2
  | false => exact h2 rfl H2 e2
/-- xs != [] -/
theorem ev_neNil {L : List Nat} {b : Bool} (ha : Ev ta σ H (.ref p)) (h : SqL K H p (nl L)) (hb : (!decide (L = [])) = b) : Ev (tOp (rNeD K) ta (tLst tNil)) σ H (.bl b) := fun H1 e Q q =>
  ha H1 e _ fun H2 e2 => (el_lst (σ := σ) (H := H) ea_nil (Nat.zero_le _)) H2 (e.trans e2) _ fun r H3 _ e3 hr => by
    subst hb
    exact rv_neN (A := L) (B := []) (ex_l ((e.trans e2).trans e3) h) (sq_of hr) H3 (Ex.refl H3) _ fun H4 e4 => q H4 ((e2.trans e3).trans e4)
end
section
variable {K : PySem.W.Frag} {mg : Str → Option Value} {σ : L2.St} {H H' : Hp} {ta tb tc te tx td ty : TE} {t u : TT} {x y z v : V} {r r' : R2} {p q : Addr} {D : Ends} {tu tw tz : TS}
/-- [e for x in xs], xs any list -/
theorem el_mapX {xs : List V} {tl : TE} {j : Nat} (g : Nat → V) (h : Ev tl σ H (.ref p)) (hx : SqL K H p xs) (hz : xs.length ≤ 40000)
    (he : ∀ (k : Nat) (x : V) H1, Ex H H1 → xs[k]? = some x → Ev te ((wipe σ [j]).set j (some x)) H1 (g k)) : EvL (tLc (iList K tl) (gName j) tYes te [j]) σ H ((List.range xs.length).map g) := by
  have h1 := el_lcL (j := j) (te := te) (vs := [j]) (t := tYes) (fun _ => true) g h hx hz (fun x => wipe1 σ j x) (fun _ _ _ _ _ => et_yes) (fun i x H1 e hi _ => he i x H1 e hi)
  rw [given_all] at h1
  exact h1
/-- two names are given what a call gives back -/
theorem q_asg2X {sp : Sp} {vs : List V} {E : XK} {ta : TA} {i j : Nat} (h : EvA ta σ H vs) (hs : ∀ H1, Ex H H1 → sp vs H1 (fun v H2 => g2 K i j v σ H2 fun σ2 H3 => tz D σ2 H3) E) : tSeq (tAsg (tCall sp [] E ta) (g2 K i j)) tz D σ H :=
  h H (Ex.refl H) _ fun H1 e => by
    rw [List.append_nil]
    exact hs H1 e
theorem q_asg2 {i j : Nat} {a b : V} (h : Ev te σ H (.ref p)) (hT : SqT K H p [a, b]) (k : ∀ H1, Ex H H1 → tz D ((σ.set i (some a)).set j (some b)) H1) : tSeq (tAsg te (g2 K i j)) tz D σ H :=
  h H (Ex.refl H) _ fun H1 e => g2_go (ex_t e hT) (k H1 e)
theorem ev_isiTup {xs : List V} (ha : Ev ta σ H (.ref p)) (h : H p = some (.tup xs)) : Ev (tCB (rIsi K) (tCons ta (tCons (tC (.ty "tuple")) tNil))) σ H (.bl true) := ev_isi ha ev_c (.ty "tuple") (fun _ e => .base (.tup (e _ _ h))) (kit_ty (by decide +kernel))
theorem el_listOfT {xs : List V} (ha : Ev ta σ H (.ref p)) (h : SqT K H p xs) : EvL (tCB (rList1 K) (tCons ta tNil)) σ H xs := fun H1 e Q q =>
  ha H1 e _ fun H2 e2 => ⟨p, xs, rfl, .inr (ex_t (e.trans e2) h), fun l hl => q l _ (fresh_back e2 hl) (e2.trans (Ex.new hl)) upd_same⟩
theorem ev_lenT {xs : List V} (ha : Ev ta σ H (.ref p)) (h : SqT K H p xs) : Ev (tCB (rLen1 K) (tCons ta tNil)) σ H (.int (xs.length : Int)) := fun H1 e Q q =>
  ha H1 e _ fun H2 e2 => ⟨p, xs, rfl, .inr (ex_t (e.trans e2) h), q H2 e2⟩
theorem rv_eqTT {A B : List Int} (h1 : SqT K H p (il A)) (h2 : SqT K H q (il B)) : RV (rEqD K) (.ref p) (.ref q) H (.bl (decide (A = B))) := fun H1 e Q k =>
  ⟨.tuple (A.map PyData.int), .tuple (B.map PyData.int), .tup (ex_t e h1) (dpAll_int A), .tup (ex_t e h2) (dpAll_int B), shaped_int A, shaped_int B, by
    rw [show PyData.eqv (.tuple (A.map PyData.int)) (.tuple (B.map PyData.int)) = decide (A = B) from eqvAll_int A B]
    exact k H1 (Ex.refl H1)⟩
theorem el_mapXc {xs : List V} {tl : TE} {j : Nat} (h : Ev tl σ H (.ref p)) (hx : SqL K H p xs) (hz : xs.length ≤ 40000)
    (he : ∀ (k : Nat) (x : V) H1, Ex H H1 → xs[k]? = some x → Ev te ((wipe σ [j]).set j (some x)) H1 v) : EvL (tLc (iList K tl) (gName j) tYes te [j]) σ H (List.replicate xs.length v) := by
  have h1 := el_mapX (fun _ => v) h hx hz he
  rw [List.map_const', List.length_range] at h1
  exact h1
theorem ref_at {rs : List Addr} {k : Nat} {x : V} (h : (rs.map V.ref)[k]? = some x) : ∃ r, rs[k]? = some r ∧ x = .ref r := by
  rw [List.getElem?_map] at h
  cases hr : rs[k]? with
  | none =>
    rw [hr] at h
    cases h
  | some r =>
    rw [hr] at h
    exact ⟨r, rfl, (Option.some.inj h).symm⟩
theorem lens_nl {rs : List Addr} {Ls : List (List Nat)} (h : rs.length = Ls.length) : (List.range (rs.map V.ref).length).map (fun k => V.int ((Ls.getD k []).length : Int)) = nl (Ls.map List.length) := by
  refine List.ext_getElem? fun k => ?_
  unfold nl
  rw [List.getElem?_map, List.getElem?_map, List.getElem?_map, List.length_map, h]
  by_cases hk : k < Ls.length
  · rw [List.getElem?_range hk, List.getElem?_eq_getElem hk]
    show some (V.int ((Ls.getD k []).length : Int)) = some (V.int (Ls[k].length : Int))
    rw [List.getD_eq_getElem?_getD, List.getElem?_eq_getElem hk]
    rfl
  · rw [List.getElem?_eq_none (by rw [List.length_range]; omega), List.getElem?_eq_none (by omega)]
    rfl
/-- a name is given a list and what a call gives back behind it -/
theorem s_catX {G : List V → Prop} {xs : List V} {sp : Sp} {vs : List V} {E : XK} {t1 : TA} {i : Nat} (ha : Ev ta σ H (.ref p)) (hp : H p = some (.lst xs)) (h : EvA t1 σ H vs)
    (hs : ∀ H1, Ex H H1 → ∀ Q : VK, (∀ ys r H2, H1 r = none → Ex H1 H2 → H2 r = some (.lst ys) → G ys → Q (.ref r) H2) → sp vs H1 Q E) (hz : ∀ ys, G ys → xs.length + ys.length ≤ 100000)
    (k : ∀ ys r H2, H r = none → Ex H H2 → G ys → H2 r = some (.lst (xs ++ ys)) → D.nx (σ.set i (some (.ref r))) H2) : tAsg (tOp rCat ta (tCall sp [] E t1)) (gName i) D σ H :=
  ha H (Ex.refl H) _ fun H1 e1 => h H1 e1 _ fun H2 e2 => by
    rw [List.append_nil]
    exact hs H2 (e1.trans e2) _ fun ys r H3 nr e3 hr g => ⟨p, r, xs, ys, rfl, rfl, ((e1.trans e2).trans e3) _ _ hp, hr, sz_of (hz ys g), fun s hs' => k ys s _ (fresh_back ((e1.trans e2).trans e3) hs') (((e1.trans e2).trans e3).trans (Ex.new hs')) g upd_same⟩
end
end Ld
/-! Evu: dicts of lists. -/
namespace Ld
open PySem L2 Evl
section
variable {K : PySem.W.Frag} {mg : Str → Option Value} {σ : L2.St} {H H' : Hp} {ta tb tc te tx td ty : TE} {t u : TT} {x y z v : V} {r r' : R2} {p q : Addr} {D : Ends} {tu tw tz : TS}
/-- a list, new or not -/
def EvS (te : TE) (σ : L2.St) (H : Hp) (xs : List V) : Prop := ∀ H1, Ex H H1 → ∀ Q : VK, (∀ q H2, Ex H1 H2 → H2 q = some (.lst xs) → Q (.ref q) H2) → te σ H1 Q
theorem el_catS {xs ys : List V} (ha : EvS ta σ H xs) (hb : EvL tb σ H ys) (hz : xs.length + ys.length ≤ 100000) : EvL (tOp rCat ta tb) σ H (xs ++ ys) := fun H1 e Q k =>
  ha H1 e _ fun p H2 e2 hp => hb H2 (e.trans e2) _ fun q H3 _ e3 hq => ⟨p, q, xs, ys, rfl, rfl, e3 _ _ hp, hq, sz_of hz, fun r hr => k r _ (fresh_back (e2.trans e3) hr) ((e2.trans e3).trans (Ex.new hr)) upd_same⟩
/-- d.get(k, []) -/
theorem evs_dget2 {kvs : List (Key × V)} {m : Nat} {xs : List V} (hd : Ev td σ H (.ref p)) (hk : Ev ty σ H (.int (m : Int))) (h : H p = some (.dK kvs))
    (hv : (∃ lr, valV kvs (.inl (m : Int)) = some (.ref lr) ∧ H lr = some (.lst xs)) ∨ (valV kvs (.inl (m : Int)) = none ∧ xs = [])) : EvS (tDGet2 td ty (tLst tNil)) σ H xs := fun H1 e Q k =>
  hd H1 e _ fun H2 e2 => ⟨p, rfl, .inl ⟨kvs, .inl ((e.trans e2) _ _ h)⟩, hk H2 (e.trans e2) _ fun H3 e3 => (el_lst (σ := σ) (H := H) ea_nil (Nat.zero_le _)) H3 ((e.trans e2).trans e3) _ fun z H4 nz e4 hz => by
    have e' := ((e.trans e2).trans e3).trans e4
    refine ⟨valV kvs (.inl (m : Int)), .inl ⟨kvs, .inl (m : Int), .inl (e' _ _ h), rfl, rfl⟩, ?_⟩
    rcases hv with ⟨lr, h1, h2⟩ | ⟨h1, h2⟩
    · rw [h1]
      exact k lr H4 ((e2.trans e3).trans e4) (e' _ _ h2)
    · rw [h1]
      subst h2
      exact k z H4 ((e2.trans e3).trans e4) hz⟩
theorem s_dputX {kvs : List (Key × V)} {m : Nat} {xs : List V} (hv : EvL tx σ H xs) (hd : Ev td σ H (.ref p)) (hk : Ev ty σ H (.int (m : Int))) (h : H p = some (.dK kvs)) (hn : kvs.length < 100000)
    (go : ∀ q H1, H q = none → Ex H H1 → H1 q = some (.lst xs) → D.nx σ (L2.upd H1 p (.dK (putK kvs (.inl (m : Int)) (.ref q))))) : sDPut td ty tx D σ H :=
  hv H (Ex.refl H) _ fun q H1 nq e1 hq => hd H1 e1 _ fun H2 e2 => hk H2 (e1.trans e2) _ fun H3 e3 =>
    ⟨p, _, rfl, DPut.k (k := Sum.inl (m : Int)) (((e1.trans e2).trans e3) _ _ h) (sz_lt hn), go q H3 nq ((e1.trans e2).trans e3) ((e2.trans e3) _ _ hq)⟩
theorem ev_dgetV {kvs : List (Key × V)} {m : Nat} (hd : Ev td σ H (.ref p)) (hk : Ev ty σ H (.int (m : Int))) (h : H p = some (.dK kvs)) (hm : valV kvs (.inl (m : Int)) = some v) : Ev (tDGet td ty) σ H v := fun H1 e Q q =>
  hd H1 e _ fun H2 e2 => hk H2 (e.trans e2) _ fun H3 e3 => ⟨p, v, rfl, .inl ⟨kvs, .inl (m : Int), .inl (((e.trans e2).trans e3) _ _ h), rfl, hm.symm⟩, q H3 (e2.trans e3)⟩
/-! ### rings by their lengths -/
/-- the dict at d: its keys ks; to each the list of those of R that are so long -/
def ByLen (H : Hp) (d : Addr) (ks : List Nat) (R : List (List Nat)) : Prop := ∃ kvs : List (Key × V), H d = some (.dK kvs) ∧ kvs.map (·.1) = ks.map (fun (k : Nat) => (Sum.inl (k : Int) : Key)) ∧ ks.Nodup ∧ (∀ m, m ∈ ks ↔ ∃ r ∈ R, r.length = m) ∧
  ∀ m ∈ ks, ∃ (lr : Addr) (rs : List Addr), valV kvs (Sum.inl (m : Int)) = some (.ref lr) ∧ H lr = some (.lst (rs.map V.ref)) ∧ AllAt H rs (R.filter fun r => decide (r.length = m))
theorem ByLen.ex {d : Addr} {ks : List Nat} {R : List (List Nat)} (h : ByLen H d ks R) (e : Ex H H') : ByLen H' d ks R := by
  obtain ⟨kvs, h1, h2, h3, h4, h5⟩ := h
  exact ⟨kvs, e _ _ h1, h2, h3, h4, fun m hm => by
    obtain ⟨lr, rs, g1, g2, g3⟩ := h5 m hm
    exact ⟨lr, rs, g1, e _ _ g2, g3.ex e⟩⟩
theorem AllAt.exB {d : Addr} {rs : List Addr} {Ls : List (List Nat)} (h : AllAt H rs Ls) (e : ExB d H H') (hn : d ∉ rs) : AllAt H' rs Ls := by
  have h1 : ∀ {rs : List Addr} {Ls : List (List Nat)}, AllAt H rs Ls → d ∉ rs → AllAt H' rs Ls := by
    intro rs Ls h
    induction h with
    | nil => exact fun _ => .nil
    | cons a t ih => exact fun hn => .cons (e _ _ (fun z => hn (by rw [z]; exact List.mem_cons_self)) a) (ih fun z => hn (List.mem_cons_of_mem _ z))
  exact h1 h hn
theorem ByLen.exB {f d : Addr} {ks : List Nat} {R : List (List Nat)} (h : ByLen H d ks R) (e : ExB f H H') (hf : ∃ F : List Nat, H f = some (.lst (nl F))) (hd : ∀ m ∈ ks, ∀ kvs, H d = some (.dK kvs) → ∀ lr, valV kvs (Sum.inl (m : Int)) = some (.ref lr) → f ≠ lr ∧ ∀ rs : List Addr, H lr = some (.lst (rs.map V.ref)) → f ∉ rs) : ByLen H' d ks R := by
  obtain ⟨kvs, h1, h2, h3, h4, h5⟩ := h
  obtain ⟨F, hF⟩ := hf
  have hne : d ≠ f := ne_of h1 hF (fun z => by cases z)
  refine ⟨kvs, e _ _ hne h1, h2, h3, h4, fun m hm => ?_⟩
  obtain ⟨lr, rs, g1, g2, g3⟩ := h5 m hm
  obtain ⟨n1, n2⟩ := hd m hm kvs h1 lr g1
  exact ⟨lr, rs, g1, e _ _ n1.symm g2, g3.exB e (n2 rs g2)⟩
theorem byLen_step {d q rg : Addr} {kvs : List (Key × V)} {ks : List Nat} {R : List (List Nat)} {l : List Nat} {old : List Addr} {H1 : Hp} (h : ByLen H d ks R) (hk : H d = some (.dK kvs)) (e : Ex H H1) (hr : H rg = some (.lst (nl l)))
    (ho : (∃ lr, valV kvs (.inl (l.length : Int)) = some (.ref lr) ∧ H lr = some (.lst (old.map V.ref))) ∨ (valV kvs (.inl (l.length : Int)) = none ∧ old = [])) (nq : H q = none) (hq : H1 q = some (.lst (old.map V.ref ++ [.ref rg]))) :
    ByLen (L2.upd H1 d (.dK (putK kvs (.inl (l.length : Int)) (.ref q)))) d (addK ks l.length) (R ++ [l]) := by
  obtain ⟨kvs', h1, h2, h3, h4, h5⟩ := h
  rw [hk] at h1
  cases h1
  have hdn : ∀ {rs : List Addr} {Ls : List (List Nat)}, AllAt H rs Ls → d ∉ rs := fun ha hd => by
    obtain ⟨l, _, h⟩ := ha.mem hd
    rw [hk] at h
    cases h
  have hdq : d ≠ q := ne_of_none hk nq
  have hdr : d ≠ rg := ne_of hk hr (fun z => by cases z)
  refine ⟨_, upd_same, keyPut h2 _ _, nodup_addK h3, fun m => ?_, fun m hm => ?_⟩
  · rw [mem_addK, h4 m]
    refine ⟨fun h => h.elim (fun ⟨r, h1, h2⟩ => ⟨r, List.mem_append_left _ h1, h2⟩) fun h => ⟨l, List.mem_append_right _ (List.mem_singleton.mpr rfl), h.symm⟩, fun ⟨r, h1, h2⟩ => ?_⟩
    rcases List.mem_append.mp h1 with h1 | h1
    · exact .inl ⟨r, h1, h2⟩
    · rw [List.mem_singleton.mp h1] at h2
      exact .inr h2.symm
  · have hval : valV (putK kvs (.inl (l.length : Int)) (.ref q)) (.inl (m : Int)) = if (m : Int) = (l.length : Int) then some (.ref q) else valV kvs (.inl (m : Int)) := valI_put kvs _ _ _
    by_cases em : m = l.length
    · subst em
      rw [if_pos rfl] at hval
      refine ⟨q, old ++ [rg], hval, by rw [upd_ne hdq.symm, hq, List.map_append]; rfl, ?_⟩
      rw [List.filter_append, show [l].filter (fun r => decide (r.length = l.length)) = [l] by rw [List.filter_cons, if_pos (decide_eq_true rfl)]; rfl]
      refine Paired.snoc ?_ (by rw [upd_ne hdr.symm]; exact e _ _ hr)
      rcases ho with ⟨lr, g1, g2⟩ | ⟨g1, g2⟩
      · have hmem : l.length ∈ ks := by
          have := keyMem h2 l.length
          rw [g1] at this
          exact of_decide_eq_true this.symm
        obtain ⟨lr', rs, k1, k2, k3⟩ := h5 _ hmem
        rw [g1] at k1
        cases k1
        rw [g2] at k2
        have e3 : old = rs := by
          have h6 : old.map V.ref = rs.map V.ref := by
            injection k2 with k2
            injection k2
          exact (List.map_inj_right fun a b h => by cases h; rfl).mp h6
        subst e3
        exact (k3.ex e).upd (hdn k3)
      · subst g2
        have hnm : l.length ∉ ks := fun hm => by
          have := keyMem h2 l.length
          rw [g1, decide_eq_true hm] at this
          cases this
        rw [show R.filter (fun r => decide (r.length = l.length)) = [] from List.filter_eq_nil_iff.mpr fun r hr h => hnm ((h4 _).mpr ⟨r, hr, of_decide_eq_true h⟩)]
        exact .nil
    · rw [if_neg (by omega)] at hval
      have hmk : m ∈ ks := by
        rcases mem_addK.mp hm with h | h
        · exact h
        · exact absurd h em
      obtain ⟨lr, rs, k1, k2, k3⟩ := h5 m hmk
      have hdl : d ≠ lr := ne_of hk k2 (fun z => by cases z)
      refine ⟨lr, rs, hval.trans k1, by rw [upd_ne hdl.symm]; exact e _ _ k2, ?_⟩
      rw [List.filter_append, show [l].filter (fun r => decide (r.length = m)) = [] by rw [List.filter_cons, if_neg (by rw [decide_eq_true_eq]; exact fun h => em h.symm)]; rfl, List.append_nil]
      exact (k3.ex e).upd (hdn k3)
theorem sq_ins {C dx b : Addr} {fs : List (Str × V)} {xs : List V} {o : HO} (hx : H p = some (.ins C dx fs)) (h : SqL K H b xs) : SqL K (L2.upd H p o) b xs := by
  rcases h with (h | ⟨o', h⟩) | h
  · refine .inl (.inl ?_)
    rw [upd_ne (ne_of h hx fun z => by cases z)]
    exact h
  · refine .inl (.inr ⟨o', ?_⟩)
    rw [upd_ne (ne_of h hx fun z => by cases z)]
    exact h
  · exact .inr h
/-! ### new lists of new lists -/
def EvLL (te : TE) (σ : L2.St) (H : Hp) (Ls : List (List Nat)) : Prop := ∀ H1, Ex H H1 → ∀ Q : VK, (∀ p rs H2, Ex H1 H2 → NLL H1 H2 p rs Ls → Q (.ref p) H2) → te σ H1 Q
theorem ell_map {srcs : List Addr} {Ls : List (List Nat)} {tl : TE} {j : Nat} (h : Ev tl σ H (.ref p)) (hx : SqL K H p (srcs.map V.ref)) (hsl : srcs.length = Ls.length) (hz : srcs.length ≤ 40000)
    (he : ∀ (i : Nat) (r : Addr) (l : List Nat) H1, Ex H H1 → srcs[i]? = some r → Ls[i]? = some l → EvL te ((wipe σ [j]).set j (some (.ref r))) H1 (nl l)) : EvLL (tLc (iList K tl) (gName j) tYes te [j]) σ H Ls := fun H0 e0 Q q => h H0 e0 _ fun H1 e1 =>
  ⟨p, rfl, ⟨_, ex_l (e0.trans e1) hx⟩, fun Dl hD => lc_list (xs := srcs.map V.ref) (fun i H' => Ex H1 H' ∧ ∃ rs : List Addr, H' Dl = some (.lst (rs.map V.ref)) ∧ AllAt H' rs (Ls.take i) ∧ (∀ r ∈ rs, H1 r = none) ∧ (Dl :: rs).Nodup)
    ⟨Ex.new hD, [], upd_same, .nil, fun r hr => (nomatch hr), List.nodup_cons.mpr ⟨List.not_mem_nil, List.nodup_nil⟩⟩ (fun i H' _ hP => ex_l ((e0.trans e1).trans hP.1) hx) (fun i x H' hi hP => ⟨wipe1 σ j x, by
      obtain ⟨eH, rs, h1, h2, h3, h4⟩ := hP
      obtain ⟨r, hr, rfl⟩ := ref_at hi
      have hil : i < Ls.length := by
        have := (List.getElem?_eq_some_iff.mp hr).1
        omega
      have hl : Ls[i]? = some Ls[i] := List.getElem?_eq_getElem hil
      have hrl : rs.length = i := by
        rw [h2.len, List.length_take]
        omega
      refine he i r _ H' ((e0.trans e1).trans eH) hr hl H' (Ex.refl H') _ fun q2 H2 nq e2 hq => ?_
      have hq0 : H1 q2 = none := fresh_back eH nq
      have hqD : Dl ≠ q2 := ne_of_none h1 nq
      have hDr : Dl ∉ rs := (List.nodup_cons.mp h4).1
      have hqr : q2 ∉ rs := fun hm => by
        obtain ⟨l, _, h⟩ := h2.mem hm
        rw [h] at nq
        cases nq
      refine ⟨_, e2 _ _ h1, sz_lt (by rw [List.length_map]; omega), Ex.mut (eH.trans e2) hD, rs ++ [q2], by rw [upd_same, List.map_append]; rfl, ?_, fun z hz => ?_, ?_⟩
      · rw [List.take_add_one, hl]
        exact Paired.snoc ((h2.ex e2).upd hDr) (by rw [upd_ne hqD.symm]; exact hq)
      · rcases List.mem_append.mp hz with hz | hz
        · exact h3 z hz
        · rw [List.mem_singleton.mp hz]
          exact hq0
      · rw [← List.cons_append, List.nodup_append]
        exact ⟨h4, List.nodup_cons.mpr ⟨List.not_mem_nil, List.nodup_nil⟩, fun z hz y hy e => by
          rw [List.mem_singleton] at hy
          subst hy
          subst e
          rcases List.mem_cons.mp hz with h | h
          · exact hqD h.symm
          · exact hqr h⟩⟩)
    (fun H' hP => by
      obtain ⟨eH, rs, h1, h2, h3, h4⟩ := hP
      rw [List.length_map, hsl, List.take_length] at h2
      exact q Dl rs H' (e1.trans eH) ⟨fresh_back e1 hD, fun r hr => fresh_back e1 (h3 r hr), h1, h2, h4⟩)⟩
theorem s_fldLL {C dx : Addr} {f : Str} {fs : List (Str × V)} {Ls : List (List Nat)} (c : Cls K C) (n : NoAttr K C f) (hv : EvLL tx σ H Ls) (ha : Ev ta σ H (.ref p)) (h : H p = some (.ins C dx fs)) (hz : fs.length < 1000)
    (k : ∀ l rs H1, Ex H H1 → NLL H H1 l rs Ls → D.nx σ (L2.upd H1 p (.ins C dx (putF f (.ref l) fs)))) : sFld K ta tx f D σ H :=
  hv H (Ex.refl H) _ fun l rs H1 e1 hN => ha H1 e1 _ fun H2 e2 => ⟨p, C, dx, fs, rfl, (e1.trans e2) _ _ h, c, n, hz, k l rs H2 (e1.trans e2) ⟨hN.fp, hN.frs, e2 _ _ hN.top, hN.el.ex e2, hN.nd⟩⟩
end
end Ld
/-! Evw: what is raised: own exceptions, calls of them, calls by value, things that are no number. -/
namespace Ld
open PySem L2 Evl
/-! ### exception classes of the text -/
structure Xc (K : PySem.W.Frag) (mg : Str → Option Value) (x : Str) (C : Addr) : Prop where
  g : mg x = some (.ref C)
  ex : PySem.W.excIn K C [.type "ValueError", .type "Exception", .type "BaseException", .type "object"] "ValueError.__new__" = true
  kp : PySem.W.keepIn K (.ref C) = true
  ty : PySem.W.typeIn K (.ref C) = some (.type "type")
  up : ExcC K C
theorem pmk_x {X : Cx} {C : Addr} {x m : Str} {j : Nat} {p p2 pos : Pos} (c : Xc X.K X.mg x C) (hg : Gl X x) (hdb : (x == ("__debug__" : Str)) = false := by decide) : PMk X (.Call (.Name x p) [.Constant (.str m) j p2] [] pos) (fun _ H Q => Q (.ref C) none H) :=
  pmk_own PySem.F.excBase_ValueError c.ex c.g c.kp (raises_own c.up.hs c.ty) hg hdb
/-- that class alone is raised, what was known stays -/
def Rai (C : Addr) (H : Hp) (E : XK) : Prop := ∀ H1, Ex H H1 → E (.ref C) none H1
theorem Rai.mv {C : Addr} {H H' : Hp} {E : XK} (r : Rai C H E) (e : Ex H H') : Rai C H' E := fun H1 e1 => r H1 (e.trans e1)
theorem Rai.go {C : Addr} {H H' : Hp} {E : XK} (r : Rai C H E) (e : Ex H H') : E (.ref C) none H' := r H' e

/-! ### calls that may raise -/
section
variable {X : Cx} {W : WX} {k : Nat} {x : Str} {ps : List Str} {sp : Sp} {e f : Expr} {es : List Expr} {t : TA} {te : TE} {p pos : Pos}
theorem pe_callDX (D : Dk X.prog X.w X.K X.mg X.base (L2.CX X.prog X.w) k x ps sp) (hr : Room k X.A) (hg : Gl X x) (tk : Takes X W) (ha : PA X (e :: es) t)
    (hdb : (x == ("__debug__" : Str)) = false := by decide) (he : starEach (e :: es) X.env = (false, eval e X.env) :: starEach es X.env := by rfl) (hpl : (backTo pos (starEach es X.env)).any (·.1) = false := by rfl) :
    PE X (.Call (.Name x p) (e :: es) [] pos) (tCallS sp (WE W) t) := by
  obtain ⟨f, fd, F, m, kp, b⟩ := D.ex
  exact pe_callS F hr hg m kp b (fun σ => passAt tk σ) ha hdb he hpl
/-- f(..), f by its value -/
def tCallE (X : Cx) (W : WX) (te : TE) (t : TA) : TE := fun σ H Q => te σ H fun v H1 => ∃ (f : Addr) (fd : FuncData) (ps : List Str) (sp : Sp) (k : Nat), v = V.ref f ∧ FnOk X.prog X.w X.K X.mg X.base (L2.CX X.prog X.w) k f fd ps sp ∧ Room k X.A ∧
  PySem.W.keepIn X.K (.ref f) = true ∧ Binds X.K fd ps [] ∧ t σ H1 fun vs H2 => sp vs H2 Q (WE W σ)
theorem pe_callE (tk : Takes X W) (hf : PE X f te) (ha : PA X (e :: es) t)
    (ht : eval (.Call f (e :: es) [] pos) X.env = (do callWith pos (← eval f X.env) [] (backTo pos (starEach (e :: es) X.env)) (backToKw pos (keywordEach [] X.env))) := by rfl)
    (he : starEach (e :: es) X.env = (false, eval e X.env) :: starEach es X.env := by rfl) (hpl : (backTo pos (starEach es X.env)).any (·.1) = false := by rfl) :
    PE X (.Call f (e :: es) [] pos) (tCallE X W te t) := by
  refine ⟨fun pins s σ H Q I h => ?_⟩
  refine PyProof.Rows.Call_ (thn (hf.run pins s σ H _ I h) fun u s1 ⟨v, H1, I1, r1, f, fd, ps, sp, k, ev, F, hr, hk, hb, q⟩ => ?_) ht
  subst ev
  obtain rfl : u = Value.ref f := r1
  refine PySem.W.callWith_K (h₀ := X.base) I.ok.mod.kin hk (thn (ha.run pos pins s1 σ H1 _ I1 q) fun us s2 ⟨vs, H2, I2, r, q2⟩ => ⟨I2.kIn, ?_⟩) he hpl
  exact run_fnS F hr hb (passAt tk σ) I2 r q2
end
section
variable {K : PySem.W.Frag} {σ : L2.St} {H H' : Hp} {ta tb tc te ti : TE} {tr : TA} {x y z v : V} {D : Ends} {tz : TS}
theorem x_call {sp : Sp} {E : L2.St → XK} {t : TA} {vs : List V} {Q : VK} (h : EvA t σ H vs) (hs : ∀ H1, Ex H H1 → sp vs H1 Q (E σ)) : tCallS sp E t σ H Q := h H (Ex.refl H) _ hs
theorem x_callE {X : Cx} {W : WX} {t : TA} {f : Addr} {fd : FuncData} {ps : List Str} {sp : Sp} {k : Nat} {vs : List V} {Q : VK} (hf : Ev te σ H (.ref f)) (F : FnOk X.prog X.w X.K X.mg X.base (L2.CX X.prog X.w) k f fd ps sp) (hr : Room k X.A) (hk : PySem.W.keepIn X.K (.ref f) = true) (hb : Binds X.K fd ps [])
    (h : EvA t σ H vs) (hs : ∀ H1, Ex H H1 → sp vs H1 Q (WE W σ)) : tCallE X W te t σ H Q :=
  hf H (Ex.refl H) _ fun H1 e1 => ⟨f, fd, ps, sp, k, rfl, F, hr, hk, hb, h H1 e1 _ fun H2 e2 => hs H2 (e1.trans e2)⟩

/-! ### what was just written: a value, a new list, a new tuple -/
inductive It where
  | v (x : V) | l (xs : List V) | u (xs : List V)
def It.at : It → V → Hp → Prop
  | .v x, y, _ => y = x
  | .l xs, y, H => ∃ p, y = .ref p ∧ H p = some (.lst xs)
  | .u xs, y, H => ∃ p, y = .ref p ∧ H p = some (.tup xs)
theorem It.ex {i : It} (h : i.at x H) (e : Ex H H') : i.at x H' := by
  cases i with
  | v y => exact h
  | l xs =>
    obtain ⟨p, h1, h2⟩ := h
    exact ⟨p, h1, e _ _ h2⟩
  | u xs =>
    obtain ⟨p, h1, h2⟩ := h
    exact ⟨p, h1, e _ _ h2⟩
def EvR (te : TE) (σ : L2.St) (H : Hp) (R : V → Hp → Prop) : Prop := ∀ H1, Ex H H1 → ∀ Q : VK, (∀ v H2, Ex H1 H2 → R v H2 → Q v H2) → te σ H1 Q
abbrev Its (H : Hp) : List It → List V → Prop := Paired fun i x => i.at x H
def EvAR (ta : TA) (σ : L2.St) (H : Hp) (is : List It) : Prop := ∀ H1, Ex H H1 → ∀ Q : List V → Hp → Prop, (∀ vs H2, Ex H1 H2 → Its H2 is vs → Q vs H2) → ta σ H1 Q
theorem Its.ex : ∀ {is : List It} {vs : List V}, Its H is vs → Ex H H' → Its H' is vs
  | _, _, .nil, _ => .nil
  | _, _, .cons h t, e => .cons (It.ex h e) (Its.ex t e)
theorem Its.get : ∀ {is : List It} {vs : List V} {n : Nat} {i : It}, Its H is vs → is[n]? = some i → ∃ x, vs[n]? = some x ∧ i.at x H
  | _, _, 0, _, .cons h _, e => ⟨_, rfl, by
    obtain rfl := Option.some.inj e
    exact h⟩
  | _, _, n + 1, _, .cons _ t, e => Its.get (n := n) t e
theorem er_v (h : Ev te σ H v) : EvR te σ H (It.at (.v v)) := fun H1 e Q q => h H1 e _ fun H2 e2 => q v H2 e2 rfl
theorem er_l {xs : List V} (h : EvL te σ H xs) : EvR te σ H (It.at (.l xs)) := fun H1 e Q q => h H1 e _ fun p H2 _ e2 hp => q _ H2 e2 ⟨p, rfl, hp⟩
theorem er_u {xs : List V} (h : EvU te σ H xs) : EvR te σ H (It.at (.u xs)) := fun H1 e Q q => h H1 e _ fun p H2 _ e2 hp => q _ H2 e2 ⟨p, rfl, hp⟩
theorem ear_nil : EvAR tNil σ H [] := fun H1 _ _ q => q [] H1 (Ex.refl H1) .nil
theorem ear_cons {i : It} {is : List It} (h : EvR ta σ H i.at) (hr : EvAR tr σ H is) : EvAR (tCons ta tr) σ H (i :: is) := fun H1 e Q q =>
  h H1 e _ fun v H2 e2 hv => hr H2 (e.trans e2) _ fun vs H3 e3 hvs => q _ H3 (e2.trans e3) (.cons (It.ex hv e3) hvs)
/-- [a, b, ..][i] -/
theorem er_pick {is : List It} {i : It} {n : Nat} (h : EvAR tr σ H is) (hn : ∀ H1, Ex H H1 → Ev ti σ H1 (.int (n : Int))) (hz : is.length ≤ 1000) (hi : is[n]? = some i) : EvR (tOp (rIxL K) (tLst tr) ti) σ H i.at := fun H1 e Q q =>
  h H1 e _ fun vs H2 e2 hvs => ⟨sz_of (by rw [← Paired.length hvs]; omega), fun p np => by
    have e3 := Ex.new (o := .lst vs) np
    refine hn _ ((e.trans e2).trans e3) _ (Ex.refl _) _ fun H4 e4 => ?_
    have e5 := e3.trans e4
    obtain ⟨x, hx, hat⟩ := (Its.ex hvs e5).get hi
    exact ⟨p, vs, (n : Int), x, rfl, rfl, sq_of (e4 _ _ upd_same), atI_nat hx, q x H4 (e2.trans e5) hat⟩⟩
/-- .. of values alone -/
theorem ev_pick {xs : List V} {n : Nat} (h : EvA tr σ H xs) (hn : ∀ H1, Ex H H1 → Ev ti σ H1 (.int (n : Int))) (hz : xs.length ≤ 1000) (hi : xs[n]? = some x) : Ev (tOp (rIxL K) (tLst tr) ti) σ H x :=
  ev_opL1 (el_lst h (by omega)) hn fun p H1 hp _ => rv_ixL (sq_of hp) (atI_nat hi)
theorem q_asgE {R : V → Hp → Prop} {i : Nat} (h : EvR te σ H R) (k : ∀ v H1, Ex H H1 → R v H1 → tz D (σ.set i (some v)) H1) : tSeq (tAsg te (gName i)) tz D σ H := h H (Ex.refl H) _ fun v H1 e hv => k v H1 e hv

/-! ### no number -/
def NoTy (K : PySem.W.Frag) (H : Hp) (T : String) (x : V) : Prop := ∃ t : String, (∀ H1, Ex H H1 → TyX K H1 x (.type t)) ∧ kitB t T = some false
theorem NoTy.ex {T : String} (h : NoTy K H T x) (e : Ex H H') : NoTy K H' T x := by
  obtain ⟨t, h1, h2⟩ := h
  exact ⟨t, fun H1 e1 => h1 H1 (e.trans e1), h2⟩
theorem noInt_non : NoTy K H "int" .non := ⟨"NoneType", fun _ _ => .base .non, by decide +kernel⟩
theorem noInt_str {s : Str} : NoTy K H "int" (.str s) := ⟨"str", fun _ _ => .base (.str s), by decide +kernel⟩
theorem noInt_lst {p : Addr} {xs : List V} (h : H p = some (.lst xs)) : NoTy K H "int" (.ref p) := ⟨"list", fun _ e => .base (.lst (e _ _ h)), by decide +kernel⟩
theorem noInt_tup {p : Addr} {xs : List V} (h : H p = some (.tup xs)) : NoTy K H "int" (.ref p) := ⟨"tuple", fun _ e => .base (.tup (e _ _ h)), by decide +kernel⟩
theorem noLst_non : NoTy K H "list" .non := ⟨"NoneType", fun _ _ => .base .non, by decide +kernel⟩
theorem noLst_str {s : Str} : NoTy K H "list" (.str s) := ⟨"str", fun _ _ => .base (.str s), by decide +kernel⟩
theorem noLst_int {i : Int} : NoTy K H "list" (.int i) := ⟨"int", fun _ _ => .base (.int i), by decide +kernel⟩
theorem noLst_tup {p : Addr} {xs : List V} (h : H p = some (.tup xs)) : NoTy K H "list" (.ref p) := ⟨"tuple", fun _ e => .base (.tup (e _ _ h)), by decide +kernel⟩
theorem ev_isiNo {T : String} (ha : Ev ta σ H x) (h : NoTy K H T x) : Ev (tCB (rIsi K) (tCons ta (tCons (tC (.ty T)) tNil))) σ H (.bl false) := by
  obtain ⟨t, h1, h2⟩ := h
  exact ev_isi ha ev_c (.ty T) (fun H1 e => h1 H1 e) (kit_ty h2)
theorem ev_isiBB {c : Bool} (ha : Ev ta σ H (.bl c)) : Ev (tCB (rIsi K) (tCons ta (tCons (tC (.ty "bool")) tNil))) σ H (.bl true) := ev_isi ha ev_c (.ty "bool") (fun _ _ => .base (.bl c)) (kit_ty (by decide +kernel))
theorem ev_isiBI {c : Bool} (ha : Ev ta σ H (.bl c)) : Ev (tCB (rIsi K) (tCons ta (tCons (tC (.ty "int")) tNil))) σ H (.bl true) := ev_isi ha ev_c (.ty "int") (fun _ _ => .base (.bl c)) (kit_ty (by decide +kernel))
/-- whether it is a whole number from the one to the other -/
def NumB (K : PySem.W.Frag) (H : Hp) (x : V) (lo hi : Int) (b : Bool) : Prop := (∃ i, x = .int i ∧ b = (decide (lo ≤ i) && decide (i ≤ hi))) ∨ (b = false ∧ ((∃ c, x = .bl c) ∨ NoTy K H "int" x))
theorem NumB.ex {lo hi : Int} {b : Bool} (h : NumB K H x lo hi b) (e : Ex H H') : NumB K H' x lo hi b := by
  rcases h with h | ⟨h1, h | h⟩
  · exact .inl h
  · exact .inr ⟨h1, .inl h⟩
  · exact .inr ⟨h1, .inr (h.ex e)⟩
/-- no leading: no list, or a list with a wrong item -/
def BadL (K : PySem.W.Frag) (H : Hp) (x : V) : Prop := NoTy K H "list" x ∨ ∃ (p : Addr) (xs : List V) (bs : List Bool), x = .ref p ∧ H p = some (.lst xs) ∧ xs.length ≤ 1000 ∧ Paired (fun y b => NumB K H y 0 ((xs.length : Int) - 1) b) xs bs ∧ bs.all id = false
theorem numBs_ex {lo hi : Int} (e : Ex H H') : ∀ {xs : List V} {bs : List Bool}, Paired (fun y b => NumB K H y lo hi b) xs bs → Paired (fun y b => NumB K H' y lo hi b) xs bs
  | _, _, .nil => .nil
  | _, _, .cons h t => .cons (h.ex e) (numBs_ex e t)
theorem numBs_get {lo hi : Int} : ∀ {xs : List V} {bs : List Bool} {i : Nat} {y : V}, Paired (fun y b => NumB K H y lo hi b) xs bs → xs[i]? = some y → NumB K H y lo hi (bs.getD i true)
  | _, _, 0, y, .cons h _, e => by
    obtain rfl := Option.some.inj e
    exact h
  | _, _, i + 1, y, .cons _ t, e => numBs_get (i := i) t e
theorem BadL.ex (h : BadL K H x) (e : Ex H H') : BadL K H' x := by
  rcases h with h | ⟨p, xs, bs, h1, h2, h3, h4, h5⟩
  · exact .inl (h.ex e)
  · exact .inr ⟨p, xs, bs, h1, e _ _ h2, h3, numBs_ex e h4, h5⟩
/-- no count of steps -/
def BadS (K : PySem.W.Frag) (H : Hp) (x : V) : Prop := (∃ i : Int, x = .int i ∧ i < 0) ∨ (∃ c, x = .bl c) ∨ NoTy K H "int" x
theorem BadS.ex (h : BadS K H x) (e : Ex H H') : BadS K H' x := by
  rcases h with h | h | h
  · exact .inl h
  · exact .inr (.inl h)
  · exact .inr (.inr (h.ex e))
/-- [e for x in xs], each item telling a truth -/
theorem el_mapB {p : Addr} {xs : List V} {bs : List Bool} {tl : TE} {j : Nat} (h : Ev tl σ H (.ref p)) (hx : SqL K H p xs) (hz : xs.length ≤ 40000) (hl : xs.length = bs.length)
    (he : ∀ (i : Nat) (x : V) H1, Ex H H1 → xs[i]? = some x → Ev te ((wipe σ [j]).set j (some x)) H1 (.bl (bs.getD i true))) : EvL (tLc (iList K tl) (gName j) tYes te [j]) σ H (bs.map V.bl) := by
  have h1 := el_lcL (j := j) (te := te) (vs := [j]) (t := tYes) (fun _ => true) (fun i => .bl (bs.getD i true)) h hx hz (fun x => wipe1 σ j x) (fun _ _ _ _ _ => et_yes) (fun i x H1 e hi _ => he i x H1 e hi)
  rw [given_all, hl] at h1
  have e : (List.range bs.length).map (fun i => V.bl (bs.getD i true)) = bs.map V.bl := by
    refine List.ext_getElem? fun i => ?_
    rw [List.getElem?_map, List.getElem?_map]
    by_cases hi : i < bs.length
    · rw [List.getElem?_range hi, List.getElem?_eq_getElem hi]
      show some (V.bl (bs.getD i true)) = some (V.bl bs[i])
      rw [List.getD_eq_getElem?_getD, List.getElem?_eq_getElem hi]
      rfl
    · rw [List.getElem?_eq_none (by rw [List.length_range]; omega), List.getElem?_eq_none (by omega)]
      rfl
  rw [e] at h1
  exact h1
end

/-! ### isinstance of the error that is held -/
def rIsE2 (K : PySem.W.Frag) (cls : Value) (d : Option Addr) (a : Addr) : List V → Hp → VK → Prop := fun xs H Q => ∃ (D : Addr) (c : V) (cv : Value) (b : Bool), cls = .ref D ∧ d = none ∧ ExcC K D ∧ xs = [.ref a, c] ∧ (∀ u, RelV c u → u = cv) ∧ PySem.W.kitOne K (.ref D) cv = some b ∧ Q (.bl b) H
theorem call_isE2 {X : Cx} {K : PySem.W.Frag} {a : Addr} {oe : Obj} {cls : Value} {d : Option Addr} {pn : List (Addr × Obj)} (hK : X.K = K) (hz : Zc cls d oe) (hf : ∃ vs, oe.data = .fields vs) : CallR (X.suite a ((a, oe) :: pn)) (.builtin "isinstance") (rIsE2 K cls d a) := by
  intro pins s σ H xs us Q I r h
  obtain ⟨D, c, cv, b, rfl, rfl, hC, ex, hcv, hk, q⟩ := h
  subst hK
  exact call_isE hC hz hf pins s σ H xs us Q I r ⟨c, cv, b, ex, hcv, hk, q⟩
theorem ev_isE {K : PySem.W.Frag} {σ : L2.St} {H : Hp} {ta : TE} {a D : Addr} {c : V} {cv : Value} {b : Bool} (ha : Ev ta σ H (.ref a)) (hC : ExcC K D) (hcv : ∀ u, RelV c u → u = cv) (hk : PySem.W.kitOne K (.ref D) cv = some b) :
    Ev (tCB (rIsE2 K (.ref D) none a) (tCons ta (tCons (tC c) tNil))) σ H (.bl b) := fun H1 e Q q => ha H1 e _ fun H2 e2 => ⟨D, c, cv, b, rfl, rfl, hC, rfl, hcv, hk, q H2 e2⟩

/-! ### len(set(xs)), xs with numbers twice -/
theorem firstMet_le (ns : List Int) : ∀ i, (PyProof.Rows.firstMet (fun j => ns.getD j 0) i).length ≤ i ∧ ((PyProof.Rows.firstMet (fun j => ns.getD j 0) i).length = i → i ≤ ns.length → PyProof.Rows.firstMet (fun j => ns.getD j 0) i = ns.take i ∧ (ns.take i).Nodup)
  | 0 => ⟨Nat.le_refl 0, fun _ _ => ⟨rfl, List.nodup_nil⟩⟩
  | i + 1 => by
    obtain ⟨h1, h2⟩ := firstMet_le ns i
    have es : PyProof.Rows.firstMet (fun j => ns.getD j 0) (i + 1) = if ((PyProof.Rows.firstMet (fun j => ns.getD j 0) i).any (· == ns.getD i 0)) = true then PyProof.Rows.firstMet (fun j => ns.getD j 0) i else PyProof.Rows.firstMet (fun j => ns.getD j 0) i ++ [ns.getD i 0] := PyProof.Rows.firstMet_succ _ i
    rw [es]
    cases hb : ((PyProof.Rows.firstMet (fun j => ns.getD j 0) i).any (· == ns.getD i 0)) with
    | true =>
      rw [if_pos rfl]
      exact ⟨by omega, fun h => by omega⟩
    | false =>
      rw [if_neg Bool.false_ne_true, List.length_append, List.length_singleton]
      refine ⟨by omega, fun h hl => ?_⟩
      · obtain ⟨g1, g2⟩ := h2 (by omega) (by omega)
        have hlt : i < ns.length := hl
        have e1 : ns.getD i 0 = ns[i] := by
          rw [List.getD_eq_getElem?_getD, List.getElem?_eq_getElem hlt]
          rfl
        have e2 : ns.take (i + 1) = ns.take i ++ [ns[i]] := by
          rw [List.take_add_one, List.getElem?_eq_getElem hlt]
          rfl
        have g3 : (PyProof.Rows.firstMet (fun j => ns.getD j 0) i ++ [ns.getD i 0]) = ns.take (i + 1) := by rw [g1, e1, e2]
        refine ⟨g3, ?_⟩
        rw [e2, List.nodup_append]
        refine ⟨g2, List.nodup_cons.mpr ⟨(fun h => nomatch h), List.nodup_nil⟩, fun a ha b hb2 => ?_⟩
        obtain rfl := List.mem_singleton.mp hb2
        rintro rfl
        rw [g1, e1] at hb
        have := List.any_eq_false.mp hb _ ha
        simp at this
theorem firstMet_dup {ns : List Int} (h : ¬ ns.Nodup) : (PyProof.Rows.firstMet (fun j => ns.getD j 0) ns.length).length ≠ ns.length := fun e => by
  have h2 := ((firstMet_le ns ns.length).2 e (Nat.le_refl _)).2
  rw [List.take_length] at h2
  exact h h2
/-- how many unlike ones there are -/
def met (ns : List Int) : Nat := (PyProof.Rows.firstMet (fun j => ns.getD j 0) ns.length).length
def tLenSetD (K : PySem.W.Frag) (ta : TE) : TE := fun σ H Q => ta σ H fun x H1 => ∃ (l : Addr) (ns : List Int), x = .ref l ∧ SqL K H1 l (ns.map V.int) ∧ ns.length ≤ 4000 ∧ Q (.int (met ns : Nat)) H1
section
open PySem.Spec PyProof.Rows
variable {X : Cx}
/-- a set of a list of ints, and its length -/
theorem run_lenSet {pins : List (Addr × Obj)} {σ : L2.St} {H : Hp} {s : Shared} {Q : VK} {l : Addr} {ns : List Int} (hc : X.calm = true) (I : Inv X pins σ H s) (sq : SqL X.K H l (ns.map V.int)) (few : ns.length ≤ 4000) (q : Q (.int (met ns : Nat)) H) :
    wpAny (model X.prog X.w) X.A (call (.type "set") [.ref l]) (fun v s2 => wpAny (model X.prog X.w) X.A (call (.builtin "len") [v]) (EP X pins σ Q) X.xe s2) X.xe s := by
  have ⟨items, rel, place, _⟩ := I.list sq
  have count : items.toArray.size = ns.length := by
    have := rel.length
    rw [List.length_map] at this
    rw [List.size_toArray, this]
  apply call_set_list (I.ok.hd hc) place.isList (by simpa using RZ.intsAre_vals rel)
  · rw [count]
    unfold scanBound
    omega
  · intro h2 tk made kept
    rw [count] at made
    have ⟨ob, entries, past, tab, at2, exact2, data2, _, _, _, fits, size2⟩ := made
    have most : met ns ≤ ns.length := (firstMet_le ns ns.length).1
    have J : Inv X pins σ H { s with heap := h2, toks := tk } := I.kept fun b o e => kept b o (Heap.lt_size e) e
    have size3 : entries.size = met ns := size2
    apply call_len_set at2 exact2 data2 fits
    · omega
    · exact ⟨.int (met ns), H, J.tok _, ⟨_, by rw [size3]⟩, q⟩
theorem pe_lenSetD {a : Expr} {ta : TE} {p p2 q pos : Pos} (hg : Gl X "len") (hm : X.mg "len" = none) (hg2 : Gl X "set") (hm2 : X.mg "set" = none) (ha : PE X a ta) (hc : X.calm = true)
    (na : starEach [a] X.env = (false, eval a X.env) :: starEach [] X.env) : PE X (.Call (.Name "len" p) [.Call (.Name "set" p2) [a] [] q] [] pos) (tLenSetD X.K ta) :=
  ⟨fun pins s σ H Q I h => Call_ (ld_blt I hg hm boot_len (callWith_builtin1 (args_cons (Call_ (ld_blt I hg2 hm2 boot_set (callWith_type1 (args_cons (thn (ha.run pins s σ H _ I h) fun v s1 ⟨x, H1, I1, r1, l, ns, ex, sq, few, k⟩ => args_nil (by
    subst ex
    obtain rfl : v = Value.ref l := r1
    exact thn (run_lenSet hc I1 sq few k) fun u s2 z => args_nil z)) na) na rfl))) rfl) rfl rfl))⟩
end
theorem pe_lenSetDK {X : Cx} {K : PySem.W.Frag} {a : Expr} {ta : TE} {p p2 q pos : Pos} (h : X.K = K) (hg : Gl X "len") (hm : X.mg "len" = none) (hg2 : Gl X "set") (hm2 : X.mg "set" = none) (ha : PE X a ta) (hc : X.calm = true)
    (na : starEach [a] X.env = (false, eval a X.env) :: starEach [] X.env := by rfl) : PE X (.Call (.Name "len" p) [.Call (.Name "set" p2) [a] [] q] [] pos) (tLenSetD K ta) := by
  subst h
  exact pe_lenSetD hg hm hg2 hm2 ha hc na
theorem cast_nodup {L : List Nat} (h : (L.map fun (x : Nat) => (x : Int)).Nodup) : L.Nodup := by
  rw [List.Nodup, List.pairwise_map] at h
  exact List.Pairwise.imp (fun {a b} hab e => hab (by rw [e])) h
theorem ev_lenSetD {K : PySem.W.Frag} {σ : L2.St} {H : Hp} {ta : TE} {p : Addr} {L : List Nat} (ha : Ev ta σ H (.ref p)) (h : SqL K H p (nl L)) (nd : ¬ L.Nodup) (hz : L.length ≤ 4000) : ∃ n : Nat, n ≠ L.length ∧ Ev (tLenSetD K ta) σ H (.int (n : Int)) := by
  refine ⟨_, ?_, fun H1 e Q k => ha H1 e _ fun H2 e2 => ⟨p, L.map fun (x : Nat) => (x : Int), rfl, by
    have h2 := ex_l (e.trans e2) h
    rw [nl_il] at h2
    exact h2, by rw [List.length_map]; exact hz, k H2 e2⟩⟩
  have h : met (L.map fun (x : Nat) => (x : Int)) ≠ (L.map fun (x : Nat) => (x : Int)).length := firstMet_dup fun h => nd (cast_nodup h)
  rw [List.length_map] at h
  exact h

/-! ### lists of truths compared -/
theorem dpAll_bl {K : PySem.W.Frag} {H : Hp} : ∀ L : List Bool, DpAll K H (L.map V.bl) (L.map PyData.bool)
  | [] => .nil
  | x :: r => .cons (.bl x) (dpAll_bl r)
end Ld
/-! Mi: one place that leads to itself; three places, two of them a ring. -/
namespace Ld
theorem one_lead : Lead [0] := fun x hx => by
  rw [List.mem_singleton.mp hx]
  decide
theorem one_waits : wtl [0] = [0] := (wtl_uniq (F := [0]) one_lead rfl fun x hx => by
  have : x = 0 := by
    have : ([0] : List Nat).length = 1 := rfl
    omega
  subst this
  exact isWait_zero ⟨1, by decide, rfl⟩).symm
theorem one_turns : turnsOf [0] = 1 := by
  have hO : Orb [0] 0 1 := ⟨by decide, fun i j hij hj => by omega, 0, by decide, rfl⟩
  have hper : per [0] 0 = 1 := (per_orb one_lead (by decide)).uniq hO
  have e1 : rgs [0] 1 = [[0]] := by
    have h0 : OnR [0] 0 := ⟨1, by decide, rfl⟩
    rw [rgs_yes h0 (fun h => (nomatch h))]
    unfold ringAt
    rw [hper]
    rfl
  unfold turnsOf
  rw [show ([0] : List Nat).length = 1 from rfl, e1]
  rfl
theorem tri_lead : Lead [1, 2, 1] := fun x hx => by
  rcases List.mem_cons.mp hx with rfl | hx
  · decide
  · rcases List.mem_cons.mp hx with rfl | hx
    · decide
    · rw [List.mem_singleton.mp hx]
      decide
theorem tri_off : ¬ OnR [1, 2, 1] 0 := fun ⟨k, hk, e⟩ => by
  obtain ⟨j, rfl⟩ : ∃ j, k = j + 1 := ⟨k - 1, by omega⟩
  rw [it_succ] at e
  have h := it_lt tri_lead j (p := 0) (by decide)
  have hl : ([1, 2, 1] : List Nat).length = 3 := rfl
  rw [hl] at h
  generalize it [1, 2, 1] j 0 = y at e h
  match y, h, e with
  | 0, _, e => exact absurd e (by decide)
  | 1, _, e => exact absurd e (by decide)
  | 2, _, e => exact absurd e (by decide)
  | _ + 3, h, _ => omega
theorem tri_on1 : OnR [1, 2, 1] 1 := ⟨2, by decide, rfl⟩
theorem tri_on2 : OnR [1, 2, 1] 2 := ⟨2, by decide, rfl⟩
theorem tri_waits : wtl [1, 2, 1] = [1, 0, 0] := (wtl_uniq (F := [1, 0, 0]) tri_lead rfl fun x hx => by
  have hl : ([1, 2, 1] : List Nat).length = 3 := rfl
  rw [hl] at hx
  match x, hx with
  | 0, _ => exact isWait_succ tri_off (isWait_zero tri_on1)
  | 1, _ => exact isWait_zero tri_on1
  | 2, _ => exact isWait_zero tri_on2
  | _ + 3, h => omega).symm
theorem tri_turns : turnsOf [1, 2, 1] = 2 := by
  have hO : Orb [1, 2, 1] 1 2 := ⟨by decide, fun i j hij hj => by
    have hi : i = 0 := by omega
    have hj : j = 1 := by omega
    subst hi
    subst hj
    decide, 0, by decide, rfl⟩
  have hper : per [1, 2, 1] 1 = 2 := (per_orb tri_lead (by decide)).uniq hO
  have e1 : rgs [1, 2, 1] 1 = [] := by
    rw [rgs_no (fun h => tri_off h.1)]
    rfl
  have e2 : rgs [1, 2, 1] 2 = [[1, 2]] := by
    rw [rgs_yes tri_on1 (by rw [e1]; exact fun h => (nomatch h)), e1]
    unfold ringAt
    rw [hper]
    rfl
  have e3 : rgs [1, 2, 1] 3 = [[1, 2]] := by
    rw [rgs_no (fun h => h.2 (by rw [e2]; decide)), e2]
  unfold turnsOf
  rw [show ([1, 2, 1] : List Nat).length = 3 from rfl, e3]
  rfl
theorem zero_stays : ∀ k, it [0] k 0 = 0 := fun k => by
  have h := it_lt one_lead k (p := 0) (by decide)
  have hl : ([0] : List Nat).length = 1 := rfl
  omega
end Ld
namespace Ld
open PySem L2 Evl
def topS (i : Nat) : Stmt := PySem.Challenge.pw_leadson_k08_refused.main.body.getD i (.Pass ⟨0, 0, 0, 0⟩)
structure Cs where
  LeadError : Addr
  BadLeading : Addr
  BadPlace : Addr
  BadSteps : Addr
  Unlike : Addr
  NotBack : Addr
structure Cl (K : PySem.W.Frag) (mg : Str → Option Value) (c : Cs) : Prop where
  LeadError : mg "LeadError" = some (.ref c.LeadError)
  VE : mg "ValueError" = none
  BadLeading : Xc K mg "BadLeading" c.BadLeading
  BadPlace : Xc K mg "BadPlace" c.BadPlace
  BadSteps : Xc K mg "BadSteps" c.BadSteps
  Unlike : Xc K mg "Unlike" c.Unlike
  NotBack : Xc K mg "NotBack" c.NotBack
  x_BadLeading : PySem.W.exmOne K (.ref c.BadLeading) (.ref c.LeadError) = some true
  x_BadPlace : PySem.W.exmOne K (.ref c.BadPlace) (.ref c.LeadError) = some true
  x_BadSteps : PySem.W.exmOne K (.ref c.BadSteps) (.ref c.LeadError) = some true
  x_Unlike : PySem.W.exmOne K (.ref c.Unlike) (.ref c.LeadError) = some true
  x_NotBack : PySem.W.exmOne K (.ref c.NotBack) (.ref c.LeadError) = some true
  v_BadLeading : PySem.W.kitOne K (.ref c.BadLeading) (.type "ValueError") = some true
  v_BadPlace : PySem.W.kitOne K (.ref c.BadPlace) (.type "ValueError") = some true
  v_BadSteps : PySem.W.kitOne K (.ref c.BadSteps) (.type "ValueError") = some true
  v_Unlike : PySem.W.kitOne K (.ref c.Unlike) (.type "ValueError") = some true
  v_NotBack : PySem.W.kitOne K (.ref c.NotBack) (.type "ValueError") = some true
  k_BadLeading_BadLeading : PySem.W.kitOne K (.ref c.BadLeading) (.ref c.BadLeading) = some true
  k_BadLeading_BadPlace : PySem.W.kitOne K (.ref c.BadLeading) (.ref c.BadPlace) = some false
  k_BadLeading_BadSteps : PySem.W.kitOne K (.ref c.BadLeading) (.ref c.BadSteps) = some false
  k_BadLeading_Unlike : PySem.W.kitOne K (.ref c.BadLeading) (.ref c.Unlike) = some false
  k_BadLeading_NotBack : PySem.W.kitOne K (.ref c.BadLeading) (.ref c.NotBack) = some false
  k_BadPlace_BadLeading : PySem.W.kitOne K (.ref c.BadPlace) (.ref c.BadLeading) = some false
  k_BadPlace_BadPlace : PySem.W.kitOne K (.ref c.BadPlace) (.ref c.BadPlace) = some true
  k_BadPlace_BadSteps : PySem.W.kitOne K (.ref c.BadPlace) (.ref c.BadSteps) = some false
  k_BadPlace_Unlike : PySem.W.kitOne K (.ref c.BadPlace) (.ref c.Unlike) = some false
  k_BadPlace_NotBack : PySem.W.kitOne K (.ref c.BadPlace) (.ref c.NotBack) = some false
  k_BadSteps_BadLeading : PySem.W.kitOne K (.ref c.BadSteps) (.ref c.BadLeading) = some false
  k_BadSteps_BadPlace : PySem.W.kitOne K (.ref c.BadSteps) (.ref c.BadPlace) = some false
  k_BadSteps_BadSteps : PySem.W.kitOne K (.ref c.BadSteps) (.ref c.BadSteps) = some true
  k_BadSteps_Unlike : PySem.W.kitOne K (.ref c.BadSteps) (.ref c.Unlike) = some false
  k_BadSteps_NotBack : PySem.W.kitOne K (.ref c.BadSteps) (.ref c.NotBack) = some false
  k_Unlike_BadLeading : PySem.W.kitOne K (.ref c.Unlike) (.ref c.BadLeading) = some false
  k_Unlike_BadPlace : PySem.W.kitOne K (.ref c.Unlike) (.ref c.BadPlace) = some false
  k_Unlike_BadSteps : PySem.W.kitOne K (.ref c.Unlike) (.ref c.BadSteps) = some false
  k_Unlike_Unlike : PySem.W.kitOne K (.ref c.Unlike) (.ref c.Unlike) = some true
  k_Unlike_NotBack : PySem.W.kitOne K (.ref c.Unlike) (.ref c.NotBack) = some false
  k_NotBack_BadLeading : PySem.W.kitOne K (.ref c.NotBack) (.ref c.BadLeading) = some false
  k_NotBack_BadPlace : PySem.W.kitOne K (.ref c.NotBack) (.ref c.BadPlace) = some false
  k_NotBack_BadSteps : PySem.W.kitOne K (.ref c.NotBack) (.ref c.BadSteps) = some false
  k_NotBack_Unlike : PySem.W.kitOne K (.ref c.NotBack) (.ref c.Unlike) = some false
  k_NotBack_NotBack : PySem.W.kitOne K (.ref c.NotBack) (.ref c.NotBack) = some true
theorem bo_ValueError : bootBuiltins "ValueError" = some (.type "ValueError") := by decide +kernel
section
variable {P : Program} {w : World} {K : PySem.W.Frag} {mg : Str → Option Value} {base : Heap} {c : Cs}
def IsLd (H : Hp) (a : Addr) (L : List Nat) : Prop := Rd H a (.lst (nl L)) ∧ Lead L ∧ L.length ≤ 63
theorem IsLd.ex {H H' : Hp} {a : Addr} {L : List Nat} (h : IsLd H a L) (e : Ex H H') : IsLd H' a L := ⟨ex_rd e h.1, h.2⟩
theorem IsLd.sq {K : PySem.W.Frag} {H : Hp} {a : Addr} {L : List Nat} (h : IsLd H a L) : SqL K H a (nl L) := .inl h.1

abbrev s_is_number : Stmt := topS 9
abbrev N_is_number : List Str := ["thing", "least", "most"]
theorem sc_is_number : FnScope N_is_number ["thing", "least", "most"] (defScope s_is_number) := ⟨rfl, rfl, rfl, by decide +kernel, rfl, by decide +kernel, by decide +kernel⟩
def spIsNum : Sp := fun vs H Q _ => ∃ i lo hi : Int, vs = [.int i, .int lo, .int hi] ∧ RetV (.bl (decide (lo ≤ i) && decide (i ≤ hi))) H Q
theorem sv_is_number {H : Hp} {i lo hi : Int} {b : Bool} (e : (decide (lo ≤ i) && decide (i ≤ hi)) = b) : SpV spIsNum [.int i, .int lo, .int hi] H (.bl b) := fun H1 _ Q q E => ⟨i, lo, hi, rfl, by
  rw [e]
  exact q⟩
theorem ok_is_number {f : Addr} {fd : FuncData} (F : Fun K "is_number" "is_number" s_is_number f fd) (B : Bl mg) : FnOk P w K mg base CX0 1 f fd ["thing", "least", "most"] spIsNum := by
  refine F.ok sc_is_number (fun vs H Q E h => ?_) (fun cdv A outer s H vs Q E hr h => ?_)
  · obtain ⟨i, lo, hi, rfl, _⟩ := h
    rfl
  · obtain ⟨i, lo, hi, rfl, q⟩ := h
    refine ⟨_, (pss_one (ps_ret (pe_and (pe_callB (call_isiK' (K := K) rfl) (by rfl) B.isinstance_ bo_isinstance (pa_cons (pv 0) (pa_cons (pe_bltn (v := .ty "int") (by rfl) B.int_ bo_int rfl) pa_nil))) (pe_and (pe_not (pe_callB (call_isiK' (K := K) rfl) (by rfl) B.isinstance_ bo_isinstance (pa_cons (pv 0) (pa_cons (pe_bltn (v := .ty "bool") (by rfl) B.bool_ bo_bool rfl) pa_nil)))) (pe_one (pe_chain op_le op_le (pv 1) (pv 0) (pv 2))))))), ?_⟩
    exact ret_V q (Ex.refl H) (ev_andV (a := true) (ev_isiInt (ev_var rfl)) fun _ => ev_andV (a := true) (ev_notF (ev_isiBool (ev_var rfl))) fun _ => ev_chain (ev_var rfl) (ev_var rfl) (ev_var rfl) rv_I0 rv_I0)

abbrev s_asked_leading : Stmt := topS 10
abbrev N_asked_leading : List Str := ["leading", "place"]
theorem sc_asked_leading : FnScope N_asked_leading ["leading"] (defScope s_asked_leading) := ⟨rfl, rfl, rfl, by decide +kernel, rfl, by decide +kernel, by decide +kernel⟩
def spAskedL : Sp := fun vs H Q _ => ∃ (a : Addr) (L : List Nat), vs = [.ref a] ∧ IsLd H a L ∧ RetV .non H Q
theorem sv_asked_leading {H : Hp} {a : Addr} {L : List Nat} (h : IsLd H a L) : SpV spAskedL [.ref a] H .non := fun _ e _ q _ => ⟨a, L, rfl, h.ex e, q⟩
theorem ok_asked_leading {f : Addr} {fd : FuncData} (F : Fun K "asked_leading" "asked_leading" s_asked_leading f fd) (B : Bl mg) (D_is_number : Dk P w K mg base CX0 1 "is_number" ["thing", "least", "most"] spIsNum) :
    FnOk P w K mg base CX0 2 f fd ["leading"] spAskedL := by
  refine F.ok sc_asked_leading (fun vs H Q E h => ?_) (fun cdv A outer s H vs Q E hr h => ?_)
  · obtain ⟨a, L, rfl, _⟩ := h
    rfl
  · obtain ⟨a, L, rfl, hL, q⟩ := h
    refine ⟨_, (pss_one (ps_if (PW.pt (pw_or (pt_not (pt_val (pe_callB (call_isiK' (K := K) rfl) (by rfl) B.isinstance_ bo_isinstance (pa_cons (pv 0) (pa_cons (pe_bltn (v := .ty "list") (by rfl) B.list_ bo_list rfl) pa_nil))))) (pw_or1 (pt_not (pt_val (pe_callB (cr_allK (K := K) rfl rfl) (by rfl) B.all_ bo_all (pa_cons (pe_lc (own := [("place", 1)]) (g := gName 1) (tt := tYes) rfl sc_asked_leading.nd (pi_list (pv 0)) (blkOk_by (N := N_asked_leading) (sc := defScope s_asked_leading) (by decide +kernel)) (fun _ _ _ _ _ => (pg_name (i := 1) sc_asked_leading.nd rfl (Or.inl rfl))) (fun _ _ _ _ _ => pts_nil) (fun _ _ _ _ _ => (pe_callD D_is_number (hr.mono (by decide)) (by rfl) pass0 (pa_cons (pv 1) (pa_cons pe_int (pa_cons (pe_op op_sub (pe_callB (call_lenK (K := K) rfl) (by rfl) B.len_ bo_len (pa_cons (pv 0) pa_nil)) pe_int) pa_nil)))))) pa_nil)))))))
    (pss_one ps_never)
    pss_nil)), ?_⟩
    refine s_skip (et_orF (et_notT (et_B (ev_isiList (ev_var rfl) hL.1))) (et_notT (et_B (ev_allT (el_mapNc (ev_var rfl) hL.sq (by have := hL.2.2; omega) fun x H1 e hx => ev_callV (ea3 (ev_var rfl) ev_c (ev_op (ev_lenNl (ev_var rfl) (hL.ex e).sq) ev_c rv_I0)) (sv_is_number ?_)))))) fun H1 e => q H1 e
    have h1 := hL.2.1 x hx
    rw [Bool.and_eq_true, decide_eq_true_eq, decide_eq_true_eq]
    omega

abbrev s_asked_place : Stmt := topS 11
abbrev N_asked_place : List Str := ["leading", "place"]
theorem sc_asked_place : FnScope N_asked_place ["leading", "place"] (defScope s_asked_place) := ⟨rfl, rfl, rfl, by decide +kernel, rfl, by decide +kernel, by decide +kernel⟩
def spAskedP : Sp := fun vs H Q _ => ∃ (a : Addr) (L : List Nat) (p : Nat), vs = [.ref a, .int (p : Int)] ∧ IsLd H a L ∧ p < L.length ∧ RetV .non H Q
theorem sv_asked_place {H : Hp} {a : Addr} {L : List Nat} {p : Nat} (h : IsLd H a L) (hp : p < L.length) : SpV spAskedP [.ref a, .int (p : Int)] H .non := fun _ e _ q _ => ⟨a, L, p, rfl, h.ex e, hp, q⟩
theorem ok_asked_place {f : Addr} {fd : FuncData} (F : Fun K "asked_place" "asked_place" s_asked_place f fd) (B : Bl mg) (D_is_number : Dk P w K mg base CX0 1 "is_number" ["thing", "least", "most"] spIsNum) :
    FnOk P w K mg base CX0 2 f fd ["leading", "place"] spAskedP := by
  refine F.ok sc_asked_place (fun vs H Q E h => ?_) (fun cdv A outer s H vs Q E hr h => ?_)
  · obtain ⟨a, L, p, rfl, _⟩ := h
    rfl
  · obtain ⟨a, L, p, rfl, hL, hp, q⟩ := h
    refine ⟨_, (pss_one (ps_if (pt_not (pt_val (pe_callD D_is_number (hr.mono (by decide)) (by rfl) pass0 (pa_cons (pv 1) (pa_cons pe_int (pa_cons (pe_op op_sub (pe_callB (call_lenK (K := K) rfl) (by rfl) B.len_ bo_len (pa_cons (pv 0) pa_nil)) pe_int) pa_nil))))))
    (pss_one ps_never)
    pss_nil)), ?_⟩
    refine s_skip (et_notT (et_B (ev_callV (ea3 (ev_var rfl) ev_c (ev_op (ev_lenNl (ev_var rfl) hL.sq) ev_c rv_I0)) (sv_is_number ?_)))) fun H1 e => q H1 e
    rw [Bool.and_eq_true, decide_eq_true_eq, decide_eq_true_eq]
    omega

abbrev s_asked_steps : Stmt := topS 12
abbrev N_asked_steps : List Str := ["steps"]
theorem sc_asked_steps : FnScope N_asked_steps ["steps"] (defScope s_asked_steps) := ⟨rfl, rfl, rfl, by decide +kernel, rfl, by decide +kernel, by decide +kernel⟩
def spAskedS : Sp := fun vs H Q _ => ∃ (n : Nat), vs = [.int (n : Int)] ∧ RetV .non H Q
theorem sv_asked_steps {H : Hp} {n : Nat} : SpV spAskedS [.int (n : Int)] H .non := fun _ _ _ q _ => ⟨n, rfl, q⟩
theorem ok_asked_steps {f : Addr} {fd : FuncData} (F : Fun K "asked_steps" "asked_steps" s_asked_steps f fd) (B : Bl mg) : FnOk P w K mg base CX0 1 f fd ["steps"] spAskedS := by
  refine F.ok sc_asked_steps (fun vs H Q E h => ?_) (fun cdv A outer s H vs Q E hr h => ?_)
  · obtain ⟨n, rfl, _⟩ := h
    rfl
  · obtain ⟨n, rfl, q⟩ := h
    refine ⟨_, (pss_one (ps_if (PW.pt (pw_or (pt_not (pt_val (pe_callB (call_isiK' (K := K) rfl) (by rfl) B.isinstance_ bo_isinstance (pa_cons (pv 0) (pa_cons (pe_bltn (v := .ty "int") (by rfl) B.int_ bo_int rfl) pa_nil))))) (pw_or (pt_val (pe_callB (call_isiK' (K := K) rfl) (by rfl) B.isinstance_ bo_isinstance (pa_cons (pv 0) (pa_cons (pe_bltn (v := .ty "bool") (by rfl) B.bool_ bo_bool rfl) pa_nil)))) (pw_or1 (pt_cmpR op_lt (pv 0) pe_int (nomark _))))))
    (pss_one ps_never)
    pss_nil)), ?_⟩
    exact s_skip (et_orF (et_notT (et_B (ev_isiInt (ev_var rfl)))) (et_orF (et_B (ev_isiBool (ev_var rfl))) (et_test (ev_op (ev_var rfl) ev_c (rv_dec (by rw [decide_eq_false (by omega)])))))) fun H1 e => q H1 e

abbrev s_asked_back : Stmt := topS 13
abbrev N_asked_back : List Str := ["leading"]
theorem sc_asked_back : FnScope N_asked_back ["leading"] (defScope s_asked_back) := ⟨rfl, rfl, rfl, by decide +kernel, rfl, by decide +kernel, by decide +kernel⟩
def spAskedB : Sp := fun vs H Q _ => ∃ (a : Addr) (L : List Nat), vs = [.ref a] ∧ IsLd H a L ∧ L.Nodup ∧ RetV .non H Q
theorem sv_asked_back {H : Hp} {a : Addr} {L : List Nat} (h : IsLd H a L) (nd : L.Nodup) : SpV spAskedB [.ref a] H .non := fun _ e _ q _ => ⟨a, L, rfl, h.ex e, nd, q⟩
theorem ok_asked_back {f : Addr} {fd : FuncData} (F : Fun K "asked_back" "asked_back" s_asked_back f fd) (B : Bl mg) : FnOk P w K mg base CX0 1 f fd ["leading"] spAskedB := by
  refine F.ok sc_asked_back (fun vs H Q E h => ?_) (fun cdv A outer s H vs Q E hr h => ?_)
  · obtain ⟨a, L, rfl, _⟩ := h
    rfl
  · obtain ⟨a, L, rfl, hL, nd, q⟩ := h
    refine ⟨_, (pss_one (ps_if (pt_cmpR op_ne (pe_lenSetK (K := K) rfl (by rfl) B.len_ (by rfl) B.set_ (pv 0) rfl) (pe_callB (call_lenK (K := K) rfl) (by rfl) B.len_ bo_len (pa_cons (pv 0) pa_nil)) (nomark _))
    (pss_one ps_never)
    pss_nil)), ?_⟩
    have h64 := hL.2.2
    exact s_skip (et_test (ev_op (ev_lenSet (ev_var rfl) hL.sq nd (by omega)) (ev_lenNl (ev_var rfl) hL.sq) (rv_neB (by rw [decide_eq_true rfl]; rfl)))) fun H1 e => q H1 e

abbrev s_done : Stmt := topS 14
abbrev N_done : List Str := ["leading", "steps", "found", "twice", "left", "place"]
theorem sc_done : FnScope N_done ["leading", "steps"] (defScope s_done) := ⟨rfl, rfl, rfl, by decide +kernel, rfl, by decide +kernel, by decide +kernel⟩
def spDone : Sp := fun vs H Q _ => ∃ (a : Addr) (L : List Nat) (n : Nat), vs = [.ref a, .int (n : Int)] ∧ IsLd H a L ∧ RetL (nl (tm L n)) H Q
theorem sl_done {H : Hp} {a : Addr} {L : List Nat} {n : Nat} (h : IsLd H a L) : SpL spDone [.ref a, .int (n : Int)] H (nl (tm L n)) := fun _ e _ q _ => ⟨a, L, n, rfl, h.ex e, q⟩
theorem ok_done {f : Addr} {fd : FuncData} (F : Fun K "done" "done" s_done f fd) (B : Bl mg) : FnOk P w K mg base CX0 1 f fd ["leading", "steps"] spDone := by
  refine F.ok sc_done (fun vs H Q E h => ?_) (fun cdv A outer s H vs Q E hr h => ?_)
  · obtain ⟨a, L, n, rfl, _⟩ := h
    rfl
  · obtain ⟨a, L, n, rfl, hL, q⟩ := h
    refine ⟨_, (pss_cons (ps_setLc (i := 2) (own := [("place", 5)]) (g := gName 5) (tt := tYes) rfl sc_done.nd rfl rfl (sw_true rfl rfl rfl (by decide +kernel)) (pi_range1 (by rfl) B.range_ (pa_cons (pe_callB (call_lenK (K := K) rfl) (by rfl) B.len_ bo_len (pa_cons (pv 0) pa_nil)) pa_nil)) (blkOk_by (N := N_done) (sc := defScope s_done) (by decide +kernel)) (fun _ _ _ _ _ => (pg_name (i := 5) sc_done.nd rfl (Or.inl rfl))) (fun _ _ _ _ _ => pts_nil) (fun _ _ _ _ _ => (pv 5)))
    (pss_cons (ps_set (i := 3) sc_done.nd rfl (Or.inr rfl) (pe_callTy (call_listK (K := K) rfl) (by rfl) B.list_ bo_list (pa_cons (pv 0) pa_nil)))
    (pss_cons (ps_set (i := 4) sc_done.nd rfl (Or.inl rfl) (pv 1))
    (pss_cons (ps_while PassesOwn.never (pt_cmpR op_gt (pv 4) pe_int (nomark _))
    (pss_cut (ps_if (pt_cmpR op_eq (pe_op op_modN (pv 4) pe_int) pe_int (nomark _))
    (pss_one (ps_setLc (i := 2) (own := [("place", 5)]) (g := gName 5) (tt := tYes) rfl sc_done.nd rfl rfl (sw_true rfl rfl rfl (by decide +kernel)) (pi_list (pv 2)) (blkOk_by (N := N_done) (sc := defScope s_done) (by decide +kernel)) (fun _ _ _ _ _ => (pg_name (i := 5) sc_done.nd rfl (Or.inl rfl))) (fun _ _ _ _ _ => pts_nil) (fun _ _ _ _ _ => (pe_ix (ix_listK (K := K) rfl) (pv 3) (pv 5) (fun _ _ => rfl)))))
    pss_nil)
    (pss_cons (ps_set (i := 3) sc_done.nd rfl (Or.inr rfl) (pe_lc (own := [("place", 5)]) (g := gName 5) (tt := tYes) rfl sc_done.nd (pi_list (pv 3)) (blkOk_by (N := N_done) (sc := defScope s_done) (by decide +kernel)) (fun _ _ _ _ _ => (pg_name (i := 5) sc_done.nd rfl (Or.inl rfl))) (fun _ _ _ _ _ => pts_nil) (fun _ _ _ _ _ => (pe_ix (ix_listK (K := K) rfl) (pv 3) (pv 5) (fun _ _ => rfl)))))
    (pss_one (ps_set (i := 4) sc_done.nd rfl (Or.inl rfl) (pe_op op_fdivN (pv 4) pe_int))))))
    (pss_one (ps_ret (pv 2))))))), ?_⟩
    have h64 := hL.2.2
    -- found = [place for place in range(len(leading))]
    refine q_asgL (el_mapR (fun i => V.int i) (ea1 (ev_lenNl (ev_var rfl) hL.sq)) (by omega) fun i H1 e hi => ev_var rfl) fun pf H1 nf e1 h1 => ?_
    -- twice = list(leading)
    refine q_asgL (el_listOf (ev_var rfl) (hL.ex e1).sq) fun pt H2 nt e2 h2 => ?_
    refine q_asg (ev_var rfl) fun H3 e3 => ?_
    refine q_while (fun m σ' H' => ∃ (x y : Nat) (pf pt : Addr) (z : Option V), σ' = [some (.ref a), some (.int (n : Int)), some (.ref pf), some (.ref pt), some (.int (m : Int)), z] ∧ x + y * m = n ∧ Ex H H' ∧ H pf = none ∧ H' pf = some (.lst (nl (tm L x))) ∧ H' pt = some (.lst (nl (tm L y)))) n
      ⟨0, 1, pf, pt, none, rfl, by omega, (e1.trans e2).trans e3, nf, ?_, ?_⟩ fun m σ' H' hw => ?_
    · rw [tm_zero]
      exact e3 _ _ (e2 _ _ h1)
    · rw [tm_one]
      exact e3 _ _ h2
    obtain ⟨x, y, pf, pt, z, rfl, exy, eH, nf, hf, ht⟩ := hw
    refine ⟨decide ((0 : Int) < m), et_test (ev_op (ev_var rfl) ev_c rv_I0), fun hb H4 e4 => ?_, fun hb H4 e4 => ?_⟩
    · have hm : (0 : Int) < m := of_decide_eq_true hb
      refine ⟨_, fun σ2 H2 h => h, ?_⟩
      -- if left % 2 == 1: found = [twice[place] for place in found]
      refine q_cut (M := fun σ' H' => ∃ (x' : Nat) (pf : Addr) (z : Option V), σ' = [some (.ref a), some (.int (n : Int)), some (.ref pf), some (.ref pt), some (.int (m : Int)), z] ∧ x' = x + (if m % 2 = 1 then y else 0) ∧ Ex H H' ∧ H pf = none ∧ H' pf = some (.lst (nl (tm L x'))) ∧ H' pt = some (.lst (nl (tm L y)))) ?_ fun σ' H' hM => ?_
      · refine s_if (et_test (ev_op (ev_op (ev_var rfl) ev_c (rv_IW (by decide) (vmod m 2))) ev_c (rv_eqB rfl))) (fun hb H5 e5 => ?_) (fun hb H5 e5 => ?_)
        · have h2 : m % 2 = 1 := by
            have := of_decide_eq_true hb
            omega
          refine s_asgL (el_mapN (L := tm L x) (fun v => V.int (st (tm L y) v : Int)) (ev_var rfl) (sq_of (e5 _ _ (e4 _ _ hf))) (by rw [tm_length]; omega) fun v H6 e6 hv => ev_op (ev_var rfl) (ev_var rfl) (rv_ixN (sq_of (e6 _ _ (e5 _ _ (e4 _ _ ht)))) ?_)) fun pn H6 nn e6 h6 => ?_
          · rw [tm_length, ← tm_length L x]
            exact lead_tm hL.2.1 x v hv
          · refine ⟨x + y, pn, z, rfl, by rw [if_pos h2], ((eH.trans e4).trans e5).trans e6, fresh_back ((eH.trans e4).trans e5) nn, ?_, e6 _ _ (e5 _ _ (e4 _ _ ht))⟩
            rw [h6, ← tm_then hL.2.1]
            unfold nl
            rw [List.map_map]
            rfl
        · have h2 : ¬ m % 2 = 1 := by
            have := of_decide_eq_false hb
            omega
          exact ⟨x, pf, z, rfl, by rw [if_neg h2, Nat.add_zero], (eH.trans e4).trans e5, nf, e5 _ _ (e4 _ _ hf), e5 _ _ (e4 _ _ ht)⟩
      · obtain ⟨x', pf, z, rfl, ex', eH, nf, hf, ht⟩ := hM
        -- twice = [twice[place] for place in twice]
        refine q_asgL (el_mapN (L := tm L y) (fun v => V.int (st (tm L y) v : Int)) (ev_var rfl) (sq_of ht) (by rw [tm_length]; omega) fun v H6 e6 hv => ev_op (ev_var rfl) (ev_var rfl) (rv_ixN (sq_of (e6 _ _ ht)) ?_)) fun pn H6 nn e6 h6 => ?_
        · exact lead_tm hL.2.1 y v hv
        refine s_asg (ev_op (ev_var rfl) ev_c (rv_IW ⟨by decide, by decide⟩ (vdiv m 2))) fun H7 e7 => ?_
        refine ⟨m / 2, by omega, x', y + y, pf, pn, z, rfl, ?_, (eH.trans e6).trans e7, nf, e7 _ _ (e6 _ _ hf), ?_⟩
        · have h3 := Nat.mod_add_div m 2
          have h4 : y * m = y * (m % 2) + y * (2 * (m / 2)) := by rw [← Nat.mul_add, h3]
          have h5 : y * (2 * (m / 2)) = (y + y) * (m / 2) := by
            rw [← Nat.mul_assoc, Nat.mul_two]
          split at ex'
          · rename_i h6
            rw [h6, Nat.mul_one] at h4
            omega
          · have h6 : m % 2 = 0 := by omega
            rw [h6, Nat.mul_zero] at h4
            omega
        · rw [e7 _ _ h6, ← tm_then hL.2.1]
          unfold nl
          rw [List.map_map]
          rfl
    · have hm : m = 0 := by
        have := of_decide_eq_false hb
        omega
      subst hm
      rw [Nat.mul_zero, Nat.add_zero] at exy
      subst exy
      exact ret_N q (eH.trans e4) nf (e4 _ _ hf) rfl

abbrev s_after : Stmt := topS 16
abbrev N_after : List Str := ["leading", "place", "steps"]
theorem sc_after : FnScope N_after ["leading", "place", "steps"] (defScope s_after) := ⟨rfl, rfl, rfl, by decide +kernel, rfl, by decide +kernel, by decide +kernel⟩
def spAfter : Sp := fun vs H Q _ => ∃ (a : Addr) (L : List Nat) (p n : Nat), vs = [.ref a, .int (p : Int), .int (n : Int)] ∧ IsLd H a L ∧ p < L.length ∧ RetV (.int (it L n p : Int)) H Q
theorem sv_after {H : Hp} {a : Addr} {L : List Nat} {p n : Nat} (h : IsLd H a L) (hp : p < L.length) : SpV spAfter [.ref a, .int (p : Int), .int (n : Int)] H (.int (it L n p : Int)) := fun _ e _ q _ => ⟨a, L, p, n, rfl, h.ex e, hp, q⟩
theorem ok_after {f : Addr} {fd : FuncData} (F : Fun K "after" "after" s_after f fd) (D_asked_leading : Dk P w K mg base CX0 2 "asked_leading" ["leading"] spAskedL) (D_asked_place : Dk P w K mg base CX0 2 "asked_place" ["leading", "place"] spAskedP)
    (D_asked_steps : Dk P w K mg base CX0 1 "asked_steps" ["steps"] spAskedS) (D_done : Dk P w K mg base CX0 1 "done" ["leading", "steps"] spDone) : FnOk P w K mg base CX0 3 f fd ["leading", "place", "steps"] spAfter := by
  refine F.ok sc_after (fun vs H Q E h => ?_) (fun cdv A outer s H vs Q E hr h => ?_)
  · obtain ⟨a, L, p, n, rfl, _⟩ := h
    rfl
  · obtain ⟨a, L, p, n, rfl, hL, hp, q⟩ := h
    refine ⟨_, (pss_cons (ps_expr (pe_callD D_asked_leading (hr.mono (by decide)) (by rfl) pass0 (pa_cons (pv 0) pa_nil)))
    (pss_cons (ps_expr (pe_callD D_asked_place (hr.mono (by decide)) (by rfl) pass0 (pa_cons (pv 0) (pa_cons (pv 1) pa_nil))))
    (pss_cons (ps_expr (pe_callD D_asked_steps (hr.mono (by decide)) (by rfl) pass0 (pa_cons (pv 2) pa_nil)))
    (pss_one (ps_ret (pe_ix (ix_listK (K := K) rfl) (pe_callD D_done (hr.mono (by decide)) (by rfl) pass0 (pa_cons (pv 0) (pa_cons (pv 2) pa_nil))) (pv 1) (fun _ _ => rfl))))))), ?_⟩
    refine q_drop (ev_callV (ea1 (ev_var rfl)) (sv_asked_leading hL)) fun H1 e1 => ?_
    refine q_drop (ev_callV (ea2 (ev_var rfl) (ev_var rfl)) (sv_asked_place (hL.ex e1) hp)) fun H2 e2 => ?_
    refine q_drop (ev_callV (ea1 (ev_var rfl)) sv_asked_steps) fun H3 e3 => ?_
    have e := (e1.trans e2).trans e3
    refine ret_V q e (ev_opL1 (el_callL (ea2 (ev_var rfl) (ev_var rfl)) (sl_done (hL.ex e))) (fun H4 e4 => ev_var rfl) fun r H4 h4 e4 => ?_)
    have h := rv_ixN (K := K) (j := p) (sq_of h4) (by rw [tm_length]; exact hp)
    rw [st_tm hp] at h
    exact h

abbrev s_behind : Stmt := topS 18
abbrev N_behind : List Str := ["one", "other", "place"]
theorem sc_behind : FnScope N_behind ["one", "other"] (defScope s_behind) := ⟨rfl, rfl, rfl, by decide +kernel, rfl, by decide +kernel, by decide +kernel⟩
def spBehind : Sp := fun vs H Q _ => ∃ (a b : Addr) (A B : List Nat), vs = [.ref a, .ref b] ∧ IsLd H a A ∧ IsLd H b B ∧ A.length = B.length ∧ RetL (nl (A.map (st B))) H Q
theorem sl_behind {H : Hp} {a b : Addr} {A B : List Nat} (ha : IsLd H a A) (hb : IsLd H b B) (hl : A.length = B.length) : SpL spBehind [.ref a, .ref b] H (nl (A.map (st B))) := fun _ e _ q _ => ⟨a, b, A, B, rfl, ha.ex e, hb.ex e, hl, q⟩
theorem ok_behind {f : Addr} {fd : FuncData} (F : Fun K "behind" "behind" s_behind f fd) (B : Bl mg) (D_asked_leading : Dk P w K mg base CX0 2 "asked_leading" ["leading"] spAskedL) :
    FnOk P w K mg base CX0 3 f fd ["one", "other"] spBehind := by
  refine F.ok sc_behind (fun vs H Q E h => ?_) (fun cdv A outer s H vs Q E hr h => ?_)
  · obtain ⟨a, b, A, B, rfl, _⟩ := h
    rfl
  · obtain ⟨a, b, A, C, rfl, hA, hC, hl, q⟩ := h
    refine ⟨_, (pss_cons (ps_expr (pe_callD D_asked_leading (hr.mono (by decide)) (by rfl) pass0 (pa_cons (pv 0) pa_nil)))
    (pss_cons (ps_expr (pe_callD D_asked_leading (hr.mono (by decide)) (by rfl) pass0 (pa_cons (pv 1) pa_nil)))
    (pss_cons (ps_if (pt_cmpR op_ne (pe_callB (call_lenK (K := K) rfl) (by rfl) B.len_ bo_len (pa_cons (pv 0) pa_nil)) (pe_callB (call_lenK (K := K) rfl) (by rfl) B.len_ bo_len (pa_cons (pv 1) pa_nil)) (nomark _))
    (pss_one ps_never)
    pss_nil)
    (pss_one (ps_ret (pe_lc (own := [("place", 2)]) (g := gName 2) (tt := tYes) rfl sc_behind.nd (pi_list (pv 0)) (blkOk_by (N := N_behind) (sc := defScope s_behind) (by decide +kernel)) (fun _ _ _ _ _ => (pg_name (i := 2) sc_behind.nd rfl (Or.inl rfl))) (fun _ _ _ _ _ => pts_nil) (fun _ _ _ _ _ => (pe_ix (ix_listK (K := K) rfl) (pv 1) (pv 2) (fun _ _ => rfl))))))))), ?_⟩
    refine q_drop (ev_callV (ea1 (ev_var rfl)) (sv_asked_leading hA)) fun H1 e1 => ?_
    refine q_drop (ev_callV (ea1 (ev_var rfl)) (sv_asked_leading (hC.ex e1))) fun H2 e2 => ?_
    have e := e1.trans e2
    refine q_skip (et_test (ev_op (ev_lenNl (ev_var rfl) (hA.ex e).sq) (ev_lenNl (ev_var rfl) (hC.ex e).sq) (rv_neB (by rw [hl, decide_eq_true rfl]; rfl)))) fun H3 e3 => ?_
    have e' := e.trans e3
    have h64 := hA.2.2
    have h := ret_L (te := tLc (iList K (tVar 0)) (gName 2) tYes (tOp (rIxL K) (tVar 1) (tVar 2)) [2]) (σ := start N_behind [.ref a, .ref b]) q e' (by
      have h1 := el_mapN (K := K) (σ := start N_behind [.ref a, .ref b]) (te := tOp (rIxL K) (tVar 1) (tVar 2)) (j := 2) (fun x => V.int (st C x : Int)) (ev_var (i := 0) rfl) (hA.ex e').sq (by omega) fun x H4 e4 hx => ev_op (ev_var (i := 1) rfl) (ev_var (i := 2) rfl) (rv_ixN (hC.ex (e'.trans e4)).sq (by
        have := hA.2.1 x hx
        omega))
      rw [show A.map (fun x => V.int (st C x : Int)) = nl (A.map (st C)) by
        unfold nl
        rw [List.map_map]
        rfl] at h1
      exact h1)
    exact h

abbrev s_undone : Stmt := topS 19
abbrev N_undone : List Str := ["leading", "place", "found", "there"]
theorem sc_undone : FnScope N_undone ["leading"] (defScope s_undone) := ⟨rfl, rfl, rfl, by decide +kernel, rfl, by decide +kernel, by decide +kernel⟩
def spUndone : Sp := fun vs H Q _ => ∃ (a : Addr) (L : List Nat), vs = [.ref a] ∧ IsLd H a L ∧ L.Nodup ∧ RetL (nl (inv L)) H Q
theorem sl_undone {H : Hp} {a : Addr} {L : List Nat} (h : IsLd H a L) (nd : L.Nodup) : SpL spUndone [.ref a] H (nl (inv L)) := fun _ e _ q _ => ⟨a, L, rfl, h.ex e, nd, q⟩
theorem ok_undone {f : Addr} {fd : FuncData} (F : Fun K "undone" "undone" s_undone f fd) (B : Bl mg) (D_asked_leading : Dk P w K mg base CX0 2 "asked_leading" ["leading"] spAskedL) (D_asked_back : Dk P w K mg base CX0 1 "asked_back" ["leading"] spAskedB) :
    FnOk P w K mg base CX0 3 f fd ["leading"] spUndone := by
  refine F.ok sc_undone (fun vs H Q E h => ?_) (fun cdv A outer s H vs Q E hr h => ?_)
  · obtain ⟨a, L, rfl, _⟩ := h
    rfl
  · obtain ⟨a, L, rfl, hL, nd, q⟩ := h
    refine ⟨_, (pss_cons (ps_expr (pe_callD D_asked_leading (hr.mono (by decide)) (by rfl) pass0 (pa_cons (pv 0) pa_nil)))
    (pss_cons (ps_expr (pe_callD D_asked_back (hr.mono (by decide)) (by rfl) pass0 (pa_cons (pv 0) pa_nil)))
    (pss_cons (ps_setLc (i := 2) (own := [("place", 1)]) (g := gName 1) (tt := tYes) rfl sc_undone.nd rfl rfl (sw_true rfl rfl rfl (by decide +kernel)) (pi_list (pv 0)) (blkOk_by (N := N_undone) (sc := defScope s_undone) (by decide +kernel)) (fun _ _ _ _ _ => (pg_name (i := 1) sc_undone.nd rfl (Or.inl rfl))) (fun _ _ _ _ _ => pts_nil) (fun _ _ _ _ _ => pe_int))
    (pss_cons (ps_for PassesOwn.never rfl (pi_enum (by rfl) B.enumerate_ (pa_cons (pv 0) pa_nil)) (pg_tup (by rfl) (pgs_cons (pg_name (i := 1) sc_undone.nd rfl (Or.inl rfl)) (pgs_cons (pg_name (i := 3) sc_undone.nd rfl (Or.inl rfl)) pgs_nil)))
    (pss_one (ps_asg (pv 1) (pg_sub (pv 2) (pv 3) set_list))))
    (pss_one (ps_ret (pv 2))))))), ?_⟩
    have h64 := hL.2.2
    refine q_drop (ev_callV (ea1 (ev_var rfl)) (sv_asked_leading hL)) fun H1 e1 => ?_
    refine q_drop (ev_callV (ea1 (ev_var rfl)) (sv_asked_back (hL.ex e1) nd)) fun H2 e2 => ?_
    have e := e1.trans e2
    refine q_asgL (el_mapNc (ev_var rfl) (hL.ex e).sq (by omega) fun x H3 e3 _ => ev_c) fun p H3 n3 e3 h3 => ?_
    have np : H p = none := fresh_back e n3
    refine q_forE (ev_var rfl) (hL.ex (e.trans e3)).sq (fun k σ' H' => ∃ (y1 y3 : Option V), σ' = [some (.ref a), y1, some (.ref p), y3] ∧ Ex H H' ∧ H' p = some (.lst (nl (back L k))))
      (fun H4 e4 => ⟨_, _, rfl, (e.trans e3).trans e4, ?_⟩) (fun k σ' H' _ ⟨_, _, _, e, _⟩ => (hL.ex e).sq) (fun k x σ' H' H4 hx hP e4 _ => ?_) (fun σ' H' hP => ?_)
    · rw [e4 _ _ h3, back_zero]
      unfold nl
      rw [List.map_replicate]
      rfl
    · obtain ⟨y1, y3, rfl, e5, h5⟩ := hP
      obtain ⟨y, hy, rfl, hk⟩ := nl_inv hx
      have ey : y = st L k := by
        rw [st_get hk] at hy
        exact (Option.some.inj hy).symm
      subst ey
      refine s_setL (j := st L k) (e4 _ _ h5) (ev_var rfl) (ev_var rfl) (ev_var rfl) (by rw [nl_len, back_len]; exact st_lt hL.2.1 hk) fun H6 e6 => ?_
      refine ⟨_, _, rfl, Ex.mut ((e5.trans e4).trans e6) np, ?_⟩
      rw [upd_same, nl_set, back_step hL.2.1 nd hk]
    · obtain ⟨y1, y3, rfl, e5, h5⟩ := hP
      rw [nl_len, back_all hL.2.1 nd] at h5
      exact ret_N q e5 np h5 rfl

abbrev s_waits_of : Stmt := topS 21
abbrev N_waits_of : List Str := ["leading", "place", "many", "there", "waiting", "at", "found", "count"]
theorem sc_waits_of : FnScope N_waits_of ["leading"] (defScope s_waits_of) := ⟨rfl, rfl, rfl, by decide +kernel, rfl, by decide +kernel, by decide +kernel⟩
def spWaitsOf : Sp := fun vs H Q _ => ∃ (a : Addr) (L : List Nat), vs = [.ref a] ∧ IsLd H a L ∧ ∀ F : List Nat, F.length = L.length → (∀ x, x < L.length → IsWait L x (st F x)) → RetL (nl F) H Q
theorem ok_waits_of {f : Addr} {fd : FuncData} (F : Fun K "waits_of" "waits_of" s_waits_of f fd) (B : Bl mg) : FnOk P w K mg base CX0 1 f fd ["leading"] spWaitsOf := by
  refine F.ok sc_waits_of (fun vs H Q E h => ?_) (fun cdv A outer s H vs Q E hr h => ?_)
  · obtain ⟨a, L, rfl, _⟩ := h
    rfl
  · obtain ⟨a, L, rfl, hL, q⟩ := h
    refine ⟨_, (pss_cons (ps_setLc (i := 2) (own := [("place", 1)]) (g := gName 1) (tt := tYes) rfl sc_waits_of.nd rfl rfl (sw_true rfl rfl rfl (by decide +kernel)) (pi_list (pv 0)) (blkOk_by (N := N_waits_of) (sc := defScope s_waits_of) (by decide +kernel)) (fun _ _ _ _ _ => (pg_name (i := 1) sc_waits_of.nd rfl (Or.inl rfl))) (fun _ _ _ _ _ => pts_nil) (fun _ _ _ _ _ => pe_int))
    (pss_cons (ps_for PassesOwn.never rfl (pi_list (pv 0)) (pg_name (i := 3) sc_waits_of.nd rfl (Or.inl rfl))
    (pss_one (ps_asg (pe_op op_add (pe_ix (ix_listK (K := K) rfl) (pv 2) (pv 3) (fun _ _ => rfl)) pe_int) (pg_sub (pv 2) (pv 3) set_list))))
    (pss_cons (ps_setLc (i := 4) (own := [("place", 1), ("count", 7)]) (g := gTup K 2 (gCons (gName 1) (gCons (gName 7) gNil))) (tt := _) rfl sc_waits_of.nd rfl rfl (sw_true rfl rfl rfl (by decide +kernel)) (pi_enum (by rfl) B.enumerate_ (pa_cons (pv 2) pa_nil)) (blkOk_by (N := N_waits_of) (sc := defScope s_waits_of) (by decide +kernel)) (fun _ _ _ _ _ => (pg_tup (by rfl) (pgs_cons (pg_name (i := 1) sc_waits_of.nd rfl (Or.inl rfl)) (pgs_cons (pg_name (i := 7) sc_waits_of.nd rfl (Or.inl rfl)) pgs_nil)))) (fun _ _ _ _ _ => (pts_one (pt_cmpR op_eq (pv 7) pe_int (nomark _)))) (fun _ _ _ _ _ => (pv 1)))
    (pss_cons (ps_set (i := 5) sc_waits_of.nd rfl (Or.inl rfl) pe_int)
    (pss_cons (ps_while PassesOwn.never (pt_cmpR op_lt (pv 5) (pe_callB (call_lenK (K := K) rfl) (by rfl) B.len_ bo_len (pa_cons (pv 4) pa_nil)) (nomark _))
    (pss_cons (ps_set (i := 3) sc_waits_of.nd rfl (Or.inl rfl) (pe_ix (ix_listK (K := K) rfl) (pv 0) (pe_ix (ix_listK (K := K) rfl) (pv 4) (pv 5) (fun _ _ => rfl)) (fun _ _ => rfl)))
    (pss_cons (ps_asg (pe_op op_sub (pe_ix (ix_listK (K := K) rfl) (pv 2) (pv 3) (fun _ _ => rfl)) pe_int) (pg_sub (pv 2) (pv 3) set_list))
    (pss_cut (ps_if (pt_cmpR op_eq (pe_ix (ix_listK (K := K) rfl) (pv 2) (pv 3) (fun _ _ => rfl)) pe_int (nomark _))
    (pss_one (ps_expr (pe_bm PySem.F.plainAttrs_list PySem.F.slot_list_append PySem.F.type_list_append mt_append (pv 4) (pa_cons (pv 3) pa_nil))))
    pss_nil)
    (pss_one (ps_set (i := 5) sc_waits_of.nd rfl (Or.inl rfl) (pe_op op_add (pv 5) pe_int)))))))
    (pss_cons (ps_setLc (i := 6) (own := [("place", 1)]) (g := gName 1) (tt := tYes) rfl sc_waits_of.nd rfl rfl (sw_true rfl rfl rfl (by decide +kernel)) (pi_list (pv 0)) (blkOk_by (N := N_waits_of) (sc := defScope s_waits_of) (by decide +kernel)) (fun _ _ _ _ _ => (pg_name (i := 1) sc_waits_of.nd rfl (Or.inl rfl))) (fun _ _ _ _ _ => pts_nil) (fun _ _ _ _ _ => pe_int))
    (pss_cons (ps_for PassesOwn.never rfl (pi_reversed (by rfl) B.reversed_ (pa_cons (pv 4) pa_nil)) (pg_name (i := 1) sc_waits_of.nd rfl (Or.inl rfl))
    (pss_one (ps_asg (pe_op op_add (pe_ix (ix_listK (K := K) rfl) (pv 6) (pe_ix (ix_listK (K := K) rfl) (pv 0) (pv 1) (fun _ _ => rfl)) (fun _ _ => rfl)) pe_int) (pg_sub (pv 6) (pv 1) set_list))))
    (pss_one (ps_ret (pv 6)))))))))), ?_⟩
    have h63 := hL.2.2
    have hLd := hL.2.1
    -- many = [0 for place in leading]
    refine q_asgL (el_mapNc (ev_var rfl) hL.sq (by omega) fun x H1 e1 _ => ev_c) fun m H1 nm e1 hm => ?_
    -- for there in leading: many[there] = many[there] + 1
    refine q_forLn (ev_var rfl) (hL.ex e1).sq (fun i σ' H' => ∃ (y3 : Option V), σ' = [some (.ref a), none, some (.ref m), y3, none, none, none, none] ∧ Ex H H' ∧ H' m = some (.lst (nl (ct L i))))
      (fun H2 e2 => ⟨_, rfl, e1.trans e2, by
        rw [e2 _ _ hm, ct_zero]
        unfold nl
        rw [List.map_replicate]
        rfl⟩) (fun i σ' H' _ ⟨_, _, e, _⟩ => (hL.ex e).sq) (fun i x σ' H' hx hP => ?_) (fun σ' H' hP => ?_)
    · obtain ⟨y3, rfl, eH, hm'⟩ := hP
      obtain ⟨y, hy, rfl, hi⟩ := nl_inv hx
      have ey : y = st L i := by
        rw [st_get hi] at hy
        exact (Option.some.inj hy).symm
      subst ey
      have hs := st_lt hLd hi
      refine s_setL (j := st L i) hm' (ev_op (ev_op (ev_var rfl) (ev_var rfl) (rv_ixN (sq_of hm') (by rw [ct_len]; exact hs))) ev_c (rv_dec (vadd _ 1))) (ev_var rfl) (ev_var rfl) (by rw [nl_len, ct_len]; exact hs) fun H3 e3 => ?_
      refine ⟨_, rfl, Ex.mut (eH.trans e3) nm, ?_⟩
      rw [upd_same, nl_set, ct_st hs, ct_step hLd hi]
    · obtain ⟨y3, rfl, eH, hm'⟩ := hP
      rw [nl_len, ct_all] at hm'
      -- waiting = [place for place, count in enumerate(many) if count == 0]
      have hw := el_lcE (K := K) (i := 1) (j := 7) (σ := [some (.ref a), none, some (.ref m), y3, none, none, none, none]) (t := tTest (tOp rEq (tVar 7) (tC (.int 0)))) (te := tVar 1) (tl := tVar 2) (by decide) (fun k => decide (cnt L [] k = 0)) (fun k => .int (k : Int)) (ev_var rfl) (sq_of hm') (by rw [nl_len, cl_len]; omega) (fun k x H3 e3 hx => by
        obtain ⟨y, hy, rfl, hk⟩ := nl_inv hx
        rw [cl_len] at hk
        have ey : y = cnt L [] k := by
          rw [st_get (by rw [cl_len]; exact hk), cl_st hk] at hy
          exact (Option.some.inj hy).symm
        subst ey
        exact et_test (ev_op (ev_var rfl) ev_c (rv_eqB (decide_eq_decide.mpr ⟨fun h => by omega, fun h => by omega⟩)))) (fun k x H3 e3 hx _ => ev_var rfl)
      rw [nl_len, cl_len] at hw
      refine q_asgL hw fun wy H3 nw e3 hwy => ?_
      have hwy : H3 wy = some (.lst (nl (que0 L))) := hwy
      have nw0 : H wy = none := fresh_back eH nw
      have hne : wy ≠ m := (ne_of_none hm' nw).symm
      refine q_asg ev_c fun H4 e4 => ?_
      -- the while
      refine q_while (fun t σ' H' => ∃ (k : Nat) (W : List Nat) (y3 : Option V), t = L.length - k ∧ σ' = [some (.ref a), none, some (.ref m), y3, some (.ref wy), some (.int (k : Int)), none, none] ∧ Que L W k ∧ Ex H H' ∧ H' m = some (.lst (nl (cl L (W.take k)))) ∧ H' wy = some (.lst (nl W))) (L.length - 0)
        ⟨0, que0 L, _, rfl, rfl, que_start L, (eH.trans e3).trans e4, e4 _ _ (e3 _ _ hm'), e4 _ _ hwy⟩ fun t σ' H' hW => ?_
      obtain ⟨k, W, y3, rfl, rfl, hQ, eH', hm5, hw5⟩ := hW
      have hWl : W.length ≤ L.length := nodup_len hQ.nd hQ.lt
      refine ⟨_, et_test (ev_op (ev_var rfl) (ev_lenNl (ev_var rfl) (sq_of hw5)) rv_I0), fun hb H5 e5 => ?_, fun hb H5 e5 => ?_⟩
      · have hk : k < W.length := by
          have := of_decide_eq_true hb
          omega
        obtain ⟨y, hy⟩ : ∃ y, W[k]? = some y := ⟨W[k], List.getElem?_eq_getElem hk⟩
        have eyk : st W k = y := by
          rw [st_get hk] at hy
          exact Option.some.inj hy
        have hyl := hQ.lt y (List.mem_of_getElem? hy)
        have hyn := nodup_take hQ.nd hy
        have hsl := st_lt hLd hyl
        have hpos : 0 < cnt L (W.take k) (st L y) := cnt_pos hyl hyn rfl
        refine ⟨_, fun σ2 H2 h => h, ?_⟩
        have hm6 := e5 _ _ hm5
        have hw6 := e5 _ _ hw5
        refine q_asg (ev_op (ev_var rfl) (ev_op (ev_var rfl) (ev_var rfl) (rv_ixN (sq_of hw6) hk)) (by rw [eyk]; exact rv_ixN (hL.ex (eH'.trans e5)).sq hyl)) fun H6 e6 => ?_
        have hm7 := e6 _ _ hm6
        refine q_setL (j := st L y) hm7 (ev_op (ev_op (ev_var rfl) (ev_var rfl) (rv_ixN (sq_of hm7) (by rw [cl_len]; exact hsl))) ev_c (rv_dec (w := .int ((cnt L (W.take k) (st L y) - 1 : Nat) : Int)) (by rw [cl_st hsl]; congr 1; omega))) (ev_var rfl) (ev_var rfl) (by rw [nl_len, cl_len]; exact hsl) fun H7 e7 => ?_
        rw [nl_set, cl_step hLd hyl hyn]
        have eH7 : Ex H (upd H7 m (.lst (nl (cl L (W.take k ++ [y]))))) := Ex.mut (((eH'.trans e5).trans e6).trans e7) nm
        have hw7 : upd H7 m (.lst (nl (cl L (W.take k ++ [y])))) wy = some (.lst (nl W)) := by
          rw [upd_ne hne]
          exact e7 _ _ (e6 _ _ hw6)
        have hstep := que_step hLd hQ hy
        refine q_cut (M := fun σ' H' => ∃ (W' : List Nat), σ' = [some (.ref a), none, some (.ref m), some (.int (st L y : Int)), some (.ref wy), some (.int (k : Int)), none, none] ∧ Que L W' (k + 1) ∧ W'.take (k + 1) = W.take k ++ [y] ∧ Ex H H' ∧ H' m = some (.lst (nl (cl L (W'.take (k + 1))))) ∧ H' wy = some (.lst (nl W'))) ?_ fun σ' H' hM => ?_
        · refine s_when (et_test (ev_op (ev_op (ev_var rfl) (ev_var rfl) (rv_ixN (sq_of upd_same) (by rw [cl_len]; exact hsl))) ev_c (rv_eqB rfl))) (fun hb2 H8 e8 => ?_) (fun hb2 H8 e8 => ?_)
          · have hz : cnt L (W.take k ++ [y]) (st L y) = 0 := by
              have := of_decide_eq_true hb2
              rw [cl_st hsl] at this
              omega
            refine s_app (e8 _ _ hw7) (ev_var rfl) (ev_var rfl) (by rw [nl_len]; omega) fun H9 e9 => ?_
            have ht : (W ++ [st L y]).take (k + 1) = W.take k ++ [y] := by
              rw [List.take_append_of_le_length (by omega), take_snoc hy]
            refine ⟨W ++ [st L y], rfl, hstep.1 hz, ht, Ex.mut ((eH7.trans e8).trans e9) nw0, ?_, ?_⟩
            · rw [upd_ne hne.symm, ht]
              exact e9 _ _ (e8 _ _ upd_same)
            · rw [upd_same]
              unfold nl
              rw [List.map_append]
              rfl
          · have hz : cnt L (W.take k ++ [y]) (st L y) ≠ 0 := by
              have := of_decide_eq_false hb2
              rw [cl_st hsl] at this
              omega
            exact ⟨W, rfl, hstep.2 hz, take_snoc hy, eH7.trans e8, by rw [take_snoc hy]; exact e8 _ _ upd_same, e8 _ _ hw7⟩
        · obtain ⟨W', rfl, hQ', ht, eH8, hm8, hw8⟩ := hM
          refine s_asg (ev_op (ev_var rfl) ev_c (rv_dec (vadd k 1))) fun H9 e9 => ?_
          exact ⟨L.length - (k + 1), by omega, k + 1, W', _, rfl, rfl, hQ', eH8.trans e9, e9 _ _ hm8, e9 _ _ hw8⟩
      · have hk : k = W.length := by
          have := of_decide_eq_false hb
          have := hQ.le
          omega
        subst hk
        have eH5 := eH'.trans e5
        -- found = [0 for place in leading]
        refine q_asgL (el_mapNc (ev_var rfl) (hL.ex eH5).sq (by omega) fun x H6 e6 _ => ev_c) fun g H6 ng e6 hg => ?_
        have ng0 : H g = none := fresh_back eH5 ng
        have hw6 := e6 _ _ (e5 _ _ hw5)
        have hgw : wy ≠ g := ne_of_none (e5 _ _ hw5) ng
        refine q_forRev (ev_var rfl) (sq_of hw6) (fun i σ' H' => ∃ (G : List Nat) (y1 : Option V), σ' = [some (.ref a), y1, some (.ref m), y3, some (.ref wy), some (.int (W.length : Int)), some (.ref g), none] ∧ Ex H H' ∧ H' wy = some (.lst (nl W)) ∧ H' g = some (.lst (nl G)) ∧ Told L W G (W.length - i))
          (fun H7 e7 => ⟨_, _, rfl, (eH5.trans e6).trans e7, e7 _ _ hw6, by
            rw [e7 _ _ hg]
            rw [show nl (List.replicate L.length 0) = List.replicate L.length (V.int 0) by
              unfold nl
              rw [List.map_replicate]
              rfl], told_start L W⟩) (fun i σ' H' _ ⟨_, _, _, _, h, _⟩ => sq_of h) (fun i x σ' H' hi hx hP => ?_) (fun σ' H' hP => ?_)
        · obtain ⟨G, y1, rfl, eH7, hw7, hg7, hT⟩ := hP
          rw [nl_len] at hi hx
          obtain ⟨y, hy, rfl, _⟩ := nl_inv hx
          have hyl := hQ.lt y (List.mem_of_getElem? hy)
          have hsl := st_lt hLd hyl
          have hGl := hT.1
          refine s_setL (j := y) hg7 (ev_op (ev_op (ev_var rfl) (ev_op (ev_var rfl) (ev_var rfl) (rv_ixN (hL.ex eH7).sq hyl)) (rv_ixN (sq_of hg7) (by omega))) ev_c (rv_dec (vadd _ 1))) (ev_var rfl) (ev_var rfl) (by rw [nl_len]; omega) fun H8 e8 => ?_
          refine ⟨G.set y (st G (st L y) + 1), _, rfl, Ex.mut (eH7.trans e8) ng0, by rw [upd_ne hgw]; exact e8 _ _ hw7, by rw [upd_same, nl_set], ?_⟩
          rw [show W.length - (i + 1) = W.length - 1 - i by omega]
          refine told_step hLd hQ ?_ hy
          rw [show W.length - 1 - i + 1 = W.length - i by omega]
          exact hT
        · obtain ⟨G, y1, rfl, eH7, hw7, hg7, hT⟩ := hP
          rw [nl_len, Nat.sub_self] at hT
          exact ret_N (q G hT.1 fun x hx => told_end hLd hQ hT hx) eH7 ng0 hg7 rfl

abbrev s_rings_of : Stmt := topS 22
abbrev N_rings_of : List Str := ["leading", "waits", "seen", "found", "first", "ring", "place"]
theorem sc_rings_of : FnScope N_rings_of ["leading"] (defScope s_rings_of) := ⟨rfl, rfl, rfl, by decide +kernel, rfl, by decide +kernel, by decide +kernel⟩
theorem sl_waits_of {H : Hp} {a : Addr} {L : List Nat} (h : IsLd H a L) : SpL spWaitsOf [.ref a] H (nl (wtl L)) := fun _ e _ q _ => ⟨a, L, rfl, h.ex e, fun F h1 h2 => by rw [wtl_uniq h.2.1 h1 h2]; exact q⟩
def spRingsOf : Sp := fun vs H Q _ => ∃ (a : Addr) (L : List Nat), vs = [.ref a] ∧ IsLd H a L ∧ RetLL (rgs L L.length) H Q
theorem ok_rings_of {f : Addr} {fd : FuncData} (F : Fun K "rings_of" "rings_of" s_rings_of f fd) (B : Bl mg) (D_waits_of : Dk P w K mg base CX0 1 "waits_of" ["leading"] spWaitsOf) : FnOk P w K mg base CX0 2 f fd ["leading"] spRingsOf := by
  refine F.ok sc_rings_of (fun vs H Q E h => ?_) (fun cdv A outer s H vs Q E hr h => ?_)
  · obtain ⟨a, L, rfl, _⟩ := h
    rfl
  · obtain ⟨a, L, rfl, hL, q⟩ := h
    have hu := hu_of hr
    refine ⟨_, (pss_cons (ps_set (i := 1) sc_rings_of.nd rfl (Or.inl rfl) (pe_callD D_waits_of (hr.mono (by decide)) (by rfl) pass0 (pa_cons (pv 0) pa_nil)))
    (pss_cons (ps_set (i := 2) sc_rings_of.nd rfl (Or.inl rfl) pe_dnewK)
    (pss_cons (ps_set (i := 3) sc_rings_of.nd rfl (Or.inl rfl) (pe_lst pa_nil))
    (pss_cons (ps_for PassesOwn.never rfl (pi_range1 (by rfl) B.range_ (pa_cons (pe_callB (call_lenK (K := K) rfl) (by rfl) B.len_ bo_len (pa_cons (pv 0) pa_nil)) pa_nil)) (pg_name (i := 4) sc_rings_of.nd rfl (Or.inl rfl))
    (pss_one (ps_if (PW.pt (pw_and (pt_cmpR op_eq (pe_ix (ix_listK (K := K) rfl) (pv 1) (pv 4) (fun _ _ => rfl)) pe_int (nomark _)) (pw_and1 (pt_cmp (pc_dnotin hu (pv 4) (pv 2))))))
    (pss_cons (ps_set (i := 5) sc_rings_of.nd rfl (Or.inl rfl) (pe_lst pa_nil))
    (pss_cons (ps_set (i := 6) sc_rings_of.nd rfl (Or.inl rfl) (pv 4))
    (pss_cons (ps_while PassesOwn.never (pt_cmp (pc_dnotin hu (pv 6) (pv 2)))
    (pss_cons (ps_dput hu (pv 2) (pv 6) pe_bl rfl)
    (pss_cons (ps_expr (pe_bm PySem.F.plainAttrs_list PySem.F.slot_list_append PySem.F.type_list_append mt_append (pv 5) (pa_cons (pv 6) pa_nil)))
    (pss_one (ps_set (i := 6) sc_rings_of.nd rfl (Or.inl rfl) (pe_ix (ix_listK (K := K) rfl) (pv 0) (pv 6) (fun _ _ => rfl)))))))
    (pss_one (ps_expr (pe_bm PySem.F.plainAttrs_list PySem.F.slot_list_append PySem.F.type_list_append mt_append (pv 3) (pa_cons (pv 5) pa_nil)))))))
    pss_nil)))
    (pss_one (ps_ret (pv 3))))))), ?_⟩
    have h63 := hL.2.2
    have hLd := hL.2.1
    refine q_asgL (el_callL (ea1 (ev_var rfl)) (sl_waits_of hL)) fun wa H1 nw e1 hw => ?_
    refine q_dnewK fun d H2 nd e2 hd => ?_
    refine q_asgL (el_lst ea_nil (Nat.zero_le _)) fun fn H3 nf e3 hf => ?_
    have e := (e1.trans e2).trans e3
    have nd0 : H d = none := fresh_back e1 nd
    have nf0 : H fn = none := fresh_back (e1.trans e2) nf
    refine q_forR1 (n := (L.length : Int)) (ea1 (ev_lenNl (ev_var rfl) (hL.ex e).sq)) (by omega)
      (fun k σ' H' => ∃ (ks : List Nat) (rs : List Addr) (y4 y5 y6 : Option V), σ' = [some (.ref a), some (.ref wa), some (.ref d), some (.ref fn), y4, y5, y6] ∧ Ex H H' ∧ H' wa = some (.lst (nl (wtl L))) ∧ DKs H' d ks ∧ ks.Nodup ∧ (∀ x, x ∈ ks ↔ x ∈ (rgs L k).flatten) ∧
        H' fn = some (.lst (rs.map V.ref)) ∧ AllAt H' rs (rgs L k) ∧ (∀ r ∈ rs, H r = none) ∧ (fn :: rs).Nodup ∧ wa ≠ fn ∧ wa ∉ rs)
      (fun H4 e4 => ⟨[], [], _, _, _, rfl, e.trans e4, e4 _ _ (e3 _ _ (e2 _ _ hw)), (hd.ex e3).ex e4, List.nodup_nil, fun x => Iff.rfl, e4 _ _ hf, .nil, fun r hr => (nomatch hr), List.nodup_cons.mpr ⟨List.not_mem_nil, List.nodup_nil⟩, ne_of_none (e2 _ _ hw) nf, List.not_mem_nil⟩) (fun k σ' H' hk hP => ?_) (fun σ' H' hP => ?_)
    · obtain ⟨ks, rs, y4, y5, y6, rfl, eH, hwa, hD, nk, hks, hfn, hel, hfr, hnd, hwf, hwr⟩ := hP
      have hkl : k < L.length := by omega
      have hR := rgs_ok hLd k (by omega)
      have hkslen := flat_nodup_len hLd (by omega) nk fun x hx => (hks x).mp hx
      have hrl : rs.length ≤ k := by
        rw [hel.len]
        exact rgs_len L k
      obtain ⟨kv0, hkv0⟩ := hD.some
      have hdf : d ≠ fn := ne_of hkv0 hfn (fun z => by cases z)
      have hdr : d ∉ rs := fun h => by
        obtain ⟨l, _, h2⟩ := hel.mem h
        rw [hkv0] at h2
        cases h2
      have hdw : d ≠ wa := ne_of hkv0 hwa (fun z => by cases z)
      refine s_when (et_and (et_test (ev_op (ev_op (ev_var rfl) (ev_var rfl) (rv_ixN (j := k) (sq_of hwa) (by rw [wtl_len]; exact hkl))) ev_c (rv_eqB rfl))) fun _ => et_B (ev_dnotinK (ev_var rfl) (ev_var rfl) hD rfl)) (fun hb H4 e4 => ?_) (fun hb H4 e4 => ?_)
      · rw [Bool.and_eq_true, decide_eq_true_eq, Bool.not_eq_true', decide_eq_false_iff_not, wtl_st hkl] at hb
        have hor : OnR L k := (wt_zero hLd hkl).mp (by omega)
        have hnk : k ∉ (rgs L k).flatten := fun h => hb.2 ((hks k).mpr h)
        have ho := per_orb hLd hkl
        -- ring = []; place = first
        refine q_asgL (el_lst ea_nil (Nat.zero_le _)) fun rg H5 nrg e5 hrg => ?_
        refine q_asg (ev_var rfl) fun H6 e6 => ?_
        have e46 := (e4.trans e5).trans e6
        have nrg0 : H rg = none := fresh_back (eH.trans e4) nrg
        have hrgd : rg ≠ d := (ne_of_none (e4 _ _ hkv0) nrg).symm
        have hrgf : rg ≠ fn := (ne_of_none (e4 _ _ hfn) nrg).symm
        have hrgw : rg ≠ wa := (ne_of_none (e4 _ _ hwa) nrg).symm
        have hrgr : rg ∉ rs := fun h => by
          obtain ⟨l, _, h2⟩ := hel.mem h
          rw [e4 _ _ h2] at nrg
          cases nrg
        refine q_while (fun t σ' H' => ∃ (j : Nat) (ks' : List Nat), t = L.length - j ∧ σ' = [some (.ref a), some (.ref wa), some (.ref d), some (.ref fn), some (.int (k : Int)), some (.ref rg), some (.int (it L j k : Int))] ∧ Ex H H' ∧ H' wa = some (.lst (nl (wtl L))) ∧ DKs H' d ks' ∧ ks'.Nodup ∧ (∀ x, x ∈ ks' ↔ x ∈ ks ∨ x ∈ path L k j) ∧
            H' fn = some (.lst (rs.map V.ref)) ∧ AllAt H' rs (rgs L k) ∧ H' rg = some (.lst (nl (path L k j))) ∧ ∀ x y, x < y → y < j → it L x k ≠ it L y k) (L.length - 0)
          ⟨0, ks, rfl, rfl, eH.trans e46, e46 _ _ hwa, hD.ex e46, nk, fun x => ⟨.inl, fun h => h.elim id fun h => by obtain ⟨_, hx, _⟩ := mem_path.mp h; omega⟩, e46 _ _ hfn, hel.ex e46, e6 _ _ hrg, fun _ y _ h => absurd h (Nat.not_lt_zero y)⟩ fun t σ' H' hW => ?_
        obtain ⟨j, ks', rfl, rfl, eH', hwa', hD', nk', hks', hfn', hel', hrg', hinj⟩ := hW
        have hjl : it L j k < L.length := it_lt hLd j hkl
        refine ⟨_, et_B (ev_dnotinK (ev_var rfl) (ev_var rfl) hD' rfl), fun hb2 H7 e7 => ?_, fun hb2 H7 e7 => ?_⟩
        · rw [Bool.not_eq_true', decide_eq_false_iff_not] at hb2
          have hinj2 : ∀ x y, x < y → y < j + 1 → it L x k ≠ it L y k := fun x y hxy hy e => by
            by_cases ey : y = j
            · subst ey
              exact hb2 ((hks' _).mpr (.inr (mem_path.mpr ⟨x, hxy, e.symm⟩)))
            · exact hinj x y hxy (by omega) e
          have hjn := inj_le hLd hkl hinj2
          have hks'len : ks'.length ≤ 2 * L.length := by
            have h1 := nodup_len nk' (n := L.length) fun x hx => ((hks' x).mp hx).elim (fun h => by
              obtain ⟨r, hr, hxr⟩ := List.mem_flatten.mp ((hks x).mp h)
              exact (hR.lt r hr x hxr).1) fun h => path_lt hLd hkl j h
            omega
          refine ⟨_, fun σ2 H2 h => h, ?_⟩
          refine q_dputK ev_c (ev_var rfl) (ev_var rfl) (hD'.ex e7) (by omega) fun H8 e8 o hD8 => ?_
          have e78 := e7.trans e8
          have eH8 : Ex H (L2.upd H8 d o) := Ex.mut (eH'.trans e78) nd0
          have hrg8 : L2.upd H8 d o rg = some (.lst (nl (path L k j))) := by
            rw [upd_ne hrgd]
            exact e78 _ _ hrg'
          refine q_app hrg8 (ev_var rfl) (ev_var rfl) (by rw [nl_len, path_len]; omega) fun H9 e9 => ?_
          have eH9 : Ex H (L2.upd H9 rg (.lst (nl (path L k j) ++ [V.int (it L j k : Int)]))) := Ex.mut (eH8.trans e9) nrg0
          refine s_asg (ev_op (ev_var rfl) (ev_var rfl) (rv_ixN (hL.ex eH9).sq hjl)) fun H10 e10 => ?_
          refine ⟨_, ?_, j + 1, _, rfl, by rw [it_succ]; rfl, eH9.trans e10, ?_, ((hD8.ex e9).upd hrgd.symm).ex e10, nodup_addK nk', fun x => ?_, ?_, ?_, ?_, hinj2⟩
          · omega
          · refine e10 _ _ ?_
            rw [upd_ne hrgw.symm]
            refine e9 _ _ ?_
            rw [upd_ne hdw.symm]
            exact e78 _ _ hwa'
          · rw [mem_addK, hks' x, path_succ, List.mem_append, List.mem_singleton, or_assoc]
          · refine e10 _ _ ?_
            rw [upd_ne hrgf.symm]
            refine e9 _ _ ?_
            rw [upd_ne hdf.symm]
            exact e78 _ _ hfn'
          · exact (((hel'.ex e78).upd hdr).ex e9 |>.upd hrgr).ex e10
          · rw [e10 _ _ upd_same, path_succ]
            unfold nl
            rw [List.map_append]
            rfl
        · rw [Bool.not_eq_false', decide_eq_true_eq] at hb2
          have hin : it L j k ∈ path L k j := ((hks' _).mp hb2).elim (fun h => absurd ((hks _).mp h) (rgs_new hLd hR hkl hor hnk j)) id
          obtain ⟨z, hz, ez⟩ := mem_path.mp hin
          have hoj : Orb L k j := ⟨by omega, hinj, z, hz, ez⟩
          have hjp := ho.uniq hoj
          -- found.append(ring)
          refine s_app (e7 _ _ hfn') (ev_var rfl) (ev_var rfl) (by rw [List.length_map]; omega) fun H8 e8 => ?_
          have e78 := e7.trans e8
          have hfnr : fn ∉ rs := (List.nodup_cons.mp hnd).1
          have hring : ringAt L k = path L k j := by
            unfold ringAt
            rw [hjp]
          refine ⟨ks', rs ++ [rg], _, _, _, rfl, Ex.mut (eH'.trans e78) nf0, ?_, (hD'.ex e78).upd hdf, nk', fun x => ?_, ?_, ?_, fun r hr => ?_, ?_, hwf, ?_⟩
          · rw [upd_ne hwf]
            exact e78 _ _ hwa'
          · rw [hks' x, hks x, rgs_yes hor hnk, List.flatten_append, List.mem_append, List.flatten_singleton, hring]
          · rw [upd_same, List.map_append]
            rfl
          · rw [rgs_yes hor hnk]
            refine Paired.snoc ((hel'.ex e78).upd hfnr) ?_
            rw [upd_ne hrgf, hring]
            exact e78 _ _ hrg'
          · rcases List.mem_append.mp hr with hr | hr
            · exact hfr r hr
            · rw [List.mem_singleton.mp hr]
              exact nrg0
          · rw [← List.cons_append, List.nodup_append]
            exact ⟨hnd, List.nodup_cons.mpr ⟨List.not_mem_nil, List.nodup_nil⟩, fun x hx y hy e => by
              rw [List.mem_singleton] at hy
              subst hy
              subst e
              rcases List.mem_cons.mp hx with h | h
              · exact hrgf h
              · exact hrgr h⟩
          · rw [List.mem_append, List.mem_singleton]
            exact fun h => h.elim hwr fun h => hrgw h.symm
      · have hno : ¬ (OnR L k ∧ k ∉ (rgs L k).flatten) := fun ⟨h1, h2⟩ => by
          rw [wtl_st hkl, (wt_zero hLd hkl).mpr h1, decide_eq_true (show ((0 : Nat) : Int) = 0 from rfl), decide_eq_false fun h => h2 ((hks k).mp h)] at hb
          cases hb
        rw [show rgs L (k + 1) = rgs L k from rgs_no hno]
        exact ⟨ks, rs, _, _, _, rfl, eH.trans e4, e4 _ _ hwa, hD.ex e4, nk, hks, e4 _ _ hfn, hel.ex e4, hfr, hnd, hwf, hwr⟩
    · obtain ⟨ks, rs, y4, y5, y6, rfl, eH, hwa, hD, nk, hks, hfn, hel, hfr, hnd, hwf, hwr⟩ := hP
      rw [Int.toNat_natCast] at hel
      exact ⟨_, rfl, q fn rs H' eH ⟨nf0, hfr, hfn, hel, hnd⟩⟩

abbrev s_rings : Stmt := topS 23
abbrev N_rings : List Str := ["leading"]
theorem sc_rings : FnScope N_rings ["leading"] (defScope s_rings) := ⟨rfl, rfl, rfl, by decide +kernel, rfl, by decide +kernel, by decide +kernel⟩
theorem ok_rings {f : Addr} {fd : FuncData} (F : Fun K "rings" "rings" s_rings f fd) (D_asked_leading : Dk P w K mg base CX0 2 "asked_leading" ["leading"] spAskedL) (D_rings_of : Dk P w K mg base CX0 2 "rings_of" ["leading"] spRingsOf) : FnOk P w K mg base CX0 3 f fd ["leading"] spRingsOf := by
  refine F.ok sc_rings (fun vs H Q E h => ?_) (fun cdv A outer s H vs Q E hr h => ?_)
  · obtain ⟨a, L, rfl, _⟩ := h
    rfl
  · obtain ⟨a, L, rfl, hL, q⟩ := h
    refine ⟨_, (pss_cons (ps_expr (pe_callD D_asked_leading (hr.mono (by decide)) (by rfl) pass0 (pa_cons (pv 0) pa_nil)))
    (pss_one (ps_ret (pe_callD D_rings_of (hr.mono (by decide)) (by rfl) pass0 (pa_cons (pv 0) pa_nil))))), ?_⟩
    refine q_drop (ev_callV (ea1 (ev_var rfl)) (sv_asked_leading hL)) fun H1 e1 => ?_
    exact ret_X (ea1 (ev_var rfl)) fun H2 e2 => ⟨a, L, rfl, hL.ex (e1.trans e2), q.mv (e1.trans e2)⟩

abbrev s_waits : Stmt := topS 24
abbrev N_waits : List Str := ["leading"]
theorem sc_waits : FnScope N_waits ["leading"] (defScope s_waits) := ⟨rfl, rfl, rfl, by decide +kernel, rfl, by decide +kernel, by decide +kernel⟩
theorem ok_waits {f : Addr} {fd : FuncData} (F : Fun K "waits" "waits" s_waits f fd) (D_asked_leading : Dk P w K mg base CX0 2 "asked_leading" ["leading"] spAskedL) (D_waits_of : Dk P w K mg base CX0 1 "waits_of" ["leading"] spWaitsOf) : FnOk P w K mg base CX0 3 f fd ["leading"] spWaitsOf := by
  refine F.ok sc_waits (fun vs H Q E h => ?_) (fun cdv A outer s H vs Q E hr h => ?_)
  · obtain ⟨a, L, rfl, _⟩ := h
    rfl
  · obtain ⟨a, L, rfl, hL, q⟩ := h
    refine ⟨_, (pss_cons (ps_expr (pe_callD D_asked_leading (hr.mono (by decide)) (by rfl) pass0 (pa_cons (pv 0) pa_nil)))
    (pss_one (ps_ret (pe_callD D_waits_of (hr.mono (by decide)) (by rfl) pass0 (pa_cons (pv 0) pa_nil))))), ?_⟩
    refine q_drop (ev_callV (ea1 (ev_var rfl)) (sv_asked_leading hL)) fun H1 e1 => ?_
    exact ret_L (q (wtl L) (wtl_len L) fun x hx => by rw [wtl_st hx]; exact wt_is hL.2.1 hx) e1 (el_callL (ea1 (ev_var rfl)) (sl_waits_of (hL.ex e1)))

abbrev s_common : Stmt := topS 25
abbrev N_common : List Str := ["one", "other"]
theorem sc_common : FnScope N_common ["one", "other"] (defScope s_common) := ⟨rfl, rfl, rfl, by decide +kernel, rfl, by decide +kernel, by decide +kernel⟩
def spCommon : Sp := fun vs H Q _ => ∃ a b : Nat, vs = [.int (a : Int), .int (b : Int)] ∧ RetV (.int (Nat.gcd a b : Int)) H Q
theorem sv_common {H : Hp} {a b : Nat} : SpV spCommon [.int (a : Int), .int (b : Int)] H (.int (Nat.gcd a b : Int)) := fun _ _ _ q _ => ⟨a, b, rfl, q⟩
theorem ok_common {f : Addr} {fd : FuncData} (F : Fun K "common" "common" s_common f fd) : FnOk P w K mg base CX0 1 f fd ["one", "other"] spCommon := by
  refine F.ok sc_common (fun vs H Q E h => ?_) (fun cdv A outer s H vs Q E hr h => ?_)
  · obtain ⟨a, b, rfl, _⟩ := h
    rfl
  · obtain ⟨a, b, rfl, q⟩ := h
    refine ⟨_, (pss_cons (ps_while PassesOwn.never (pt_cmpR op_gt (pv 1) pe_int (nomark _))
    (pss_one (ps_par (i := 0) (j := 1) (by rfl) sc_common.nd rfl rfl (by decide) rfl rfl (pa_cons (pv 1) (pa_cons (pe_op op_modN (pv 0) (pv 1)) pa_nil)) (by rfl))))
    (pss_one (ps_ret (pv 0)))), ?_⟩
    refine q_while (fun t σ' H' => ∃ (x : Nat), σ' = [some (.int (x : Int)), some (.int (t : Int))] ∧ Nat.gcd x t = Nat.gcd a b ∧ Ex H H') b ⟨a, rfl, rfl, Ex.refl H⟩ fun t σ' H' hW => ?_
    obtain ⟨x, rfl, hg, eH⟩ := hW
    refine ⟨_, et_test (ev_op (ev_var rfl) ev_c rv_I0), fun hb H1 e1 => ?_, fun hb H1 e1 => ?_⟩
    · have hb := of_decide_eq_true hb
      refine ⟨_, fun σ2 H2 h => h, ?_⟩
      refine s_par (ea2 (ev_var rfl) (ev_op (ev_var rfl) (ev_var rfl) (rv_IW (by omega) (vmod x t)))) fun H2 e2 => ?_
      refine ⟨x % t, Nat.mod_lt x (by omega), t, rfl, ?_, (eH.trans e1).trans e2⟩
      rw [Nat.gcd_comm, ← hg, Nat.gcd_comm x t, ← Nat.gcd_rec]
    · have hb := of_decide_eq_false hb
      have ht : t = 0 := by omega
      subst ht
      rw [Nat.gcd_zero_right] at hg
      subst hg
      exact ret_V q (eH.trans e1) (ev_var rfl)

abbrev s_settled : Stmt := topS 26
abbrev N_settled : List Str := ["leading", "turns", "ring"]
theorem sc_settled : FnScope N_settled ["leading"] (defScope s_settled) := ⟨rfl, rfl, rfl, by decide +kernel, rfl, by decide +kernel, by decide +kernel⟩
def spSettled : Sp := fun vs H Q _ => ∃ (a : Addr) (L : List Nat), vs = [.ref a] ∧ IsLd H a L ∧ ∀ p H2, H p = none → Ex H H2 → H2 p = some (.tup [.int (mx 0 ((wtl L).map fun (x : Nat) => (x : Int))), .int (turnsOf L : Int)]) → Q (.ref p) H2
theorem turns_step {t m : Nat} (ht : 0 < t) (hm : 0 < m) : 0 < lc t m := by
  unfold lc
  have h1 : 0 < Nat.gcd t m := Nat.gcd_pos_of_pos_right t hm
  have h2 : Nat.gcd t m ≤ t := Nat.gcd_le_left m ht
  exact Nat.mul_pos (Nat.div_pos h2 h1) hm
theorem ok_settled {f : Addr} {fd : FuncData} (F : Fun K "settled" "settled" s_settled f fd) (B : Bl mg) (D_asked_leading : Dk P w K mg base CX0 2 "asked_leading" ["leading"] spAskedL) (D_rings_of : Dk P w K mg base CX0 2 "rings_of" ["leading"] spRingsOf)
    (D_waits_of : Dk P w K mg base CX0 1 "waits_of" ["leading"] spWaitsOf) (D_common : Dk P w K mg base CX0 1 "common" ["one", "other"] spCommon) : FnOk P w K mg base CX0 3 f fd ["leading"] spSettled := by
  refine F.ok sc_settled (fun vs H Q E h => ?_) (fun cdv A outer s H vs Q E hr h => ?_)
  · obtain ⟨a, L, rfl, _⟩ := h
    rfl
  · obtain ⟨a, L, rfl, hL, q⟩ := h
    have hu := hu_of hr
    refine ⟨_, (pss_cons (ps_expr (pe_callD D_asked_leading (hr.mono (by decide)) (by rfl) pass0 (pa_cons (pv 0) pa_nil)))
    (pss_cons (ps_set (i := 1) sc_settled.nd rfl (Or.inl rfl) pe_int)
    (pss_cons (ps_for PassesOwn.never rfl (pi_list (pe_callD D_rings_of (hr.mono (by decide)) (by rfl) pass0 (pa_cons (pv 0) pa_nil))) (pg_name (i := 2) sc_settled.nd rfl (Or.inl rfl))
    (pss_one (ps_set (i := 1) sc_settled.nd rfl (Or.inl rfl) (pe_op op_mul (pe_op op_fdivN (pv 1) (pe_callD D_common (hr.mono (by decide)) (by rfl) pass0 (pa_cons (pv 1) (pa_cons (pe_callB (call_lenK (K := K) rfl) (by rfl) B.len_ bo_len (pa_cons (pv 2) pa_nil)) pa_nil)))) (pe_callB (call_lenK (K := K) rfl) (by rfl) B.len_ bo_len (pa_cons (pv 2) pa_nil))))))
    (pss_one (ps_ret (pe_tup (pa_cons (pe_callBK (cr_maxDef (K := K) rfl rfl hu) (by rfl) B.max_ bo_max (pa_cons (pe_callD D_waits_of (hr.mono (by decide)) (by rfl) pass0 (pa_cons (pv 0) pa_nil)) pa_nil) (pk_cons pe_int pk_nil)) (pa_cons (pv 1) pa_nil)))))))), ?_⟩
    have h63 := hL.2.2
    have hLd := hL.2.1
    have hR := rgs_ok hLd L.length (Nat.le_refl _)
    refine q_drop (ev_callV (ea1 (ev_var rfl)) (sv_asked_leading hL)) fun H1 e1 => ?_
    refine q_asg ev_c fun H2 e2 => ?_
    have e := e1.trans e2
    refine q_forLL (Ls := rgs L L.length) (ea1 (ev_var rfl)) (fun H3 e3 R hR => ⟨a, L, rfl, hL.ex (e.trans e3), hR⟩) (fun G p rs i σ' H' => ∃ (y2 : Option V), σ' = [some (.ref a), some (.int (tf L i : Int)), y2] ∧ Ex G H' ∧ 0 < tf L i)
      (fun p rs G eG hN => ⟨_, rfl, Ex.refl G, Nat.one_pos⟩) (fun G p rs i σ' H' hN ⟨_, _, e, _⟩ => sq_of (e _ _ hN.top)) (fun G p rs i r l σ' H' eG hN hr hl hP => ?_) (fun G p rs σ' H' eG hN hP => ?_)
    · obtain ⟨y2, rfl, eH, hpos⟩ := hP
      have hs := tf_step hl
      generalize tf L i = t at hpos hs ⊢
      obtain ⟨l', hl1, hl2⟩ := hN.el.get hr
      rw [hl] at hl1
      obtain rfl := Option.some.inj hl1
      obtain ⟨p', h1, h2, h3, h4⟩ := hR.form l (List.mem_of_getElem? hl)
      have hlen : l.length = per L p' := by
        rw [h4]
        exact path_len _ _ _
      have hO := per_orb hLd h2
      have hlp := hO.pos
      have hll := hO.le hLd h2
      have hg : 0 < Nat.gcd t l.length := Nat.gcd_pos_of_pos_right t (by omega)
      have hg2 : Nat.gcd t l.length ≤ l.length := Nat.gcd_le_right t (by omega)
      refine s_asg (ev_op (ev_op (ev_var rfl) (ev_callV (ea2 (ev_var rfl) (ev_lenNl (ev_var rfl) (sq_of (eH _ _ hl2)))) sv_common) (rv_IW ⟨by omega, by rw [Int.natAbs_natCast]; omega⟩ (vdiv t (Nat.gcd t l.length)))) (ev_lenNl (ev_var rfl) (sq_of (eH _ _ hl2))) (rv_IW (.inr ⟨by omega, by omega⟩) (w := .int ((lc t l.length : Nat) : Int)) (by
        unfold lc
        rw [Int.natCast_mul]))) fun H3 e3 => ?_
      exact ⟨_, by rw [hs]; rfl, eH.trans e3, by rw [hs]; exact turns_step hpos (by omega)⟩
    · obtain ⟨y2, rfl, eH, hpos⟩ := hP
      rw [tf_all]
      have e' := (e.trans eG).trans eH
      have hw := el_callL (E := E0) (σ := [some (.ref a), some (.int (turnsOf L : Int)), y2]) (ea1 (ev_var (i := 0) rfl)) (sl_waits_of (hL.ex e'))
      rw [nl_il] at hw
      exact (eu_tup (ea2 (ev_maxDef (K := K) hw ev_c) (ev_var (i := 1) rfl)) (by show 2 ≤ 100000; decide)) H' (Ex.refl H') _ fun p H3 np e3 hp => q p H3 (fresh_back e' np) (e'.trans e3) hp

/-! ### what is refused -/
def spIsNumX (K : PySem.W.Frag) : Sp := fun vs H Q _ => ∃ (x : V) (lo hi : Int) (b : Bool), vs = [x, .int lo, .int hi] ∧ NumB K H x lo hi b ∧ RetV (.bl b) H Q
theorem sv_is_numberX {H : Hp} {x : V} {lo hi : Int} {b : Bool} (h : NumB K H x lo hi b) : SpV (spIsNumX K) [x, .int lo, .int hi] H (.bl b) := fun H1 e Q q E => ⟨x, lo, hi, b, rfl, h.ex e, q⟩
theorem ok_is_numberX {f : Addr} {fd : FuncData} (F : Fun K "is_number" "is_number" s_is_number f fd) (B : Bl mg) : FnOk P w K mg base CX0 1 f fd ["thing", "least", "most"] (spIsNumX K) := by
  refine F.ok sc_is_number (fun vs H Q E h => ?_) (fun cdv A outer s H vs Q E hr h => ?_)
  · obtain ⟨x, lo, hi, b, rfl, _⟩ := h
    rfl
  · obtain ⟨x, lo, hi, b, rfl, hb, q⟩ := h
    refine ⟨_, (pss_one (ps_ret (pe_and (pe_callB (call_isiK' (K := K) rfl) (by rfl) B.isinstance_ bo_isinstance (pa_cons (pv 0) (pa_cons (pe_bltn (v := .ty "int") (by rfl) B.int_ bo_int rfl) pa_nil))) (pe_and (pe_not (pe_callB (call_isiK' (K := K) rfl) (by rfl) B.isinstance_ bo_isinstance (pa_cons (pv 0) (pa_cons (pe_bltn (v := .ty "bool") (by rfl) B.bool_ bo_bool rfl) pa_nil)))) (pe_one (pe_chain op_le op_le (pv 1) (pv 0) (pv 2))))))), ?_⟩
    rcases hb with ⟨i, rfl, rfl⟩ | ⟨rfl, ⟨c, rfl⟩ | hn⟩
    · exact ret_V q (Ex.refl H) (ev_andV (a := true) (ev_isiInt (ev_var rfl)) fun _ => ev_andV (a := true) (ev_notF (ev_isiBool (ev_var rfl))) fun _ => ev_chain (ev_var rfl) (ev_var rfl) (ev_var rfl) rv_I0 rv_I0)
    · exact ret_V q (Ex.refl H) (ev_andV (a := true) (b := false) (ev_isiBI (ev_var rfl)) fun _ => ev_andV (a := false) (b := false) (ev_notV (ev_isiBB (ev_var rfl))) fun h => nomatch h)
    · exact ret_V q (Ex.refl H) (ev_andV (a := false) (b := false) (ev_isiNo (ev_var rfl) hn) fun h => nomatch h)
def spAskedLX (K : PySem.W.Frag) (c : Cs) : Sp := fun vs H _ E => ∃ x : V, vs = [x] ∧ BadL K H x ∧ Rai c.BadLeading H E
theorem ok_asked_leadingX {f : Addr} {fd : FuncData} (F : Fun K "asked_leading" "asked_leading" s_asked_leading f fd) (B : Bl mg) (C : Cl K mg c) (D_is_numberX : Dk P w K mg base CX0 1 "is_number" ["thing", "least", "most"] (spIsNumX K)) :
    FnOk P w K mg base (CX P w) 2 f fd ["leading"] (spAskedLX K c) := by
  refine F.okX sc_asked_leading (fun vs H Q E h => ?_) (fun cdv A outer s H vs Q E hr h => ?_)
  · obtain ⟨x, rfl, _⟩ := h
    rfl
  · obtain ⟨x, rfl, hb, q⟩ := h
    refine ⟨_, (pss_one (ps_if (PW.pt (pw_or (pt_not (pt_val (pe_callB (call_isiK' (K := K) rfl) (by rfl) B.isinstance_ bo_isinstance (pa_cons (pv 0) (pa_cons (pe_bltn (v := .ty "list") (by rfl) B.list_ bo_list rfl) pa_nil))))) (pw_or1 (pt_not (pt_val (pe_callB (cr_allK (K := K) rfl rfl) (by rfl) B.all_ bo_all (pa_cons (pe_lc (own := [("place", 1)]) (g := gName 1) (tt := tYes) rfl sc_asked_leading.nd (pi_list (pv 0)) (blkOk_by (N := N_asked_leading) (sc := defScope s_asked_leading) (by decide +kernel)) (fun _ _ _ _ _ => (pg_name (i := 1) sc_asked_leading.nd rfl (Or.inl rfl))) (fun _ _ _ _ _ => pts_nil) (fun _ _ _ _ _ => (pe_callD D_is_numberX (hr.mono (by decide)) (by rfl) pass0 (pa_cons (pv 1) (pa_cons pe_int (pa_cons (pe_op op_sub (pe_callB (call_lenK (K := K) rfl) (by rfl) B.len_ bo_len (pa_cons (pv 0) pa_nil)) pe_int) pa_nil)))))) pa_nil)))))))
    (pss_one (ps_raise rfl (takes_of rfl rfl rfl rfl) (pmk_x C.BadLeading (by rfl))))
    pss_nil)), ?_⟩
    refine s_when (b := true) ?_ (fun _ H1 e1 => q.go e1) (fun h => nomatch h)
    rcases hb with hb | ⟨p, xs, bs, rfl, hp, hz, hbs, hall⟩
    · exact et_or (a := true) (b := false) (et_notF (et_B (ev_isiNo (ev_var rfl) hb))) fun h => nomatch h
    · have h1 := ev_all (K := K) (el_mapB (K := K) (j := 1) (te := tCall (spIsNumX K) [] E0 (tCons (tVar 1) (tCons (tC (.int 0)) (tCons (tOp (rI0 fun i j => .int (i - j)) (tCB (rLen1 K) (tCons (tVar 0) tNil)) (tC (.int 1))) tNil)))) (σ := start N_asked_leading [.ref p]) (ev_var (i := 0) rfl) (sq_of hp) (by omega) (Paired.length hbs) fun i x H1 e1 hx => ev_callV (ea3 (ev_var rfl) ev_c (ev_op (ev_lenL (ev_var rfl) (sq_of (e1 _ _ hp))) ev_c rv_I0)) (sv_is_numberX ((numBs_get hbs hx).ex e1)))
      rw [hall] at h1
      exact et_or (a := false) (b := true) (et_notT (et_B (ev_isiList (ev_var rfl) (.inl hp)))) fun _ => et_notF (et_B h1)
def spAskedPX (K : PySem.W.Frag) (c : Cs) : Sp := fun vs H _ E => ∃ (a : Addr) (L : List Nat) (x : V), vs = [.ref a, x] ∧ IsLd H a L ∧ NumB K H x 0 ((L.length : Int) - 1) false ∧ Rai c.BadPlace H E
theorem ok_asked_placeX {f : Addr} {fd : FuncData} (F : Fun K "asked_place" "asked_place" s_asked_place f fd) (B : Bl mg) (C : Cl K mg c) (D_is_numberX : Dk P w K mg base CX0 1 "is_number" ["thing", "least", "most"] (spIsNumX K)) :
    FnOk P w K mg base (CX P w) 2 f fd ["leading", "place"] (spAskedPX K c) := by
  refine F.okX sc_asked_place (fun vs H Q E h => ?_) (fun cdv A outer s H vs Q E hr h => ?_)
  · obtain ⟨a, L, x, rfl, _⟩ := h
    rfl
  · obtain ⟨a, L, x, rfl, hL, hb, q⟩ := h
    refine ⟨_, (pss_one (ps_if (pt_not (pt_val (pe_callD D_is_numberX (hr.mono (by decide)) (by rfl) pass0 (pa_cons (pv 1) (pa_cons pe_int (pa_cons (pe_op op_sub (pe_callB (call_lenK (K := K) rfl) (by rfl) B.len_ bo_len (pa_cons (pv 0) pa_nil)) pe_int) pa_nil))))))
    (pss_one (ps_raise rfl (takes_of rfl rfl rfl rfl) (pmk_x C.BadPlace (by rfl))))
    pss_nil)), ?_⟩
    exact s_when (b := true) (et_notF (et_B (ev_callV (ea3 (ev_var rfl) ev_c (ev_op (ev_lenNl (ev_var rfl) hL.sq) ev_c rv_I0)) (sv_is_numberX hb)))) (fun _ H1 e1 => q.go e1) (fun h => nomatch h)
def spAskedSX (K : PySem.W.Frag) (c : Cs) : Sp := fun vs H _ E => ∃ x : V, vs = [x] ∧ BadS K H x ∧ Rai c.BadSteps H E
theorem ok_asked_stepsX {f : Addr} {fd : FuncData} (F : Fun K "asked_steps" "asked_steps" s_asked_steps f fd) (B : Bl mg) (C : Cl K mg c) : FnOk P w K mg base (CX P w) 1 f fd ["steps"] (spAskedSX K c) := by
  refine F.okX sc_asked_steps (fun vs H Q E h => ?_) (fun cdv A outer s H vs Q E hr h => ?_)
  · obtain ⟨x, rfl, _⟩ := h
    rfl
  · obtain ⟨x, rfl, hb, q⟩ := h
    refine ⟨_, (pss_one (ps_if (PW.pt (pw_or (pt_not (pt_val (pe_callB (call_isiK' (K := K) rfl) (by rfl) B.isinstance_ bo_isinstance (pa_cons (pv 0) (pa_cons (pe_bltn (v := .ty "int") (by rfl) B.int_ bo_int rfl) pa_nil))))) (pw_or (pt_val (pe_callB (call_isiK' (K := K) rfl) (by rfl) B.isinstance_ bo_isinstance (pa_cons (pv 0) (pa_cons (pe_bltn (v := .ty "bool") (by rfl) B.bool_ bo_bool rfl) pa_nil)))) (pw_or1 (pt_cmpR op_lt (pv 0) pe_int (nomark _))))))
    (pss_one (ps_raise rfl (takes_of rfl rfl rfl rfl) (pmk_x C.BadSteps (by rfl))))
    pss_nil)), ?_⟩
    refine s_when (b := true) ?_ (fun _ H1 e1 => q.go e1) (fun h => nomatch h)
    rcases hb with ⟨i, rfl, hi⟩ | ⟨b, rfl⟩ | hb
    · exact et_or (a := false) (b := true) (et_notT (et_B (ev_isiInt (ev_var rfl)))) fun _ => et_or (a := false) (b := true) (et_B (ev_isiBool (ev_var rfl))) fun _ => et_test (ev_op (ev_var rfl) ev_c (rv_dec (by rw [decide_eq_true hi])))
    · exact et_or (a := false) (b := true) (et_notT (et_B (ev_isiBI (ev_var rfl)))) fun _ => et_or (a := true) (b := false) (et_B (ev_isiBB (ev_var rfl))) fun h => nomatch h
    · exact et_or (a := true) (b := false) (et_notF (et_B (ev_isiNo (ev_var rfl) hb))) fun h => nomatch h
def spAskedBX (c : Cs) : Sp := fun vs H _ E => ∃ (a : Addr) (L : List Nat), vs = [.ref a] ∧ IsLd H a L ∧ ¬ L.Nodup ∧ Rai c.NotBack H E
theorem ok_asked_backX {f : Addr} {fd : FuncData} (F : Fun K "asked_back" "asked_back" s_asked_back f fd) (B : Bl mg) (C : Cl K mg c) : FnOk P w K mg base (CX P w) 1 f fd ["leading"] (spAskedBX c) := by
  refine F.okX sc_asked_back (fun vs H Q E h => ?_) (fun cdv A outer s H vs Q E hr h => ?_)
  · obtain ⟨a, L, rfl, _⟩ := h
    rfl
  · obtain ⟨a, L, rfl, hL, nd, q⟩ := h
    have h64 := hL.2.2
    refine ⟨_, (pss_one (ps_if (pt_cmpR op_ne (pe_lenSetDK (K := K) rfl (by rfl) B.len_ (by rfl) B.set_ (pv 0) rfl) (pe_callB (call_lenK (K := K) rfl) (by rfl) B.len_ bo_len (pa_cons (pv 0) pa_nil)) (nomark _))
    (pss_one (ps_raise rfl (takes_of rfl rfl rfl rfl) (pmk_x C.NotBack (by rfl))))
    pss_nil)), ?_⟩
    obtain ⟨n, hn, hs⟩ := ev_lenSetD (K := K) (σ := start N_asked_back [.ref a]) (ta := tVar 0) (ev_var (i := 0) rfl) hL.sq nd (by omega)
    exact s_when (b := true) (et_test (ev_op hs (ev_lenNl (ev_var rfl) hL.sq) (rv_neB (by rw [decide_eq_false (by omega)]; rfl)))) (fun _ H1 e1 => q.go e1) (fun h => nomatch h)
/-! ### the doors -/
section
variable {σ : L2.St} {H : Hp} {D : Ends} {tz : TS}
theorem x_drop {sp : Sp} {E : L2.St → XK} {t : TA} {vs : List V} (h : EvA t σ H vs) (hs : ∀ H1, Ex H H1 → ∀ Q : VK, sp vs H1 Q (E σ)) : tSeq (tDrop (tCallS sp E t)) tz D σ H := h H (Ex.refl H) _ fun H1 e1 => hs H1 e1 _
end
def spX1 (K : PySem.W.Frag) (c : Cs) : Sp := fun vs H _ E => ∃ x : V, vs = [x] ∧ BadL K H x ∧ Rai c.BadLeading H E
def spX1b (K : PySem.W.Frag) (c : Cs) : Sp := fun vs H _ E => (∃ x : V, vs = [x] ∧ BadL K H x ∧ Rai c.BadLeading H E) ∨ (∃ (a : Addr) (L : List Nat), vs = [.ref a] ∧ IsLd H a L ∧ ¬ L.Nodup ∧ Rai c.NotBack H E)
def spX2 (K : PySem.W.Frag) (c : Cs) : Sp := fun vs H _ E => (∃ x z : V, vs = [x, z] ∧ BadL K H x ∧ Rai c.BadLeading H E) ∨ (∃ (a : Addr) (L : List Nat) (z : V), vs = [.ref a, z] ∧ IsLd H a L ∧ BadS K H z ∧ Rai c.BadSteps H E)
def spX3 (K : PySem.W.Frag) (c : Cs) : Sp := fun vs H _ E => (∃ x y z : V, vs = [x, y, z] ∧ BadL K H x ∧ Rai c.BadLeading H E) ∨ (∃ (a : Addr) (L : List Nat) (y z : V), vs = [.ref a, y, z] ∧ IsLd H a L ∧ NumB K H y 0 ((L.length : Int) - 1) false ∧ Rai c.BadPlace H E) ∨
  (∃ (a : Addr) (L : List Nat) (p : Nat) (z : V), vs = [.ref a, .int (p : Int), z] ∧ IsLd H a L ∧ p < L.length ∧ BadS K H z ∧ Rai c.BadSteps H E)
def spX3p (K : PySem.W.Frag) (c : Cs) : Sp := fun vs H _ E => (∃ x y z : V, vs = [x, y, z] ∧ BadL K H x ∧ Rai c.BadLeading H E) ∨ (∃ (a : Addr) (L : List Nat) (y z : V), vs = [.ref a, y, z] ∧ IsLd H a L ∧ NumB K H y 0 ((L.length : Int) - 1) false ∧ Rai c.BadPlace H E) ∨
  (∃ (a : Addr) (L : List Nat) (p : Nat) (z : V), vs = [.ref a, .int (p : Int), z] ∧ IsLd H a L ∧ p < L.length ∧ NumB K H z 0 ((L.length : Int) - 1) false ∧ Rai c.BadPlace H E)
def spXb (K : PySem.W.Frag) (c : Cs) : Sp := fun vs H _ E => (∃ x y : V, vs = [x, y] ∧ BadL K H x ∧ Rai c.BadLeading H E) ∨ (∃ (a : Addr) (L : List Nat) (y : V), vs = [.ref a, y] ∧ IsLd H a L ∧ BadL K H y ∧ Rai c.BadLeading H E) ∨
  (∃ (a b : Addr) (A B : List Nat), vs = [.ref a, .ref b] ∧ IsLd H a A ∧ IsLd H b B ∧ A.length ≠ B.length ∧ Rai c.Unlike H E)

theorem ok_ringsX {f : Addr} {fd : FuncData} (F : Fun K "rings" "rings" s_rings f fd) (D_asked_leadingX : Dk P w K mg base (CX P w) 2 "asked_leading" ["leading"] (spAskedLX K c)) : FnOk P w K mg base (CX P w) 3 f fd ["leading"] (spX1 K c) := by
  refine F.okX sc_rings (fun vs H Q E h => ?_) (fun cdv A outer s H vs Q E hr h => ?_)
  · obtain ⟨x, rfl, _⟩ := h
    rfl
  · obtain ⟨x, rfl, hb, q⟩ := h
    refine ⟨_, pss_cons (ps_expr (pe_callDX D_asked_leadingX (hr.mono (by decide)) (by rfl) (takes_of rfl rfl rfl rfl) (pa_cons (pv 0) pa_nil))) pss_never, ?_⟩
    exact x_drop (ea1 (ev_var rfl)) fun H1 e1 _ => ⟨x, rfl, hb.ex e1, q.mv e1⟩
theorem ok_waitsX {f : Addr} {fd : FuncData} (F : Fun K "waits" "waits" s_waits f fd) (D_asked_leadingX : Dk P w K mg base (CX P w) 2 "asked_leading" ["leading"] (spAskedLX K c)) : FnOk P w K mg base (CX P w) 3 f fd ["leading"] (spX1 K c) := by
  refine F.okX sc_waits (fun vs H Q E h => ?_) (fun cdv A outer s H vs Q E hr h => ?_)
  · obtain ⟨x, rfl, _⟩ := h
    rfl
  · obtain ⟨x, rfl, hb, q⟩ := h
    refine ⟨_, pss_cons (ps_expr (pe_callDX D_asked_leadingX (hr.mono (by decide)) (by rfl) (takes_of rfl rfl rfl rfl) (pa_cons (pv 0) pa_nil))) pss_never, ?_⟩
    exact x_drop (ea1 (ev_var rfl)) fun H1 e1 _ => ⟨x, rfl, hb.ex e1, q.mv e1⟩
theorem ok_settledX {f : Addr} {fd : FuncData} (F : Fun K "settled" "settled" s_settled f fd) (D_asked_leadingX : Dk P w K mg base (CX P w) 2 "asked_leading" ["leading"] (spAskedLX K c)) : FnOk P w K mg base (CX P w) 3 f fd ["leading"] (spX1 K c) := by
  refine F.okX sc_settled (fun vs H Q E h => ?_) (fun cdv A outer s H vs Q E hr h => ?_)
  · obtain ⟨x, rfl, _⟩ := h
    rfl
  · obtain ⟨x, rfl, hb, q⟩ := h
    refine ⟨_, pss_cons (ps_expr (pe_callDX D_asked_leadingX (hr.mono (by decide)) (by rfl) (takes_of rfl rfl rfl rfl) (pa_cons (pv 0) pa_nil))) pss_never, ?_⟩
    exact x_drop (ea1 (ev_var rfl)) fun H1 e1 _ => ⟨x, rfl, hb.ex e1, q.mv e1⟩
theorem ok_undoneX {f : Addr} {fd : FuncData} (F : Fun K "undone" "undone" s_undone f fd) (D_asked_leadingX : Dk P w K mg base (CX P w) 2 "asked_leading" ["leading"] (spAskedLX K c)) (D_asked_leading : Dk P w K mg base CX0 2 "asked_leading" ["leading"] spAskedL) (D_asked_backX : Dk P w K mg base (CX P w) 1 "asked_back" ["leading"] (spAskedBX c)) : FnOk P w K mg base (CX P w) 3 f fd ["leading"] (spX1b K c) := by
  refine F.okX sc_undone (fun vs H Q E h => ?_) (fun cdv A outer s H vs Q E hr h => ?_)
  · rcases h with ⟨x, rfl, _⟩ | ⟨a, L, rfl, _⟩
    · rfl
    · rfl
  · rcases h with ⟨x, rfl, hb, q⟩ | ⟨a, L, rfl, hL, nd, q⟩
    · refine ⟨_, pss_cons (ps_expr (pe_callDX D_asked_leadingX (hr.mono (by decide)) (by rfl) (takes_of rfl rfl rfl rfl) (pa_cons (pv 0) pa_nil))) pss_never, ?_⟩
      exact x_drop (ea1 (ev_var rfl)) fun H1 e1 _ => ⟨x, rfl, hb.ex e1, q.mv e1⟩
    · refine ⟨_, pss_cons (ps_expr (pe_callD D_asked_leading (hr.mono (by decide)) (by rfl) pass0 (pa_cons (pv 0) pa_nil))) (pss_cons (ps_expr (pe_callDX D_asked_backX (hr.mono (by decide)) (by rfl) (takes_of rfl rfl rfl rfl) (pa_cons (pv 0) pa_nil))) pss_never), ?_⟩
      refine q_drop (ev_callV (ea1 (ev_var rfl)) (sv_asked_leading hL)) fun H1 e1 => ?_
      exact x_drop (ea1 (ev_var rfl)) fun H2 e2 _ => ⟨a, L, rfl, hL.ex (e1.trans e2), nd, q.mv (e1.trans e2)⟩
abbrev s_root : Stmt := topS 41
abbrev N_root : List Str := ["leading", "told", "found", "length", "some", "at", "ring", "place"]
theorem sc_root : FnScope N_root ["leading"] (defScope s_root) := ⟨rfl, rfl, rfl, by decide +kernel, rfl, by decide +kernel, by decide +kernel⟩
theorem ok_rootX {f : Addr} {fd : FuncData} (F : Fun K "root" "root" s_root f fd) (D_asked_leadingX : Dk P w K mg base (CX P w) 2 "asked_leading" ["leading"] (spAskedLX K c)) (D_asked_leading : Dk P w K mg base CX0 2 "asked_leading" ["leading"] spAskedL) (D_asked_backX : Dk P w K mg base (CX P w) 1 "asked_back" ["leading"] (spAskedBX c)) : FnOk P w K mg base (CX P w) 3 f fd ["leading"] (spX1b K c) := by
  refine F.okX sc_root (fun vs H Q E h => ?_) (fun cdv A outer s H vs Q E hr h => ?_)
  · rcases h with ⟨x, rfl, _⟩ | ⟨a, L, rfl, _⟩
    · rfl
    · rfl
  · rcases h with ⟨x, rfl, hb, q⟩ | ⟨a, L, rfl, hL, nd, q⟩
    · refine ⟨_, pss_cons (ps_expr (pe_callDX D_asked_leadingX (hr.mono (by decide)) (by rfl) (takes_of rfl rfl rfl rfl) (pa_cons (pv 0) pa_nil))) pss_never, ?_⟩
      exact x_drop (ea1 (ev_var rfl)) fun H1 e1 _ => ⟨x, rfl, hb.ex e1, q.mv e1⟩
    · refine ⟨_, pss_cons (ps_expr (pe_callD D_asked_leading (hr.mono (by decide)) (by rfl) pass0 (pa_cons (pv 0) pa_nil))) (pss_cons (ps_expr (pe_callDX D_asked_backX (hr.mono (by decide)) (by rfl) (takes_of rfl rfl rfl rfl) (pa_cons (pv 0) pa_nil))) pss_never), ?_⟩
      refine q_drop (ev_callV (ea1 (ev_var rfl)) (sv_asked_leading hL)) fun H1 e1 => ?_
      exact x_drop (ea1 (ev_var rfl)) fun H2 e2 _ => ⟨a, L, rfl, hL.ex (e1.trans e2), nd, q.mv (e1.trans e2)⟩
abbrev s_times : Stmt := topS 15
abbrev N_times : List Str := ["leading", "steps"]
theorem sc_times : FnScope N_times ["leading", "steps"] (defScope s_times) := ⟨rfl, rfl, rfl, by decide +kernel, rfl, by decide +kernel, by decide +kernel⟩
theorem ok_timesX {f : Addr} {fd : FuncData} (F : Fun K "times" "times" s_times f fd) (D_asked_leadingX : Dk P w K mg base (CX P w) 2 "asked_leading" ["leading"] (spAskedLX K c)) (D_asked_leading : Dk P w K mg base CX0 2 "asked_leading" ["leading"] spAskedL) (D_asked_stepsX : Dk P w K mg base (CX P w) 1 "asked_steps" ["steps"] (spAskedSX K c)) : FnOk P w K mg base (CX P w) 3 f fd ["leading", "steps"] (spX2 K c) := by
  refine F.okX sc_times (fun vs H Q E h => ?_) (fun cdv A outer s H vs Q E hr h => ?_)
  · rcases h with ⟨x, z, rfl, _⟩ | ⟨a, L, z, rfl, _⟩
    · rfl
    · rfl
  · rcases h with ⟨x, z, rfl, hb, q⟩ | ⟨a, L, z, rfl, hL, hz, q⟩
    · refine ⟨_, pss_cons (ps_expr (pe_callDX D_asked_leadingX (hr.mono (by decide)) (by rfl) (takes_of rfl rfl rfl rfl) (pa_cons (pv 0) pa_nil))) pss_never, ?_⟩
      exact x_drop (ea1 (ev_var rfl)) fun H1 e1 _ => ⟨x, rfl, hb.ex e1, q.mv e1⟩
    · refine ⟨_, pss_cons (ps_expr (pe_callD D_asked_leading (hr.mono (by decide)) (by rfl) pass0 (pa_cons (pv 0) pa_nil))) (pss_cons (ps_expr (pe_callDX D_asked_stepsX (hr.mono (by decide)) (by rfl) (takes_of rfl rfl rfl rfl) (pa_cons (pv 1) pa_nil))) pss_never), ?_⟩
      refine q_drop (ev_callV (ea1 (ev_var rfl)) (sv_asked_leading hL)) fun H1 e1 => ?_
      exact x_drop (ea1 (ev_var rfl)) fun H2 e2 _ => ⟨z, rfl, hz.ex (e1.trans e2), q.mv (e1.trans e2)⟩
theorem ok_afterX {f : Addr} {fd : FuncData} (F : Fun K "after" "after" s_after f fd) (D_asked_leadingX : Dk P w K mg base (CX P w) 2 "asked_leading" ["leading"] (spAskedLX K c)) (D_asked_leading : Dk P w K mg base CX0 2 "asked_leading" ["leading"] spAskedL) (D_asked_placeX : Dk P w K mg base (CX P w) 2 "asked_place" ["leading", "place"] (spAskedPX K c)) (D_asked_place : Dk P w K mg base CX0 2 "asked_place" ["leading", "place"] spAskedP) (D_asked_stepsX : Dk P w K mg base (CX P w) 1 "asked_steps" ["steps"] (spAskedSX K c)) : FnOk P w K mg base (CX P w) 3 f fd ["leading", "place", "steps"] (spX3 K c) := by
  refine F.okX sc_after (fun vs H Q E h => ?_) (fun cdv A outer s H vs Q E hr h => ?_)
  · rcases h with ⟨x, y, z, rfl, _⟩ | ⟨a, L, y, z, rfl, _⟩ | ⟨a, L, p, z, rfl, _⟩
    · rfl
    · rfl
    · rfl
  · rcases h with ⟨x, y, z, rfl, hb, q⟩ | ⟨a, L, y, z, rfl, hL, hy, q⟩ | ⟨a, L, p, z, rfl, hL, hp, hz, q⟩
    · refine ⟨_, pss_cons (ps_expr (pe_callDX D_asked_leadingX (hr.mono (by decide)) (by rfl) (takes_of rfl rfl rfl rfl) (pa_cons (pv 0) pa_nil))) pss_never, ?_⟩
      exact x_drop (ea1 (ev_var rfl)) fun H1 e1 _ => ⟨x, rfl, hb.ex e1, q.mv e1⟩
    · refine ⟨_, pss_cons (ps_expr (pe_callD D_asked_leading (hr.mono (by decide)) (by rfl) pass0 (pa_cons (pv 0) pa_nil))) (pss_cons (ps_expr (pe_callDX D_asked_placeX (hr.mono (by decide)) (by rfl) (takes_of rfl rfl rfl rfl) (pa_cons (pv 0) (pa_cons (pv 1) pa_nil)))) pss_never), ?_⟩
      refine q_drop (ev_callV (ea1 (ev_var rfl)) (sv_asked_leading hL)) fun H1 e1 => ?_
      exact x_drop (ea2 (ev_var rfl) (ev_var rfl)) fun H2 e2 _ => ⟨a, L, y, rfl, hL.ex (e1.trans e2), hy.ex (e1.trans e2), q.mv (e1.trans e2)⟩
    · refine ⟨_, pss_cons (ps_expr (pe_callD D_asked_leading (hr.mono (by decide)) (by rfl) pass0 (pa_cons (pv 0) pa_nil))) (pss_cons (ps_expr (pe_callD D_asked_place (hr.mono (by decide)) (by rfl) pass0 (pa_cons (pv 0) (pa_cons (pv 1) pa_nil)))) (pss_cons (ps_expr (pe_callDX D_asked_stepsX (hr.mono (by decide)) (by rfl) (takes_of rfl rfl rfl rfl) (pa_cons (pv 2) pa_nil))) pss_never)), ?_⟩
      refine q_drop (ev_callV (ea1 (ev_var rfl)) (sv_asked_leading hL)) fun H1 e1 => ?_
      refine q_drop (ev_callV (ea2 (ev_var rfl) (ev_var rfl)) (sv_asked_place (hL.ex e1) hp)) fun H2 e2 => ?_
      have e := e1.trans e2
      exact x_drop (ea1 (ev_var rfl)) fun H3 e3 _ => ⟨z, rfl, hz.ex (e.trans e3), q.mv (e.trans e3)⟩
abbrev s_comers : Stmt := topS 17
abbrev N_comers : List Str := ["leading", "place", "steps", "one", "there"]
theorem sc_comers : FnScope N_comers ["leading", "place", "steps"] (defScope s_comers) := ⟨rfl, rfl, rfl, by decide +kernel, rfl, by decide +kernel, by decide +kernel⟩
theorem ok_comersX {f : Addr} {fd : FuncData} (F : Fun K "comers" "comers" s_comers f fd) (D_asked_leadingX : Dk P w K mg base (CX P w) 2 "asked_leading" ["leading"] (spAskedLX K c)) (D_asked_leading : Dk P w K mg base CX0 2 "asked_leading" ["leading"] spAskedL) (D_asked_placeX : Dk P w K mg base (CX P w) 2 "asked_place" ["leading", "place"] (spAskedPX K c)) (D_asked_place : Dk P w K mg base CX0 2 "asked_place" ["leading", "place"] spAskedP) (D_asked_stepsX : Dk P w K mg base (CX P w) 1 "asked_steps" ["steps"] (spAskedSX K c)) : FnOk P w K mg base (CX P w) 3 f fd ["leading", "place", "steps"] (spX3 K c) := by
  refine F.okX sc_comers (fun vs H Q E h => ?_) (fun cdv A outer s H vs Q E hr h => ?_)
  · rcases h with ⟨x, y, z, rfl, _⟩ | ⟨a, L, y, z, rfl, _⟩ | ⟨a, L, p, z, rfl, _⟩
    · rfl
    · rfl
    · rfl
  · rcases h with ⟨x, y, z, rfl, hb, q⟩ | ⟨a, L, y, z, rfl, hL, hy, q⟩ | ⟨a, L, p, z, rfl, hL, hp, hz, q⟩
    · refine ⟨_, pss_cons (ps_expr (pe_callDX D_asked_leadingX (hr.mono (by decide)) (by rfl) (takes_of rfl rfl rfl rfl) (pa_cons (pv 0) pa_nil))) pss_never, ?_⟩
      exact x_drop (ea1 (ev_var rfl)) fun H1 e1 _ => ⟨x, rfl, hb.ex e1, q.mv e1⟩
    · refine ⟨_, pss_cons (ps_expr (pe_callD D_asked_leading (hr.mono (by decide)) (by rfl) pass0 (pa_cons (pv 0) pa_nil))) (pss_cons (ps_expr (pe_callDX D_asked_placeX (hr.mono (by decide)) (by rfl) (takes_of rfl rfl rfl rfl) (pa_cons (pv 0) (pa_cons (pv 1) pa_nil)))) pss_never), ?_⟩
      refine q_drop (ev_callV (ea1 (ev_var rfl)) (sv_asked_leading hL)) fun H1 e1 => ?_
      exact x_drop (ea2 (ev_var rfl) (ev_var rfl)) fun H2 e2 _ => ⟨a, L, y, rfl, hL.ex (e1.trans e2), hy.ex (e1.trans e2), q.mv (e1.trans e2)⟩
    · refine ⟨_, pss_cons (ps_expr (pe_callD D_asked_leading (hr.mono (by decide)) (by rfl) pass0 (pa_cons (pv 0) pa_nil))) (pss_cons (ps_expr (pe_callD D_asked_place (hr.mono (by decide)) (by rfl) pass0 (pa_cons (pv 0) (pa_cons (pv 1) pa_nil)))) (pss_cons (ps_expr (pe_callDX D_asked_stepsX (hr.mono (by decide)) (by rfl) (takes_of rfl rfl rfl rfl) (pa_cons (pv 2) pa_nil))) pss_never)), ?_⟩
      refine q_drop (ev_callV (ea1 (ev_var rfl)) (sv_asked_leading hL)) fun H1 e1 => ?_
      refine q_drop (ev_callV (ea2 (ev_var rfl) (ev_var rfl)) (sv_asked_place (hL.ex e1) hp)) fun H2 e2 => ?_
      have e := e1.trans e2
      exact x_drop (ea1 (ev_var rfl)) fun H3 e3 _ => ⟨z, rfl, hz.ex (e.trans e3), q.mv (e.trans e3)⟩
abbrev s_reached : Stmt := topS 37
abbrev N_reached : List Str := ["leading", "one", "other", "found"]
theorem sc_reached : FnScope N_reached ["leading", "one", "other"] (defScope s_reached) := ⟨rfl, rfl, rfl, by decide +kernel, rfl, by decide +kernel, by decide +kernel⟩
theorem ok_reachedX {f : Addr} {fd : FuncData} (F : Fun K "reached" "reached" s_reached f fd) (D_asked_leadingX : Dk P w K mg base (CX P w) 2 "asked_leading" ["leading"] (spAskedLX K c)) (D_asked_leading : Dk P w K mg base CX0 2 "asked_leading" ["leading"] spAskedL) (D_asked_placeX : Dk P w K mg base (CX P w) 2 "asked_place" ["leading", "place"] (spAskedPX K c)) (D_asked_place : Dk P w K mg base CX0 2 "asked_place" ["leading", "place"] spAskedP) : FnOk P w K mg base (CX P w) 3 f fd ["leading", "one", "other"] (spX3p K c) := by
  refine F.okX sc_reached (fun vs H Q E h => ?_) (fun cdv A outer s H vs Q E hr h => ?_)
  · rcases h with ⟨x, y, z, rfl, _⟩ | ⟨a, L, y, z, rfl, _⟩ | ⟨a, L, p, z, rfl, _⟩
    · rfl
    · rfl
    · rfl
  · rcases h with ⟨x, y, z, rfl, hb, q⟩ | ⟨a, L, y, z, rfl, hL, hy, q⟩ | ⟨a, L, p, z, rfl, hL, hp, hz, q⟩
    · refine ⟨_, pss_cons (ps_expr (pe_callDX D_asked_leadingX (hr.mono (by decide)) (by rfl) (takes_of rfl rfl rfl rfl) (pa_cons (pv 0) pa_nil))) pss_never, ?_⟩
      exact x_drop (ea1 (ev_var rfl)) fun H1 e1 _ => ⟨x, rfl, hb.ex e1, q.mv e1⟩
    · refine ⟨_, pss_cons (ps_expr (pe_callD D_asked_leading (hr.mono (by decide)) (by rfl) pass0 (pa_cons (pv 0) pa_nil))) (pss_cons (ps_expr (pe_callDX D_asked_placeX (hr.mono (by decide)) (by rfl) (takes_of rfl rfl rfl rfl) (pa_cons (pv 0) (pa_cons (pv 1) pa_nil)))) pss_never), ?_⟩
      refine q_drop (ev_callV (ea1 (ev_var rfl)) (sv_asked_leading hL)) fun H1 e1 => ?_
      exact x_drop (ea2 (ev_var rfl) (ev_var rfl)) fun H2 e2 _ => ⟨a, L, y, rfl, hL.ex (e1.trans e2), hy.ex (e1.trans e2), q.mv (e1.trans e2)⟩
    · refine ⟨_, pss_cons (ps_expr (pe_callD D_asked_leading (hr.mono (by decide)) (by rfl) pass0 (pa_cons (pv 0) pa_nil))) (pss_cons (ps_expr (pe_callD D_asked_place (hr.mono (by decide)) (by rfl) pass0 (pa_cons (pv 0) (pa_cons (pv 1) pa_nil)))) (pss_cons (ps_expr (pe_callDX D_asked_placeX (hr.mono (by decide)) (by rfl) (takes_of rfl rfl rfl rfl) (pa_cons (pv 0) (pa_cons (pv 2) pa_nil)))) pss_never)), ?_⟩
      refine q_drop (ev_callV (ea1 (ev_var rfl)) (sv_asked_leading hL)) fun H1 e1 => ?_
      refine q_drop (ev_callV (ea2 (ev_var rfl) (ev_var rfl)) (sv_asked_place (hL.ex e1) hp)) fun H2 e2 => ?_
      have e := e1.trans e2
      exact x_drop (ea2 (ev_var rfl) (ev_var rfl)) fun H3 e3 _ => ⟨a, L, z, rfl, hL.ex (e.trans e3), hz.ex (e.trans e3), q.mv (e.trans e3)⟩
abbrev s_comes : Stmt := topS 39
abbrev N_comes : List Str := ["leading", "one", "other", "mine", "at", "many", "place"]
theorem sc_comes : FnScope N_comes ["leading", "one", "other"] (defScope s_comes) := ⟨rfl, rfl, rfl, by decide +kernel, rfl, by decide +kernel, by decide +kernel⟩
theorem ok_comesX {f : Addr} {fd : FuncData} (F : Fun K "comes" "comes" s_comes f fd) (D_asked_leadingX : Dk P w K mg base (CX P w) 2 "asked_leading" ["leading"] (spAskedLX K c)) (D_asked_leading : Dk P w K mg base CX0 2 "asked_leading" ["leading"] spAskedL) (D_asked_placeX : Dk P w K mg base (CX P w) 2 "asked_place" ["leading", "place"] (spAskedPX K c)) (D_asked_place : Dk P w K mg base CX0 2 "asked_place" ["leading", "place"] spAskedP) : FnOk P w K mg base (CX P w) 3 f fd ["leading", "one", "other"] (spX3p K c) := by
  refine F.okX sc_comes (fun vs H Q E h => ?_) (fun cdv A outer s H vs Q E hr h => ?_)
  · rcases h with ⟨x, y, z, rfl, _⟩ | ⟨a, L, y, z, rfl, _⟩ | ⟨a, L, p, z, rfl, _⟩
    · rfl
    · rfl
    · rfl
  · rcases h with ⟨x, y, z, rfl, hb, q⟩ | ⟨a, L, y, z, rfl, hL, hy, q⟩ | ⟨a, L, p, z, rfl, hL, hp, hz, q⟩
    · refine ⟨_, pss_cons (ps_expr (pe_callDX D_asked_leadingX (hr.mono (by decide)) (by rfl) (takes_of rfl rfl rfl rfl) (pa_cons (pv 0) pa_nil))) pss_never, ?_⟩
      exact x_drop (ea1 (ev_var rfl)) fun H1 e1 _ => ⟨x, rfl, hb.ex e1, q.mv e1⟩
    · refine ⟨_, pss_cons (ps_expr (pe_callD D_asked_leading (hr.mono (by decide)) (by rfl) pass0 (pa_cons (pv 0) pa_nil))) (pss_cons (ps_expr (pe_callDX D_asked_placeX (hr.mono (by decide)) (by rfl) (takes_of rfl rfl rfl rfl) (pa_cons (pv 0) (pa_cons (pv 1) pa_nil)))) pss_never), ?_⟩
      refine q_drop (ev_callV (ea1 (ev_var rfl)) (sv_asked_leading hL)) fun H1 e1 => ?_
      exact x_drop (ea2 (ev_var rfl) (ev_var rfl)) fun H2 e2 _ => ⟨a, L, y, rfl, hL.ex (e1.trans e2), hy.ex (e1.trans e2), q.mv (e1.trans e2)⟩
    · refine ⟨_, pss_cons (ps_expr (pe_callD D_asked_leading (hr.mono (by decide)) (by rfl) pass0 (pa_cons (pv 0) pa_nil))) (pss_cons (ps_expr (pe_callD D_asked_place (hr.mono (by decide)) (by rfl) pass0 (pa_cons (pv 0) (pa_cons (pv 1) pa_nil)))) (pss_cons (ps_expr (pe_callDX D_asked_placeX (hr.mono (by decide)) (by rfl) (takes_of rfl rfl rfl rfl) (pa_cons (pv 0) (pa_cons (pv 2) pa_nil)))) pss_never)), ?_⟩
      refine q_drop (ev_callV (ea1 (ev_var rfl)) (sv_asked_leading hL)) fun H1 e1 => ?_
      refine q_drop (ev_callV (ea2 (ev_var rfl) (ev_var rfl)) (sv_asked_place (hL.ex e1) hp)) fun H2 e2 => ?_
      have e := e1.trans e2
      exact x_drop (ea2 (ev_var rfl) (ev_var rfl)) fun H3 e3 _ => ⟨a, L, z, rfl, hL.ex (e.trans e3), hz.ex (e.trans e3), q.mv (e.trans e3)⟩
theorem ok_behindX {f : Addr} {fd : FuncData} (F : Fun K "behind" "behind" s_behind f fd) (B : Bl mg) (C : Cl K mg c) (D_asked_leadingX : Dk P w K mg base (CX P w) 2 "asked_leading" ["leading"] (spAskedLX K c)) (D_asked_leading : Dk P w K mg base CX0 2 "asked_leading" ["leading"] spAskedL) : FnOk P w K mg base (CX P w) 3 f fd ["one", "other"] (spXb K c) := by
  refine F.okX sc_behind (fun vs H Q E h => ?_) (fun cdv A outer s H vs Q E hr h => ?_)
  · rcases h with ⟨x, y, rfl, _⟩ | ⟨a, L, y, rfl, _⟩ | ⟨a, b, A, M, rfl, _⟩
    · rfl
    · rfl
    · rfl
  · rcases h with ⟨x, y, rfl, hb, q⟩ | ⟨a, L, y, rfl, hL, hy, q⟩ | ⟨a, b, A, M, rfl, hA, hM, hn, q⟩
    · refine ⟨_, pss_cons (ps_expr (pe_callDX D_asked_leadingX (hr.mono (by decide)) (by rfl) (takes_of rfl rfl rfl rfl) (pa_cons (pv 0) pa_nil))) pss_never, ?_⟩
      exact x_drop (ea1 (ev_var rfl)) fun H1 e1 _ => ⟨x, rfl, hb.ex e1, q.mv e1⟩
    · refine ⟨_, pss_cons (ps_expr (pe_callD D_asked_leading (hr.mono (by decide)) (by rfl) pass0 (pa_cons (pv 0) pa_nil))) (pss_cons (ps_expr (pe_callDX D_asked_leadingX (hr.mono (by decide)) (by rfl) (takes_of rfl rfl rfl rfl) (pa_cons (pv 1) pa_nil))) pss_never), ?_⟩
      refine q_drop (ev_callV (ea1 (ev_var rfl)) (sv_asked_leading hL)) fun H1 e1 => ?_
      exact x_drop (ea1 (ev_var rfl)) fun H2 e2 _ => ⟨y, rfl, hy.ex (e1.trans e2), q.mv (e1.trans e2)⟩
    · refine ⟨_, pss_cons (ps_expr (pe_callD D_asked_leading (hr.mono (by decide)) (by rfl) pass0 (pa_cons (pv 0) pa_nil))) (pss_cons (ps_expr (pe_callD D_asked_leading (hr.mono (by decide)) (by rfl) pass0 (pa_cons (pv 1) pa_nil))) (pss_cons (ps_if (pt_cmpR op_ne (pe_callB (call_lenK (K := K) rfl) (by rfl) B.len_ bo_len (pa_cons (pv 0) pa_nil)) (pe_callB (call_lenK (K := K) rfl) (by rfl) B.len_ bo_len (pa_cons (pv 1) pa_nil)) (nomark _))
    (pss_one (ps_raise rfl (takes_of rfl rfl rfl rfl) (pmk_x C.Unlike (by rfl))))
    pss_nil) pss_never)), ?_⟩
      refine q_drop (ev_callV (ea1 (ev_var rfl)) (sv_asked_leading hA)) fun H1 e1 => ?_
      refine q_drop (ev_callV (ea1 (ev_var rfl)) (sv_asked_leading (hM.ex e1))) fun H2 e2 => ?_
      have e := e1.trans e2
      exact q_when (b := true) (et_test (ev_op (ev_lenNl (ev_var rfl) (hA.ex e).sq) (ev_lenNl (ev_var rfl) (hM.ex e).sq) (rv_neB (by rw [decide_eq_false (by omega)]; rfl)))) (fun _ H3 e3 => q.go (e.trans e3)) (fun h => nomatch h)

end
end Ld

namespace Ld
open PySem L2 Evl
section
variable {P : Program} {w : World} {K : PySem.W.Frag} {mg : Str → Option Value} {base : Heap} {c : Cs}
section
variable {σ : L2.St} {H H' : Hp} {ta tb te ti : TE} {t1 : TA} {tt : TT} {x y z v : V} {D : Ends} {tz : TS}
/-! ### calls one of whose things was just made -/
theorem x_callR {sp : Sp} {E : L2.St → XK} {is : List It} {Q : VK} (h : EvAR t1 σ H is) (hs : ∀ vs H1, Ex H H1 → Its H1 is vs → sp vs H1 Q (E σ)) : tCallS sp E t1 σ H Q := h H (Ex.refl H) _ hs
theorem x_callER {X : Cx} {W : WX} {f : Addr} {fd : FuncData} {ps : List Str} {sp : Sp} {k : Nat} {is : List It} {Q : VK} (hf : Ev te σ H (.ref f)) (F : FnOk X.prog X.w X.K X.mg X.base (L2.CX X.prog X.w) k f fd ps sp) (hr : Room k X.A) (hk : PySem.W.keepIn X.K (.ref f) = true) (hb : Binds X.K fd ps [])
    (h : EvAR t1 σ H is) (hs : ∀ vs H1, Ex H H1 → Its H1 is vs → sp vs H1 Q (WE W σ)) : tCallE X W te t1 σ H Q :=
  hf H (Ex.refl H) _ fun H1 e1 => ⟨f, fd, ps, sp, k, rfl, F, hr, hk, hb, h H1 e1 _ fun vs H2 e2 hv => hs vs H2 (e1.trans e2) hv⟩
theorem ev_callR {sp : Sp} {E : XK} {is : List It} (h : EvAR t1 σ H is) (hs : ∀ vs H1, Ex H H1 → Its H1 is vs → SpV sp vs H1 z) : Ev (tCall sp [] E t1) σ H z := fun H1 e Q q => h H1 e _ fun vs H2 e2 hv => by
  rw [List.append_nil]
  exact hs vs H2 (e.trans e2) hv H2 (Ex.refl H2) Q (fun H3 e3 => q H3 (e2.trans e3)) E
theorem its1 {i : It} {vs : List V} (h : Its H [i] vs) : ∃ x, vs = [x] ∧ i.at x H := by
  cases h with
  | cons h1 h2 =>
    cases h2
    exact ⟨_, rfl, h1⟩
theorem its2 {i j : It} {vs : List V} (h : Its H [i, j] vs) : ∃ x y, vs = [x, y] ∧ i.at x H ∧ j.at y H := by
  cases h with
  | cons h1 h2 =>
    obtain ⟨y, rfl, hy⟩ := its1 h2
    exact ⟨_, y, rfl, h1, hy⟩
theorem its3 {i j k : It} {vs : List V} (h : Its H [i, j, k] vs) : ∃ x y z, vs = [x, y, z] ∧ i.at x H ∧ j.at y H ∧ k.at z H := by
  cases h with
  | cons h1 h2 =>
    obtain ⟨y, z, rfl, hy, hz⟩ := its2 h2
    exact ⟨_, y, z, rfl, h1, hy, hz⟩
theorem er_at {i : It} (h : Ev te σ H v) (hi : i.at v H) : EvR te σ H i.at := fun H1 e Q q => h H1 e _ fun H2 e2 => q v H2 e2 (It.ex hi (e.trans e2))
theorem er_if {b : Bool} {i : It} (h : EvT tt σ H b) (h1 : b = true → EvR ta σ H i.at) (h2 : b = false → EvR tb σ H i.at) : EvR (tIf tt ta tb) σ H i.at := fun H1 e Q q => h H1 e _ fun H2 e2 => by
  cases b with
  | true => exact h1 rfl H2 (e.trans e2) Q fun v H3 e3 hv => q v H3 (e2.trans e3) hv
  | false => exact h2 rfl H2 (e.trans e2) Q fun v H3 e3 hv => q v H3 (e2.trans e3) hv
theorem el_catIt {xs ys : List V} (ha : EvL ta σ H xs) (hb : EvR tb σ H (It.at (.l ys))) (hz : xs.length + ys.length ≤ 100000) : EvL (tOp rCat ta tb) σ H (xs ++ ys) := fun H1 e Q k =>
  ha H1 e _ fun p H2 _ e2 hp => hb H2 (e.trans e2) _ fun v H3 e3 ⟨q, ev, hq⟩ => ⟨p, q, xs, ys, rfl, ev, e3 _ _ hp, hq, sz_of hz, fun r nr => k r _ (fresh_back (e2.trans e3) nr) ((e2.trans e3).trans (Ex.new nr)) upd_same⟩
theorem flat_one {α : Type} (x : α) : ∀ k : Nat, (List.replicate k [x]).flatten = List.replicate k x
  | 0 => rfl
  | k + 1 => by
    rw [List.replicate_succ, List.flatten_cons, flat_one x k]
    rfl
theorem el_rep1 {k : Nat} (ha : EvL ta σ H [x]) (hb : Ev tb σ H (.int (k : Int))) (hk : k ≤ 100000) : EvL (tOp rRep ta tb) σ H (List.replicate k x) := fun H1 e Q q =>
  ha H1 e _ fun p H2 _ e2 hp => hb H2 (e.trans e2) _ fun H3 e3 => ⟨p, (k : Int), [x], rfl, rfl, e3 _ _ hp, by omega, by omega, sz_of (by
    rw [Int.toNat_natCast]
    show 1 * k ≤ 100000
    omega), fun r nr => q r _ (fresh_back (e2.trans e3) nr) ((e2.trans e3).trans (Ex.new nr)) (by
      rw [upd_same, Int.toNat_natCast, flat_one])⟩
theorem ld122 {p : Addr} (h : H p = some (.lst (nl [1, 2, 2]))) : IsLd H p [1, 2, 2] := ⟨.inl h, by unfold Lead; decide, by decide⟩
theorem ldZeros {p : Addr} {k : Nat} (h : H p = some (.lst (nl (List.replicate (k + 1) 0)))) (hk : k + 1 ≤ 63) : IsLd H p (List.replicate (k + 1) 0) := ⟨.inl h, fun x hx => by
  rw [(List.mem_replicate.mp hx).2, List.length_replicate]
  omega, by rw [List.length_replicate]; exact hk⟩
theorem nl_rep (k x : Nat) : List.replicate k (V.int (x : Int)) = nl (List.replicate k x) := by
  unfold nl
  rw [List.map_replicate]
theorem paired_rep {α β : Type} {R : α → β → Prop} {a c : α} {b d : β} (h : R a b) (h2 : R c d) : ∀ k : Nat, Paired R (List.replicate k a ++ [c]) (List.replicate k b ++ [d])
  | 0 => .cons h2 .nil
  | k + 1 => .cons h (paired_rep h h2 k)
/-- numbers that go, and a last one that doesn't -/
theorem badL_of {K : PySem.W.Frag} {p : Addr} {k : Nat} (hp : H p = some (.lst (List.replicate k (.int 0) ++ [y]))) (hk : k ≤ 500) (hy : NumB K H y 0 (k : Int) false) : BadL K H (.ref p) := by
  have hl : (List.replicate k (V.int 0) ++ [y]).length = k + 1 := by
    rw [List.length_append, List.length_replicate]
    rfl
  refine .inr ⟨p, _, List.replicate k true ++ [false], rfl, hp, by rw [hl]; omega, ?_, ?_⟩
  · rw [hl, show (((k + 1 : Nat) : Int) - 1) = (k : Int) by omega]
    exact paired_rep (R := fun y b => NumB K H y 0 (k : Int) b) (.inl ⟨0, rfl, by
      rw [decide_eq_true (by omega : (0 : Int) ≤ 0), decide_eq_true (by omega : (0 : Int) ≤ (k : Int))]
      rfl⟩) hy k
  · rw [List.all_append]
    simp
theorem q_try {t : TS} (h : t { D with nx := tz D } σ H) : tSeq t tz D σ H := h
end
/-! ### no leading, at a door -/
def badIts (m : Nat) : List It := [.v .non, .u [.int 0], .v (.str "0"), .v (.int 5), .l [.int (1 + (m : Int))], .l [.int (-1 - (m : Int))], .l [.bl true], .l [.str "0"], .l [.non]]
def Kd (K : PySem.W.Frag) (H : Hp) (m n : Nat) (v : V) : Prop := NoTy K H "list" v ∨ ∃ p y, v = .ref p ∧ H p = some (.lst [y]) ∧ ((n = 4 ∧ y = .int (1 + (m : Int))) ∨ (n ≠ 4 ∧ ∀ hi, NumB K H y 0 hi false))
theorem bad_kind {K : PySem.W.Frag} {m n : Nat} (hn : n < 9) : ∃ it, (badIts m)[n]? = some it ∧ ∀ v H, it.at v H → Kd K H m n v := by
  match n, hn with
  | 0, _ => exact ⟨_, rfl, fun v H h => by
    obtain rfl := (show v = _ from h)
    exact .inl noLst_non⟩
  | 1, _ => exact ⟨_, rfl, fun v H ⟨p, e, hp⟩ => by
    subst e
    exact .inl (noLst_tup hp)⟩
  | 2, _ => exact ⟨_, rfl, fun v H h => by
    obtain rfl := (show v = _ from h)
    exact .inl noLst_str⟩
  | 3, _ => exact ⟨_, rfl, fun v H h => by
    obtain rfl := (show v = _ from h)
    exact .inl noLst_int⟩
  | 4, _ => exact ⟨_, rfl, fun v H ⟨p, e, hp⟩ => .inr ⟨p, _, e, hp, .inl ⟨rfl, rfl⟩⟩⟩
  | 5, _ => exact ⟨_, rfl, fun v H ⟨p, e, hp⟩ => .inr ⟨p, _, e, hp, .inr ⟨by decide, fun hi => .inl ⟨_, rfl, by rw [decide_eq_false (by omega)]; rfl⟩⟩⟩⟩
  | 6, _ => exact ⟨_, rfl, fun v H ⟨p, e, hp⟩ => .inr ⟨p, _, e, hp, .inr ⟨by decide, fun hi => .inr ⟨rfl, .inl ⟨_, rfl⟩⟩⟩⟩⟩
  | 7, _ => exact ⟨_, rfl, fun v H ⟨p, e, hp⟩ => .inr ⟨p, _, e, hp, .inr ⟨by decide, fun hi => .inr ⟨rfl, .inr noInt_str⟩⟩⟩⟩
  | 8, _ => exact ⟨_, rfl, fun v H ⟨p, e, hp⟩ => .inr ⟨p, _, e, hp, .inr ⟨by decide, fun hi => .inr ⟨rfl, .inr noInt_non⟩⟩⟩⟩
  | k + 9, h => exact absurd h (by omega)
abbrev s_law_leading_asked : Stmt := topS 45
abbrev N_law_leading_asked : List Str := ["_law_which", "_law_more", "_law_bad", "_law_door"]
theorem sc_law_leading_asked : FnScope N_law_leading_asked ["_law_which", "_law_more"] (defScope s_law_leading_asked) := ⟨rfl, rfl, rfl, by decide +kernel, rfl, by decide +kernel, by decide +kernel⟩
def spLLA (c : Cs) : Sp := fun vs H _ E => ∃ (u m : Nat), vs = [.int (u : Int), .int (m : Int)] ∧ m < 1000 ∧ Rai c.BadLeading H E
theorem ok_law_leading_askedX {f : Addr} {fd : FuncData} (F : Fun K "_law_leading_asked" "_law_leading_asked" s_law_leading_asked f fd) (B : Bl mg) (D_ringsX : Dk P w K mg base (CX P w) 3 "rings" ["leading"] (spX1 K c)) (D_waitsX : Dk P w K mg base (CX P w) 3 "waits" ["leading"] (spX1 K c)) (D_settledX : Dk P w K mg base (CX P w) 3 "settled" ["leading"] (spX1 K c))
    (D_undoneX : Dk P w K mg base (CX P w) 3 "undone" ["leading"] (spX1b K c)) (D_rootX : Dk P w K mg base (CX P w) 3 "root" ["leading"] (spX1b K c)) (D_timesX : Dk P w K mg base (CX P w) 3 "times" ["leading", "steps"] (spX2 K c)) (D_afterX : Dk P w K mg base (CX P w) 3 "after" ["leading", "place", "steps"] (spX3 K c)) (D_comersX : Dk P w K mg base (CX P w) 3 "comers" ["leading", "place", "steps"] (spX3 K c))
    (D_reachedX : Dk P w K mg base (CX P w) 3 "reached" ["leading", "one", "other"] (spX3p K c)) (D_comesX : Dk P w K mg base (CX P w) 3 "comes" ["leading", "one", "other"] (spX3p K c)) (D_behindX : Dk P w K mg base (CX P w) 3 "behind" ["one", "other"] (spXb K c)) : FnOk P w K mg base (CX P w) 4 f fd ["_law_which", "_law_more"] (spLLA c) := by
  obtain ⟨f_rings, fd_rings, F_rings, m_rings, k_rings, b_rings⟩ := D_ringsX.ex
  obtain ⟨f_waits, fd_waits, F_waits, m_waits, k_waits, b_waits⟩ := D_waitsX.ex
  obtain ⟨f_settled, fd_settled, F_settled, m_settled, k_settled, b_settled⟩ := D_settledX.ex
  obtain ⟨f_undone, fd_undone, F_undone, m_undone, k_undone, b_undone⟩ := D_undoneX.ex
  obtain ⟨f_root, fd_root, F_root, m_root, k_root, b_root⟩ := D_rootX.ex
  obtain ⟨f_after, fd_after, F_after, m_after, k_after, b_after⟩ := D_afterX.ex
  obtain ⟨f_comers, fd_comers, F_comers, m_comers, k_comers, b_comers⟩ := D_comersX.ex
  obtain ⟨f_reached, fd_reached, F_reached, m_reached, k_reached, b_reached⟩ := D_reachedX.ex
  obtain ⟨f_comes, fd_comes, F_comes, m_comes, k_comes, b_comes⟩ := D_comesX.ex
  refine F.okX sc_law_leading_asked (fun vs H Q E h => ?_) (fun cdv A outer s H vs Q E hr h => ?_)
  · obtain ⟨u, m, rfl, _⟩ := h
    rfl
  · obtain ⟨u, m, rfl, hm, q⟩ := h
    refine ⟨_, (pss_cons (ps_set (i := 2) sc_law_leading_asked.nd rfl (Or.inl rfl) (pe_ix (ix_listK (K := K) rfl) (pe_lst (pa_cons pe_non (pa_cons (pe_tup (pa_cons pe_int pa_nil)) (pa_cons pe_str (pa_cons pe_int (pa_cons (pe_lst (pa_cons (pe_op op_add pe_int (pv 1)) pa_nil)) (pa_cons (pe_lst (pa_cons (pe_op op_sub (pe_un un_neg pe_int) (pv 1)) pa_nil)) (pa_cons (pe_lst (pa_cons pe_bl pa_nil)) (pa_cons (pe_lst (pa_cons pe_str pa_nil)) (pa_cons (pe_lst (pa_cons pe_non pa_nil)) pa_nil)))))))))) (pe_op op_modN (pv 0) pe_int) (fun _ _ => rfl)))
    (pss_cut (ps_if (pt_val (pe_callB (call_isiK' (K := K) rfl) (by rfl) B.isinstance_ bo_isinstance (pa_cons (pv 2) (pa_cons (pe_bltn (v := .ty "list") (by rfl) B.list_ bo_list rfl) pa_nil))))
    (pss_one (ps_set (i := 2) sc_law_leading_asked.nd rfl (Or.inl rfl) (pe_op op_cat (pe_op op_rep (pe_lst (pa_cons pe_int pa_nil)) (pe_op op_modN (pv 1) pe_int)) (pe_ifExp (pt_cmpR op_eq (pe_op op_modN (pv 0) pe_int) pe_int (nomark _)) (pe_lst (pa_cons (pe_op op_add (pe_op op_add pe_int (pv 1)) (pe_op op_modN (pv 1) pe_int)) pa_nil)) (pv 2)))))
    pss_nil)
    (pss_cons (ps_set (i := 3) sc_law_leading_asked.nd rfl (Or.inl rfl) (pe_op op_modN (pe_op op_fdivN (pv 0) pe_int) pe_int))
    (pss_cons (ps_if (pt_cmpR op_lt (pv 3) pe_int (nomark _))
    (pss_one (ps_ret (pe_callE (takes_of rfl rfl rfl rfl) (pe_ix (ix_listK (K := K) rfl) (pe_lst (pa_cons (pe_glob (v := .ref f_rings) (by rfl) m_rings rfl) (pa_cons (pe_glob (v := .ref f_waits) (by rfl) m_waits rfl) (pa_cons (pe_glob (v := .ref f_settled) (by rfl) m_settled rfl) (pa_cons (pe_glob (v := .ref f_undone) (by rfl) m_undone rfl) (pa_cons (pe_glob (v := .ref f_root) (by rfl) m_root rfl) pa_nil)))))) (pv 3) (fun _ _ => rfl)) (pa_cons (pv 2) pa_nil))))
    pss_nil)
    (pss_cons (ps_if (pt_cmpR op_eq (pv 3) pe_int (nomark _))
    (pss_one (ps_ret (pe_callDX D_timesX (hr.mono (by decide)) (by rfl) (takes_of rfl rfl rfl rfl) (pa_cons (pv 2) (pa_cons pe_non pa_nil)))))
    pss_nil)
    (pss_cons (ps_if (pt_cmpR op_lt (pv 3) pe_int (nomark _))
    (pss_one (ps_ret (pe_callE (takes_of rfl rfl rfl rfl) (pe_ix (ix_listK (K := K) rfl) (pe_lst (pa_cons (pe_glob (v := .ref f_after) (by rfl) m_after rfl) (pa_cons (pe_glob (v := .ref f_comers) (by rfl) m_comers rfl) pa_nil))) (pe_op op_sub (pv 3) pe_int) (fun _ _ => rfl)) (pa_cons (pv 2) (pa_cons pe_non (pa_cons pe_non pa_nil))))))
    pss_nil)
    (pss_cons (ps_if (pt_cmpR op_lt (pv 3) pe_int (nomark _))
    (pss_one (ps_ret (pe_callE (takes_of rfl rfl rfl rfl) (pe_ix (ix_listK (K := K) rfl) (pe_lst (pa_cons (pe_glob (v := .ref f_reached) (by rfl) m_reached rfl) (pa_cons (pe_glob (v := .ref f_comes) (by rfl) m_comes rfl) pa_nil))) (pe_op op_sub (pv 3) pe_int) (fun _ _ => rfl)) (pa_cons (pv 2) (pa_cons pe_non (pa_cons pe_non pa_nil))))))
    pss_nil)
    (pss_one (ps_ret (pe_ifExp (pt_cmpR op_eq (pe_op op_modN (pv 3) pe_int) pe_int (nomark _)) (pe_callDX D_behindX (hr.mono (by decide)) (by rfl) (takes_of rfl rfl rfl rfl) (pa_cons (pv 2) (pa_cons (pe_lst (pa_cons pe_int (pa_cons pe_int pa_nil))) pa_nil))) (pe_callDX D_behindX (hr.mono (by decide)) (by rfl) (takes_of rfl rfl rfl rfl) (pa_cons (pe_lst (pa_cons pe_int (pa_cons pe_int pa_nil))) (pa_cons (pv 2) pa_nil))))))))))))), ?_⟩
    have hn : u % 9 < 9 := Nat.mod_lt _ (by decide)
    obtain ⟨it, hit, hk⟩ := bad_kind (K := K) (m := m) hn
    refine q_asgE (er_pick (n := u % 9) (is := badIts m) (ear_cons (er_v ev_c) (ear_cons (er_u (eu_tup (ea1 ev_c) (by decide))) (ear_cons (er_v ev_c) (ear_cons (er_v ev_c) (ear_cons (er_l (el_lst (ea1 (ev_op ev_c (ev_var rfl) rv_I0)) (by show 1 ≤ 100000; decide))) (ear_cons (er_l (el_lst (ea1 (ev_op (ev_un ev_c ru_neg) (ev_var rfl) rv_I0)) (by show 1 ≤ 100000; decide)))
      (ear_cons (er_l (el_lst (ea1 ev_c) (by decide))) (ear_cons (er_l (el_lst (ea1 ev_c) (by decide))) (ear_cons (er_l (el_lst (ea1 ev_c) (by decide))) ear_nil))))))))) (fun H1 e1 => ev_op (ev_var rfl) ev_c (rv_IW (by decide) (vmod u 9))) (by show 9 ≤ 1000; decide) hit) fun v H1 e1 hv => ?_
    have hkd := hk v H1 hv
    have hm4 : m % 4 < 4 := Nat.mod_lt _ (by decide)
    refine q_cut (M := fun σ' H' => ∃ v', σ' = [some (.int (u : Int)), some (.int (m : Int)), some v', none] ∧ Ex H H' ∧ BadL K H' v') ?_ fun σ' H2 ⟨v', hσ, e2, hb⟩ => ?_
    · rcases hkd with hno | ⟨p, y, rfl, hp, hy⟩
      · exact s_skip (et_B (ev_isiNo (ev_var rfl) hno)) fun H2 e2 => ⟨v, rfl, e1.trans e2, .inl (hno.ex e2)⟩
      · refine s_when (b := true) (et_B (ev_isiList (ev_var rfl) (.inl hp))) (fun _ H2 e2 => ?_) (fun h => nomatch h)
        have hfin : ∀ {y' : V}, NumB K H2 y' 0 ((m % 4 : Nat) : Int) false → ∀ p' H3, Ex H2 H3 → H3 p' = some (.lst (List.replicate (m % 4) (.int 0) ++ [y'])) → BadL K H3 (.ref p') := fun {y'} h p' H3 e3 hp' => badL_of hp' (by omega) (h.ex e3)
        rcases hy with ⟨h4, rfl⟩ | ⟨h4, hy⟩
        · refine s_asgL (el_catIt (xs := List.replicate (m % 4) (.int 0)) (ys := [.int (1 + (m : Int) + ((m % 4 : Nat) : Int))]) (el_rep1 (k := m % 4) (el_lst (ea1 ev_c) (by decide)) (ev_op (ev_var rfl) ev_c (rv_IW (by decide) (vmod m 4))) (by omega))
            (er_if (b := true) (et_test (ev_op (ev_op (ev_var rfl) ev_c (rv_IW (by decide) (vmod u 9))) ev_c (rv_eqB (by rw [h4]; rfl)))) (fun _ => er_l (el_lst (ea1 (ev_op (ev_op ev_c (ev_var rfl) rv_I0) (ev_op (ev_var rfl) ev_c (rv_IW (by decide) (vmod m 4))) rv_I0)) (by show 1 ≤ 100000; decide))) (fun h => nomatch h)) (by rw [List.length_replicate]; show m % 4 + 1 ≤ 100000; omega)) fun p' H3 n3 e3 hp' => ?_
          exact ⟨_, rfl, (e1.trans e2).trans e3, hfin (.inl ⟨_, rfl, by rw [decide_eq_false (by omega : ¬ (1 + (m : Int) + ((m % 4 : Nat) : Int) ≤ ((m % 4 : Nat) : Int))), Bool.and_false]⟩) p' H3 e3 hp'⟩
        · refine s_asgL (el_catIt (xs := List.replicate (m % 4) (.int 0)) (ys := [y]) (el_rep1 (k := m % 4) (el_lst (ea1 ev_c) (by decide)) (ev_op (ev_var rfl) ev_c (rv_IW (by decide) (vmod m 4))) (by omega))
            (er_if (b := false) (et_test (ev_op (ev_op (ev_var rfl) ev_c (rv_IW (by decide) (vmod u 9))) ev_c (rv_eqB (decide_eq_false (by omega))))) (fun h => nomatch h) (fun _ => er_at (i := .l [y]) (ev_var rfl) ⟨p, rfl, e2 _ _ hp⟩)) (by rw [List.length_replicate]; show m % 4 + 1 ≤ 100000; omega)) fun p' H3 n3 e3 hp' => ?_
          exact ⟨_, rfl, (e1.trans e2).trans e3, hfin ((hy _).ex e2) p' H3 e3 hp'⟩
    · subst hσ
      have hd : u / 9 % 13 < 13 := Nat.mod_lt _ (by decide)
      refine q_asg (ev_op (ev_op (ev_var rfl) ev_c (rv_IW ⟨by decide, by decide⟩ (vdiv u 9))) ev_c (rv_IW (by decide) (vmod (u / 9) 13))) fun H3 e3 => ?_
      generalize u / 9 % 13 = d at hd ⊢
      have hb3 := hb.ex e3
      have q3 := q.mv (e2.trans e3)
      refine q_when (et_test (ev_op (ev_var rfl) ev_c rv_I0)) (fun h5 H4 e4 => ?_) (fun h5 H4 e4 => ?_)
      · have h5 := of_decide_eq_true h5
        have hb4 := hb3.ex e4
        have q4 := q3.mv e4
        have hl : ∀ {n : Nat} {g : Addr}, d = n → ([V.ref f_rings, .ref f_waits, .ref f_settled, .ref f_undone, .ref f_root] : List V)[n]? = some (.ref g) → Ev (tOp (rIxL K) (tLst (tCons (tC (.ref f_rings)) (tCons (tC (.ref f_waits)) (tCons (tC (.ref f_settled)) (tCons (tC (.ref f_undone)) (tCons (tC (.ref f_root)) tNil)))))) (tVar 3)) [some (.int (u : Int)), some (.int (m : Int)), some v', some (.int (d : Int))] H4 (.ref g) := fun {n g} hn hg => by
          subst hn
          exact ev_pick (xs := [.ref f_rings, .ref f_waits, .ref f_settled, .ref f_undone, .ref f_root]) (n := d) (ea_cons ev_c (ea_cons ev_c (ea3 ev_c ev_c ev_c))) (fun H5 e5 => ev_var rfl) (by show 5 ≤ 1000; decide) hg
        rcases (by omega : d = 0 ∨ d = 1 ∨ d = 2 ∨ d = 3 ∨ d = 4) with h0 | h0 | h0 | h0 | h0
        · exact x_callE (hl h0 rfl) F_rings (hr.mono (by decide)) k_rings b_rings (ea1 (ev_var rfl)) fun H5 e5 => ⟨v', rfl, hb4.ex e5, q4.mv e5⟩
        · exact x_callE (hl h0 rfl) F_waits (hr.mono (by decide)) k_waits b_waits (ea1 (ev_var rfl)) fun H5 e5 => ⟨v', rfl, hb4.ex e5, q4.mv e5⟩
        · exact x_callE (hl h0 rfl) F_settled (hr.mono (by decide)) k_settled b_settled (ea1 (ev_var rfl)) fun H5 e5 => ⟨v', rfl, hb4.ex e5, q4.mv e5⟩
        · exact x_callE (hl h0 rfl) F_undone (hr.mono (by decide)) k_undone b_undone (ea1 (ev_var rfl)) fun H5 e5 => .inl ⟨v', rfl, hb4.ex e5, q4.mv e5⟩
        · exact x_callE (hl h0 rfl) F_root (hr.mono (by decide)) k_root b_root (ea1 (ev_var rfl)) fun H5 e5 => .inl ⟨v', rfl, hb4.ex e5, q4.mv e5⟩
      · have h5 := of_decide_eq_false h5
        have hb4 := hb3.ex e4
        have q4 := q3.mv e4
        refine q_when (et_test (ev_op (ev_var rfl) ev_c (rv_eqB rfl))) (fun h6 H5 e5 => ?_) (fun h6 H5 e5 => ?_)
        · exact x_call (ea2 (ev_var rfl) ev_c) fun H6 e6 => .inl ⟨v', .non, rfl, hb4.ex (e5.trans e6), q4.mv (e5.trans e6)⟩
        · have h6 := of_decide_eq_false h6
          have hb5 := hb4.ex e5
          have q5 := q4.mv e5
          refine q_when (et_test (ev_op (ev_var rfl) ev_c rv_I0)) (fun h7 H6 e6 => ?_) (fun h7 H6 e6 => ?_)
          · have h7 := of_decide_eq_true h7
            have hb6 := hb5.ex e6
            have q6 := q5.mv e6
            rcases (by omega : d = 6 ∨ d = 7) with rfl | rfl
            · exact x_callE (ev_pick (xs := [.ref f_after, .ref f_comers]) (n := 0) (ea2 ev_c ev_c) (fun H7 e7 => ev_op (ev_var rfl) ev_c (rv_dec rfl)) (by show 2 ≤ 1000; decide) rfl) F_after (hr.mono (by decide)) k_after b_after (ea3 (ev_var rfl) ev_c ev_c) fun H7 e7 => .inl ⟨v', _, _, rfl, hb6.ex e7, q6.mv e7⟩
            · exact x_callE (ev_pick (xs := [.ref f_after, .ref f_comers]) (n := 1) (ea2 ev_c ev_c) (fun H7 e7 => ev_op (ev_var rfl) ev_c (rv_dec rfl)) (by show 2 ≤ 1000; decide) rfl) F_comers (hr.mono (by decide)) k_comers b_comers (ea3 (ev_var rfl) ev_c ev_c) fun H7 e7 => .inl ⟨v', _, _, rfl, hb6.ex e7, q6.mv e7⟩
          · have h7 := of_decide_eq_false h7
            have hb6 := hb5.ex e6
            have q6 := q5.mv e6
            refine q_when (et_test (ev_op (ev_var rfl) ev_c rv_I0)) (fun h8 H7 e7 => ?_) (fun h8 H7 e7 => ?_)
            · have h8 := of_decide_eq_true h8
              have hb7 := hb6.ex e7
              have q7 := q6.mv e7
              rcases (by omega : d = 8 ∨ d = 9) with rfl | rfl
              · exact x_callE (ev_pick (xs := [.ref f_reached, .ref f_comes]) (n := 0) (ea2 ev_c ev_c) (fun H8 e8 => ev_op (ev_var rfl) ev_c (rv_dec rfl)) (by show 2 ≤ 1000; decide) rfl) F_reached (hr.mono (by decide)) k_reached b_reached (ea3 (ev_var rfl) ev_c ev_c) fun H8 e8 => .inl ⟨v', _, _, rfl, hb7.ex e8, q7.mv e8⟩
              · exact x_callE (ev_pick (xs := [.ref f_reached, .ref f_comes]) (n := 1) (ea2 ev_c ev_c) (fun H8 e8 => ev_op (ev_var rfl) ev_c (rv_dec rfl)) (by show 2 ≤ 1000; decide) rfl) F_comes (hr.mono (by decide)) k_comes b_comes (ea3 (ev_var rfl) ev_c ev_c) fun H8 e8 => .inl ⟨v', _, _, rfl, hb7.ex e8, q7.mv e8⟩
            · have hb7 := hb6.ex e7
              have q7 := q6.mv e7
              refine ret_if (et_test (ev_op (ev_op (ev_var rfl) ev_c (rv_IW (by decide) (vmod d 2))) ev_c (rv_eqB rfl))) (fun _ H8 e8 => ?_) (fun _ H8 e8 => ?_)
              · refine x_callR (ear_cons (er_v (ev_var rfl)) (ear_cons (er_l (el_lst (ea2 ev_c ev_c) (by decide))) ear_nil)) fun vs H9 e9 hv => ?_
                obtain ⟨x, y, rfl, h1, h2⟩ := its2 hv
                obtain rfl := (show x = _ from h1)
                exact .inl ⟨_, y, rfl, hb7.ex (e8.trans e9), q7.mv (e8.trans e9)⟩
              · refine x_callR (ear_cons (er_l (el_lst (vs := nl [0, 1]) (ea2 ev_c ev_c) (by decide))) (ear_cons (er_v (ev_var rfl)) ear_nil)) fun vs H9 e9 hv => ?_
                obtain ⟨x, y, rfl, ⟨p, rfl, hp⟩, h2⟩ := its2 hv
                obtain rfl := (show y = _ from h2)
                exact .inr (.inl ⟨p, [0, 1], _, rfl, ⟨.inl hp, by unfold Lead; decide, by decide⟩, hb7.ex (e8.trans e9), q7.mv (e8.trans e9)⟩)

/-! ### no place, at a door -/
def placeIts (m : Nat) : List It := [.v .non, .v (.str "0"), .v (.int (-1 - (m : Int))), .v (.int (3 + (m : Int))), .v (.bl true), .l [.int 0], .u [.int 1]]
theorem place_kind {K : PySem.W.Frag} {m n : Nat} (hn : n < 7) : ∃ it, (placeIts m)[n]? = some it ∧ ∀ v H, it.at v H → NumB K H v 0 ((([1, 2, 2] : List Nat).length : Int) - 1) false := by
  have h2 : (((([1, 2, 2] : List Nat).length : Nat) : Int) - 1) = 2 := rfl
  rw [h2]
  match n, hn with
  | 0, _ => exact ⟨_, rfl, fun v H h => by
    obtain rfl := (show v = _ from h)
    exact .inr ⟨rfl, .inr noInt_non⟩⟩
  | 1, _ => exact ⟨_, rfl, fun v H h => by
    obtain rfl := (show v = _ from h)
    exact .inr ⟨rfl, .inr noInt_str⟩⟩
  | 2, _ => exact ⟨_, rfl, fun v H h => .inl ⟨_, h, by rw [decide_eq_false (by omega)]; rfl⟩⟩
  | 3, _ => exact ⟨_, rfl, fun v H h => .inl ⟨_, h, by rw [decide_eq_false (by omega : ¬ ((3 : Int) + (m : Int) ≤ 2)), Bool.and_false]⟩⟩
  | 4, _ => exact ⟨_, rfl, fun v H h => .inr ⟨rfl, .inl ⟨_, h⟩⟩⟩
  | 5, _ => exact ⟨_, rfl, fun v H ⟨p, e, hp⟩ => by
    subst e
    exact .inr ⟨rfl, .inr (noInt_lst hp)⟩⟩
  | 6, _ => exact ⟨_, rfl, fun v H ⟨p, e, hp⟩ => by
    subst e
    exact .inr ⟨rfl, .inr (noInt_tup hp)⟩⟩
  | k + 7, h => exact absurd h (by omega)
abbrev s_law_place_asked : Stmt := topS 46
abbrev N_law_place_asked : List Str := ["_law_which", "_law_more", "_law_bad", "_law_door", "_law_pair"]
theorem sc_law_place_asked : FnScope N_law_place_asked ["_law_which", "_law_more"] (defScope s_law_place_asked) := ⟨rfl, rfl, rfl, by decide +kernel, rfl, by decide +kernel, by decide +kernel⟩
def spLPA (c : Cs) : Sp := fun vs H _ E => ∃ (u m : Nat), vs = [.int (u : Int), .int (m : Int)] ∧ m < 1000 ∧ Rai c.BadPlace H E
theorem ok_law_place_askedX {f : Addr} {fd : FuncData} (F : Fun K "_law_place_asked" "_law_place_asked" s_law_place_asked f fd) (B : Bl mg) (D_afterX : Dk P w K mg base (CX P w) 3 "after" ["leading", "place", "steps"] (spX3 K c)) (D_comersX : Dk P w K mg base (CX P w) 3 "comers" ["leading", "place", "steps"] (spX3 K c))
    (D_reachedX : Dk P w K mg base (CX P w) 3 "reached" ["leading", "one", "other"] (spX3p K c)) (D_comesX : Dk P w K mg base (CX P w) 3 "comes" ["leading", "one", "other"] (spX3p K c)) : FnOk P w K mg base (CX P w) 4 f fd ["_law_which", "_law_more"] (spLPA c) := by
  obtain ⟨f_after, fd_after, F_after, m_after, k_after, b_after⟩ := D_afterX.ex
  obtain ⟨f_comers, fd_comers, F_comers, m_comers, k_comers, b_comers⟩ := D_comersX.ex
  obtain ⟨f_reached, fd_reached, F_reached, m_reached, k_reached, b_reached⟩ := D_reachedX.ex
  obtain ⟨f_comes, fd_comes, F_comes, m_comes, k_comes, b_comes⟩ := D_comesX.ex
  refine F.okX sc_law_place_asked (fun vs H Q E h => ?_) (fun cdv A outer s H vs Q E hr h => ?_)
  · obtain ⟨u, m, rfl, _⟩ := h
    rfl
  · obtain ⟨u, m, rfl, hm, q⟩ := h
    refine ⟨_, (pss_cons (ps_set (i := 2) sc_law_place_asked.nd rfl (Or.inl rfl) (pe_ix (ix_listK (K := K) rfl) (pe_lst (pa_cons pe_non (pa_cons pe_str (pa_cons (pe_op op_sub (pe_un un_neg pe_int) (pv 1)) (pa_cons (pe_op op_add pe_int (pv 1)) (pa_cons pe_bl (pa_cons (pe_lst (pa_cons pe_int pa_nil)) (pa_cons (pe_tup (pa_cons pe_int pa_nil)) pa_nil)))))))) (pe_op op_modN (pv 0) pe_int) (fun _ _ => rfl)))
    (pss_cons (ps_set (i := 3) sc_law_place_asked.nd rfl (Or.inl rfl) (pe_op op_modN (pe_op op_fdivN (pv 0) pe_int) pe_int))
    (pss_cons (ps_if (pt_cmpR op_lt (pv 3) pe_int (nomark _))
    (pss_one (ps_ret (pe_callE (takes_of rfl rfl rfl rfl) (pe_ix (ix_listK (K := K) rfl) (pe_lst (pa_cons (pe_glob (v := .ref f_after) (by rfl) m_after rfl) (pa_cons (pe_glob (v := .ref f_comers) (by rfl) m_comers rfl) pa_nil))) (pv 3) (fun _ _ => rfl)) (pa_cons (pe_lst (pa_cons pe_int (pa_cons pe_int (pa_cons pe_int pa_nil)))) (pa_cons (pv 2) (pa_cons pe_non pa_nil))))))
    pss_nil)
    (pss_cons (ps_set (i := 4) sc_law_place_asked.nd rfl (Or.inl rfl) (pe_ix (ix_listK (K := K) rfl) (pe_lst (pa_cons (pe_tup (pa_cons (pv 2) (pa_cons pe_int pa_nil))) (pa_cons (pe_tup (pa_cons pe_int (pa_cons (pv 2) pa_nil))) pa_nil))) (pe_op op_modN (pv 3) pe_int) (fun _ _ => rfl)))
    (pss_one (ps_ret (pe_callE (takes_of rfl rfl rfl rfl) (pe_ix (ix_listK (K := K) rfl) (pe_lst (pa_cons (pe_glob (v := .ref f_reached) (by rfl) m_reached rfl) (pa_cons (pe_glob (v := .ref f_comes) (by rfl) m_comes rfl) pa_nil))) (pe_op op_sub (pe_op op_fdivN (pv 3) pe_int) pe_int) (fun _ _ => rfl)) (pa_cons (pe_lst (pa_cons pe_int (pa_cons pe_int (pa_cons pe_int pa_nil)))) (pa_cons (pe_ix (ix_tupK (K := K) rfl) (pv 4) pe_int (fun _ _ => rfl)) (pa_cons (pe_ix (ix_tupK (K := K) rfl) (pv 4) pe_int (fun _ _ => rfl)) pa_nil)))))))))), ?_⟩
    have hn : u % 7 < 7 := Nat.mod_lt _ (by decide)
    obtain ⟨it, hit, hk⟩ := place_kind (K := K) (m := m) hn
    refine q_asgE (er_pick (n := u % 7) (is := placeIts m) (ear_cons (er_v ev_c) (ear_cons (er_v ev_c) (ear_cons (er_v (ev_op (ev_un ev_c ru_neg) (ev_var rfl) rv_I0)) (ear_cons (er_v (ev_op ev_c (ev_var rfl) rv_I0)) (ear_cons (er_v ev_c) (ear_cons (er_l (el_lst (ea1 ev_c) (by decide))) (ear_cons (er_u (eu_tup (ea1 ev_c) (by decide))) ear_nil)))))))
      (fun H1 e1 => ev_op (ev_var rfl) ev_c (rv_IW (by decide) (vmod u 7))) (by show 7 ≤ 1000; decide) hit) fun v H1 e1 hv => ?_
    have hb := hk v H1 hv
    have hd : u / 7 % 6 < 6 := Nat.mod_lt _ (by decide)
    refine q_asg (ev_op (ev_op (ev_var rfl) ev_c (rv_IW ⟨by decide, by decide⟩ (vdiv u 7))) ev_c (rv_IW (by decide) (vmod (u / 7) 6))) fun H2 e2 => ?_
    generalize u / 7 % 6 = d at hd ⊢
    refine q_when (et_test (ev_op (ev_var rfl) ev_c rv_I0)) (fun h2 H3 e3 => ?_) (fun h2 H3 e3 => ?_)
    · have h2 := of_decide_eq_true h2
      have q3 := q.mv ((e1.trans e2).trans e3)
      have hb3 := hb.ex (e2.trans e3)
      rcases (by omega : d = 0 ∨ d = 1) with rfl | rfl
      · refine x_callER (ev_pick (xs := [.ref f_after, .ref f_comers]) (n := 0) (ea2 ev_c ev_c) (fun H7 e7 => ev_var rfl) (by show 2 ≤ 1000; decide) rfl) F_after (hr.mono (by decide)) k_after b_after (ear_cons (er_l (el_lst (vs := nl [1, 2, 2]) (ea3 ev_c ev_c ev_c) (by decide))) (ear_cons (er_v (ev_var rfl)) (ear_cons (er_v ev_c) ear_nil))) fun vs H4 e4 hv => ?_
        obtain ⟨x, y, z, rfl, ⟨p, rfl, hp⟩, h5, h6⟩ := its3 hv
        obtain rfl := (show y = _ from h5)
        exact .inr (.inl ⟨p, [1, 2, 2], _, z, rfl, ld122 hp, hb3.ex e4, q3.mv e4⟩)
      · refine x_callER (ev_pick (xs := [.ref f_after, .ref f_comers]) (n := 1) (ea2 ev_c ev_c) (fun H7 e7 => ev_var rfl) (by show 2 ≤ 1000; decide) rfl) F_comers (hr.mono (by decide)) k_comers b_comers (ear_cons (er_l (el_lst (vs := nl [1, 2, 2]) (ea3 ev_c ev_c ev_c) (by decide))) (ear_cons (er_v (ev_var rfl)) (ear_cons (er_v ev_c) ear_nil))) fun vs H4 e4 hv => ?_
        obtain ⟨x, y, z, rfl, ⟨p, rfl, hp⟩, h5, h6⟩ := its3 hv
        obtain rfl := (show y = _ from h5)
        exact .inr (.inl ⟨p, [1, 2, 2], _, z, rfl, ld122 hp, hb3.ex e4, q3.mv e4⟩)
    · have h2 := of_decide_eq_false h2
      have hn2 : d % 2 < 2 := Nat.mod_lt _ (by decide)
      have hpair : ∃ it, ([.u [v, .int 0], .u [.int 0, v]] : List It)[d % 2]? = some it ∧ ∀ t H', it.at t H' → ∃ T x y, t = .ref T ∧ H' T = some (.tup [x, y]) ∧ ((x = v) ∨ (x = .int 0 ∧ y = v)) := by
        rcases (by omega : d % 2 = 0 ∨ d % 2 = 1) with e | e
        · rw [e]
          exact ⟨_, rfl, fun t H' ⟨T, et, hT⟩ => ⟨T, _, _, et, hT, .inl rfl⟩⟩
        · rw [e]
          exact ⟨_, rfl, fun t H' ⟨T, et, hT⟩ => ⟨T, _, _, et, hT, .inr ⟨rfl, rfl⟩⟩⟩
      obtain ⟨it2, hit2, hk2⟩ := hpair
      refine q_asgE (er_pick (n := d % 2) (is := [.u [v, .int 0], .u [.int 0, v]]) (ear_cons (er_u (eu_tup (ea2 (ev_var rfl) ev_c) (by show 2 ≤ 100000; decide))) (ear_cons (er_u (eu_tup (ea2 ev_c (ev_var rfl)) (by show 2 ≤ 100000; decide))) ear_nil)) (fun H4 e4 => ev_op (ev_var rfl) ev_c (rv_IW (by decide) (vmod d 2))) (by show 2 ≤ 1000; decide) hit2) fun t H4 e4 ht => ?_
      obtain ⟨T, x, y, rfl, hT, hxy⟩ := hk2 t H4 ht
      have q4 := q.mv (((e1.trans e2).trans e3).trans e4)
      have hb4 := hb.ex ((e2.trans e3).trans e4)
      have hargs : EvAR (tCons (tLst (tCons (tC (.int 1)) (tCons (tC (.int 2)) (tCons (tC (.int 2)) tNil)))) (tCons (tOp (rIxT K) (tVar 4) (tC (.int 0))) (tCons (tOp (rIxT K) (tVar 4) (tC (.int 1))) tNil))) [some (.int (u : Int)), some (.int (m : Int)), some v, some (.int (d : Int)), some (.ref T)] H4 [.l (nl [1, 2, 2]), .v x, .v y] :=
        ear_cons (er_l (el_lst (vs := nl [1, 2, 2]) (ea3 ev_c ev_c ev_c) (by decide))) (ear_cons (er_v (ev_op (ev_var rfl) ev_c (rv_ixT (st_of hT) (atI_nat (j := 0) rfl)))) (ear_cons (er_v (ev_op (ev_var rfl) ev_c (rv_ixT (st_of hT) (atI_nat (j := 1) rfl)))) ear_nil))
      have hend : ∀ vs H5, Ex H4 H5 → Its H5 [.l (nl [1, 2, 2]), .v x, .v y] vs → ∀ Q, spX3p K c vs H5 Q E := fun vs H5 e5 hv Q => by
        obtain ⟨a, x', y', rfl, ⟨p, rfl, hp⟩, h5, h6⟩ := its3 hv
        obtain rfl := (show x' = _ from h5)
        obtain rfl := (show y' = _ from h6)
        rcases hxy with rfl | ⟨rfl, rfl⟩
        · exact .inr (.inl ⟨p, [1, 2, 2], _, _, rfl, ld122 hp, hb4.ex e5, q4.mv e5⟩)
        · exact .inr (.inr ⟨p, [1, 2, 2], 0, _, rfl, ld122 hp, by decide, hb4.ex e5, q4.mv e5⟩)
      rcases (by omega : (d = 2 ∨ d = 3) ∨ (d = 4 ∨ d = 5)) with h | h
      · exact x_callER (ev_pick (xs := [.ref f_reached, .ref f_comes]) (n := 0) (ea2 ev_c ev_c) (fun H7 e7 => ev_op (ev_op (ev_var rfl) ev_c (rv_IW ⟨by decide, by decide⟩ (vdiv d 2))) ev_c (rv_dec (by rw [show d / 2 = 1 by omega]; rfl))) (by show 2 ≤ 1000; decide) rfl) F_reached (hr.mono (by decide)) k_reached b_reached hargs fun vs H5 e5 hv => hend vs H5 e5 hv _
      · exact x_callER (ev_pick (xs := [.ref f_reached, .ref f_comes]) (n := 1) (ea2 ev_c ev_c) (fun H7 e7 => ev_op (ev_op (ev_var rfl) ev_c (rv_IW ⟨by decide, by decide⟩ (vdiv d 2))) ev_c (rv_dec (by rw [show d / 2 = 2 by omega]; rfl))) (by show 2 ≤ 1000; decide) rfl) F_comes (hr.mono (by decide)) k_comes b_comes hargs fun vs H5 e5 hv => hend vs H5 e5 hv _
/-! ### counts of steps, unlike ones, none to be taken back -/
def stepIts (m : Nat) : List It := [.v .non, .v (.str "1"), .v (.bl true), .l [.int 1], .u [.int 1], .v (.int (-1 - (m : Int)))]
theorem step_kind {K : PySem.W.Frag} {m n : Nat} (hn : n < 6) : ∃ it, (stepIts m)[n]? = some it ∧ ∀ v H, it.at v H → BadS K H v := by
  match n, hn with
  | 0, _ => exact ⟨_, rfl, fun v H h => by
    obtain rfl := (show v = _ from h)
    exact .inr (.inr noInt_non)⟩
  | 1, _ => exact ⟨_, rfl, fun v H h => by
    obtain rfl := (show v = _ from h)
    exact .inr (.inr noInt_str)⟩
  | 2, _ => exact ⟨_, rfl, fun v H h => .inr (.inl ⟨_, h⟩)⟩
  | 3, _ => exact ⟨_, rfl, fun v H ⟨p, e, hp⟩ => by
    subst e
    exact .inr (.inr (noInt_lst hp))⟩
  | 4, _ => exact ⟨_, rfl, fun v H ⟨p, e, hp⟩ => by
    subst e
    exact .inr (.inr (noInt_tup hp))⟩
  | 5, _ => exact ⟨_, rfl, fun v H h => .inl ⟨_, h, by omega⟩⟩
  | k + 6, h => exact absurd h (by omega)
theorem twice_kind {m n : Nat} (hn : n < 3) : ∃ L : List Nat, ([.l (nl [0, 0]), .l (nl [1, 2, 2]), .l (nl (List.replicate (2 + m % 7) 0))] : List It)[n]? = some (.l (nl L)) ∧ Lead L ∧ L.length ≤ 63 ∧ ¬ L.Nodup := by
  match n, hn with
  | 0, _ => exact ⟨[0, 0], rfl, by unfold Lead; decide, by decide, by decide⟩
  | 1, _ => exact ⟨[1, 2, 2], rfl, by unfold Lead; decide, by decide, by decide⟩
  | 2, _ =>
    have hm : m % 7 < 7 := Nat.mod_lt _ (by decide)
    refine ⟨List.replicate (2 + m % 7) 0, rfl, fun x hx => ?_, by rw [List.length_replicate]; omega, ?_⟩
    · rw [(List.mem_replicate.mp hx).2, List.length_replicate]
      omega
    · rw [show 2 + m % 7 = m % 7 + 1 + 1 by omega, List.replicate_succ, List.replicate_succ, List.nodup_cons]
      exact fun h => h.1 List.mem_cons_self
  | k + 3, h => exact absurd h (by omega)
abbrev s_law_others_asked : Stmt := topS 47
abbrev N_law_others_asked : List Str := ["_law_kind", "_law_which", "_law_more", "_law_bad", "_law_door", "_law_one"]
theorem sc_law_others_asked : FnScope N_law_others_asked ["_law_kind", "_law_which", "_law_more"] (defScope s_law_others_asked) := ⟨rfl, rfl, rfl, by decide +kernel, rfl, by decide +kernel, by decide +kernel⟩
def spLOA (c : Cs) : Sp := fun vs H _ E => ∃ (k u m : Nat), vs = [.int (k : Int), .int (u : Int), .int (m : Int)] ∧ m < 1000 ∧ ((k = 2 ∧ Rai c.BadSteps H E) ∨ (k = 3 ∧ Rai c.Unlike H E) ∨ (k = 4 ∧ Rai c.NotBack H E))
theorem ok_law_others_askedX {f : Addr} {fd : FuncData} (F : Fun K "_law_others_asked" "_law_others_asked" s_law_others_asked f fd) (B : Bl mg) (D_undoneX : Dk P w K mg base (CX P w) 3 "undone" ["leading"] (spX1b K c)) (D_rootX : Dk P w K mg base (CX P w) 3 "root" ["leading"] (spX1b K c)) (D_timesX : Dk P w K mg base (CX P w) 3 "times" ["leading", "steps"] (spX2 K c))
    (D_afterX : Dk P w K mg base (CX P w) 3 "after" ["leading", "place", "steps"] (spX3 K c)) (D_comersX : Dk P w K mg base (CX P w) 3 "comers" ["leading", "place", "steps"] (spX3 K c)) (D_behindX : Dk P w K mg base (CX P w) 3 "behind" ["one", "other"] (spXb K c)) : FnOk P w K mg base (CX P w) 4 f fd ["_law_kind", "_law_which", "_law_more"] (spLOA c) := by
  obtain ⟨f_undone, fd_undone, F_undone, m_undone, k_undone, b_undone⟩ := D_undoneX.ex
  obtain ⟨f_root, fd_root, F_root, m_root, k_root, b_root⟩ := D_rootX.ex
  obtain ⟨f_after, fd_after, F_after, m_after, k_after, b_after⟩ := D_afterX.ex
  obtain ⟨f_comers, fd_comers, F_comers, m_comers, k_comers, b_comers⟩ := D_comersX.ex
  refine F.okX sc_law_others_asked (fun vs H Q E h => ?_) (fun cdv A outer s H vs Q E hr h => ?_)
  · obtain ⟨k, u, m, rfl, _⟩ := h
    rfl
  · obtain ⟨k, u, m, rfl, hm, hk⟩ := h
    refine ⟨_, (pss_cons (ps_if (pt_cmpR op_eq (pv 0) pe_int (nomark _))
    (pss_cons (ps_set (i := 3) sc_law_others_asked.nd rfl (Or.inl rfl) (pe_ix (ix_listK (K := K) rfl) (pe_lst (pa_cons pe_non (pa_cons pe_str (pa_cons pe_bl (pa_cons (pe_lst (pa_cons pe_int pa_nil)) (pa_cons (pe_tup (pa_cons pe_int pa_nil)) (pa_cons (pe_op op_sub (pe_un un_neg pe_int) (pv 2)) pa_nil))))))) (pe_op op_modN (pv 1) pe_int) (fun _ _ => rfl)))
    (pss_cons (ps_set (i := 4) sc_law_others_asked.nd rfl (Or.inl rfl) (pe_op op_modN (pe_op op_fdivN (pv 1) pe_int) pe_int))
    (pss_one (ps_ret (pe_ifExp (pt_cmpR op_eq (pv 4) pe_int (nomark _)) (pe_callDX D_timesX (hr.mono (by decide)) (by rfl) (takes_of rfl rfl rfl rfl) (pa_cons (pe_lst (pa_cons pe_int (pa_cons pe_int (pa_cons pe_int pa_nil)))) (pa_cons (pv 3) pa_nil))) (pe_callE (takes_of rfl rfl rfl rfl) (pe_ix (ix_listK (K := K) rfl) (pe_lst (pa_cons (pe_glob (v := .ref f_after) (by rfl) m_after rfl) (pa_cons (pe_glob (v := .ref f_comers) (by rfl) m_comers rfl) pa_nil))) (pe_op op_sub (pv 4) pe_int) (fun _ _ => rfl)) (pa_cons (pe_lst (pa_cons pe_int (pa_cons pe_int (pa_cons pe_int pa_nil)))) (pa_cons pe_int (pa_cons (pv 3) pa_nil)))))))))
    pss_nil)
    (pss_cons (ps_if (pt_cmpR op_eq (pv 0) pe_int (nomark _))
    (pss_cons (ps_set (i := 5) sc_law_others_asked.nd rfl (Or.inl rfl) (pe_op op_rep (pe_lst (pa_cons pe_int pa_nil)) (pe_op op_add pe_int (pe_op op_modN (pv 2) pe_int))))
    (pss_one (ps_ret (pe_ifExp (pt_cmpR op_eq (pe_op op_modN (pv 1) pe_int) pe_int (nomark _)) (pe_callDX D_behindX (hr.mono (by decide)) (by rfl) (takes_of rfl rfl rfl rfl) (pa_cons (pv 5) (pa_cons (pe_op op_cat (pv 5) (pe_lst (pa_cons pe_int pa_nil))) pa_nil))) (pe_callDX D_behindX (hr.mono (by decide)) (by rfl) (takes_of rfl rfl rfl rfl) (pa_cons (pe_op op_cat (pv 5) (pe_lst (pa_cons pe_int pa_nil))) (pa_cons (pv 5) pa_nil)))))))
    pss_nil)
    (pss_one (ps_ret (pe_callE (takes_of rfl rfl rfl rfl) (pe_ix (ix_listK (K := K) rfl) (pe_lst (pa_cons (pe_glob (v := .ref f_undone) (by rfl) m_undone rfl) (pa_cons (pe_glob (v := .ref f_root) (by rfl) m_root rfl) pa_nil))) (pe_op op_modN (pv 1) pe_int) (fun _ _ => rfl)) (pa_cons (pe_ix (ix_listK (K := K) rfl) (pe_lst (pa_cons (pe_lst (pa_cons pe_int (pa_cons pe_int pa_nil))) (pa_cons (pe_lst (pa_cons pe_int (pa_cons pe_int (pa_cons pe_int pa_nil)))) (pa_cons (pe_op op_rep (pe_lst (pa_cons pe_int pa_nil)) (pe_op op_add pe_int (pe_op op_modN (pv 2) pe_int))) pa_nil)))) (pe_op op_modN (pe_op op_fdivN (pv 1) pe_int) pe_int) (fun _ _ => rfl)) pa_nil)))))), ?_⟩
    refine q_when (et_test (ev_op (ev_var rfl) ev_c (rv_eqB rfl))) (fun h2 H1 e1 => ?_) (fun h2 H1 e1 => ?_)
    · have h2 := of_decide_eq_true h2
      have q : Rai c.BadSteps H E := by
        rcases hk with ⟨_, q⟩ | ⟨h, _⟩ | ⟨h, _⟩
        · exact q
        · omega
        · omega
      have hn : u % 6 < 6 := Nat.mod_lt _ (by decide)
      obtain ⟨it, hit, hkk⟩ := step_kind (K := K) (m := m) hn
      refine q_asgE (er_pick (n := u % 6) (is := stepIts m) (ear_cons (er_v ev_c) (ear_cons (er_v ev_c) (ear_cons (er_v ev_c) (ear_cons (er_l (el_lst (ea1 ev_c) (by decide))) (ear_cons (er_u (eu_tup (ea1 ev_c) (by decide))) (ear_cons (er_v (ev_op (ev_un ev_c ru_neg) (ev_var rfl) rv_I0)) ear_nil))))))
        (fun H1 e1 => ev_op (ev_var rfl) ev_c (rv_IW (by decide) (vmod u 6))) (by show 6 ≤ 1000; decide) hit) fun v H2 e2 hv => ?_
      have hb := hkk v H2 hv
      have hd : u / 6 % 3 < 3 := Nat.mod_lt _ (by decide)
      refine q_asg (ev_op (ev_op (ev_var rfl) ev_c (rv_IW ⟨by decide, by decide⟩ (vdiv u 6))) ev_c (rv_IW (by decide) (vmod (u / 6) 3))) fun H3 e3 => ?_
      generalize u / 6 % 3 = d at hd ⊢
      refine ret_if (et_test (ev_op (ev_var rfl) ev_c (rv_eqB rfl))) (fun h0 H4 e4 => ?_) (fun h0 H4 e4 => ?_)
      · refine x_callR (ear_cons (er_l (el_lst (vs := nl [1, 2, 2]) (ea3 ev_c ev_c ev_c) (by decide))) (ear_cons (er_v (ev_var rfl)) ear_nil)) fun vs H5 e5 hv => ?_
        obtain ⟨x, y, rfl, ⟨p, rfl, hp⟩, h5⟩ := its2 hv
        obtain rfl := (show y = _ from h5)
        exact .inr ⟨p, [1, 2, 2], _, rfl, ld122 hp, hb.ex ((e3.trans e4).trans e5), q.mv ((((e1.trans e2).trans e3).trans e4).trans e5)⟩
      · have h0 := of_decide_eq_false h0
        have q4 := q.mv (((e1.trans e2).trans e3).trans e4)
        have hb4 := hb.ex (e3.trans e4)
        rcases (by omega : d = 1 ∨ d = 2) with rfl | rfl
        · refine x_callER (ev_pick (xs := [.ref f_after, .ref f_comers]) (n := 0) (ea2 ev_c ev_c) (fun H7 e7 => ev_op (ev_var rfl) ev_c (rv_dec rfl)) (by show 2 ≤ 1000; decide) rfl) F_after (hr.mono (by decide)) k_after b_after (ear_cons (er_l (el_lst (vs := nl [1, 2, 2]) (ea3 ev_c ev_c ev_c) (by decide))) (ear_cons (er_v ev_c) (ear_cons (er_v (ev_var rfl)) ear_nil))) fun vs H5 e5 hv => ?_
          obtain ⟨x, y, z, rfl, ⟨p, rfl, hp⟩, h5, h6⟩ := its3 hv
          obtain rfl := (show y = _ from h5)
          obtain rfl := (show z = _ from h6)
          exact .inr (.inr ⟨p, [1, 2, 2], 1, _, rfl, ld122 hp, by decide, hb4.ex e5, q4.mv e5⟩)
        · refine x_callER (ev_pick (xs := [.ref f_after, .ref f_comers]) (n := 1) (ea2 ev_c ev_c) (fun H7 e7 => ev_op (ev_var rfl) ev_c (rv_dec rfl)) (by show 2 ≤ 1000; decide) rfl) F_comers (hr.mono (by decide)) k_comers b_comers (ear_cons (er_l (el_lst (vs := nl [1, 2, 2]) (ea3 ev_c ev_c ev_c) (by decide))) (ear_cons (er_v ev_c) (ear_cons (er_v (ev_var rfl)) ear_nil))) fun vs H5 e5 hv => ?_
          obtain ⟨x, y, z, rfl, ⟨p, rfl, hp⟩, h5, h6⟩ := its3 hv
          obtain rfl := (show y = _ from h5)
          obtain rfl := (show z = _ from h6)
          exact .inr (.inr ⟨p, [1, 2, 2], 1, _, rfl, ld122 hp, by decide, hb4.ex e5, q4.mv e5⟩)
    · have h2 := of_decide_eq_false h2
      refine q_when (et_test (ev_op (ev_var rfl) ev_c (rv_eqB rfl))) (fun h3 H2 e2 => ?_) (fun h3 H2 e2 => ?_)
      · have h3 := of_decide_eq_true h3
        have q : Rai c.Unlike H E := by
          rcases hk with ⟨h, _⟩ | ⟨_, q⟩ | ⟨h, _⟩
          · omega
          · exact q
          · omega
        have hm5 : m % 5 < 5 := Nat.mod_lt _ (by decide)
        have hrep : EvL (tOp rRep (tLst (tCons (tC (.int 0)) tNil)) (tOp (rI0 fun i j => .int (i + j)) (tC (.int 1)) (tOp (rI (fun _ j => j ≠ 0) fun i j => .int (i.fmod j)) (tVar 2) (tC (.int 5))))) [some (.int (k : Int)), some (.int (u : Int)), some (.int (m : Int)), none, none, none] H2 (nl (List.replicate (m % 5 + 1) 0)) := by
          rw [← nl_rep]
          exact el_rep1 (el_lst (ea1 ev_c) (by decide)) (ev_op ev_c (ev_op (ev_var rfl) ev_c (rv_IW (by decide) (vmod m 5))) (rv_dec (by
            show V.int (1 + ((m % 5 : Nat) : Int)) = _
            rw [show (1 + ((m % 5 : Nat) : Int)) = ((m % 5 + 1 : Nat) : Int) by omega]))) (by omega)
        refine q_asgL hrep fun p H3 n3 e3 h3' => ?_
        have e := (e1.trans e2).trans e3
        have hcat : ∀ {H4 : Hp} (z : Nat), Ex H3 H4 → EvL (tOp rCat (tVar 5) (tLst (tCons (tC (.int (z : Int))) tNil))) [some (.int (k : Int)), some (.int (u : Int)), some (.int (m : Int)), none, none, some (.ref p)] H4 (nl (List.replicate (m % 5 + 1) 0 ++ [z])) := fun {H4} z e4 => by
          rw [show nl (List.replicate (m % 5 + 1) 0 ++ [z]) = nl (List.replicate (m % 5 + 1) 0) ++ nl [z] from List.map_append]
          exact el_catV (ev_var rfl) (e4 _ _ h3') (el_lst (vs := nl [z]) (ea1 ev_c) (by show 1 ≤ 100000; decide)) (by rw [nl_len, nl_len, List.length_replicate]; show m % 5 + 1 + 1 ≤ 100000; omega)
        have hlen : ∀ z : Nat, (List.replicate (m % 5 + 1) 0 ++ [z]).length = m % 5 + 2 := fun z => by
          rw [List.length_append, List.length_replicate]
          rfl
        have hld : ∀ {z : Nat} {H5 : Hp} {p' : Addr}, z < 2 → H5 p' = some (.lst (nl (List.replicate (m % 5 + 1) 0 ++ [z]))) → IsLd H5 p' (List.replicate (m % 5 + 1) 0 ++ [z]) := fun {z H5 p'} hz h => ⟨.inl h, fun x hx => by
          rw [hlen]
          rcases List.mem_append.mp hx with hx | hx
          · rw [(List.mem_replicate.mp hx).2]
            omega
          · rw [List.mem_singleton.mp hx]
            omega, by rw [hlen]; omega⟩
        refine ret_if (et_test (ev_op (ev_op (ev_var rfl) ev_c (rv_IW (by decide) (vmod u 2))) ev_c (rv_eqB rfl))) (fun _ H4 e4 => ?_) (fun _ H4 e4 => ?_)
        · refine x_callR (ear_cons (er_v (ev_var rfl)) (ear_cons (er_l (hcat 0 e4)) ear_nil)) fun vs H5 e5 hv => ?_
          obtain ⟨x, y, rfl, h5, ⟨p', rfl, hp'⟩⟩ := its2 hv
          obtain rfl := (show x = _ from h5)
          exact .inr (.inr ⟨p, p', _, _, rfl, ldZeros (e5 _ _ (e4 _ _ h3')) (by omega), hld (by decide) hp', by rw [hlen, List.length_replicate]; omega, q.mv ((e.trans e4).trans e5)⟩)
        · refine x_callR (ear_cons (er_l (hcat 1 e4)) (ear_cons (er_v (ev_var rfl)) ear_nil)) fun vs H5 e5 hv => ?_
          obtain ⟨x, y, rfl, ⟨p', rfl, hp'⟩, h5⟩ := its2 hv
          obtain rfl := (show y = _ from h5)
          exact .inr (.inr ⟨p', p, _, _, rfl, hld (by decide) hp', ldZeros (e5 _ _ (e4 _ _ h3')) (by omega), by rw [hlen, List.length_replicate]; omega, q.mv ((e.trans e4).trans e5)⟩)
      · have h3 := of_decide_eq_false h3
        have q : Rai c.NotBack H E := by
          rcases hk with ⟨h, _⟩ | ⟨h, _⟩ | ⟨_, q⟩
          · omega
          · omega
          · exact q
        have hn : u / 2 % 3 < 3 := Nat.mod_lt _ (by decide)
        obtain ⟨L, hit, hL, hz, nd⟩ := twice_kind (m := m) hn
        have hm7 : m % 7 < 7 := Nat.mod_lt _ (by decide)
        have hrep : EvL (tOp rRep (tLst (tCons (tC (.int 0)) tNil)) (tOp (rI0 fun i j => .int (i + j)) (tC (.int 2)) (tOp (rI (fun _ j => j ≠ 0) fun i j => .int (i.fmod j)) (tVar 2) (tC (.int 7))))) [some (.int (k : Int)), some (.int (u : Int)), some (.int (m : Int)), none, none, none] H2 (nl (List.replicate (2 + m % 7) 0)) := by
          rw [← nl_rep]
          exact el_rep1 (el_lst (ea1 ev_c) (by decide)) (ev_op ev_c (ev_op (ev_var rfl) ev_c (rv_IW (by decide) (vmod m 7))) (rv_dec (by
            show V.int (2 + ((m % 7 : Nat) : Int)) = _
            rw [show (2 + ((m % 7 : Nat) : Int)) = ((2 + m % 7 : Nat) : Int) by omega]))) (by omega)
        have hargs := ear_cons (er_pick (K := K) (ti := tOp (rI (fun _ j => j ≠ 0) fun i j => .int (i.fmod j)) (tOp (rI (fun _ j => j ≠ 0 ∧ j.natAbs < 1073741824) fun i j => .int (i.fdiv j)) (tVar 1) (tC (.int 2))) (tC (.int 3))) (n := u / 2 % 3) (ear_cons (er_l (el_lst (vs := nl [0, 0]) (ea2 (ev_c (v := .int 0)) (ev_c (v := .int 0))) (by decide))) (ear_cons (er_l (el_lst (vs := nl [1, 2, 2]) (ea3 (ev_c (v := .int 1)) (ev_c (v := .int 2)) (ev_c (v := .int 2))) (by decide))) (ear_cons (er_l hrep) ear_nil))) (fun H3 e3 => ev_op (ev_op (ev_var rfl) ev_c (rv_IW ⟨by decide, by decide⟩ (vdiv u 2))) ev_c (rv_IW (by decide) (vmod (u / 2) 3))) (by show 3 ≤ 1000; decide) hit) ear_nil
        have hend : ∀ vs H5, Ex H2 H5 → Its H5 [.l (nl L)] vs → ∀ Q, spX1b K c vs H5 Q E := fun vs H5 e5 hv Q => by
          obtain ⟨x, rfl, ⟨p, rfl, hp⟩⟩ := its1 hv
          exact .inr ⟨p, L, rfl, ⟨.inl hp, hL, hz⟩, nd, q.mv ((e1.trans e2).trans e5)⟩
        rcases (by omega : u % 2 = 0 ∨ u % 2 = 1) with e | e
        · exact x_callER (ev_pick (xs := [.ref f_undone, .ref f_root]) (n := 0) (ea2 ev_c ev_c) (fun H7 e7 => ev_op (ev_var rfl) ev_c (rv_IW (by decide) (by rw [← e]; exact vmod u 2))) (by show 2 ≤ 1000; decide) rfl) F_undone (hr.mono (by decide)) k_undone b_undone hargs fun vs H5 e5 hv => hend vs H5 e5 hv _
        · exact x_callER (ev_pick (xs := [.ref f_undone, .ref f_root]) (n := 1) (ea2 ev_c ev_c) (fun H7 e7 => ev_op (ev_var rfl) ev_c (rv_IW (by decide) (by rw [← e]; exact vmod u 2))) (by show 2 ≤ 1000; decide) rfl) F_root (hr.mono (by decide)) k_root b_root hargs fun vs H5 e5 hv => hend vs H5 e5 hv _

def dueOf (k : Nat) : List Bool := [decide ((k : Int) = 0), decide ((k : Int) = 1), decide ((k : Int) = 2), decide ((k : Int) = 3), decide ((k : Int) = 4), true]
theorem suite_ends (C : Cl K mg c) {H : Hp} {D : Ends} {a D0 : Addr} {v0 v1 v2 : Option V} {b1 b2 b3 b4 b5 : Bool} (up : ExcC K D0) (h1 : PySem.W.kitOne K (.ref D0) (.ref c.BadLeading) = some b1) (h2 : PySem.W.kitOne K (.ref D0) (.ref c.BadPlace) = some b2) (h3 : PySem.W.kitOne K (.ref D0) (.ref c.BadSteps) = some b3)
    (h4 : PySem.W.kitOne K (.ref D0) (.ref c.Unlike) = some b4) (h5 : PySem.W.kitOne K (.ref D0) (.ref c.NotBack) = some b5) (h6 : PySem.W.kitOne K (.ref D0) (.type "ValueError") = some true) (k : ∀ p H2, H p = none → Ex H H2 → H2 p = some (.lst ([b1, b2, b3, b4, b5, true].map V.bl)) → D.rt (.ref p) H2) :
    tSeq (tAsg (tLst (tCons (tCB (rIsE2 K (.ref D0) none a) (tCons (tVar 3) (tCons (tC (.ref c.BadLeading)) tNil))) (tCons (tCB (rIsE2 K (.ref D0) none a) (tCons (tVar 3) (tCons (tC (.ref c.BadPlace)) tNil))) (tCons (tCB (rIsE2 K (.ref D0) none a) (tCons (tVar 3) (tCons (tC (.ref c.BadSteps)) tNil))) tNil)))) (gName 4))
      (tRet (tOp rCat (tVar 4) (tLst (tCons (tCB (rIsE2 K (.ref D0) none a) (tCons (tVar 3) (tCons (tC (.ref c.Unlike)) tNil))) (tCons (tCB (rIsE2 K (.ref D0) none a) (tCons (tVar 3) (tCons (tC (.ref c.NotBack)) tNil))) (tCons (tCB (rIsE2 K (.ref D0) none a) (tCons (tVar 3) (tCons (tC (.ty "ValueError")) tNil))) tNil)))))) D [v0, v1, v2, some (.ref a), none] H := by
  refine q_asgL (el_lst (vs := [.bl b1, .bl b2, .bl b3]) (ea3 (ev_isE (ev_var rfl) up (fun u h => h) h1) (ev_isE (ev_var rfl) up (fun u h => h) h2) (ev_isE (ev_var rfl) up (fun u h => h) h3)) (by show 3 ≤ 100000; decide)) fun p H1 n1 e1 hp => ?_
  exact s_retL (el_catV (ev_var rfl) hp (el_lst (vs := [.bl b4, .bl b5, .bl true]) (ea3 (ev_isE (ev_var rfl) up (fun u h => h) h4) (ev_isE (ev_var rfl) up (fun u h => h) h5) (ev_isE (ev_var rfl) up (fun u h => h) h6)) (by show 3 ≤ 100000; decide)) (by show 3 + 3 ≤ 100000; decide)) fun r H2 n2 e2 hr => k r H2 (fresh_back e1 n2) (e1.trans e2) hr
section
variable {σ : L2.St} {H : Hp} {D : Ends}
theorem s_dropX {sp : Sp} {E : L2.St → XK} {t : TA} {vs : List V} (h : EvA t σ H vs) (hs : ∀ H1, Ex H H1 → ∀ Q : VK, sp vs H1 Q (E σ)) : tDrop (tCallS sp E t) D σ H := h H (Ex.refl H) _ fun H1 e1 => hs H1 e1 _
end
abbrev s_law_told : Stmt := topS 48
abbrev N_law_told : List Str := ["_law_kind", "_law_which", "_law_more", "error", "_law_found"]
theorem sc_law_told : FnScope N_law_told ["_law_kind", "_law_which", "_law_more"] (defScope s_law_told) := ⟨rfl, rfl, rfl, by decide +kernel, rfl, by decide +kernel, by decide +kernel⟩
def spLTold : Sp := fun vs H Q _ => ∃ (k u m : Nat), vs = [.int (k : Int), .int (u : Int), .int (m : Int)] ∧ k < 5 ∧ m < 1000 ∧ RetL ((dueOf k).map V.bl) H Q
theorem sl_told {H : Hp} {k u m : Nat} (hk : k < 5) (hm : m < 1000) : SpL spLTold [.int (k : Int), .int (u : Int), .int (m : Int)] H ((dueOf k).map V.bl) := fun _ _ _ q _ => ⟨k, u, m, rfl, hk, hm, q⟩
theorem ok_law_told {f : Addr} {fd : FuncData} (F : Fun K "_law_told" "_law_told" s_law_told f fd) (B : Bl mg) (C : Cl K mg c) (D_law_leading_askedX : Dk P w K mg base (CX P w) 4 "_law_leading_asked" ["_law_which", "_law_more"] (spLLA c)) (D_law_place_askedX : Dk P w K mg base (CX P w) 4 "_law_place_asked" ["_law_which", "_law_more"] (spLPA c))
    (D_law_others_askedX : Dk P w K mg base (CX P w) 4 "_law_others_asked" ["_law_kind", "_law_which", "_law_more"] (spLOA c)) : FnOk P w K mg base CX0 5 f fd ["_law_kind", "_law_which", "_law_more"] spLTold := by
  refine F.ok sc_law_told (fun vs H Q E h => ?_) (fun cdv A outer s H vs Q E hr h => ?_)
  · obtain ⟨k, u, m, rfl, _⟩ := h
    rfl
  · obtain ⟨k, u, m, rfl, hk, hm, q⟩ := h
    refine ⟨_, (pss_cons (ps_try_as (i := 3) rfl rfl sc_law_told.nd rfl rfl ⟨rfl, by decide, .inl C.LeadError⟩ takes0 (fun W pn xe tk _ => (pss_one (ps_if (pt_cmpR op_eq (pv 0) pe_int (nomark _))
    (pss_one (ps_expr (pe_callDX D_law_leading_askedX (hr.mono (by decide)) (by rfl) tk (pa_cons (pv 1) (pa_cons (pv 2) pa_nil)))))
    (pss_one (ps_if (pt_cmpR op_eq (pv 0) pe_int (nomark _))
    (pss_one (ps_expr (pe_callDX D_law_place_askedX (hr.mono (by decide)) (by rfl) tk (pa_cons (pv 1) (pa_cons (pv 2) pa_nil)))))
    (pss_one (ps_expr (pe_callDX D_law_others_askedX (hr.mono (by decide)) (by rfl) tk (pa_cons (pv 0) (pa_cons (pv 1) (pa_cons (pv 2) pa_nil)))))))))))
    (fun a oe cls d pn hz hf => (pss_cons (ps_set (i := 4) sc_law_told.nd rfl (Or.inl rfl) (pe_lst (pa_cons (pe_callB (call_isE2 (K := K) rfl hz hf) (by rfl) B.isinstance_ bo_isinstance (pa_cons (pv 3) (pa_cons (pe_glob (v := .ref c.BadLeading) (by rfl) C.BadLeading.g rfl) pa_nil))) (pa_cons (pe_callB (call_isE2 (K := K) rfl hz hf) (by rfl) B.isinstance_ bo_isinstance (pa_cons (pv 3) (pa_cons (pe_glob (v := .ref c.BadPlace) (by rfl) C.BadPlace.g rfl) pa_nil))) (pa_cons (pe_callB (call_isE2 (K := K) rfl hz hf) (by rfl) B.isinstance_ bo_isinstance (pa_cons (pv 3) (pa_cons (pe_glob (v := .ref c.BadSteps) (by rfl) C.BadSteps.g rfl) pa_nil))) pa_nil)))))
    (pss_one (ps_ret (pe_op op_cat (pv 4) (pe_lst (pa_cons (pe_callB (call_isE2 (K := K) rfl hz hf) (by rfl) B.isinstance_ bo_isinstance (pa_cons (pv 3) (pa_cons (pe_glob (v := .ref c.Unlike) (by rfl) C.Unlike.g rfl) pa_nil))) (pa_cons (pe_callB (call_isE2 (K := K) rfl hz hf) (by rfl) B.isinstance_ bo_isinstance (pa_cons (pv 3) (pa_cons (pe_glob (v := .ref c.NotBack) (by rfl) C.NotBack.g rfl) pa_nil))) (pa_cons (pe_callB (call_isE2 (K := K) rfl hz hf) (by rfl) B.isinstance_ bo_isinstance (pa_cons (pv 3) (pa_cons (pe_bltn (v := .ty "ValueError") (by rfl) C.VE bo_ValueError rfl) pa_nil))) pa_nil))))))))))
    (pss_one (ps_ret (pe_lst pa_nil)))), ?_⟩
    refine q_try ?_
    refine s_if (et_test (ev_op (ev_var rfl) ev_c (rv_eqB rfl))) (fun h0 H1 e1 => ?_) (fun h0 H1 e1 => ?_)
    · obtain rfl : k = 0 := by
        have := of_decide_eq_true h0
        omega
      exact s_dropX (ea2 (ev_var rfl) (ev_var rfl)) fun H2 e2 _ => ⟨u, m, rfl, hm, fun H3 e3 => ⟨true, C.x_BadLeading, fun _ a na => suite_ends C C.BadLeading.up C.k_BadLeading_BadLeading C.k_BadLeading_BadPlace C.k_BadLeading_BadSteps C.k_BadLeading_Unlike C.k_BadLeading_NotBack C.v_BadLeading fun p H4 np e4 hp => q.go ((e1.trans e2).trans e3) np e4 hp, fun h => nomatch h⟩⟩
    · have h0 := of_decide_eq_false h0
      refine s_if (et_test (ev_op (ev_var rfl) ev_c (rv_eqB rfl))) (fun h1 H2 e2 => ?_) (fun h1 H2 e2 => ?_)
      · obtain rfl : k = 1 := by
          have := of_decide_eq_true h1
          omega
        exact s_dropX (ea2 (ev_var rfl) (ev_var rfl)) fun H3 e3 _ => ⟨u, m, rfl, hm, fun H4 e4 => ⟨true, C.x_BadPlace, fun _ a na => suite_ends C C.BadPlace.up C.k_BadPlace_BadLeading C.k_BadPlace_BadPlace C.k_BadPlace_BadSteps C.k_BadPlace_Unlike C.k_BadPlace_NotBack C.v_BadPlace fun p H5 np e5 hp => q.go (((e1.trans e2).trans e3).trans e4) np e5 hp, fun h => nomatch h⟩⟩
      · have h1 := of_decide_eq_false h1
        refine s_dropX (ea3 (ev_var rfl) (ev_var rfl) (ev_var rfl)) fun H3 e3 _ => ⟨k, u, m, rfl, hm, ?_⟩
        have e := (e1.trans e2).trans e3
        rcases (by omega : k = 2 ∨ k = 3 ∨ k = 4) with rfl | rfl | rfl
        · exact .inl ⟨rfl, fun H4 e4 => ⟨true, C.x_BadSteps, fun _ a na => suite_ends C C.BadSteps.up C.k_BadSteps_BadLeading C.k_BadSteps_BadPlace C.k_BadSteps_BadSteps C.k_BadSteps_Unlike C.k_BadSteps_NotBack C.v_BadSteps fun p H5 np e5 hp => q.go (e.trans e4) np e5 hp, fun h => nomatch h⟩⟩
        · exact .inr (.inl ⟨rfl, fun H4 e4 => ⟨true, C.x_Unlike, fun _ a na => suite_ends C C.Unlike.up C.k_Unlike_BadLeading C.k_Unlike_BadPlace C.k_Unlike_BadSteps C.k_Unlike_Unlike C.k_Unlike_NotBack C.v_Unlike fun p H5 np e5 hp => q.go (e.trans e4) np e5 hp, fun h => nomatch h⟩⟩)
        · exact .inr (.inr ⟨rfl, fun H4 e4 => ⟨true, C.x_NotBack, fun _ a na => suite_ends C C.NotBack.up C.k_NotBack_BadLeading C.k_NotBack_BadPlace C.k_NotBack_BadSteps C.k_NotBack_Unlike C.k_NotBack_NotBack C.v_NotBack fun p H5 np e5 hp => q.go (e.trans e4) np e5 hp, fun h => nomatch h⟩⟩)

/-! ### the law -/
section
variable {σ : L2.St} {H : Hp} {ta tb : TE} {p q : Addr}
theorem canAll_bl : ∀ A : List Bool, PyData.canLayAll0 (A.map PyData.bool) = true
  | [] => rfl
  | a :: r => by
    show (PyData.canLay0 (.bool a) && PyData.canLayAll0 (r.map PyData.bool)) = true
    rw [canAll_bl r]
    rfl
theorem depthAll_bl : ∀ A : List Bool, PyData.depthAll (A.map PyData.bool) = 0
  | [] => rfl
  | a :: r => by
    show max (PyData.depth (.bool a)) (PyData.depthAll (r.map PyData.bool)) = 0
    rw [depthAll_bl]
    rfl
theorem shaped_bl (A : List Bool) : SeqAt.shaped (.list (A.map PyData.bool)) = true := by
  unfold SeqAt.shaped
  have h1 : PyData.canLay0 (.list (A.map PyData.bool)) = true := canAll_bl A
  have h2 : PyData.depth (.list (A.map PyData.bool)) = 1 := by
    show PyData.depthAll (A.map PyData.bool) + 1 = 1
    rw [depthAll_bl]
  rw [h1, h2]
  rfl
theorem eqvAll_bl : ∀ A : List Bool, PyData.eqvAll (A.map PyData.bool) (A.map PyData.bool) = true
  | [] => rfl
  | a :: r => by
    show (PyData.eqv (.bool a) (.bool a) && PyData.eqvAll (r.map PyData.bool) (r.map PyData.bool)) = true
    rw [eqvAll_bl r]
    cases a <;> rfl
theorem rv_neB0 {A : List Bool} (h1 : SqL K H p (A.map V.bl)) (h2 : SqL K H q (A.map V.bl)) : RV (rNeD K) (.ref p) (.ref q) H (.bl false) := fun H1 e Q k =>
  ⟨.list (A.map PyData.bool), .list (A.map PyData.bool), .lst (ex_l e h1) (dpAll_bl A), .lst (ex_l e h2) (dpAll_bl A), shaped_bl A, shaped_bl A, by
    rw [show PyData.eqv (.list (A.map PyData.bool)) (.list (A.map PyData.bool)) = true from eqvAll_bl A]
    exact k H1 (Ex.refl H1)⟩
theorem rv_eqTT1 {A X : List Int} (h1 : SqT K H p (il A)) (h2 : SqT K H q (il X)) (he : A = X) : RV (rEqD K) (.ref p) (.ref q) H (.bl true) := fun H1 e Q k =>
  ⟨.tuple (A.map PyData.int), .tuple (X.map PyData.int), .tup (ex_t e h1) (dpAll_int A), .tup (ex_t e h2) (dpAll_int X), shaped_int A, shaped_int X, by
    rw [show PyData.eqv (.tuple (A.map PyData.int)) (.tuple (X.map PyData.int)) = decide (A = X) from eqvAll_int A X, decide_eq_true he]
    exact k H1 (Ex.refl H1)⟩
theorem el_none : EvL (tLst tNil) σ H (nl []) := el_lst (vs := []) ea_nil (Nat.zero_le _)
theorem ldNil (h : H p = some (.lst (nl []))) : IsLd H p [] := ⟨.inl h, (fun x hx => nomatch hx), by decide⟩
theorem ell_rings0 {E : XK} (h : EvL ta σ H (nl [])) : EvLL (tCall spRingsOf [] E (tCons ta tNil)) σ H [] := fun H1 e Q k => h H1 e _ fun p H2 _ e2 hp => ⟨p, [], rfl, ldNil hp, fun p2 rs H3 e3 hN => k p2 rs H3 (e2.trans e3) (hN.back e2)⟩
theorem ev_neLL0 (h : EvLL ta σ H []) (h2 : EvL tb σ H (nl [])) : Ev (tOp (rNeD K) ta tb) σ H (.bl false) := fun H1 e Q k => h H1 e _ fun p rs H2 e2 hN => h2 H2 (e.trans e2) _ fun q H3 _ e3 hq =>
  rv_neLL0 ((hN.ll (K := K)).ex e3) ⟨[], sq_of hq, .nil⟩ rfl H3 (Ex.refl H3) Q fun H4 e4 => k H4 ((e2.trans e3).trans e4)
theorem eu_settled {E : XK} {L : List Nat} {x y : Int} (h : EvL ta σ H (nl L)) (hL : Lead L) (hz : L.length ≤ 63) (hx : mx 0 ((wtl L).map fun (x : Nat) => (x : Int)) = x) (hy : (turnsOf L : Int) = y) : EvU (tCall spSettled [] E (tCons ta tNil)) σ H (il [x, y]) := fun H1 e Q k => h H1 e _ fun p H2 _ e2 hp => by
  refine ⟨p, L, rfl, ⟨.inl hp, hL, hz⟩, fun r H3 nr e3 hr => k r H3 (fresh_back e2 nr) (e2.trans e3) ?_⟩
  rw [hr, hx, hy]
  rfl
end
abbrev s_law : Stmt := topS 49
abbrev N_law : List Str := ["_law_script", "_law_cell", "_law_kind", "_law_due"]
theorem sc_law : FnScope N_law ["_law_script"] (defScope s_law) := ⟨rfl, rfl, rfl, by decide +kernel, rfl, by decide +kernel, by decide +kernel⟩
def spLaw (K : PySem.W.Frag) : Sp := fun vs H Q _ => ∃ (a : Addr) (ns : List Int), vs = [.ref a] ∧ SqL K H a (ns.map V.int) ∧ ns.length ≤ 63 ∧ ∀ H', Q (.bl true) H'
theorem ok_law {f : Addr} {fd : FuncData} (F : Fun K "law" "law" s_law f fd) (B : Bl mg) (D_law_told : Dk P w K mg base CX0 5 "_law_told" ["_law_kind", "_law_which", "_law_more"] spLTold) (D_rings : Dk P w K mg base CX0 3 "rings" ["leading"] spRingsOf) (D_waits : Dk P w K mg base CX0 3 "waits" ["leading"] spWaitsOf) (D_undone : Dk P w K mg base CX0 3 "undone" ["leading"] spUndone)
    (D_behind : Dk P w K mg base CX0 3 "behind" ["one", "other"] spBehind) (D_settled : Dk P w K mg base CX0 3 "settled" ["leading"] spSettled) (D_after : Dk P w K mg base CX0 3 "after" ["leading", "place", "steps"] spAfter) : FnOk P w K mg base CX0 6 f fd ["_law_script"] (spLaw K) := by
  refine F.ok sc_law (fun vs H Q E h => ?_) (fun cdv A outer s H vs Q E hr h => ?_)
  · obtain ⟨a, ns, rfl, _⟩ := h
    rfl
  · obtain ⟨a, ns, rfl, hS, h63, q⟩ := h
    have hS : SqL K H a (il ns) := hS
    refine ⟨_, (pss_cons (ps_for PassesOwn.never rfl (pi_list (pv 0)) (pg_name (i := 1) sc_law.nd rfl (Or.inl rfl))
    (pss_cons (ps_set (i := 2) sc_law.nd rfl (Or.inl rfl) (pe_op op_modN (pv 1) pe_int))
    (pss_cons (ps_set (i := 3) sc_law.nd rfl (Or.inl rfl) (pe_lst (pa_cons (pe_cmpR op_eq (pv 2) pe_int (nomark _)) (pa_cons (pe_cmpR op_eq (pv 2) pe_int (nomark _)) (pa_cons (pe_cmpR op_eq (pv 2) pe_int (nomark _)) (pa_cons (pe_cmpR op_eq (pv 2) pe_int (nomark _)) (pa_cons (pe_cmpR op_eq (pv 2) pe_int (nomark _)) (pa_cons pe_bl pa_nil))))))))
    (pss_one (ps_if (pt_cmpR (op_neK (K := K) rfl hr.units) (pe_callD D_law_told (hr.mono (by decide)) (by rfl) pass0 (pa_cons (pv 2) (pa_cons (pe_op op_modN (pe_op op_fdivN (pv 1) pe_int) pe_int) (pa_cons (pe_op op_modN (pe_op op_fdivN (pv 1) pe_int) pe_int) pa_nil)))) (pv 3) (nomark _))
    (pss_one (ps_ret pe_bl))
    pss_nil)))))
    (pss_cons (ps_if (PW.pt (pw_or (pt_cmpR (op_neK (K := K) rfl hr.units) (pe_callD D_rings (hr.mono (by decide)) (by rfl) pass0 (pa_cons (pe_lst pa_nil) pa_nil)) (pe_lst pa_nil) (nomark _)) (pw_or (pt_cmpR (op_neK (K := K) rfl hr.units) (pe_callD D_waits (hr.mono (by decide)) (by rfl) pass0 (pa_cons (pe_lst pa_nil) pa_nil)) (pe_lst pa_nil) (nomark _)) (pw_or (pt_cmpR (op_neK (K := K) rfl hr.units) (pe_callD D_undone (hr.mono (by decide)) (by rfl) pass0 (pa_cons (pe_lst pa_nil) pa_nil)) (pe_lst pa_nil) (nomark _)) (pw_or1 (pt_cmpR (op_neK (K := K) rfl hr.units) (pe_callD D_behind (hr.mono (by decide)) (by rfl) pass0 (pa_cons (pe_lst pa_nil) (pa_cons (pe_lst pa_nil) pa_nil))) (pe_lst pa_nil) (nomark _)))))))
    (pss_one (ps_ret pe_bl))
    pss_nil)
    (pss_one (ps_ret (pe_and (pe_cmpR (op_eqK (K := K) rfl hr.units) (pe_callD D_settled (hr.mono (by decide)) (by rfl) pass0 (pa_cons (pe_lst (pa_cons pe_int pa_nil)) pa_nil)) (pe_tup (pa_cons pe_int (pa_cons pe_int pa_nil))) (nomark _)) (pe_and (pe_cmpR (op_eqK (K := K) rfl hr.units) (pe_callD D_settled (hr.mono (by decide)) (by rfl) pass0 (pa_cons (pe_lst (pa_cons pe_int (pa_cons pe_int (pa_cons pe_int pa_nil)))) pa_nil)) (pe_tup (pa_cons pe_int (pa_cons pe_int pa_nil))) (nomark _)) (pe_one (pe_cmpR op_eq (pe_callD D_after (hr.mono (by decide)) (by rfl) pass0 (pa_cons (pe_lst (pa_cons pe_int pa_nil)) (pa_cons pe_int (pa_cons (pe_op op_pow pe_int pe_int) pa_nil)))) pe_int (nomark _))))))))), ?_⟩
    refine q_forLn (ev_var rfl) hS (fun i σ' H' => ∃ y1 y2 y3 : Option V, σ' = [some (.ref a), y1, y2, y3] ∧ Ex H H') (fun H1 e1 => ⟨_, _, _, rfl, e1⟩) (fun i σ' H' _ ⟨_, _, _, _, e⟩ => ex_l e hS) (fun i x σ' H' hx hP => ?_) (fun σ' H' hP => ?_)
    · obtain ⟨y1, y2, y3, rfl, eH⟩ := hP
      obtain ⟨z, hz, rfl, hi⟩ := il_inv hx
      obtain ⟨k, hk, hk5⟩ := fmod_lt z (m := 5) (by decide)
      obtain ⟨u, hu, _⟩ := fmod_lt (z.fdiv 5) (m := 100000) (by decide)
      obtain ⟨m, hm, hm3⟩ := fmod_lt (z.fdiv 500000) (m := 1000) (by decide)
      refine q_asg (ev_op (ev_var rfl) ev_c (rv_IW (by decide) (w := .int (k : Int)) (congrArg V.int hk))) fun H1 e1 => ?_
      refine q_asgL (el_lst (vs := (dueOf k).map V.bl) (ea_cons (ev_op (ev_var rfl) ev_c (rv_eqB rfl)) (ea_cons (ev_op (ev_var rfl) ev_c (rv_eqB rfl)) (ea_cons (ev_op (ev_var rfl) ev_c (rv_eqB rfl)) (ea3 (ev_op (ev_var rfl) ev_c (rv_eqB rfl)) (ev_op (ev_var rfl) ev_c (rv_eqB rfl)) ev_c)))) (by show 6 ≤ 100000; decide)) fun p H2 n2 e2 hp => ?_
      refine s_skip (et_test (ev_opL1 (el_callL (ea3 (ev_var rfl) (ev_op (ev_op (ev_var rfl) ev_c (rv_I ⟨by decide, by decide⟩)) ev_c (rv_IW (by decide) (w := .int (u : Int)) (congrArg V.int hu))) (ev_op (ev_op (ev_var rfl) ev_c (rv_I ⟨by decide, by decide⟩)) ev_c (rv_IW (by decide) (w := .int (m : Int)) (congrArg V.int hm)))) (sl_told hk5 hm3)) (fun H3 e3 => ev_var rfl) fun r H3 hr3 e3 => rv_neB0 (A := dueOf k) (sq_of hr3) (sq_of (e3 _ _ hp)))) fun H3 e3 => ?_
      exact ⟨_, _, _, rfl, ((eH.trans e1).trans e2).trans e3⟩
    · obtain ⟨y1, y2, y3, rfl, eH⟩ := hP
      refine q_skip (et_orF (et_test (ev_neLL0 (ell_rings0 el_none) el_none)) (et_orF (et_test (ev_opLL (el_callN1 el_none fun p H1 e1 hp => sl_waits_of (ldNil hp)) el_none fun p q H1 hp hq e1 => rv_neN0 (sq_of hp) (sq_of hq) rfl))
        (et_orF (et_test (ev_opLL (el_callN1 el_none fun p H1 e1 hp => sl_undone (ldNil hp) List.nodup_nil) el_none fun p q H1 hp hq e1 => rv_neN0 (sq_of hp) (sq_of hq) rfl))
          (et_test (ev_opLL (el_callNN el_none el_none fun p q H1 e1 hp hq => sl_behind (ldNil hp) (ldNil hq) rfl) el_none fun p q H1 hp hq e1 => rv_neN0 (sq_of hp) (sq_of hq) rfl))))) fun H1 e1 => ?_
      refine s_ret (ev_andT (ev_opUU (eu_settled (x := 0) (y := 1) (el_lst (vs := nl [0]) (ea1 ev_c) (by decide)) one_lead (by decide) (by rw [one_waits]; rfl) (by rw [one_turns]; rfl)) (eu_tup (vs := il [0, 1]) (ea2 ev_c ev_c) (by show 2 ≤ 100000; decide)) fun p q H2 hp hq e2 => rv_eqTT1 (st_of hp) (st_of hq) rfl)
        (ev_andT (ev_opUU (eu_settled (x := 1) (y := 2) (el_lst (vs := nl [1, 2, 1]) (ea3 ev_c ev_c ev_c) (by decide)) tri_lead (by decide) (by rw [tri_waits]; rfl) (by rw [tri_turns]; rfl)) (eu_tup (vs := il [1, 2]) (ea2 ev_c ev_c) (by show 2 ≤ 100000; decide)) fun p q H2 hp hq e2 => rv_eqTT1 (st_of hp) (st_of hq) rfl)
          (ev_op (ev_callR (z := .int 0) (ear_cons (er_l (el_lst (vs := nl [0]) (ea1 ev_c) (by decide))) (ear_cons (er_v ev_c) (ear_cons (er_v (ev_op ev_c ev_c (rv_IW ⟨by decide, by decide, by decide⟩ (w := .int ((10 ^ 50 : Nat) : Int)) (by decide)))) ear_nil))) fun vs H2 e2 hv => by
            obtain ⟨x, y, z, rfl, ⟨p, rfl, hp⟩, h5, h6⟩ := its3 hv
            obtain rfl := (show y = .int ((0 : Nat) : Int) from h5)
            obtain rfl := (show z = _ from h6)
            have h := sv_after (n := 10 ^ 50) (p := 0) (H := H2) (a := p) (L := [0]) ⟨.inl hp, one_lead, by decide⟩ (by decide)
            rw [zero_stays] at h
            exact h) ev_c (rv_eqB rfl)))) fun H3 _ => q H3


end
end Ld
namespace Ld
open PySem L2 Evl
/-! ### what the top has written -/
theorem all_mk {l : PySem.W.OpenLaw} {w : World} {K : PySem.W.Frag} {h : Heap} {mg : Str → Option Value} {fa f0 f1 f2 f3 f4 f5 f9 f10 f11 f14 f15 f16 f17 f18 f19 f24 f25 f27 f28 f29 f31 f32 f33 f34 f35 : Addr} {qLeadError qBadLeading qBadPlace qBadSteps qUnlike qNotBack : Addr} (X : K.In h) (G : h.Ns mainGlobals mg) (hfa : mg "law" = some (.ref fa))
    {od0 od1 od2 od3 od4 od5 od9 od10 od11 od14 od15 od16 od17 od18 od19 od24 od25 od27 od28 od29 od31 od32 od33 od34 od35 an0 an1 an2 an3 an4 an5 an9 an10 an11 an14 an15 an16 an17 an18 an19 an24 an25 an27 an28 an29 an31 an32 an33 an34 an35 : Option Addr} {sl0 sl1 sl2 sl3 sl4 sl5 sl9 sl10 sl11 sl14 sl15 sl16 sl17 sl18 sl19 sl24 sl25 sl27 sl28 sl29 sl31 sl32 sl33 sl34 sl35 : Array (Option Value)} {oc0 oc1 oc2 oc3 oc4 oc5 oc9 oc10 oc11 oc14 oc15 oc16 oc17 oc18 oc19 oc24 oc25 oc27 oc28 oc29 oc31 oc32 oc33 oc34 oc35 kV0 kV1 kV2 kV3 kV4 kV5 kV9 kV10 kV11 kV14 kV15 kV16 kV17 kV18 kV19 kV24 kV25 kV27 kV28 kV29 kV31 kV32 kV33 kV34 kV35 dc0 dc1 dc2 dc3 dc4 dc5 dc9 dc10 dc11 dc14 dc15 dc16 dc17 dc18 dc19 dc24 dc25 dc27 dc28 dc29 dc31 dc32 dc33 dc34 dc35 pm0 pm1 pm2 pm3 pm4 pm5 pm9 pm10 pm11 pm14 pm15 pm16 pm17 pm18 pm19 pm24 pm25 pm27 pm28 pm29 pm31 pm32 pm33 pm34 pm35 cd0 cd1 cd2 cd3 cd4 cd5 cd9 cd10 cd11 cd14 cd15 cd16 cd17 cd18 cd19 cd24 cd25 cd27 cd28 cd29 cd31 cd32 cd33 cd34 cd35 ct0 ct1 ct2 ct3 ct4 ct5 ct9 ct10 ct11 ct14 ct15 ct16 ct17 ct18 ct19 ct24 ct25 ct27 ct28 ct29 ct31 ct32 ct33 ct34 ct35 : Value}
    (g_LeadError : PySem.W.nsIn K mainGlobals "LeadError" = some (some (.ref qLeadError)))
    (g_BadLeading : PySem.W.nsIn K mainGlobals "BadLeading" = some (some (.ref qBadLeading)))
    (g_BadPlace : PySem.W.nsIn K mainGlobals "BadPlace" = some (some (.ref qBadPlace)))
    (g_BadSteps : PySem.W.nsIn K mainGlobals "BadSteps" = some (some (.ref qBadSteps)))
    (g_Unlike : PySem.W.nsIn K mainGlobals "Unlike" = some (some (.ref qUnlike)))
    (g_NotBack : PySem.W.nsIn K mainGlobals "NotBack" = some (some (.ref qNotBack)))
    (bs_LeadError : PySem.W.subIn K (.ref qLeadError) (.type "BaseException") = some true)
    (hd_LeadError : PySem.W.hasDictIn K qLeadError = true)
    (ty_LeadError : PySem.W.typeIn K (.ref qLeadError) = some (.type "type"))
    (bs_BadLeading : PySem.W.subIn K (.ref qBadLeading) (.type "BaseException") = some true)
    (hd_BadLeading : PySem.W.hasDictIn K qBadLeading = true)
    (ty_BadLeading : PySem.W.typeIn K (.ref qBadLeading) = some (.type "type"))
    (ex_BadLeading : PySem.W.excIn K qBadLeading [.type "ValueError", .type "Exception", .type "BaseException", .type "object"] "ValueError.__new__" = true)
    (kp_BadLeading : PySem.W.keepIn K (.ref qBadLeading) = true)
    (ga_BadLeading : PySem.W.findIn K (.ref qBadLeading) "__getattribute__" = some (some (.builtin "BaseException.__getattribute__")))
    (gg_BadLeading : PySem.W.findIn K (.ref qBadLeading) "__getattr__" = some none)
    (ha_BadLeading : PySem.W.findIn K (.ref qBadLeading) "__class__" = some (some (.builtin "object.__class__")))
    (hm_BadLeading : PySem.W.mroIn K qBadLeading (.type "object") = some true)
    (sl_BadLeading : PySem.W.subIn K (.ref qBadLeading) (.ref qLeadError) = some true)
    (vv_BadLeading : PySem.W.kitOne K (.ref qBadLeading) (.type "ValueError") = some true)
    (kk_BadLeading_BadLeading : PySem.W.kitOne K (.ref qBadLeading) (.ref qBadLeading) = some true)
    (kk_BadPlace_BadLeading : PySem.W.kitOne K (.ref qBadLeading) (.ref qBadPlace) = some false)
    (kk_BadSteps_BadLeading : PySem.W.kitOne K (.ref qBadLeading) (.ref qBadSteps) = some false)
    (kk_Unlike_BadLeading : PySem.W.kitOne K (.ref qBadLeading) (.ref qUnlike) = some false)
    (kk_NotBack_BadLeading : PySem.W.kitOne K (.ref qBadLeading) (.ref qNotBack) = some false)
    (bs_BadPlace : PySem.W.subIn K (.ref qBadPlace) (.type "BaseException") = some true)
    (hd_BadPlace : PySem.W.hasDictIn K qBadPlace = true)
    (ty_BadPlace : PySem.W.typeIn K (.ref qBadPlace) = some (.type "type"))
    (ex_BadPlace : PySem.W.excIn K qBadPlace [.type "ValueError", .type "Exception", .type "BaseException", .type "object"] "ValueError.__new__" = true)
    (kp_BadPlace : PySem.W.keepIn K (.ref qBadPlace) = true)
    (ga_BadPlace : PySem.W.findIn K (.ref qBadPlace) "__getattribute__" = some (some (.builtin "BaseException.__getattribute__")))
    (gg_BadPlace : PySem.W.findIn K (.ref qBadPlace) "__getattr__" = some none)
    (ha_BadPlace : PySem.W.findIn K (.ref qBadPlace) "__class__" = some (some (.builtin "object.__class__")))
    (hm_BadPlace : PySem.W.mroIn K qBadPlace (.type "object") = some true)
    (sl_BadPlace : PySem.W.subIn K (.ref qBadPlace) (.ref qLeadError) = some true)
    (vv_BadPlace : PySem.W.kitOne K (.ref qBadPlace) (.type "ValueError") = some true)
    (kk_BadLeading_BadPlace : PySem.W.kitOne K (.ref qBadPlace) (.ref qBadLeading) = some false)
    (kk_BadPlace_BadPlace : PySem.W.kitOne K (.ref qBadPlace) (.ref qBadPlace) = some true)
    (kk_BadSteps_BadPlace : PySem.W.kitOne K (.ref qBadPlace) (.ref qBadSteps) = some false)
    (kk_Unlike_BadPlace : PySem.W.kitOne K (.ref qBadPlace) (.ref qUnlike) = some false)
    (kk_NotBack_BadPlace : PySem.W.kitOne K (.ref qBadPlace) (.ref qNotBack) = some false)
    (bs_BadSteps : PySem.W.subIn K (.ref qBadSteps) (.type "BaseException") = some true)
    (hd_BadSteps : PySem.W.hasDictIn K qBadSteps = true)
    (ty_BadSteps : PySem.W.typeIn K (.ref qBadSteps) = some (.type "type"))
    (ex_BadSteps : PySem.W.excIn K qBadSteps [.type "ValueError", .type "Exception", .type "BaseException", .type "object"] "ValueError.__new__" = true)
    (kp_BadSteps : PySem.W.keepIn K (.ref qBadSteps) = true)
    (ga_BadSteps : PySem.W.findIn K (.ref qBadSteps) "__getattribute__" = some (some (.builtin "BaseException.__getattribute__")))
    (gg_BadSteps : PySem.W.findIn K (.ref qBadSteps) "__getattr__" = some none)
    (ha_BadSteps : PySem.W.findIn K (.ref qBadSteps) "__class__" = some (some (.builtin "object.__class__")))
    (hm_BadSteps : PySem.W.mroIn K qBadSteps (.type "object") = some true)
    (sl_BadSteps : PySem.W.subIn K (.ref qBadSteps) (.ref qLeadError) = some true)
    (vv_BadSteps : PySem.W.kitOne K (.ref qBadSteps) (.type "ValueError") = some true)
    (kk_BadLeading_BadSteps : PySem.W.kitOne K (.ref qBadSteps) (.ref qBadLeading) = some false)
    (kk_BadPlace_BadSteps : PySem.W.kitOne K (.ref qBadSteps) (.ref qBadPlace) = some false)
    (kk_BadSteps_BadSteps : PySem.W.kitOne K (.ref qBadSteps) (.ref qBadSteps) = some true)
    (kk_Unlike_BadSteps : PySem.W.kitOne K (.ref qBadSteps) (.ref qUnlike) = some false)
    (kk_NotBack_BadSteps : PySem.W.kitOne K (.ref qBadSteps) (.ref qNotBack) = some false)
    (bs_Unlike : PySem.W.subIn K (.ref qUnlike) (.type "BaseException") = some true)
    (hd_Unlike : PySem.W.hasDictIn K qUnlike = true)
    (ty_Unlike : PySem.W.typeIn K (.ref qUnlike) = some (.type "type"))
    (ex_Unlike : PySem.W.excIn K qUnlike [.type "ValueError", .type "Exception", .type "BaseException", .type "object"] "ValueError.__new__" = true)
    (kp_Unlike : PySem.W.keepIn K (.ref qUnlike) = true)
    (ga_Unlike : PySem.W.findIn K (.ref qUnlike) "__getattribute__" = some (some (.builtin "BaseException.__getattribute__")))
    (gg_Unlike : PySem.W.findIn K (.ref qUnlike) "__getattr__" = some none)
    (ha_Unlike : PySem.W.findIn K (.ref qUnlike) "__class__" = some (some (.builtin "object.__class__")))
    (hm_Unlike : PySem.W.mroIn K qUnlike (.type "object") = some true)
    (sl_Unlike : PySem.W.subIn K (.ref qUnlike) (.ref qLeadError) = some true)
    (vv_Unlike : PySem.W.kitOne K (.ref qUnlike) (.type "ValueError") = some true)
    (kk_BadLeading_Unlike : PySem.W.kitOne K (.ref qUnlike) (.ref qBadLeading) = some false)
    (kk_BadPlace_Unlike : PySem.W.kitOne K (.ref qUnlike) (.ref qBadPlace) = some false)
    (kk_BadSteps_Unlike : PySem.W.kitOne K (.ref qUnlike) (.ref qBadSteps) = some false)
    (kk_Unlike_Unlike : PySem.W.kitOne K (.ref qUnlike) (.ref qUnlike) = some true)
    (kk_NotBack_Unlike : PySem.W.kitOne K (.ref qUnlike) (.ref qNotBack) = some false)
    (bs_NotBack : PySem.W.subIn K (.ref qNotBack) (.type "BaseException") = some true)
    (hd_NotBack : PySem.W.hasDictIn K qNotBack = true)
    (ty_NotBack : PySem.W.typeIn K (.ref qNotBack) = some (.type "type"))
    (ex_NotBack : PySem.W.excIn K qNotBack [.type "ValueError", .type "Exception", .type "BaseException", .type "object"] "ValueError.__new__" = true)
    (kp_NotBack : PySem.W.keepIn K (.ref qNotBack) = true)
    (ga_NotBack : PySem.W.findIn K (.ref qNotBack) "__getattribute__" = some (some (.builtin "BaseException.__getattribute__")))
    (gg_NotBack : PySem.W.findIn K (.ref qNotBack) "__getattr__" = some none)
    (ha_NotBack : PySem.W.findIn K (.ref qNotBack) "__class__" = some (some (.builtin "object.__class__")))
    (hm_NotBack : PySem.W.mroIn K qNotBack (.type "object") = some true)
    (sl_NotBack : PySem.W.subIn K (.ref qNotBack) (.ref qLeadError) = some true)
    (vv_NotBack : PySem.W.kitOne K (.ref qNotBack) (.type "ValueError") = some true)
    (kk_BadLeading_NotBack : PySem.W.kitOne K (.ref qNotBack) (.ref qBadLeading) = some false)
    (kk_BadPlace_NotBack : PySem.W.kitOne K (.ref qNotBack) (.ref qBadPlace) = some false)
    (kk_BadSteps_NotBack : PySem.W.kitOne K (.ref qNotBack) (.ref qBadSteps) = some false)
    (kk_Unlike_NotBack : PySem.W.kitOne K (.ref qNotBack) (.ref qUnlike) = some false)
    (kk_NotBack_NotBack : PySem.W.kitOne K (.ref qNotBack) (.ref qNotBack) = some true)
    (hn_ : PySem.W.specialIn K (.builtin "object.__class__") "__get__" = some (some (.builtin "getset_descriptor.__get__"))) (htk_ : PySem.W.takesIn K (.builtin "object.__class__") = some true) (z_VE : PySem.W.nsIn K mainGlobals "ValueError" = some none)
    (a0 : PySem.W.nsIn K mainGlobals "is_number" = some (some (.ref f0)))
    (l0 : K.lookup f0 = some ⟨oc0, od0, .func (PySem.W.fnOf "is_number" "is_number" (defArgs s_is_number) (defBody s_is_number) (defScope s_is_number) .none kV0 dc0 pm0 an0 cd0 ct0), sl0⟩) (c0 : PySem.W.codeIn K cd0 "is_number" = true) (k0 : PySem.W.keepIn K (.ref f0) = true)
    (a1 : PySem.W.nsIn K mainGlobals "asked_steps" = some (some (.ref f1)))
    (l1 : K.lookup f1 = some ⟨oc1, od1, .func (PySem.W.fnOf "asked_steps" "asked_steps" (defArgs s_asked_steps) (defBody s_asked_steps) (defScope s_asked_steps) .none kV1 dc1 pm1 an1 cd1 ct1), sl1⟩) (c1 : PySem.W.codeIn K cd1 "asked_steps" = true) (k1 : PySem.W.keepIn K (.ref f1) = true)
    (a2 : PySem.W.nsIn K mainGlobals "asked_back" = some (some (.ref f2)))
    (l2 : K.lookup f2 = some ⟨oc2, od2, .func (PySem.W.fnOf "asked_back" "asked_back" (defArgs s_asked_back) (defBody s_asked_back) (defScope s_asked_back) .none kV2 dc2 pm2 an2 cd2 ct2), sl2⟩) (c2 : PySem.W.codeIn K cd2 "asked_back" = true) (k2 : PySem.W.keepIn K (.ref f2) = true)
    (a3 : PySem.W.nsIn K mainGlobals "done" = some (some (.ref f3)))
    (l3 : K.lookup f3 = some ⟨oc3, od3, .func (PySem.W.fnOf "done" "done" (defArgs s_done) (defBody s_done) (defScope s_done) .none kV3 dc3 pm3 an3 cd3 ct3), sl3⟩) (c3 : PySem.W.codeIn K cd3 "done" = true) (k3 : PySem.W.keepIn K (.ref f3) = true)
    (a4 : PySem.W.nsIn K mainGlobals "waits_of" = some (some (.ref f4)))
    (l4 : K.lookup f4 = some ⟨oc4, od4, .func (PySem.W.fnOf "waits_of" "waits_of" (defArgs s_waits_of) (defBody s_waits_of) (defScope s_waits_of) .none kV4 dc4 pm4 an4 cd4 ct4), sl4⟩) (c4 : PySem.W.codeIn K cd4 "waits_of" = true) (k4 : PySem.W.keepIn K (.ref f4) = true)
    (a5 : PySem.W.nsIn K mainGlobals "common" = some (some (.ref f5)))
    (l5 : K.lookup f5 = some ⟨oc5, od5, .func (PySem.W.fnOf "common" "common" (defArgs s_common) (defBody s_common) (defScope s_common) .none kV5 dc5 pm5 an5 cd5 ct5), sl5⟩) (c5 : PySem.W.codeIn K cd5 "common" = true) (k5 : PySem.W.keepIn K (.ref f5) = true)
    (a9 : PySem.W.nsIn K mainGlobals "asked_leading" = some (some (.ref f9)))
    (l9 : K.lookup f9 = some ⟨oc9, od9, .func (PySem.W.fnOf "asked_leading" "asked_leading" (defArgs s_asked_leading) (defBody s_asked_leading) (defScope s_asked_leading) .none kV9 dc9 pm9 an9 cd9 ct9), sl9⟩) (c9 : PySem.W.codeIn K cd9 "asked_leading" = true) (k9 : PySem.W.keepIn K (.ref f9) = true)
    (a10 : PySem.W.nsIn K mainGlobals "asked_place" = some (some (.ref f10)))
    (l10 : K.lookup f10 = some ⟨oc10, od10, .func (PySem.W.fnOf "asked_place" "asked_place" (defArgs s_asked_place) (defBody s_asked_place) (defScope s_asked_place) .none kV10 dc10 pm10 an10 cd10 ct10), sl10⟩) (c10 : PySem.W.codeIn K cd10 "asked_place" = true) (k10 : PySem.W.keepIn K (.ref f10) = true)
    (a11 : PySem.W.nsIn K mainGlobals "rings_of" = some (some (.ref f11)))
    (l11 : K.lookup f11 = some ⟨oc11, od11, .func (PySem.W.fnOf "rings_of" "rings_of" (defArgs s_rings_of) (defBody s_rings_of) (defScope s_rings_of) .none kV11 dc11 pm11 an11 cd11 ct11), sl11⟩) (c11 : PySem.W.codeIn K cd11 "rings_of" = true) (k11 : PySem.W.keepIn K (.ref f11) = true)
    (a14 : PySem.W.nsIn K mainGlobals "after" = some (some (.ref f14)))
    (l14 : K.lookup f14 = some ⟨oc14, od14, .func (PySem.W.fnOf "after" "after" (defArgs s_after) (defBody s_after) (defScope s_after) .none kV14 dc14 pm14 an14 cd14 ct14), sl14⟩) (c14 : PySem.W.codeIn K cd14 "after" = true) (k14 : PySem.W.keepIn K (.ref f14) = true)
    (a15 : PySem.W.nsIn K mainGlobals "behind" = some (some (.ref f15)))
    (l15 : K.lookup f15 = some ⟨oc15, od15, .func (PySem.W.fnOf "behind" "behind" (defArgs s_behind) (defBody s_behind) (defScope s_behind) .none kV15 dc15 pm15 an15 cd15 ct15), sl15⟩) (c15 : PySem.W.codeIn K cd15 "behind" = true) (k15 : PySem.W.keepIn K (.ref f15) = true)
    (a16 : PySem.W.nsIn K mainGlobals "undone" = some (some (.ref f16)))
    (l16 : K.lookup f16 = some ⟨oc16, od16, .func (PySem.W.fnOf "undone" "undone" (defArgs s_undone) (defBody s_undone) (defScope s_undone) .none kV16 dc16 pm16 an16 cd16 ct16), sl16⟩) (c16 : PySem.W.codeIn K cd16 "undone" = true) (k16 : PySem.W.keepIn K (.ref f16) = true)
    (a17 : PySem.W.nsIn K mainGlobals "rings" = some (some (.ref f17)))
    (l17 : K.lookup f17 = some ⟨oc17, od17, .func (PySem.W.fnOf "rings" "rings" (defArgs s_rings) (defBody s_rings) (defScope s_rings) .none kV17 dc17 pm17 an17 cd17 ct17), sl17⟩) (c17 : PySem.W.codeIn K cd17 "rings" = true) (k17 : PySem.W.keepIn K (.ref f17) = true)
    (a18 : PySem.W.nsIn K mainGlobals "waits" = some (some (.ref f18)))
    (l18 : K.lookup f18 = some ⟨oc18, od18, .func (PySem.W.fnOf "waits" "waits" (defArgs s_waits) (defBody s_waits) (defScope s_waits) .none kV18 dc18 pm18 an18 cd18 ct18), sl18⟩) (c18 : PySem.W.codeIn K cd18 "waits" = true) (k18 : PySem.W.keepIn K (.ref f18) = true)
    (a19 : PySem.W.nsIn K mainGlobals "settled" = some (some (.ref f19)))
    (l19 : K.lookup f19 = some ⟨oc19, od19, .func (PySem.W.fnOf "settled" "settled" (defArgs s_settled) (defBody s_settled) (defScope s_settled) .none kV19 dc19 pm19 an19 cd19 ct19), sl19⟩) (c19 : PySem.W.codeIn K cd19 "settled" = true) (k19 : PySem.W.keepIn K (.ref f19) = true)
    (a24 : PySem.W.nsIn K mainGlobals "root" = some (some (.ref f24)))
    (l24 : K.lookup f24 = some ⟨oc24, od24, .func (PySem.W.fnOf "root" "root" (defArgs s_root) (defBody s_root) (defScope s_root) .none kV24 dc24 pm24 an24 cd24 ct24), sl24⟩) (c24 : PySem.W.codeIn K cd24 "root" = true) (k24 : PySem.W.keepIn K (.ref f24) = true)
    (a25 : PySem.W.nsIn K mainGlobals "times" = some (some (.ref f25)))
    (l25 : K.lookup f25 = some ⟨oc25, od25, .func (PySem.W.fnOf "times" "times" (defArgs s_times) (defBody s_times) (defScope s_times) .none kV25 dc25 pm25 an25 cd25 ct25), sl25⟩) (c25 : PySem.W.codeIn K cd25 "times" = true) (k25 : PySem.W.keepIn K (.ref f25) = true)
    (a27 : PySem.W.nsIn K mainGlobals "comers" = some (some (.ref f27)))
    (l27 : K.lookup f27 = some ⟨oc27, od27, .func (PySem.W.fnOf "comers" "comers" (defArgs s_comers) (defBody s_comers) (defScope s_comers) .none kV27 dc27 pm27 an27 cd27 ct27), sl27⟩) (c27 : PySem.W.codeIn K cd27 "comers" = true) (k27 : PySem.W.keepIn K (.ref f27) = true)
    (a28 : PySem.W.nsIn K mainGlobals "reached" = some (some (.ref f28)))
    (l28 : K.lookup f28 = some ⟨oc28, od28, .func (PySem.W.fnOf "reached" "reached" (defArgs s_reached) (defBody s_reached) (defScope s_reached) .none kV28 dc28 pm28 an28 cd28 ct28), sl28⟩) (c28 : PySem.W.codeIn K cd28 "reached" = true) (k28 : PySem.W.keepIn K (.ref f28) = true)
    (a29 : PySem.W.nsIn K mainGlobals "comes" = some (some (.ref f29)))
    (l29 : K.lookup f29 = some ⟨oc29, od29, .func (PySem.W.fnOf "comes" "comes" (defArgs s_comes) (defBody s_comes) (defScope s_comes) .none kV29 dc29 pm29 an29 cd29 ct29), sl29⟩) (c29 : PySem.W.codeIn K cd29 "comes" = true) (k29 : PySem.W.keepIn K (.ref f29) = true)
    (a31 : PySem.W.nsIn K mainGlobals "_law_leading_asked" = some (some (.ref f31)))
    (l31 : K.lookup f31 = some ⟨oc31, od31, .func (PySem.W.fnOf "_law_leading_asked" "_law_leading_asked" (defArgs s_law_leading_asked) (defBody s_law_leading_asked) (defScope s_law_leading_asked) .none kV31 dc31 pm31 an31 cd31 ct31), sl31⟩) (c31 : PySem.W.codeIn K cd31 "_law_leading_asked" = true) (k31 : PySem.W.keepIn K (.ref f31) = true)
    (a32 : PySem.W.nsIn K mainGlobals "_law_place_asked" = some (some (.ref f32)))
    (l32 : K.lookup f32 = some ⟨oc32, od32, .func (PySem.W.fnOf "_law_place_asked" "_law_place_asked" (defArgs s_law_place_asked) (defBody s_law_place_asked) (defScope s_law_place_asked) .none kV32 dc32 pm32 an32 cd32 ct32), sl32⟩) (c32 : PySem.W.codeIn K cd32 "_law_place_asked" = true) (k32 : PySem.W.keepIn K (.ref f32) = true)
    (a33 : PySem.W.nsIn K mainGlobals "_law_others_asked" = some (some (.ref f33)))
    (l33 : K.lookup f33 = some ⟨oc33, od33, .func (PySem.W.fnOf "_law_others_asked" "_law_others_asked" (defArgs s_law_others_asked) (defBody s_law_others_asked) (defScope s_law_others_asked) .none kV33 dc33 pm33 an33 cd33 ct33), sl33⟩) (c33 : PySem.W.codeIn K cd33 "_law_others_asked" = true) (k33 : PySem.W.keepIn K (.ref f33) = true)
    (a34 : PySem.W.nsIn K mainGlobals "_law_told" = some (some (.ref f34)))
    (l34 : K.lookup f34 = some ⟨oc34, od34, .func (PySem.W.fnOf "_law_told" "_law_told" (defArgs s_law_told) (defBody s_law_told) (defScope s_law_told) .none kV34 dc34 pm34 an34 cd34 ct34), sl34⟩) (c34 : PySem.W.codeIn K cd34 "_law_told" = true) (k34 : PySem.W.keepIn K (.ref f34) = true)
    (a35 : PySem.W.nsIn K mainGlobals "law" = some (some (.ref f35)))
    (l35 : K.lookup f35 = some ⟨oc35, od35, .func (PySem.W.fnOf "law" "law" (defArgs s_law) (defBody s_law) (defScope s_law) .none kV35 dc35 pm35 an35 cd35 ct35), sl35⟩) (c35 : PySem.W.codeIn K cd35 "law" = true) (k35 : PySem.W.keepIn K (.ref f35) = true)
    (z_len : PySem.W.nsIn K mainGlobals "len" = some none)
    (z_sum : PySem.W.nsIn K mainGlobals "sum" = some none)
    (z_range : PySem.W.nsIn K mainGlobals "range" = some none)
    (z_list : PySem.W.nsIn K mainGlobals "list" = some none)
    (z_enumerate : PySem.W.nsIn K mainGlobals "enumerate" = some none)
    (z_isinstance : PySem.W.nsIn K mainGlobals "isinstance" = some none)
    (z_int : PySem.W.nsIn K mainGlobals "int" = some none)
    (z_bool : PySem.W.nsIn K mainGlobals "bool" = some none)
    (z_all : PySem.W.nsIn K mainGlobals "all" = some none)
    (z_any : PySem.W.nsIn K mainGlobals "any" = some none)
    (z_max : PySem.W.nsIn K mainGlobals "max" = some none)
    (z_min : PySem.W.nsIn K mainGlobals "min" = some none)
    (z_sorted : PySem.W.nsIn K mainGlobals "sorted" = some none)
    (z_set : PySem.W.nsIn K mainGlobals "set" = some none)
    (z_reversed : PySem.W.nsIn K mainGlobals "reversed" = some none)
    (z_tuple : PySem.W.nsIn K mainGlobals "tuple" = some none)
    : ∃ fd : FuncData, (∀ (s : Shared) (v : Value), BindsTo s fd ⟨[v], []⟩ [("_law_script", v)]) ∧ ∀ base : Heap, K.In base → base.Ns mainGlobals mg → FnOk l.prog w K mg base CX0 6 fa fd ["_law_script"] (spLaw K) := by
  have e := hfa.symm.trans (PySem.W.mg_of X G a35)
  cases e
  have B : Bl mg := ⟨PySem.W.mg_none_of X G z_len, PySem.W.mg_none_of X G z_sum, PySem.W.mg_none_of X G z_range, PySem.W.mg_none_of X G z_list, PySem.W.mg_none_of X G z_enumerate, PySem.W.mg_none_of X G z_isinstance, PySem.W.mg_none_of X G z_int, PySem.W.mg_none_of X G z_bool, PySem.W.mg_none_of X G z_all, PySem.W.mg_none_of X G z_any, PySem.W.mg_none_of X G z_max, PySem.W.mg_none_of X G z_min, PySem.W.mg_none_of X G z_sorted, PySem.W.mg_none_of X G z_set, PySem.W.mg_none_of X G z_reversed, PySem.W.mg_none_of X G z_tuple⟩
  have C : Cl K mg (⟨qLeadError, qBadLeading, qBadPlace, qBadSteps, qUnlike, qNotBack⟩ : Cs) := ⟨PySem.W.mg_of X G g_LeadError, PySem.W.mg_none_of X G z_VE, ⟨PySem.W.mg_of X G g_BadLeading, ex_BadLeading, kp_BadLeading, ty_BadLeading, ⟨ga_BadLeading, gg_BadLeading, bs_BadLeading, hd_BadLeading, ha_BadLeading, hn_, htk_, hm_BadLeading⟩⟩, ⟨PySem.W.mg_of X G g_BadPlace, ex_BadPlace, kp_BadPlace, ty_BadPlace, ⟨ga_BadPlace, gg_BadPlace, bs_BadPlace, hd_BadPlace, ha_BadPlace, hn_, htk_, hm_BadPlace⟩⟩, ⟨PySem.W.mg_of X G g_BadSteps, ex_BadSteps, kp_BadSteps, ty_BadSteps, ⟨ga_BadSteps, gg_BadSteps, bs_BadSteps, hd_BadSteps, ha_BadSteps, hn_, htk_, hm_BadSteps⟩⟩, ⟨PySem.W.mg_of X G g_Unlike, ex_Unlike, kp_Unlike, ty_Unlike, ⟨ga_Unlike, gg_Unlike, bs_Unlike, hd_Unlike, ha_Unlike, hn_, htk_, hm_Unlike⟩⟩, ⟨PySem.W.mg_of X G g_NotBack, ex_NotBack, kp_NotBack, ty_NotBack, ⟨ga_NotBack, gg_NotBack, bs_NotBack, hd_NotBack, ha_NotBack, hn_, htk_, hm_NotBack⟩⟩, PySem.W.exm_ref bs_LeadError hd_LeadError ty_LeadError sl_BadLeading, PySem.W.exm_ref bs_LeadError hd_LeadError ty_LeadError sl_BadPlace, PySem.W.exm_ref bs_LeadError hd_LeadError ty_LeadError sl_BadSteps, PySem.W.exm_ref bs_LeadError hd_LeadError ty_LeadError sl_Unlike, PySem.W.exm_ref bs_LeadError hd_LeadError ty_LeadError sl_NotBack, vv_BadLeading, vv_BadPlace, vv_BadSteps, vv_Unlike, vv_NotBack, kk_BadLeading_BadLeading, kk_BadPlace_BadLeading, kk_BadSteps_BadLeading, kk_Unlike_BadLeading, kk_NotBack_BadLeading, kk_BadLeading_BadPlace, kk_BadPlace_BadPlace, kk_BadSteps_BadPlace, kk_Unlike_BadPlace, kk_NotBack_BadPlace, kk_BadLeading_BadSteps, kk_BadPlace_BadSteps, kk_BadSteps_BadSteps, kk_Unlike_BadSteps, kk_NotBack_BadSteps, kk_BadLeading_Unlike, kk_BadPlace_Unlike, kk_BadSteps_Unlike, kk_Unlike_Unlike, kk_NotBack_Unlike, kk_BadLeading_NotBack, kk_BadPlace_NotBack, kk_BadSteps_NotBack, kk_Unlike_NotBack, kk_NotBack_NotBack⟩
  have F0 := fun_mk (st := s_is_number) l0 c0 k0
  have F1 := fun_mk (st := s_asked_steps) l1 c1 k1
  have F2 := fun_mk (st := s_asked_back) l2 c2 k2
  have F3 := fun_mk (st := s_done) l3 c3 k3
  have F4 := fun_mk (st := s_waits_of) l4 c4 k4
  have F5 := fun_mk (st := s_common) l5 c5 k5
  have F9 := fun_mk (st := s_asked_leading) l9 c9 k9
  have F10 := fun_mk (st := s_asked_place) l10 c10 k10
  have F11 := fun_mk (st := s_rings_of) l11 c11 k11
  have F14 := fun_mk (st := s_after) l14 c14 k14
  have F15 := fun_mk (st := s_behind) l15 c15 k15
  have F16 := fun_mk (st := s_undone) l16 c16 k16
  have F17 := fun_mk (st := s_rings) l17 c17 k17
  have F18 := fun_mk (st := s_waits) l18 c18 k18
  have F19 := fun_mk (st := s_settled) l19 c19 k19
  have F24 := fun_mk (st := s_root) l24 c24 k24
  have F25 := fun_mk (st := s_times) l25 c25 k25
  have F27 := fun_mk (st := s_comers) l27 c27 k27
  have F28 := fun_mk (st := s_reached) l28 c28 k28
  have F29 := fun_mk (st := s_comes) l29 c29 k29
  have F31 := fun_mk (st := s_law_leading_asked) l31 c31 k31
  have F32 := fun_mk (st := s_law_place_asked) l32 c32 k32
  have F33 := fun_mk (st := s_law_others_asked) l33 c33 k33
  have F34 := fun_mk (st := s_law_told) l34 c34 k34
  have F35 := fun_mk (st := s_law) l35 c35 k35
  refine ⟨PySem.W.fnOf "law" "law" (defArgs s_law) (defBody s_law) (defScope s_law) .none kV35 dc35 pm35 an35 cd35 ct35, fun s v => .of_eq rfl, fun base _ _ => ?_⟩
  have D_is_number : Dk l.prog w K mg base CX0 1 "is_number" ["thing", "least", "most"] spIsNum := ⟨_, _, ok_is_number F0 B, PySem.W.mg_of X G a0, k0, F0.binds fun _ _ _ _ _ _ us hl => match us, hl with | [_, _, _], _ => rfl⟩
  have D_asked_steps : Dk l.prog w K mg base CX0 1 "asked_steps" ["steps"] spAskedS := ⟨_, _, ok_asked_steps F1 B, PySem.W.mg_of X G a1, k1, F1.binds fun _ _ _ _ _ _ us hl => match us, hl with | [_], _ => rfl⟩
  have D_asked_back : Dk l.prog w K mg base CX0 1 "asked_back" ["leading"] spAskedB := ⟨_, _, ok_asked_back F2 B, PySem.W.mg_of X G a2, k2, F2.binds fun _ _ _ _ _ _ us hl => match us, hl with | [_], _ => rfl⟩
  have D_done : Dk l.prog w K mg base CX0 1 "done" ["leading", "steps"] spDone := ⟨_, _, ok_done F3 B, PySem.W.mg_of X G a3, k3, F3.binds fun _ _ _ _ _ _ us hl => match us, hl with | [_, _], _ => rfl⟩
  have D_waits_of : Dk l.prog w K mg base CX0 1 "waits_of" ["leading"] spWaitsOf := ⟨_, _, ok_waits_of F4 B, PySem.W.mg_of X G a4, k4, F4.binds fun _ _ _ _ _ _ us hl => match us, hl with | [_], _ => rfl⟩
  have D_common : Dk l.prog w K mg base CX0 1 "common" ["one", "other"] spCommon := ⟨_, _, ok_common F5, PySem.W.mg_of X G a5, k5, F5.binds fun _ _ _ _ _ _ us hl => match us, hl with | [_, _], _ => rfl⟩
  have D_is_numberX : Dk l.prog w K mg base CX0 1 "is_number" ["thing", "least", "most"] (spIsNumX K) := ⟨_, _, ok_is_numberX F0 B, PySem.W.mg_of X G a0, k0, F0.binds fun _ _ _ _ _ _ us hl => match us, hl with | [_, _, _], _ => rfl⟩
  have D_asked_stepsX : Dk l.prog w K mg base (CX l.prog w) 1 "asked_steps" ["steps"] (spAskedSX K (⟨qLeadError, qBadLeading, qBadPlace, qBadSteps, qUnlike, qNotBack⟩ : Cs)) := ⟨_, _, ok_asked_stepsX F1 B C, PySem.W.mg_of X G a1, k1, F1.binds fun _ _ _ _ _ _ us hl => match us, hl with | [_], _ => rfl⟩
  have D_asked_backX : Dk l.prog w K mg base (CX l.prog w) 1 "asked_back" ["leading"] (spAskedBX (⟨qLeadError, qBadLeading, qBadPlace, qBadSteps, qUnlike, qNotBack⟩ : Cs)) := ⟨_, _, ok_asked_backX F2 B C, PySem.W.mg_of X G a2, k2, F2.binds fun _ _ _ _ _ _ us hl => match us, hl with | [_], _ => rfl⟩
  have D_asked_leading : Dk l.prog w K mg base CX0 2 "asked_leading" ["leading"] spAskedL := ⟨_, _, ok_asked_leading F9 B D_is_number, PySem.W.mg_of X G a9, k9, F9.binds fun _ _ _ _ _ _ us hl => match us, hl with | [_], _ => rfl⟩
  have D_asked_place : Dk l.prog w K mg base CX0 2 "asked_place" ["leading", "place"] spAskedP := ⟨_, _, ok_asked_place F10 B D_is_number, PySem.W.mg_of X G a10, k10, F10.binds fun _ _ _ _ _ _ us hl => match us, hl with | [_, _], _ => rfl⟩
  have D_rings_of : Dk l.prog w K mg base CX0 2 "rings_of" ["leading"] spRingsOf := ⟨_, _, ok_rings_of F11 B D_waits_of, PySem.W.mg_of X G a11, k11, F11.binds fun _ _ _ _ _ _ us hl => match us, hl with | [_], _ => rfl⟩
  have D_asked_leadingX : Dk l.prog w K mg base (CX l.prog w) 2 "asked_leading" ["leading"] (spAskedLX K (⟨qLeadError, qBadLeading, qBadPlace, qBadSteps, qUnlike, qNotBack⟩ : Cs)) := ⟨_, _, ok_asked_leadingX F9 B C D_is_numberX, PySem.W.mg_of X G a9, k9, F9.binds fun _ _ _ _ _ _ us hl => match us, hl with | [_], _ => rfl⟩
  have D_asked_placeX : Dk l.prog w K mg base (CX l.prog w) 2 "asked_place" ["leading", "place"] (spAskedPX K (⟨qLeadError, qBadLeading, qBadPlace, qBadSteps, qUnlike, qNotBack⟩ : Cs)) := ⟨_, _, ok_asked_placeX F10 B C D_is_numberX, PySem.W.mg_of X G a10, k10, F10.binds fun _ _ _ _ _ _ us hl => match us, hl with | [_, _], _ => rfl⟩
  have D_after : Dk l.prog w K mg base CX0 3 "after" ["leading", "place", "steps"] spAfter := ⟨_, _, ok_after F14 D_asked_leading D_asked_place D_asked_steps D_done, PySem.W.mg_of X G a14, k14, F14.binds fun _ _ _ _ _ _ us hl => match us, hl with | [_, _, _], _ => rfl⟩
  have D_behind : Dk l.prog w K mg base CX0 3 "behind" ["one", "other"] spBehind := ⟨_, _, ok_behind F15 B D_asked_leading, PySem.W.mg_of X G a15, k15, F15.binds fun _ _ _ _ _ _ us hl => match us, hl with | [_, _], _ => rfl⟩
  have D_undone : Dk l.prog w K mg base CX0 3 "undone" ["leading"] spUndone := ⟨_, _, ok_undone F16 B D_asked_leading D_asked_back, PySem.W.mg_of X G a16, k16, F16.binds fun _ _ _ _ _ _ us hl => match us, hl with | [_], _ => rfl⟩
  have D_rings : Dk l.prog w K mg base CX0 3 "rings" ["leading"] spRingsOf := ⟨_, _, ok_rings F17 D_asked_leading D_rings_of, PySem.W.mg_of X G a17, k17, F17.binds fun _ _ _ _ _ _ us hl => match us, hl with | [_], _ => rfl⟩
  have D_waits : Dk l.prog w K mg base CX0 3 "waits" ["leading"] spWaitsOf := ⟨_, _, ok_waits F18 D_asked_leading D_waits_of, PySem.W.mg_of X G a18, k18, F18.binds fun _ _ _ _ _ _ us hl => match us, hl with | [_], _ => rfl⟩
  have D_settled : Dk l.prog w K mg base CX0 3 "settled" ["leading"] spSettled := ⟨_, _, ok_settled F19 B D_asked_leading D_rings_of D_waits_of D_common, PySem.W.mg_of X G a19, k19, F19.binds fun _ _ _ _ _ _ us hl => match us, hl with | [_], _ => rfl⟩
  have D_ringsX : Dk l.prog w K mg base (CX l.prog w) 3 "rings" ["leading"] (spX1 K (⟨qLeadError, qBadLeading, qBadPlace, qBadSteps, qUnlike, qNotBack⟩ : Cs)) := ⟨_, _, ok_ringsX F17 D_asked_leadingX, PySem.W.mg_of X G a17, k17, F17.binds fun _ _ _ _ _ _ us hl => match us, hl with | [_], _ => rfl⟩
  have D_waitsX : Dk l.prog w K mg base (CX l.prog w) 3 "waits" ["leading"] (spX1 K (⟨qLeadError, qBadLeading, qBadPlace, qBadSteps, qUnlike, qNotBack⟩ : Cs)) := ⟨_, _, ok_waitsX F18 D_asked_leadingX, PySem.W.mg_of X G a18, k18, F18.binds fun _ _ _ _ _ _ us hl => match us, hl with | [_], _ => rfl⟩
  have D_settledX : Dk l.prog w K mg base (CX l.prog w) 3 "settled" ["leading"] (spX1 K (⟨qLeadError, qBadLeading, qBadPlace, qBadSteps, qUnlike, qNotBack⟩ : Cs)) := ⟨_, _, ok_settledX F19 D_asked_leadingX, PySem.W.mg_of X G a19, k19, F19.binds fun _ _ _ _ _ _ us hl => match us, hl with | [_], _ => rfl⟩
  have D_undoneX : Dk l.prog w K mg base (CX l.prog w) 3 "undone" ["leading"] (spX1b K (⟨qLeadError, qBadLeading, qBadPlace, qBadSteps, qUnlike, qNotBack⟩ : Cs)) := ⟨_, _, ok_undoneX F16 D_asked_leadingX D_asked_leading D_asked_backX, PySem.W.mg_of X G a16, k16, F16.binds fun _ _ _ _ _ _ us hl => match us, hl with | [_], _ => rfl⟩
  have D_rootX : Dk l.prog w K mg base (CX l.prog w) 3 "root" ["leading"] (spX1b K (⟨qLeadError, qBadLeading, qBadPlace, qBadSteps, qUnlike, qNotBack⟩ : Cs)) := ⟨_, _, ok_rootX F24 D_asked_leadingX D_asked_leading D_asked_backX, PySem.W.mg_of X G a24, k24, F24.binds fun _ _ _ _ _ _ us hl => match us, hl with | [_], _ => rfl⟩
  have D_timesX : Dk l.prog w K mg base (CX l.prog w) 3 "times" ["leading", "steps"] (spX2 K (⟨qLeadError, qBadLeading, qBadPlace, qBadSteps, qUnlike, qNotBack⟩ : Cs)) := ⟨_, _, ok_timesX F25 D_asked_leadingX D_asked_leading D_asked_stepsX, PySem.W.mg_of X G a25, k25, F25.binds fun _ _ _ _ _ _ us hl => match us, hl with | [_, _], _ => rfl⟩
  have D_afterX : Dk l.prog w K mg base (CX l.prog w) 3 "after" ["leading", "place", "steps"] (spX3 K (⟨qLeadError, qBadLeading, qBadPlace, qBadSteps, qUnlike, qNotBack⟩ : Cs)) := ⟨_, _, ok_afterX F14 D_asked_leadingX D_asked_leading D_asked_placeX D_asked_place D_asked_stepsX, PySem.W.mg_of X G a14, k14, F14.binds fun _ _ _ _ _ _ us hl => match us, hl with | [_, _, _], _ => rfl⟩
  have D_comersX : Dk l.prog w K mg base (CX l.prog w) 3 "comers" ["leading", "place", "steps"] (spX3 K (⟨qLeadError, qBadLeading, qBadPlace, qBadSteps, qUnlike, qNotBack⟩ : Cs)) := ⟨_, _, ok_comersX F27 D_asked_leadingX D_asked_leading D_asked_placeX D_asked_place D_asked_stepsX, PySem.W.mg_of X G a27, k27, F27.binds fun _ _ _ _ _ _ us hl => match us, hl with | [_, _, _], _ => rfl⟩
  have D_reachedX : Dk l.prog w K mg base (CX l.prog w) 3 "reached" ["leading", "one", "other"] (spX3p K (⟨qLeadError, qBadLeading, qBadPlace, qBadSteps, qUnlike, qNotBack⟩ : Cs)) := ⟨_, _, ok_reachedX F28 D_asked_leadingX D_asked_leading D_asked_placeX D_asked_place, PySem.W.mg_of X G a28, k28, F28.binds fun _ _ _ _ _ _ us hl => match us, hl with | [_, _, _], _ => rfl⟩
  have D_comesX : Dk l.prog w K mg base (CX l.prog w) 3 "comes" ["leading", "one", "other"] (spX3p K (⟨qLeadError, qBadLeading, qBadPlace, qBadSteps, qUnlike, qNotBack⟩ : Cs)) := ⟨_, _, ok_comesX F29 D_asked_leadingX D_asked_leading D_asked_placeX D_asked_place, PySem.W.mg_of X G a29, k29, F29.binds fun _ _ _ _ _ _ us hl => match us, hl with | [_, _, _], _ => rfl⟩
  have D_behindX : Dk l.prog w K mg base (CX l.prog w) 3 "behind" ["one", "other"] (spXb K (⟨qLeadError, qBadLeading, qBadPlace, qBadSteps, qUnlike, qNotBack⟩ : Cs)) := ⟨_, _, ok_behindX F15 B C D_asked_leadingX D_asked_leading, PySem.W.mg_of X G a15, k15, F15.binds fun _ _ _ _ _ _ us hl => match us, hl with | [_, _], _ => rfl⟩
  have D_law_leading_askedX : Dk l.prog w K mg base (CX l.prog w) 4 "_law_leading_asked" ["_law_which", "_law_more"] (spLLA (⟨qLeadError, qBadLeading, qBadPlace, qBadSteps, qUnlike, qNotBack⟩ : Cs)) := ⟨_, _, ok_law_leading_askedX F31 B D_ringsX D_waitsX D_settledX D_undoneX D_rootX D_timesX D_afterX D_comersX D_reachedX D_comesX D_behindX, PySem.W.mg_of X G a31, k31, F31.binds fun _ _ _ _ _ _ us hl => match us, hl with | [_, _], _ => rfl⟩
  have D_law_place_askedX : Dk l.prog w K mg base (CX l.prog w) 4 "_law_place_asked" ["_law_which", "_law_more"] (spLPA (⟨qLeadError, qBadLeading, qBadPlace, qBadSteps, qUnlike, qNotBack⟩ : Cs)) := ⟨_, _, ok_law_place_askedX F32 B D_afterX D_comersX D_reachedX D_comesX, PySem.W.mg_of X G a32, k32, F32.binds fun _ _ _ _ _ _ us hl => match us, hl with | [_, _], _ => rfl⟩
  have D_law_others_askedX : Dk l.prog w K mg base (CX l.prog w) 4 "_law_others_asked" ["_law_kind", "_law_which", "_law_more"] (spLOA (⟨qLeadError, qBadLeading, qBadPlace, qBadSteps, qUnlike, qNotBack⟩ : Cs)) := ⟨_, _, ok_law_others_askedX F33 B D_undoneX D_rootX D_timesX D_afterX D_comersX D_behindX, PySem.W.mg_of X G a33, k33, F33.binds fun _ _ _ _ _ _ us hl => match us, hl with | [_, _, _], _ => rfl⟩
  have D_law_told : Dk l.prog w K mg base CX0 5 "_law_told" ["_law_kind", "_law_which", "_law_more"] spLTold := ⟨_, _, ok_law_told F34 B C D_law_leading_askedX D_law_place_askedX D_law_others_askedX, PySem.W.mg_of X G a34, k34, F34.binds fun _ _ _ _ _ _ us hl => match us, hl with | [_, _, _], _ => rfl⟩
  exact ok_law F35 B D_law_told D_rings D_waits D_undone D_behind D_settled D_after
end Ld
open PySem PySem.W PyProof.Rows
set_option maxRecDepth 100000 in
set_option maxHeartbeats 0 in
theorem PySem.Challenge.cw_leadson_k08_refused_holds : PySem.Challenge.rw_leadson_k08_refused.Holds := by
  w_on; o_law; k_head; (case hw => w_witness2)
  k_fill
  refine L2.walk_of (l := PySem.Challenge.rw_leadson_k08_refused) (n := 63) (k := 6) (x := "_law_script") (CX := fun _ => L2.CX0) (sp := fun w => Ld.spLaw _) rfl (by decide) rfl ⟨rfl, by decide, by decide⟩ (fun w h Y => PySem.W.kIn_of Y) ?F (fun _ _ a ns hl _ hS => ⟨a, ns, rfl, hS, hl, fun _ => rfl⟩) (fun _ _ _ _ _ h => h)
  case F =>
    intro w mg fa h KX G hmg
    refine' Ld.all_mk KX G hmg ?g_LeadError ?g_BadLeading ?g_BadPlace ?g_BadSteps ?g_Unlike ?g_NotBack ?bs_LeadError ?hd_LeadError ?ty_LeadError ?bs_BadLeading ?hd_BadLeading ?ty_BadLeading ?ex_BadLeading ?kp_BadLeading ?ga_BadLeading ?gg_BadLeading ?ha_BadLeading ?hm_BadLeading ?sl_BadLeading ?vv_BadLeading ?kk_BadLeading_BadLeading ?kk_BadPlace_BadLeading ?kk_BadSteps_BadLeading ?kk_Unlike_BadLeading ?kk_NotBack_BadLeading ?bs_BadPlace ?hd_BadPlace ?ty_BadPlace ?ex_BadPlace ?kp_BadPlace ?ga_BadPlace ?gg_BadPlace ?ha_BadPlace ?hm_BadPlace ?sl_BadPlace ?vv_BadPlace ?kk_BadLeading_BadPlace ?kk_BadPlace_BadPlace ?kk_BadSteps_BadPlace ?kk_Unlike_BadPlace ?kk_NotBack_BadPlace ?bs_BadSteps ?hd_BadSteps ?ty_BadSteps ?ex_BadSteps ?kp_BadSteps ?ga_BadSteps ?gg_BadSteps ?ha_BadSteps ?hm_BadSteps ?sl_BadSteps ?vv_BadSteps ?kk_BadLeading_BadSteps ?kk_BadPlace_BadSteps ?kk_BadSteps_BadSteps ?kk_Unlike_BadSteps ?kk_NotBack_BadSteps ?bs_Unlike ?hd_Unlike ?ty_Unlike ?ex_Unlike ?kp_Unlike ?ga_Unlike ?gg_Unlike ?ha_Unlike ?hm_Unlike ?sl_Unlike ?vv_Unlike ?kk_BadLeading_Unlike ?kk_BadPlace_Unlike ?kk_BadSteps_Unlike ?kk_Unlike_Unlike ?kk_NotBack_Unlike ?bs_NotBack ?hd_NotBack ?ty_NotBack ?ex_NotBack ?kp_NotBack ?ga_NotBack ?gg_NotBack ?ha_NotBack ?hm_NotBack ?sl_NotBack ?vv_NotBack ?kk_BadLeading_NotBack ?kk_BadPlace_NotBack ?kk_BadSteps_NotBack ?kk_Unlike_NotBack ?kk_NotBack_NotBack ?hn_ ?htk_ ?z_VE ?a0 ?l0 ?c0 ?k0 ?a1 ?l1 ?c1 ?k1 ?a2 ?l2 ?c2 ?k2 ?a3 ?l3 ?c3 ?k3 ?a4 ?l4 ?c4 ?k4 ?a5 ?l5 ?c5 ?k5 ?a9 ?l9 ?c9 ?k9 ?a10 ?l10 ?c10 ?k10 ?a11 ?l11 ?c11 ?k11 ?a14 ?l14 ?c14 ?k14 ?a15 ?l15 ?c15 ?k15 ?a16 ?l16 ?c16 ?k16 ?a17 ?l17 ?c17 ?k17 ?a18 ?l18 ?c18 ?k18 ?a19 ?l19 ?c19 ?k19 ?a24 ?l24 ?c24 ?k24 ?a25 ?l25 ?c25 ?k25 ?a27 ?l27 ?c27 ?k27 ?a28 ?l28 ?c28 ?k28 ?a29 ?l29 ?c29 ?k29 ?a31 ?l31 ?c31 ?k31 ?a32 ?l32 ?c32 ?k32 ?a33 ?l33 ?c33 ?k33 ?a34 ?l34 ?c34 ?k34 ?a35 ?l35 ?c35 ?k35 ?z_len ?z_sum ?z_range ?z_list ?z_enumerate ?z_isinstance ?z_int ?z_bool ?z_all ?z_any ?z_max ?z_min ?z_sorted ?z_set ?z_reversed ?z_tuple
    (case g_LeadError => k_is)
    (case g_BadLeading => k_is)
    (case g_BadPlace => k_is)
    (case g_BadSteps => k_is)
    (case g_Unlike => k_is)
    (case g_NotBack => k_is)
    (case bs_LeadError => k_is)
    (case hd_LeadError => k_is)
    (case ty_LeadError => k_is)
    (case bs_BadLeading => k_is)
    (case hd_BadLeading => k_is)
    (case ty_BadLeading => k_is)
    (case ex_BadLeading => k_exc)
    (case kp_BadLeading => k_is)
    (case ga_BadLeading => k_is)
    (case gg_BadLeading => k_is)
    (case ha_BadLeading => k_is)
    (case hm_BadLeading => k_is)
    (case sl_BadLeading => k_is)
    (case vv_BadLeading => kit_is)
    (case kk_BadLeading_BadLeading => kit_is)
    (case kk_BadPlace_BadLeading => kit_is)
    (case kk_BadSteps_BadLeading => kit_is)
    (case kk_Unlike_BadLeading => kit_is)
    (case kk_NotBack_BadLeading => kit_is)
    (case bs_BadPlace => k_is)
    (case hd_BadPlace => k_is)
    (case ty_BadPlace => k_is)
    (case ex_BadPlace => k_exc)
    (case kp_BadPlace => k_is)
    (case ga_BadPlace => k_is)
    (case gg_BadPlace => k_is)
    (case ha_BadPlace => k_is)
    (case hm_BadPlace => k_is)
    (case sl_BadPlace => k_is)
    (case vv_BadPlace => kit_is)
    (case kk_BadLeading_BadPlace => kit_is)
    (case kk_BadPlace_BadPlace => kit_is)
    (case kk_BadSteps_BadPlace => kit_is)
    (case kk_Unlike_BadPlace => kit_is)
    (case kk_NotBack_BadPlace => kit_is)
    (case bs_BadSteps => k_is)
    (case hd_BadSteps => k_is)
    (case ty_BadSteps => k_is)
    (case ex_BadSteps => k_exc)
    (case kp_BadSteps => k_is)
    (case ga_BadSteps => k_is)
    (case gg_BadSteps => k_is)
    (case ha_BadSteps => k_is)
    (case hm_BadSteps => k_is)
    (case sl_BadSteps => k_is)
    (case vv_BadSteps => kit_is)
    (case kk_BadLeading_BadSteps => kit_is)
    (case kk_BadPlace_BadSteps => kit_is)
    (case kk_BadSteps_BadSteps => kit_is)
    (case kk_Unlike_BadSteps => kit_is)
    (case kk_NotBack_BadSteps => kit_is)
    (case bs_Unlike => k_is)
    (case hd_Unlike => k_is)
    (case ty_Unlike => k_is)
    (case ex_Unlike => k_exc)
    (case kp_Unlike => k_is)
    (case ga_Unlike => k_is)
    (case gg_Unlike => k_is)
    (case ha_Unlike => k_is)
    (case hm_Unlike => k_is)
    (case sl_Unlike => k_is)
    (case vv_Unlike => kit_is)
    (case kk_BadLeading_Unlike => kit_is)
    (case kk_BadPlace_Unlike => kit_is)
    (case kk_BadSteps_Unlike => kit_is)
    (case kk_Unlike_Unlike => kit_is)
    (case kk_NotBack_Unlike => kit_is)
    (case bs_NotBack => k_is)
    (case hd_NotBack => k_is)
    (case ty_NotBack => k_is)
    (case ex_NotBack => k_exc)
    (case kp_NotBack => k_is)
    (case ga_NotBack => k_is)
    (case gg_NotBack => k_is)
    (case ha_NotBack => k_is)
    (case hm_NotBack => k_is)
    (case sl_NotBack => k_is)
    (case vv_NotBack => kit_is)
    (case kk_BadLeading_NotBack => kit_is)
    (case kk_BadPlace_NotBack => kit_is)
    (case kk_BadSteps_NotBack => kit_is)
    (case kk_Unlike_NotBack => kit_is)
    (case kk_NotBack_NotBack => kit_is)
    (case hn_ => k_is)
    (case htk_ => k_is)
    (case z_VE => k_is)
    (case a0 => k_is)
    (case l0 => k_is)
    (case c0 => k_is)
    (case k0 => k_is)
    (case a1 => k_is)
    (case l1 => k_is)
    (case c1 => k_is)
    (case k1 => k_is)
    (case a2 => k_is)
    (case l2 => k_is)
    (case c2 => k_is)
    (case k2 => k_is)
    (case a3 => k_is)
    (case l3 => k_is)
    (case c3 => k_is)
    (case k3 => k_is)
    (case a4 => k_is)
    (case l4 => k_is)
    (case c4 => k_is)
    (case k4 => k_is)
    (case a5 => k_is)
    (case l5 => k_is)
    (case c5 => k_is)
    (case k5 => k_is)
    (case a9 => k_is)
    (case l9 => k_is)
    (case c9 => k_is)
    (case k9 => k_is)
    (case a10 => k_is)
    (case l10 => k_is)
    (case c10 => k_is)
    (case k10 => k_is)
    (case a11 => k_is)
    (case l11 => k_is)
    (case c11 => k_is)
    (case k11 => k_is)
    (case a14 => k_is)
    (case l14 => k_is)
    (case c14 => k_is)
    (case k14 => k_is)
    (case a15 => k_is)
    (case l15 => k_is)
    (case c15 => k_is)
    (case k15 => k_is)
    (case a16 => k_is)
    (case l16 => k_is)
    (case c16 => k_is)
    (case k16 => k_is)
    (case a17 => k_is)
    (case l17 => k_is)
    (case c17 => k_is)
    (case k17 => k_is)
    (case a18 => k_is)
    (case l18 => k_is)
    (case c18 => k_is)
    (case k18 => k_is)
    (case a19 => k_is)
    (case l19 => k_is)
    (case c19 => k_is)
    (case k19 => k_is)
    (case a24 => k_is)
    (case l24 => k_is)
    (case c24 => k_is)
    (case k24 => k_is)
    (case a25 => k_is)
    (case l25 => k_is)
    (case c25 => k_is)
    (case k25 => k_is)
    (case a27 => k_is)
    (case l27 => k_is)
    (case c27 => k_is)
    (case k27 => k_is)
    (case a28 => k_is)
    (case l28 => k_is)
    (case c28 => k_is)
    (case k28 => k_is)
    (case a29 => k_is)
    (case l29 => k_is)
    (case c29 => k_is)
    (case k29 => k_is)
    (case a31 => k_is)
    (case l31 => k_is)
    (case c31 => k_is)
    (case k31 => k_is)
    (case a32 => k_is)
    (case l32 => k_is)
    (case c32 => k_is)
    (case k32 => k_is)
    (case a33 => k_is)
    (case l33 => k_is)
    (case c33 => k_is)
    (case k33 => k_is)
    (case a34 => k_is)
    (case l34 => k_is)
    (case c34 => k_is)
    (case k34 => k_is)
    (case a35 => k_is)
    (case l35 => k_is)
    (case c35 => k_is)
    (case k35 => k_is)
    (case z_len => k_is)
    (case z_sum => k_is)
    (case z_range => k_is)
    (case z_list => k_is)
    (case z_enumerate => k_is)
    (case z_isinstance => k_is)
    (case z_int => k_is)
    (case z_bool => k_is)
    (case z_all => k_is)
    (case z_any => k_is)
    (case z_max => k_is)
    (case z_min => k_is)
    (case z_sorted => k_is)
    (case z_set => k_is)
    (case z_reversed => k_is)
    (case z_tuple => k_is)
