import PyProof.Rows.All
import Wide.All
import OpenK.AllK
import Wide.FinOn
import HandS.ForMost
import HandS.Evl
import HandS.IsInst
import HandS.SortInts
import HandS.Zip
import HandS.Style
import PySem.Challenge.RW_leadson_k03_behind
set_option Elab.async false
set_option linter.all false
set_option maxRecDepth 100000
set_option maxHeartbeats 4000000
/-! Ma: leadings as lists of numbers: a step, many steps, done so often. Plain Lean. -/
namespace Ld
/-- one step -/
def st (L : List Nat) (p : Nat) : Nat := L.getD p 0
/-- so many steps -/
def it (L : List Nat) : Nat → Nat → Nat
  | 0, p => p
  | k + 1, p => it L k (st L p)
def Lead (L : List Nat) : Prop := ∀ x ∈ L, x < L.length
/-- done so often -/
def tm (L : List Nat) (k : Nat) : List Nat := (List.range L.length).map fun p => it L k p

theorem st_get {L : List Nat} {p : Nat} (h : p < L.length) : L[p]? = some (st L p) := by
  unfold st
  rw [List.getD_eq_getElem?_getD, List.getElem?_eq_getElem h]
  rfl
theorem st_eq {L : List Nat} {p : Nat} (h : p < L.length) : st L p = L[p] := by
  have e := st_get h
  rw [List.getElem?_eq_getElem h] at e
  exact (Option.some.inj e).symm
theorem st_mem {L : List Nat} {p : Nat} (h : p < L.length) : st L p ∈ L := by
  rw [st_eq h]
  exact List.getElem_mem h
theorem st_lt {L : List Nat} {p : Nat} (hL : Lead L) (h : p < L.length) : st L p < L.length := hL _ (st_mem h)
theorem it_lt {L : List Nat} (hL : Lead L) : ∀ (k : Nat) {p : Nat}, p < L.length → it L k p < L.length
  | 0, _, h => h
  | k + 1, _, h => it_lt hL k (st_lt hL h)
theorem it_add (L : List Nat) : ∀ (a b p : Nat), it L (a + b) p = it L b (it L a p)
  | 0, b, p => by rw [Nat.zero_add]; rfl
  | a + 1, b, p => by
    rw [show a + 1 + b = (a + b) + 1 by omega]
    show it L (a + b) (st L p) = it L b (it L a (st L p))
    exact it_add L a b _
theorem it_succ (L : List Nat) (k p : Nat) : it L (k + 1) p = st L (it L k p) := it_add L k 1 p
theorem tm_length (L : List Nat) (k : Nat) : (tm L k).length = L.length := by
  unfold tm
  rw [List.length_map, List.length_range]
theorem tm_get {L : List Nat} {k p : Nat} (h : p < L.length) : (tm L k)[p]? = some (it L k p) := by
  unfold tm
  rw [List.getElem?_map, List.getElem?_range h]
  rfl
theorem st_tm {L : List Nat} {k p : Nat} (h : p < L.length) : st (tm L k) p = it L k p := by
  have e := st_get (L := tm L k) (p := p) (by rw [tm_length]; exact h)
  rw [tm_get h] at e
  exact (Option.some.inj e).symm
theorem lead_tm {L : List Nat} (hL : Lead L) (k : Nat) : Lead (tm L k) := fun x hx => by
  rw [tm_length]
  unfold tm at hx
  obtain ⟨p, hp, rfl⟩ := List.mem_map.mp hx
  exact it_lt hL k (List.mem_range.mp hp)
theorem tm_zero (L : List Nat) : tm L 0 = List.range L.length := by
  unfold tm
  show List.map (fun p => p) _ = _
  rw [List.map_id']
theorem tm_one (L : List Nat) : tm L 1 = L := by
  refine List.ext_getElem? fun i => ?_
  by_cases h : i < L.length
  · rw [tm_get h, st_get h]
    rfl
  · rw [List.getElem?_eq_none (by rw [tm_length]; omega), List.getElem?_eq_none (by omega)]
/-- the one, then the other -/
theorem tm_then {L : List Nat} (hL : Lead L) (a b : Nat) : (tm L a).map (fun x => st (tm L b) x) = tm L (a + b) := by
  unfold tm
  rw [List.map_map]
  refine List.map_congr_left fun p hp => ?_
  have hp' := List.mem_range.mp hp
  show st (tm L b) (it L a p) = it L (a + b) p
  rw [st_tm (it_lt hL a hp'), it_add]
theorem it_tm {L : List Nat} (hL : Lead L) (a : Nat) : ∀ (b : Nat) {p : Nat}, p < L.length → it (tm L a) b p = it L (a * b) p
  | 0, _, _ => rfl
  | b + 1, p, h => by
    show it (tm L a) b (st (tm L a) p) = _
    rw [st_tm h, it_tm hL a b (it_lt hL a h), ← it_add, Nat.mul_succ, Nat.add_comm]
theorem tm_tm {L : List Nat} (hL : Lead L) (a b : Nat) : tm (tm L a) b = tm L (a * b) := by
  refine List.ext_getElem? fun i => ?_
  by_cases h : i < L.length
  · rw [tm_get (by rw [tm_length]; exact h), tm_get h, it_tm hL a b h]
  · rw [List.getElem?_eq_none (by rw [tm_length, tm_length]; omega), List.getElem?_eq_none (by rw [tm_length]; omega)]

/-! ### no more than n different numbers below n -/
theorem nodup_erase_len {n : Nat} : ∀ {l : List Nat}, l.Nodup → (∀ x ∈ l, x < n) → l.length ≤ n := by
  induction n with
  | zero =>
    intro l _ h
    cases l with
    | nil => exact Nat.le_refl 0
    | cons x r => exact absurd (h x (List.mem_cons_self ..)) (Nat.not_lt_zero x)
  | succ n ih =>
    intro l nd h
    have h1 : (l.erase n).length ≤ n := ih (nd.erase n) fun x hx => by
      have h2 := h x (List.mem_of_mem_erase hx)
      have h3 : x ≠ n := fun e => by
        subst e
        exact (nd.not_mem_erase) hx
      omega
    have h4 : l.length ≤ (l.erase n).length + 1 := by
      by_cases hm : n ∈ l
      · rw [List.length_erase_of_mem hm]
        omega
      · rw [List.erase_of_not_mem hm]
        omega
    omega
theorem nodup_len {n : Nat} {l : List Nat} (nd : l.Nodup) (h : ∀ x ∈ l, x < n) : l.length ≤ n := nodup_erase_len nd h
/-- injective by numbers: a list by a function -/
theorem nodup_of_inj {m : Nat} {f : Nat → Nat} (h : ∀ i j, i < j → j < m → f i ≠ f j) : ((List.range m).map f).Nodup := by
  rw [List.Nodup, List.pairwise_map]
  refine List.Pairwise.imp_of_mem (fun {a b} ha hb hab => ?_) List.pairwise_lt_range
  exact h a b hab (List.mem_range.mp hb)
theorem inj_of_nodup {m : Nat} {f : Nat → Nat} (h : ((List.range m).map f).Nodup) {i j : Nat} (hi : i < m) (hj : j < m) (e : f i = f j) : i = j := by
  have h1 : ((List.range m).map f)[i]? = some (f i) := by rw [List.getElem?_map, List.getElem?_range hi]; rfl
  have h2 : ((List.range m).map f)[j]? = some (f j) := by rw [List.getElem?_map, List.getElem?_range hj]; rfl
  obtain ⟨l1, e1⟩ := List.getElem?_eq_some_iff.mp h1
  obtain ⟨l2, e2⟩ := List.getElem?_eq_some_iff.mp h2
  exact (List.getElem_inj h).mp (e1.trans (e.trans e2.symm))

/-! ### once round: behind a first meeting all comes again -/
theorem it_period {L : List Nat} {p a d : Nat} (h : it L (a + d) p = it L a p) : ∀ k, it L (a + k * d) p = it L a p
  | 0 => by rw [Nat.zero_mul]; rfl
  | k + 1 => by
    rw [Nat.succ_mul, ← Nat.add_assoc, Nat.add_right_comm, it_add, h, ← it_add]
    exact it_period h k
theorem it_round {L : List Nat} {p a d : Nat} (h : it L (a + d) p = it L a p) (r : Nat) : it L (a + d + r % d) p = it L (a + d + r) p := by
  have e1 : r % d + d * (r / d) = r := Nat.mod_add_div r d
  have e2 : it L (a + d + r) p = it L (r % d) (it L (a + (1 + r / d) * d) p) := by
    rw [← it_add]
    congr 1
    rw [Nat.add_mul, Nat.one_mul, Nat.mul_comm (r / d) d]
    omega
  rw [e2, it_period h, it_add, h]
end Ld
/-! Mb: leadings that can be taken back: no place twice. Plain Lean. -/
namespace Ld
def Inj (L : List Nat) : Prop := ∀ a b, a < L.length → b < L.length → st L a = st L b → a = b
theorem inj_of {L : List Nat} (h : L.Nodup) : Inj L := fun a b ha hb e => by
  rw [st_eq ha, st_eq hb] at e
  exact (List.getElem_inj h).mp e
theorem nodup_of {L : List Nat} (h : Inj L) : L.Nodup := by
  rw [List.Nodup, List.pairwise_iff_getElem]
  intro i j hi hj hij e
  have := h i j hi hj (by rw [st_eq hi, st_eq hj]; exact e)
  omega
theorem surj {L : List Nat} (hL : Lead L) (nd : L.Nodup) {q : Nat} (hq : q < L.length) : q ∈ L := by
  refine Classical.byContradiction fun h => ?_
  have h1 := nodup_len (n := L.length) (l := q :: L) (List.nodup_cons.mpr ⟨h, nd⟩) fun x hx => by
    rcases List.mem_cons.mp hx with rfl | hx
    · exact hq
    · exact hL x hx
  rw [List.length_cons] at h1
  omega
theorem st_set {L : List Nat} {j x p : Nat} (hj : j < L.length) : st (L.set j x) p = if p = j then x else st L p := by
  unfold st
  rw [List.getD_eq_getElem?_getD, List.getD_eq_getElem?_getD, List.getElem?_set]
  by_cases e : p = j
  · subst e
    rw [if_pos rfl, if_pos hj, if_pos rfl]
    rfl
  · rw [if_neg fun q => e q.symm, if_neg e]
theorem set_self {L : List Nat} {j : Nat} (hj : j < L.length) : L.set j (st L j) = L := by
  refine List.ext_getElem? fun i => ?_
  rw [List.getElem?_set]
  by_cases e : j = i
  · subst e
    rw [if_pos rfl, if_pos hj, st_get hj]
  · rw [if_neg e]
/-- two places exchanged -/
theorem swap_inj {L : List Nat} (h : Inj L) {i j : Nat} (hi : i < L.length) (hj : j < L.length) : Inj ((L.set i (st L j)).set j (st L i)) := by
  have hs : ∀ p, st ((L.set i (st L j)).set j (st L i)) p = st L (if p = j then i else if p = i then j else p) := fun p => by
    rw [st_set (by rw [List.length_set]; exact hj)]
    by_cases e : p = j
    · rw [if_pos e, if_pos e]
    · rw [if_neg e, if_neg e, st_set hi]
      by_cases e2 : p = i
      · rw [if_pos e2, if_pos e2]
      · rw [if_neg e2, if_neg e2]
  intro a b ha hb e
  rw [List.length_set, List.length_set] at ha hb
  rw [hs, hs] at e
  have h1 := h _ _ (by split <;> (try split) <;> omega) (by split <;> (try split) <;> omega) e
  split at h1 <;> split at h1 <;> (try split at h1) <;> (try split at h1) <;> omega
/-! ### taken back -/
def inv (L : List Nat) : List Nat := (List.range L.length).map fun q => L.idxOf q
theorem inv_len (L : List Nat) : (inv L).length = L.length := by
  unfold inv
  rw [List.length_map, List.length_range]
theorem inv_st {L : List Nat} {q : Nat} (hq : q < L.length) : st (inv L) q = L.idxOf q := by
  have h := st_get (L := inv L) (p := q) (by rw [inv_len]; exact hq)
  unfold inv at h
  rw [List.getElem?_map, List.getElem?_range hq] at h
  exact (Option.some.inj h).symm
theorem idx_st {L : List Nat} (nd : L.Nodup) {p : Nat} (hp : p < L.length) : L.idxOf (st L p) = p := by
  rw [st_eq hp]
  exact nd.idxOf_getElem p hp
theorem st_idx {L : List Nat} {q : Nat} (h : q ∈ L) : st L (L.idxOf q) = q := by
  have h1 : L.idxOf q < L.length := List.idxOf_lt_length_iff.mpr h
  rw [st_eq h1]
  exact List.getElem_idxOf h1
theorem inv_back {L : List Nat} (hL : Lead L) (nd : L.Nodup) {p : Nat} (hp : p < L.length) : st (inv L) (st L p) = p := by
  rw [inv_st (st_lt hL hp), idx_st nd hp]
theorem inv_fwd {L : List Nat} (hL : Lead L) (nd : L.Nodup) {q : Nat} (hq : q < L.length) : st L (st (inv L) q) = q := by
  rw [inv_st hq, st_idx (surj hL nd hq)]
theorem inv_lead {L : List Nat} (hL : Lead L) (nd : L.Nodup) : Lead (inv L) := fun x hx => by
  rw [inv_len]
  unfold inv at hx
  obtain ⟨q, hq, rfl⟩ := List.mem_map.mp hx
  exact List.idxOf_lt_length_iff.mpr (surj hL nd (List.mem_range.mp hq))
theorem inv_nodup {L : List Nat} (hL : Lead L) (nd : L.Nodup) : (inv L).Nodup := by
  refine nodup_of fun a b ha hb e => ?_
  rw [inv_len] at ha hb
  have h1 := inv_fwd hL nd ha
  rw [e, inv_fwd hL nd hb] at h1
  exact h1.symm
theorem ext_st {A B : List Nat} (hl : A.length = B.length) (h : ∀ p, p < A.length → st A p = st B p) : A = B := by
  refine List.ext_getElem? fun i => ?_
  by_cases hi : i < A.length
  · rw [st_get hi, st_get (by omega), h i hi]
  · rw [List.getElem?_eq_none (by omega), List.getElem?_eq_none (by omega)]
theorem inv_inv {L : List Nat} (hL : Lead L) (nd : L.Nodup) : inv (inv L) = L := by
  refine ext_st (by rw [inv_len, inv_len]) fun p hp => ?_
  rw [inv_len, inv_len] at hp
  have h1 := inv_back (inv_lead hL nd) (inv_nodup hL nd) (p := st L p) (by rw [inv_len]; exact st_lt hL hp)
  rw [inv_back hL nd hp] at h1
  exact h1
theorem st_map {A : List Nat} {f : Nat → Nat} {p : Nat} (hp : p < A.length) : st (A.map f) p = f (st A p) := by
  have h := st_get (L := A.map f) (p := p) (by rw [List.length_map]; exact hp)
  rw [List.getElem?_map, st_get hp] at h
  exact (Option.some.inj h).symm
theorem st_range {n p : Nat} (hp : p < n) : st (List.range n) p = p := by
  have h := st_get (L := List.range n) (p := p) (by rw [List.length_range]; exact hp)
  rw [List.getElem?_range hp] at h
  exact (Option.some.inj h).symm
/-- the one, then the other -/
theorem inv_then {L : List Nat} (hL : Lead L) (nd : L.Nodup) : L.map (st (inv L)) = List.range L.length := by
  refine ext_st (by rw [List.length_map, List.length_range]) fun p hp => ?_
  rw [List.length_map] at hp
  rw [st_map hp, inv_back hL nd hp, st_range hp]
theorem then_inv {L : List Nat} (hL : Lead L) (nd : L.Nodup) : (inv L).map (st L) = List.range L.length := by
  refine ext_st (by rw [List.length_map, List.length_range, inv_len]) fun p hp => ?_
  rw [List.length_map, inv_len] at hp
  rw [st_map (by rw [inv_len]; exact hp), inv_fwd hL nd hp, st_range hp]
/-- all places of a leading that can be taken back, in turn -/
theorem perm_range {L : List Nat} (hL : Lead L) (nd : L.Nodup) : L.Perm (List.range L.length) := by
  refine (List.perm_ext_iff_of_nodup nd List.nodup_range).mpr fun a => ⟨fun h => List.mem_range.mpr (hL a h), fun h => surj hL nd (List.mem_range.mp h)⟩
theorem range_sorted (n : Nat) : ((List.range n).map fun (x : Nat) => (x : Int)).Pairwise (· ≤ ·) := by
  rw [List.pairwise_map]
  exact List.Pairwise.imp (fun {a b} h => by omega) List.pairwise_lt_range
theorem sorted_is {A B : List Int} (h : A.Perm B) (ha : A.Pairwise (· ≤ ·)) (hb : B.Pairwise (· ≤ ·)) : A = B :=
  List.Perm.eq_of_pairwise (fun _ _ _ _ h1 h2 => Int.le_antisymm h1 h2) ha hb h
theorem sorted_range {L : List Nat} (hL : Lead L) (nd : L.Nodup) {A : List Int} (h : A.Perm (L.map fun (x : Nat) => (x : Int))) (ha : A.Pairwise (· ≤ ·)) : A = (List.range L.length).map fun (x : Nat) => (x : Int) :=
  sorted_is (h.trans ((perm_range hL nd).map _)) ha (range_sorted _)
/-! ### a walk that writes the places of a leading where they lead from -/
def back (L : List Nat) (k : Nat) : List Nat := (List.range L.length).map fun q => if L.idxOf q < k then L.idxOf q else 0
theorem back_len (L : List Nat) (k : Nat) : (back L k).length = L.length := by
  unfold back
  rw [List.length_map, List.length_range]
theorem back_st {L : List Nat} {k q : Nat} (hq : q < L.length) : st (back L k) q = if L.idxOf q < k then L.idxOf q else 0 := by
  unfold back
  rw [st_map (by rw [List.length_range]; exact hq), st_range hq]
theorem back_zero (L : List Nat) : back L 0 = List.replicate L.length 0 := by
  unfold back
  rw [List.map_congr_left (g := fun _ => 0) fun q _ => if_neg (Nat.not_lt_zero _), List.map_const', List.length_range]
theorem back_step {L : List Nat} (hL : Lead L) (nd : L.Nodup) {k : Nat} (hk : k < L.length) : (back L k).set (st L k) k = back L (k + 1) := by
  have h1 := st_lt hL hk
  refine ext_st (by rw [List.length_set, back_len, back_len]) fun q hq => ?_
  rw [List.length_set, back_len] at hq
  rw [st_set (by rw [back_len]; exact h1), back_st hq, back_st hq]
  have hm := surj hL nd hq
  by_cases e : q = st L k
  · subst e
    rw [if_pos rfl, idx_st nd hk, if_pos (by omega)]
  · rw [if_neg e]
    have h2 : L.idxOf q ≠ k := fun e2 => by
      have h3 := st_idx hm
      rw [e2] at h3
      exact e h3.symm
    by_cases h4 : L.idxOf q < k
    · rw [if_pos h4, if_pos (by omega)]
    · rw [if_neg h4, if_neg (by omega)]
theorem back_all {L : List Nat} (hL : Lead L) (nd : L.Nodup) : back L L.length = inv L := by
  unfold back inv
  refine List.map_congr_left fun q hq => ?_
  rw [if_pos (List.idxOf_lt_length_iff.mpr (surj hL nd (List.mem_range.mp hq)))]
/-! ### many alike rings -/
def rot (w p : Nat) : Nat := p / w * w + (p % w + 1) % w
theorem rot_div {w p : Nat} (hw : 0 < w) : rot w p / w = p / w := by
  unfold rot
  have h1 := Nat.mod_lt (p % w + 1) hw
  rw [Nat.mul_comm, Nat.mul_add_div hw, Nat.div_eq_of_lt h1, Nat.add_zero]
theorem rot_mod {w p : Nat} (hw : 0 < w) : rot w p % w = (p % w + 1) % w := by
  unfold rot
  rw [Nat.mul_comm, Nat.mul_add_mod, Nat.mod_mod]
theorem succ_mod_inj {w a b : Nat} (ha : a < w) (hb : b < w) (e : (a + 1) % w = (b + 1) % w) : a = b := by
  by_cases h1 : a + 1 = w
  · by_cases h2 : b + 1 = w
    · omega
    · rw [h1, Nat.mod_self, Nat.mod_eq_of_lt (show b + 1 < w by omega)] at e
      omega
  · rw [Nat.mod_eq_of_lt (show a + 1 < w by omega)] at e
    by_cases h2 : b + 1 = w
    · rw [h2, Nat.mod_self] at e
      omega
    · rw [Nat.mod_eq_of_lt (show b + 1 < w by omega)] at e
      omega
theorem rot_inj {w p q : Nat} (hw : 0 < w) (e : rot w p = rot w q) : p = q := by
  have h1 := rot_div (p := p) hw
  have h2 := rot_div (p := q) hw
  have h3 := rot_mod (p := p) hw
  have h4 := rot_mod (p := q) hw
  rw [e] at h1 h3
  have h5 := succ_mod_inj (Nat.mod_lt p hw) (Nat.mod_lt q hw) (h3.symm.trans h4)
  have h6 := Nat.div_add_mod p w
  have h7 := Nat.div_add_mod q w
  rw [← h1, h2, h5] at h6
  omega
theorem rot_lt {w J p : Nat} (hw : 0 < w) (h : p < J * w) : rot w p < J * w := by
  have h1 : rot w p / w < J := by
    rw [rot_div hw]
    exact Nat.div_lt_of_lt_mul (by rw [Nat.mul_comm]; exact h)
  have h2 := (Nat.div_lt_iff_lt_mul hw).mp h1
  exact h2
theorem rot_at {w j i : Nat} (hi : i < w) : rot w (j * w + i) = j * w + (i + 1) % w := by
  have hw : 0 < w := by omega
  unfold rot
  rw [Nat.mul_comm j w, Nat.mul_add_div hw, Nat.div_eq_of_lt hi, Nat.add_zero, Nat.mul_add_mod, Nat.mod_eq_of_lt hi, Nat.mul_comm j w]
def blk (n w k : Nat) : List Nat := (List.range n).map fun p => if p < k then rot w p else p
theorem blk_len (n w k : Nat) : (blk n w k).length = n := by
  unfold blk
  rw [List.length_map, List.length_range]
theorem blk_st {n w k p : Nat} (hp : p < n) : st (blk n w k) p = if p < k then rot w p else p := by
  unfold blk
  rw [st_map (by rw [List.length_range]; exact hp), st_range hp]
theorem blk_zero (n w : Nat) : blk n w 0 = List.range n := by
  unfold blk
  rw [List.map_congr_left (g := fun p => p) fun p _ => if_neg (Nat.not_lt_zero p), List.map_id']
theorem blk_step {n w k : Nat} (hk : k < n) : (blk n w k).set k (rot w k) = blk n w (k + 1) := by
  refine ext_st (by rw [List.length_set, blk_len, blk_len]) fun q hq => ?_
  rw [List.length_set, blk_len] at hq
  rw [st_set (by rw [blk_len]; exact hk), blk_st hq, blk_st hq]
  by_cases e : q = k
  · subst e
    rw [if_pos rfl, if_pos (by omega)]
  · rw [if_neg e]
    by_cases h : q < k
    · rw [if_pos h, if_pos (by omega)]
    · rw [if_neg h, if_neg (by omega)]
theorem blk_lead {n w J : Nat} (hw : 0 < w) (hJ : J * w ≤ n) : Lead (blk n w (J * w)) := fun x hx => by
  rw [blk_len]
  unfold blk at hx
  obtain ⟨p, hp, rfl⟩ := List.mem_map.mp hx
  have hp := List.mem_range.mp hp
  split
  · rename_i h
    have := rot_lt hw h
    omega
  · exact hp
theorem blk_inj {n w J : Nat} (hw : 0 < w) : Inj (blk n w (J * w)) := fun a b ha hb e => by
  rw [blk_len] at ha hb
  rw [blk_st ha, blk_st hb] at e
  split at e <;> split at e
  · exact rot_inj hw e
  · rename_i h1 h2
    have := rot_lt hw h1
    omega
  · rename_i h1 h2
    have := rot_lt hw h2
    omega
  · exact e
end Ld
/-! Evx: what readings evaluate to: further rules over Evl. -/
namespace Ld
open PySem L2 Evl
/-! ### names of the built-ins -/
theorem bo_len : bootBuiltins "len" = some (.builtin "len") := by decide +kernel
theorem bo_sum : bootBuiltins "sum" = some (.builtin "sum") := by decide +kernel
theorem bo_all : bootBuiltins "all" = some (.builtin "all") := by decide +kernel
theorem bo_any : bootBuiltins "any" = some (.builtin "any") := by decide +kernel
theorem bo_max : bootBuiltins "max" = some (.builtin "max") := by decide +kernel
theorem bo_min : bootBuiltins "min" = some (.builtin "min") := by decide +kernel
theorem bo_sorted : bootBuiltins "sorted" = some (.builtin "sorted") := by decide +kernel
theorem bo_isinstance : bootBuiltins "isinstance" = some (.builtin "isinstance") := by decide +kernel
theorem bo_list : bootBuiltins "list" = some (.type "list") := by decide +kernel
theorem bo_int : bootBuiltins "int" = some (.type "int") := by decide +kernel
theorem bo_bool : bootBuiltins "bool" = some (.type "bool") := by decide +kernel
theorem bo_str : bootBuiltins "str" = some (.type "str") := by decide +kernel
theorem bo_tuple : bootBuiltins "tuple" = some (.type "tuple") := by decide +kernel
/-- no built-in that the texts call is another thing -/
structure Bl (mg : Str → Option Value) : Prop where
  len_ : mg "len" = none
  sum_ : mg "sum" = none
  range_ : mg "range" = none
  list_ : mg "list" = none
  enumerate_ : mg "enumerate" = none
  isinstance_ : mg "isinstance" = none
  int_ : mg "int" = none
  bool_ : mg "bool" = none
  all_ : mg "all" = none
  any_ : mg "any" = none
  max_ : mg "max" = none
  min_ : mg "min" = none
  sorted_ : mg "sorted" = none
  set_ : mg "set" = none
  reversed_ : mg "reversed" = none
  tuple_ : mg "tuple" = none

/-! ### a def that keeps its promise, wherever it stands -/
structure Dk (P : Program) (w : World) (K : PySem.W.Frag) (mg : Str → Option Value) (base : Heap) (CX : CXT) (k : Nat) (x : Str) (ps : List Str) (sp : Sp) : Prop where
  ex : ∃ (f : Addr) (fd : FuncData), FnOk P w K mg base CX k f fd ps sp ∧ mg x = some (.ref f) ∧ PySem.W.keepIn K (.ref f) = true ∧ Binds K fd ps []
theorem pe_callD {X : Cx} {CX : CXT} {k : Nat} {x : Str} {ps : List Str} {sp : Sp} {E : XK} {e : Expr} {es : List Expr} {t : TA} {p pos : Pos} (D : Dk X.prog X.w X.K X.mg X.base CX k x ps sp) (hr : Room k X.A) (hg : Gl X x) (hx : Passes CX X E)
    (ha : PA X (e :: es) t) (hdb : (x == ("__debug__" : Str)) = false := by decide) (he : starEach (e :: es) X.env = (false, eval e X.env) :: starEach es X.env := by rfl) (hpl : (backTo pos (starEach es X.env)).any (·.1) = false := by rfl) :
    PE X (.Call (.Name x p) (e :: es) [] pos) (tCall sp [] E t) := by
  obtain ⟨f, fd, F, m, kp, b⟩ := D.ex
  exact pe_call F hr hg m kp b .nil hx ha hdb he hpl

/-! ### rules with the written part named -/
section
variable {X : Cx} {K : PySem.W.Frag}
def rLen1 (K : PySem.W.Frag) : List V → Hp → VK → Prop := fun xs H Q => ∃ p ys, xs = [V.ref p] ∧ (SqL K H p ys ∨ SqT K H p ys) ∧ Q (.int ys.length) H
def rList1 (K : PySem.W.Frag) : List V → Hp → VK → Prop := fun xs H Q => ∃ p ys, xs = [V.ref p] ∧ (SqL K H p ys ∨ SqT K H p ys) ∧ ∀ l, H l = none → Q (.ref l) (upd H l (.lst ys))
theorem call_lenK (h : X.K = K) : CallR X (.builtin "len") (rLen1 K) := by
  subst h
  exact call_len_seq
theorem call_listK (h : X.K = K) : CallR X (.type "list") (rList1 K) := by
  subst h
  exact call_list_of
theorem cr_sumK (h : X.K = K) (hc : X.calm = true) : CallR X (.builtin "sum") (rSum K) := by
  subst h
  exact cr_sum hc
theorem cr_allK (h : X.K = K) (hc : X.calm = true) : CallR X (.builtin "all") (rAll K) := by
  subst h
  exact cr_all hc
theorem cr_anyK (h : X.K = K) (hc : X.calm = true) : CallR X (.builtin "any") (rAny K) := by
  subst h
  exact cr_any hc
theorem cr_sortedK (h : X.K = K) : CallR X (.builtin "sorted") (rSortedI K) := by
  subst h
  exact cr_sortedI
theorem call_isiK' (h : X.K = K) : CallR X (.builtin "isinstance") (rIsi K) := by
  subst h
  exact call_isi
theorem ix_listK (h : X.K = K) : IxR X (rIxL K) := by
  subst h
  exact ix_list
theorem ix_tupK (h : X.K = K) : IxR X (rIxT K) := by
  subst h
  exact ix_tup
theorem op_inK (h : X.K = K) : OpR X (compareOp .In) (rIn K false) := by
  subst h
  exact op_in_seq
theorem op_notInK (h : X.K = K) : OpR X (compareOp .NotIn) (rIn K true) := by
  subst h
  exact op_notIn_seq
theorem op_eqK (h : X.K = K) (hu : X.A.units + 64 < cLine) : OpR X (compareOp .Eq) (rEqD K) := by
  subst h
  exact op_eqD hu
theorem op_neK (h : X.K = K) (hu : X.A.units + 64 < cLine) : OpR X (compareOp .NotEq) (rNeD K) := by
  subst h
  exact op_neD hu
theorem sl_listK (h : X.K = K) : SlR X (rSlL K) := by
  subst h
  exact sl_list
end

/-! ### lists of numbers -/
def nl (L : List Nat) : List V := L.map fun (x : Nat) => V.int (x : Int)
def il (L : List Int) : List V := L.map V.int
theorem nl_len (L : List Nat) : (nl L).length = L.length := by unfold nl; rw [List.length_map]
theorem il_len (L : List Int) : (il L).length = L.length := by unfold il; rw [List.length_map]
theorem nl_il (L : List Nat) : nl L = il (L.map fun (x : Nat) => (x : Int)) := by
  unfold nl il
  rw [List.map_map]
  rfl
theorem nl_get {L : List Nat} {i : Nat} {x : Nat} (h : L[i]? = some x) : (nl L)[i]? = some (.int (x : Int)) := by
  unfold nl
  rw [List.getElem?_map, h]
  rfl
theorem nl_st {L : List Nat} {p : Nat} (h : p < L.length) : (nl L)[p]? = some (.int (st L p : Int)) := nl_get (st_get h)
theorem at_nl {L : List Nat} {p : Nat} (h : p < L.length) : atI (nl L) (p : Int) = some (.int (st L p : Int)) := atI_nat (nl_st h)
theorem nl_inv {L : List Nat} {i : Nat} {x : V} (h : (nl L)[i]? = some x) : ∃ (y : Nat), L[i]? = some y ∧ x = .int (y : Int) ∧ i < L.length := by
  unfold nl at h
  rw [List.getElem?_map] at h
  cases e : L[i]? with
  | none =>
    rw [e] at h
    cases h
  | some y =>
    rw [e] at h
    exact ⟨y, rfl, (Option.some.inj h).symm, (List.getElem?_eq_some_iff.mp e).1⟩
theorem il_inv {L : List Int} {i : Nat} {x : V} (h : (il L)[i]? = some x) : ∃ (y : Int), L[i]? = some y ∧ x = .int y ∧ i < L.length := by
  unfold il at h
  rw [List.getElem?_map] at h
  cases e : L[i]? with
  | none =>
    rw [e] at h
    cases h
  | some y =>
    rw [e] at h
    exact ⟨y, rfl, (Option.some.inj h).symm, (List.getElem?_eq_some_iff.mp e).1⟩

section
variable {K : PySem.W.Frag} {σ : L2.St} {H H' : Hp} {ta tb tc te tx td ty : TE} {t u : TT} {x y z v : V} {r r' : R2} {p q : Addr}
/-! ### comparisons -/
theorem rv_dec {g : Int → Int → V} {i j : Int} {w : V} (e : g i j = w) : RV (rI0 g) (.int i) (.int j) H w := by
  rw [← e]
  exact rv_I0
theorem rv_IW {C : Int → Int → Prop} {g : Int → Int → V} {i j : Int} {w : V} (hc : C i j) (e : g i j = w) : RV (rI C g) (.int i) (.int j) H w := by
  rw [← e]
  exact rv_I hc
theorem ev_chain {b c : Bool} (ha : Ev ta σ H x) (hb : Ev tb σ H y) (hc : Ev tc σ H z) (h1 : RV r x y H (.bl b)) (h2 : RV r' y z H (.bl c)) : Ev (tChain r r' ta tb tc) σ H (.bl (b && c)) := fun H1 e Q q =>
  ha H1 e _ fun H2 e2 => hb H2 (e.trans e2) _ fun H3 e3 => h1 H3 ((e.trans e2).trans e3) _ fun H4 e4 => ⟨b, rfl, by
    cases b with
    | true =>
      rw [if_pos rfl]
      exact hc H4 (((e.trans e2).trans e3).trans e4) _ fun H5 e5 => h2 H5 ((((e.trans e2).trans e3).trans e4).trans e5) Q fun H6 e6 => q H6 ((((e2.trans e3).trans e4).trans e5).trans e6)
    | false =>
      rw [if_neg Bool.false_ne_true]
      exact q H4 ((e2.trans e3).trans e4)⟩
theorem dpAll_int {K : PySem.W.Frag} {H : Hp} : ∀ L : List Int, DpAll K H (il L) (L.map PyData.int)
  | [] => .nil
  | x :: r => .cons (.int x) (dpAll_int r)
theorem dp_il {L : List Int} (h : SqL K H p (il L)) : Dp K H (.ref p) (.list (L.map PyData.int)) := .lst h (dpAll_int L)
theorem eqvAll_int : ∀ A B : List Int, PyData.eqvAll (A.map PyData.int) (B.map PyData.int) = decide (A = B)
  | [], [] => rfl
  | [], _ :: _ => rfl
  | _ :: _, [] => rfl
  | a :: r, b :: s => by
    show (PyData.eqv (.int a) (.int b) && PyData.eqvAll (r.map PyData.int) (s.map PyData.int)) = _
    rw [eqvAll_int r s]
    show ((a == b) && decide (r = s)) = decide (a :: r = b :: s)
    rw [Bool.eq_iff_iff]
    simp
theorem eqv_int (A B : List Int) : PyData.eqv (.list (A.map PyData.int)) (.list (B.map PyData.int)) = decide (A = B) := eqvAll_int A B
theorem canAll_int : ∀ A : List Int, PyData.canLayAll0 (A.map PyData.int) = true
  | [] => rfl
  | a :: r => by
    show (PyData.canLay0 (.int a) && PyData.canLayAll0 (r.map PyData.int)) = true
    rw [canAll_int r]
    rfl

theorem depthAll_int : ∀ A : List Int, PyData.depthAll (A.map PyData.int) = 0
  | [] => rfl
  | a :: r => by
    show max (PyData.depth (.int a)) (PyData.depthAll (r.map PyData.int)) = 0
    rw [depthAll_int r]
    rfl
theorem shaped_int (A : List Int) : SeqAt.shaped (.list (A.map PyData.int)) = true := by
  unfold SeqAt.shaped
  have h1 : PyData.canLay0 (.list (A.map PyData.int)) = true := canAll_int A
  have h2 : PyData.depth (.list (A.map PyData.int)) = 1 := by
    show PyData.depthAll (A.map PyData.int) + 1 = 1
    rw [depthAll_int]
  rw [h1, h2]
  rfl
theorem rv_eqI {A B : List Int} (h1 : SqL K H p (il A)) (h2 : SqL K H q (il B)) : RV (rEqD K) (.ref p) (.ref q) H (.bl (decide (A = B))) := fun H1 e Q k =>
  ⟨_, _, dp_il (ex_l e h1), dp_il (ex_l e h2), shaped_int A, shaped_int B, by
    rw [eqv_int]
    exact k H1 (Ex.refl H1)⟩
theorem rv_neI {A B : List Int} (h1 : SqL K H p (il A)) (h2 : SqL K H q (il B)) : RV (rNeD K) (.ref p) (.ref q) H (.bl (!decide (A = B))) := fun H1 e Q k =>
  ⟨_, _, dp_il (ex_l e h1), dp_il (ex_l e h2), shaped_int A, shaped_int B, by
    rw [eqv_int]
    exact k H1 (Ex.refl H1)⟩
theorem cast_inj {A B : List Nat} : (A.map fun (x : Nat) => (x : Int)) = (B.map fun (x : Nat) => (x : Int)) ↔ A = B := by
  refine ⟨fun h => ?_, fun h => by rw [h]⟩
  refine List.map_inj_right (fun x y e => ?_) |>.mp h
  omega
theorem rv_eqN {A B : List Nat} (h1 : SqL K H p (nl A)) (h2 : SqL K H q (nl B)) : RV (rEqD K) (.ref p) (.ref q) H (.bl (decide (A = B))) := by
  rw [nl_il] at h1 h2
  have h := rv_eqI h1 h2
  rw [decide_eq_decide.mpr cast_inj] at h
  exact h
theorem rv_neN {A B : List Nat} (h1 : SqL K H p (nl A)) (h2 : SqL K H q (nl B)) : RV (rNeD K) (.ref p) (.ref q) H (.bl (!decide (A = B))) := by
  rw [nl_il] at h1 h2
  have h := rv_neI h1 h2
  rw [decide_eq_decide.mpr cast_inj] at h
  exact h
theorem rv_neN0 {A B : List Nat} (h1 : SqL K H p (nl A)) (h2 : SqL K H q (nl B)) (e : A = B) : RV (rNeD K) (.ref p) (.ref q) H (.bl false) := by
  have h := rv_neN h1 h2
  rw [decide_eq_true e] at h
  exact h
theorem rv_eqN1 {A B : List Nat} (h1 : SqL K H p (nl A)) (h2 : SqL K H q (nl B)) (e : A = B) : RV (rEqD K) (.ref p) (.ref q) H (.bl true) := by
  have h := rv_eqN h1 h2
  rw [decide_eq_true e] at h
  exact h
/-- one number from a list of numbers, by its place -/
theorem rv_ixN {L : List Nat} {j : Nat} (h : SqL K H p (nl L)) (hj : j < L.length) : RV (rIxL K) (.ref p) (.int (j : Int)) H (.int (st L j : Int)) := rv_ixL h (at_nl hj)

/-! ### tests -/
theorem et_yes : EvT tYes σ H true := fun H1 _ _ q => q H1 (Ex.refl H1)
theorem et_orF {tt uu : TT} (h1 : EvT tt σ H false) (h2 : EvT uu σ H false) : EvT (tOr tt uu) σ H false := et_or h1 fun _ => h2
theorem et_notT {tt : TT} (h1 : EvT tt σ H true) : EvT (tNot tt) σ H false := et_not h1
theorem et_notF {tt : TT} (h1 : EvT tt σ H false) : EvT (tNot tt) σ H true := et_not h1
theorem et_andT {tt uu : TT} (h1 : EvT tt σ H true) (h2 : EvT uu σ H true) : EvT (tAnd tt uu) σ H true := et_and h1 fun _ => h2
theorem ev_andT (h1 : Ev ta σ H (.bl true)) (h2 : Ev tb σ H (.bl true)) : Ev (tAndV ta tb) σ H (.bl true) := ev_andV h1 fun _ => h2
theorem ev_notF (h1 : Ev ta σ H (.bl false)) : Ev (tNotV ta) σ H (.bl true) := ev_notV h1

/-! ### calls on values -/
theorem ev_isi {c : V} {t u : Value} {b : Bool} (ha : Ev ta σ H x) (hc : Ev tb σ H c) (hk : ClsV c u) (ht : ∀ H1, Ex H H1 → TyX K H1 x t) (hb : PySem.W.kitOne K t u = some b) : Ev (tCB (rIsi K) (tCons ta (tCons tb tNil))) σ H (.bl b) := fun H1 e Q q =>
  ha H1 e _ fun H2 e2 => hc H2 (e.trans e2) _ fun H3 e3 => ⟨x, c, t, u, b, rfl, hk, ht H3 ((e.trans e2).trans e3), hb, q H3 (e2.trans e3)⟩
theorem ev_isiInt {i : Int} (ha : Ev ta σ H (.int i)) : Ev (tCB (rIsi K) (tCons ta (tCons (tC (.ty "int")) tNil))) σ H (.bl true) := ev_isi ha ev_c (.ty "int") (fun _ _ => .base (.int i)) (kit_ty (by decide +kernel))
theorem ev_isiBool {i : Int} (ha : Ev ta σ H (.int i)) : Ev (tCB (rIsi K) (tCons ta (tCons (tC (.ty "bool")) tNil))) σ H (.bl false) := ev_isi ha ev_c (.ty "bool") (fun _ _ => .base (.int i)) (kit_ty (by decide +kernel))
theorem ty_list {xs : List V} (h : Rd H p (.lst xs)) {H1 : Hp} (e : Ex H H1) : TyX K H1 (.ref p) (.type "list") := by
  rcases h with h | ⟨o, h⟩
  · exact .base (.lst (e _ _ h))
  · exact .base (.frz (e _ _ h))
theorem ev_isiList {xs : List V} (ha : Ev ta σ H (.ref p)) (h : Rd H p (.lst xs)) : Ev (tCB (rIsi K) (tCons ta (tCons (tC (.ty "list")) tNil))) σ H (.bl true) := ev_isi ha ev_c (.ty "list") (fun _ e => ty_list h e) (kit_ty (by decide +kernel))
theorem ev_lenL {xs : List V} (ha : Ev ta σ H (.ref p)) (h : SqL K H p xs) : Ev (tCB (rLen1 K) (tCons ta tNil)) σ H (.int (xs.length : Int)) := ev_len ha h
theorem ev_lenNl {L : List Nat} (ha : Ev ta σ H (.ref p)) (h : SqL K H p (nl L)) : Ev (tCB (rLen1 K) (tCons ta tNil)) σ H (.int (L.length : Int)) := by
  have h1 := ev_lenL ha h
  rw [nl_len] at h1
  exact h1
theorem ev_lenIl {L : List Int} (ha : Ev ta σ H (.ref p)) (h : SqL K H p (il L)) : Ev (tCB (rLen1 K) (tCons ta tNil)) σ H (.int (L.length : Int)) := by
  have h1 := ev_lenL ha h
  rw [il_len] at h1
  exact h1
theorem el_listOf {xs : List V} (ha : Ev ta σ H (.ref p)) (h : SqL K H p xs) : EvL (tCB (rList1 K) (tCons ta tNil)) σ H xs := el_list ha h
theorem ev_sum {ns : List Int} (ha : Ev ta σ H (.ref p)) (h : SqL K H p (il ns)) : Ev (tCB (rSum K) (tCons ta tNil)) σ H (.int ns.sum) := fun H1 e Q q =>
  ha H1 e _ fun H2 e2 => ⟨p, ns, rfl, ex_l (e.trans e2) h, q H2 e2⟩
theorem ev_all {bs : List Bool} (ha : EvL ta σ H (bs.map V.bl)) : Ev (tCB (rAll K) (tCons ta tNil)) σ H (.bl (bs.all id)) := fun H1 e Q q =>
  ha H1 e _ fun p H2 _ e2 h2 => ⟨p, bs, rfl, sq_of h2, q H2 e2⟩
theorem ev_allT {n : Nat} (ha : EvL ta σ H (List.replicate n (V.bl true))) : Ev (tCB (rAll K) (tCons ta tNil)) σ H (.bl true) := by
  have e : List.replicate n (V.bl true) = (List.replicate n true).map V.bl := by rw [List.map_replicate]
  rw [e] at ha
  have h := ev_all (K := K) ha
  rw [show (List.replicate n true).all id = true from List.all_eq_true.mpr fun x hx => (List.mem_replicate.mp hx).2] at h
  exact h
/-- a call of a def: a value, a new list -/
theorem ev_callV {sp : Sp} {vs : List V} {E : XK} {ta : TA} (h : EvA ta σ H vs) (hs : SpV sp vs H z) : Ev (tCall sp [] E ta) σ H z := ev_call h (by rw [List.append_nil]; exact hs)
theorem el_callL {sp : Sp} {vs xs : List V} {E : XK} {ta : TA} (h : EvA ta σ H vs) (hs : SpL sp vs H xs) : EvL (tCall sp [] E ta) σ H xs := el_call h (by rw [List.append_nil]; exact hs)
/-- .. one of whose arguments is a new list -/
theorem ev_callN1 {sp : Sp} {xs : List V} {E : XK} (h : EvL ta σ H xs) (hs : ∀ p H1, Ex H H1 → H1 p = some (.lst xs) → SpV sp [.ref p] H1 z) : Ev (tCall sp [] E (tCons ta tNil)) σ H z := fun H1 e Q q =>
  h H1 e _ fun p H2 _ e2 hp => hs p H2 (e.trans e2) hp H2 (Ex.refl H2) Q (fun H3 e3 => q H3 (e2.trans e3)) E

/-! ### dicts with numbers for keys -/
def valI (kvs : List (Key × V)) (k : Int) : Option V := valV kvs (.inl k)
theorem valI_put (kvs : List (Key × V)) (k j : Int) (y : V) : valI (putK kvs (.inl k) y) j = if j = k then some y else valI kvs j := by
  unfold valI
  rw [valV_put]
  by_cases e : j = k
  · subst e
    rw [if_pos rfl, if_pos rfl]
  · rw [if_neg e, if_neg fun q => e (Sum.inl.inj q)]
theorem putK_len (kvs : List (Key × V)) (k : Key) (v : V) : (putK kvs k v).length ≤ kvs.length + 1 := by
  unfold putK
  split
  · rw [List.length_map]
    omega
  · rw [List.length_append]
    exact Nat.le_refl _
/-- a dict at d: n entries at most, its values by M -/
def DM (H : Hp) (d : Addr) (n : Nat) (M : Int → Option V) : Prop := ∃ kvs : List (Key × V), H d = some (.dK kvs) ∧ kvs.length ≤ n ∧ ∀ k : Int, valI kvs k = M k
theorem DM.ex {n : Nat} {M : Int → Option V} (h : DM H p n M) (e : Ex H H') : DM H' p n M := by
  obtain ⟨kvs, h1, h2, h3⟩ := h
  exact ⟨kvs, e _ _ h1, h2, h3⟩
theorem dm_nil : DM (upd H p (.dK [])) p 0 (fun _ => none) := ⟨[], upd_same, Nat.le_refl 0, fun _ => rfl⟩
theorem DM.get {n : Nat} {M : Int → Option V} {k : Int} (h : DM H p n M) : DGet H p (.int k) (M k) := by
  obtain ⟨kvs, h1, h2, h3⟩ := h
  rw [← h3 k]
  exact DGet.k (k := Sum.inl k) h1
theorem ev_din {n : Nat} {M : Int → Option V} {k : Int} (hk : Ev ty σ H (.int k)) (hd : Ev td σ H (.ref p)) (h : DM H p n M) : Ev (tDIn ty td) σ H (.bl (M k).isSome) := fun H1 e Q q =>
  hk H1 e _ fun H2 e2 => hd H2 (e.trans e2) _ fun H3 e3 => ⟨p, M k, rfl, (h.ex ((e.trans e2).trans e3)).get, q H3 (e2.trans e3)⟩
theorem ev_dnotin {n : Nat} {M : Int → Option V} {k : Int} (hk : Ev ty σ H (.int k)) (hd : Ev td σ H (.ref p)) (h : DM H p n M) : Ev (tDNotIn ty td) σ H (.bl (!(M k).isSome)) := fun H1 e Q q =>
  hk H1 e _ fun H2 e2 => hd H2 (e.trans e2) _ fun H3 e3 => ⟨p, M k, rfl, (h.ex ((e.trans e2).trans e3)).get, q H3 (e2.trans e3)⟩
theorem ev_dget {n : Nat} {M : Int → Option V} {k : Int} (hd : Ev td σ H (.ref p)) (hk : Ev ty σ H (.int k)) (h : DM H p n M) (hm : M k = some v) : Ev (tDGet td ty) σ H v := fun H1 e Q q =>
  hd H1 e _ fun H2 e2 => hk H2 (e.trans e2) _ fun H3 e3 => ⟨p, v, rfl, by
    rw [← hm]
    exact (h.ex ((e.trans e2).trans e3)).get, q H3 (e2.trans e3)⟩
variable {D : Ends} {tu tw tz : TS}
theorem s_dput {n : Nat} {M : Int → Option V} {k : Int} (hv : Ev tx σ H v) (hd : Ev td σ H (.ref p)) (hk : Ev ty σ H (.int k)) (h : DM H p n M) (hn : n < 100000)
    (go : ∀ H1, Ex H H1 → ∀ o, DM (upd H1 p o) p (n + 1) (fun j => if j = k then some v else M j) → D.nx σ (upd H1 p o)) : sDPut td ty tx D σ H :=
  hv H (Ex.refl H) _ fun H1 e1 => hd H1 e1 _ fun H2 e2 => hk H2 (e1.trans e2) _ fun H3 e3 => by
    obtain ⟨kvs, h1, h2, h3⟩ := h
    have h4 := ((e1.trans e2).trans e3) _ _ h1
    refine ⟨p, _, rfl, DPut.k (k := Sum.inl k) h4 (sz_lt (by omega)), ?_⟩
    refine go H3 ((e1.trans e2).trans e3) _ ⟨_, upd_same, Nat.le_trans (putK_len _ _ _) (by omega), fun j => ?_⟩
    rw [valI_put, h3]
theorem q_dput {n : Nat} {M : Int → Option V} {k : Int} (hv : Ev tx σ H v) (hd : Ev td σ H (.ref p)) (hk : Ev ty σ H (.int k)) (h : DM H p n M) (hn : n < 100000)
    (go : ∀ H1, Ex H H1 → ∀ o, DM (upd H1 p o) p (n + 1) (fun j => if j = k then some v else M j) → tz D σ (upd H1 p o)) : tSeq (sDPut td ty tx) tz D σ H := s_dput (D := { D with nx := tz D }) hv hd hk h hn go
theorem q_dnew {i : Nat} (k : ∀ d H1, H d = none → Ex H H1 → DM H1 d 0 (fun _ => none) → tz D (σ.set i (some (.ref d))) H1) : tSeq (tAsg tDNewK (gName i)) tz D σ H := fun d hd => k d _ hd (Ex.new hd) dm_nil

/-! ### statements -/
/-- an if whose test never holds -/
theorem q_skip (h : EvT t σ H false) (k : ∀ H1, Ex H H1 → tz D σ H1) : tSeq (tIfS t tu tNext) tz D σ H := q_when h (fun b => nomatch b) fun _ H1 e => k H1 e
theorem s_skip (h : EvT t σ H false) (k : ∀ H1, Ex H H1 → D.nx σ H1) : tIfS t tu tNext D σ H := s_when h (fun b => nomatch b) fun _ H1 e => k H1 e
/-- a def's end by a list, by a value -/
theorem ret_L {xs : List V} {H0 : Hp} {rt : VK} (q : RetL xs H0 rt) (e : Ex H0 H) (h : EvL te σ H xs) : te σ H rt := h H (Ex.refl H) _ fun p H2 n e2 h2 => q.go e n e2 h2
theorem ret_V {H0 : Hp} {rt : VK} (q : RetV v H0 rt) (e : Ex H0 H) (h : Ev te σ H v) : te σ H rt := h H (Ex.refl H) _ fun H2 e2 => q H2 (e.trans e2)
/-- a name that holds a list made here is given back -/
theorem ret_N {xs : List V} {H0 : Hp} {rt : VK} {i : Nat} (q : RetL xs H0 rt) (e : Ex H0 H) (n : H0 p = none) (h : H p = some (.lst xs)) (hi : σ[i]? = some (some (.ref p))) : tVar i σ H rt := ⟨_, hi, q p H n e h⟩

/-! ### comprehensions -/
theorem wipe1 (σ : L2.St) (j : Nat) (x : V) : wipe ((wipe σ [j]).set j (some x)) [j] = wipe σ [j] := by
  show (((σ.set j none).set j (some x)).set j none) = σ.set j none
  rw [List.set_set, List.set_set]
theorem given_all (n : Nat) (v : Nat → V) : given n (fun _ => true) v = (List.range n).map v := by
  unfold given
  rw [List.filter_eq_self.mpr fun _ _ => rfl]
/-- [e for x in xs], xs a list of numbers -/
theorem el_mapN {L : List Nat} {tl : TE} {j : Nat} (g : Nat → V) (h : Ev tl σ H (.ref p)) (hx : SqL K H p (nl L)) (hz : L.length ≤ 40000)
    (he : ∀ (x : Nat) H1, Ex H H1 → x ∈ L → Ev te ((wipe σ [j]).set j (some (.int (x : Int)))) H1 (g x)) : EvL (tLc (iList K tl) (gName j) tYes te [j]) σ H (L.map g) := by
  have h1 := el_lcL (j := j) (te := te) (vs := [j]) (t := tYes) (fun _ => true) (fun i => g (st L i)) h hx (by rw [nl_len]; exact hz) (fun x => wipe1 σ j x) (fun _ _ _ _ _ => et_yes) (fun i x H1 e hi _ => by
    obtain ⟨y, h2, rfl, h3⟩ := nl_inv hi
    have h4 : st L i = y := by
      rw [st_get h3] at h2
      exact Option.some.inj h2
    rw [h4]
    exact he y H1 e (List.mem_of_getElem? h2))
  rw [given_all, nl_len] at h1
  have e : (List.range L.length).map (fun i => g (st L i)) = L.map g := by
    refine List.ext_getElem? fun i => ?_
    rw [List.getElem?_map, List.getElem?_map]
    by_cases hi : i < L.length
    · rw [List.getElem?_range hi, st_get hi]
      rfl
    · rw [List.getElem?_eq_none (by rw [List.length_range]; omega), List.getElem?_eq_none (by omega)]
      rfl
  rw [e] at h1
  exact h1
/-- .. all items alike -/
theorem el_mapNc {L : List Nat} {tl : TE} {j : Nat} (h : Ev tl σ H (.ref p)) (hx : SqL K H p (nl L)) (hz : L.length ≤ 40000)
    (he : ∀ (x : Nat) H1, Ex H H1 → x ∈ L → Ev te ((wipe σ [j]).set j (some (.int (x : Int)))) H1 v) : EvL (tLc (iList K tl) (gName j) tYes te [j]) σ H (List.replicate L.length v) := by
  have h1 := el_mapN (fun _ => v) h hx hz he
  rw [List.map_const'] at h1
  exact h1
theorem el_mapI {L : List Int} {tl : TE} {j : Nat} (g : Int → V) (h : Ev tl σ H (.ref p)) (hx : SqL K H p (il L)) (hz : L.length ≤ 40000)
    (he : ∀ (x : Int) H1, Ex H H1 → x ∈ L → Ev te ((wipe σ [j]).set j (some (.int x))) H1 (g x)) : EvL (tLc (iList K tl) (gName j) tYes te [j]) σ H (L.map g) := by
  have h1 := el_lcL (j := j) (te := te) (vs := [j]) (t := tYes) (fun _ => true) (fun i => g (L.getD i 0)) h hx (by rw [il_len]; exact hz) (fun x => wipe1 σ j x) (fun _ _ _ _ _ => et_yes) (fun i x H1 e hi _ => by
    obtain ⟨y, h2, rfl, h3⟩ := il_inv hi
    have h4 : L.getD i 0 = y := by
      rw [List.getD_eq_getElem?_getD, h2]
      rfl
    rw [h4]
    exact he y H1 e (List.mem_of_getElem? h2))
  rw [given_all, il_len] at h1
  have e : (List.range L.length).map (fun i => g (L.getD i 0)) = L.map g := by
    refine List.ext_getElem? fun i => ?_
    rw [List.getElem?_map, List.getElem?_map]
    by_cases hi : i < L.length
    · rw [List.getElem?_range hi, List.getElem?_eq_getElem hi]
      show some (g (L.getD i 0)) = some (g L[i])
      rw [List.getD_eq_getElem?_getD, List.getElem?_eq_getElem hi]
      rfl
    · rw [List.getElem?_eq_none (by rw [List.length_range]; omega), List.getElem?_eq_none (by omega)]
      rfl
  rw [e] at h1
  exact h1
theorem el_mapIc {L : List Int} {tl : TE} {j : Nat} (h : Ev tl σ H (.ref p)) (hx : SqL K H p (il L)) (hz : L.length ≤ 40000)
    (he : ∀ (x : Int) H1, Ex H H1 → x ∈ L → Ev te ((wipe σ [j]).set j (some (.int x))) H1 v) : EvL (tLc (iList K tl) (gName j) tYes te [j]) σ H (List.replicate L.length v) := by
  have h1 := el_mapI (fun _ => v) h hx hz he
  rw [List.map_const'] at h1
  exact h1
/-- [e for k in range(n)] -/
theorem el_mapR {ta : TA} {j n : Nat} (g : Nat → V) (h : EvA ta σ H [.int (n : Int)]) (hz : n ≤ 40000)
    (he : ∀ (i : Nat) H1, Ex H H1 → i < n → Ev te ((wipe σ [j]).set j (some (.int (i : Int)))) H1 (g i)) : EvL (tLc (iRng1 ta) (gName j) tYes te [j]) σ H ((List.range n).map g) := by
  have h1 := el_lcR1 (j := j) (te := te) (vs := [j]) (t := tYes) (fun _ => true) g h (by omega) (fun x => wipe1 σ j x) (fun _ _ _ _ => et_yes) (fun i H1 e hi _ => he i H1 e (by omega))
  rw [given_all, Int.toNat_natCast] at h1
  exact h1
/-- [e for k in range(n) if t] -/
theorem el_filR {ta : TA} {j n : Nat} (f : Nat → Bool) (g : Nat → V) (h : EvA ta σ H [.int (n : Int)]) (hz : n ≤ 40000)
    (ht : ∀ (i : Nat) H1, Ex H H1 → i < n → EvT t ((wipe σ [j]).set j (some (.int (i : Int)))) H1 (f i))
    (he : ∀ (i : Nat) H1, Ex H H1 → i < n → Ev te ((wipe σ [j]).set j (some (.int (i : Int)))) H1 (g i)) : EvL (tLc (iRng1 ta) (gName j) t te [j]) σ H (((List.range n).filter f).map g) := by
  have h1 := el_lcR1 (j := j) (te := te) (vs := [j]) (t := t) f g h (by omega) (fun x => wipe1 σ j x) (fun i H1 e hi => ht i H1 e (by omega)) (fun i H1 e hi _ => he i H1 e (by omega))
  rw [Int.toNat_natCast] at h1
  exact h1
theorem ea1 (h : Ev ta σ H x) : EvA (tCons ta tNil) σ H [x] := ea_cons h ea_nil
theorem ea2 (h : Ev ta σ H x) (h2 : Ev tb σ H y) : EvA (tCons ta (tCons tb tNil)) σ H [x, y] := ea_cons h (ea1 h2)
theorem ea3 (h : Ev ta σ H x) (h2 : Ev tb σ H y) (h3 : Ev tc σ H z) : EvA (tCons ta (tCons tb (tCons tc tNil))) σ H [x, y, z] := ea_cons h (ea2 h2 h3)

/-! ### enumerate -/
theorem for_enum {a : Addr} {xs : List V} {g : TG} {tb : TS} {D : Ends} {σ : L2.St} {H : Hp} (Pv : Nat → L2.St → Hp → Prop) (h0 : Pv 0 σ H) (hl : ∀ i σ H, i ≤ xs.length → Pv i σ H → SqL K H a xs)
    (hs : ∀ i x σ H T, xs[i]? = some x → Pv i σ H → H T = none → g (.ref T) σ (upd H T (.tup [.int (i : Nat), x])) fun σ2 H2 => tb { D with nx := Pv (i + 1), ct := Pv (i + 1), bk := D.nx } σ2 H2) (hd : ∀ σ H, Pv xs.length σ H → D.nx σ H) :
    ∃ W : Nat → Nat → L2.St → Hp → Prop, (∃ m, W 0 m σ H) ∧ ∀ i m σ H, W i m σ H →
      ((Ite K a).stop i H ∧ D.nx σ H) ∨ ((Ite K a).go i H ∧ ∃ N : L2.St → Hp → Prop, (∀ σ' H', N σ' H' → ∃ m', m' < m ∧ W (i + 1) m' σ' H') ∧ ∀ x H', (Ite K a).yld i H x H' → g x σ H' fun σ2 H2 => tb { D with nx := N, ct := N, bk := D.nx } σ2 H2) := by
  refine ⟨fun i m σ H => m = xs.length - i ∧ i ≤ xs.length ∧ Pv i σ H, ⟨xs.length, by simp, Nat.zero_le _, h0⟩, ?_⟩
  rintro i m σ H ⟨rfl, hi, p⟩
  have q := hl i σ H hi p
  by_cases hlt : i < xs.length
  · refine .inr ⟨⟨xs, xs[i], q, by simp [hlt]⟩, Pv (i + 1), fun σ' H' p' => ⟨xs.length - (i + 1), by omega, rfl, hlt, p'⟩, fun v H' y => ?_⟩
    obtain ⟨T, x, rfl, nT, rfl, f⟩ := y
    exact hs i x σ H T (f xs q) p nT
  · have e : i = xs.length := by omega
    subst e
    exact .inl ⟨⟨xs, q, Nat.le_refl _⟩, hd σ H p⟩
theorem lc_enum {a : Addr} {xs : List V} {g : TG} {tt : TT} {te : TE} {vs : List Nat} {σ : L2.St} {H1 : Hp} {D : Addr} {Qd : Hp → Prop} (Pv : Nat → Hp → Prop) (h0 : Pv 0 (upd H1 D (.lst []))) (hl : ∀ i H, i ≤ xs.length → Pv i H → SqL K H a xs)
    (hs : ∀ i x H T, xs[i]? = some x → Pv i H → H T = none → g (.ref T) (wipe σ vs) (upd H T (.tup [.int (i : Nat), x])) fun σ2 H2 => wipe σ2 vs = wipe σ vs ∧ tt σ2 H2 fun b H3 =>
      if b = true then te σ2 H3 fun y H4 => ∃ acc, H4 D = some (.lst acc) ∧ acc.length < sizeLine ∧ Pv (i + 1) (upd H4 D (.lst (acc ++ [y]))) else Pv (i + 1) H3) (hd : ∀ H, Pv xs.length H → Qd H) :
    ∃ W : Nat → Nat → Hp → Prop, (∃ m, W 0 m (upd H1 D (.lst []))) ∧ ∀ i m H, W i m H →
      ((Ite K a).stop i H ∧ Qd H) ∨ ((Ite K a).go i H ∧ ∃ Nx : Hp → Prop, (∀ H', Nx H' → ∃ m', m' < m ∧ W (i + 1) m' H') ∧ ∀ x H', (Ite K a).yld i H x H' → g x (wipe σ vs) H' fun σ2 H2 => wipe σ2 vs = wipe σ vs ∧ tt σ2 H2 fun b H3 =>
        if b = true then te σ2 H3 fun y H4 => ∃ acc, H4 D = some (.lst acc) ∧ acc.length < sizeLine ∧ Nx (upd H4 D (.lst (acc ++ [y]))) else Nx H3) := by
  refine ⟨fun i m H => m = xs.length - i ∧ i ≤ xs.length ∧ Pv i H, ⟨xs.length, by simp, Nat.zero_le _, h0⟩, ?_⟩
  rintro i m H ⟨rfl, hi, p⟩
  have q := hl i H hi p
  by_cases hlt : i < xs.length
  · refine .inr ⟨⟨xs, xs[i], q, by simp [hlt]⟩, Pv (i + 1), fun H' p' => ⟨xs.length - (i + 1), by omega, rfl, hlt, p'⟩, fun v H' y => ?_⟩
    obtain ⟨T, x, rfl, nT, rfl, f⟩ := y
    exact hs i x H T (f xs q) p nT
  · have e : i = xs.length := by omega
    subst e
    exact .inl ⟨⟨xs, q, Nat.le_refl _⟩, hd H p⟩
/-- two names from a pair -/
abbrev g2 (K : PySem.W.Frag) (i j : Nat) : TG := gTup K 2 (gCons (gName i) (gCons (gName j) gNil))
theorem g2_go {i j : Nat} {T : Addr} {a b : V} {Q : L2.St → Hp → Prop} (h : SqT K H T [a, b]) (q : Q ((σ.set i (some a)).set j (some b)) H) : g2 K i j (.ref T) σ H Q :=
  ⟨T, [a, b], rfl, h, rfl, a, [b], rfl, b, [], rfl, rfl, q⟩
/-- for i, x in enumerate(xs) -/
theorem s_forE {a : Addr} {xs : List V} {tl : TE} {i j : Nat} (h : Ev tl σ H (.ref a)) (hx : SqL K H a xs) (Pv : Nat → L2.St → Hp → Prop) (h0 : ∀ H1, Ex H H1 → Pv 0 σ H1) (hl : ∀ i σ' H', i ≤ xs.length → Pv i σ' H' → SqL K H' a xs)
    (hs : ∀ k x σ' H' H2, xs[k]? = some x → Pv k σ' H' → Ex H' H2 → (∀ b, H2 b = none → H' b = none) → tu { D with nx := Pv (k + 1), ct := Pv (k + 1), bk := D.nx } ((σ'.set i (some (.int (k : Int)))).set j (some x)) H2) (hd : ∀ σ' H', Pv xs.length σ' H' → D.nx σ' H') :
    tFor (iEnum K (tCons tl tNil)) (g2 K i j) tu D σ H :=
  h H (Ex.refl H) _ fun H1 e => ⟨a, xs, rfl, ex_l e hx, for_enum Pv (h0 H1 e) hl (fun k x σ' H' T hk p nT => g2_go (st_of upd_same) (hs k x σ' H' _ hk p (Ex.new nT) fun b hb => fresh_back (Ex.new nT) hb)) hd⟩
theorem q_forE {a : Addr} {xs : List V} {tl : TE} {i j : Nat} (h : Ev tl σ H (.ref a)) (hx : SqL K H a xs) (Pv : Nat → L2.St → Hp → Prop) (h0 : ∀ H1, Ex H H1 → Pv 0 σ H1) (hl : ∀ i σ' H', i ≤ xs.length → Pv i σ' H' → SqL K H' a xs)
    (hs : ∀ k x σ' H' H2, xs[k]? = some x → Pv k σ' H' → Ex H' H2 → (∀ b, H2 b = none → H' b = none) → tu { D with nx := Pv (k + 1), ct := Pv (k + 1), bk := tz D } ((σ'.set i (some (.int (k : Int)))).set j (some x)) H2) (hd : ∀ σ' H', Pv xs.length σ' H' → tz D σ' H') :
    tSeq (tFor (iEnum K (tCons tl tNil)) (g2 K i j) tu) tz D σ H := s_forE (D := { D with nx := tz D }) h hx Pv h0 hl hs hd
theorem wipe2 (σ : L2.St) (i j : Nat) (hij : i ≠ j) (x y : V) : wipe (((wipe σ [i, j]).set i (some x)).set j (some y)) [i, j] = wipe σ [i, j] := by
  show ((((((σ.set j none).set i none).set i (some x)).set j (some y)).set j none).set i none) = (σ.set j none).set i none
  rw [List.set_set, List.set_set, List.set_comm _ _ hij.symm, List.set_set, List.set_comm _ _ hij.symm, List.set_set]
  first
    | done
    | rw [List.set_comm _ _ hij, List.set_set]
/-- [e for i, x in enumerate(xs) if t] -/
theorem el_lcE {a : Addr} {xs : List V} {tl : TE} {i j : Nat} (hij : i ≠ j) (f : Nat → Bool) (g : Nat → V) (h : Ev tl σ H (.ref a)) (hx : SqL K H a xs) (hz : xs.length ≤ 40000)
    (ht : ∀ (k : Nat) (x : V) H1, Ex H H1 → xs[k]? = some x → EvT t (((wipe σ [i, j]).set i (some (.int (k : Int)))).set j (some x)) H1 (f k))
    (he : ∀ (k : Nat) (x : V) H1, Ex H H1 → xs[k]? = some x → f k = true → Ev te (((wipe σ [i, j]).set i (some (.int (k : Int)))).set j (some x)) H1 (g k)) :
    EvL (tLc (iEnum K (tCons tl tNil)) (g2 K i j) t te [i, j]) σ H (given xs.length f g) := fun H0 e Q q => h H0 e _ fun H1 e1 => ⟨a, xs, rfl, ex_l (e.trans e1) hx, fun Dl hD =>
  lc_enum (xs := xs) (Cw H1 f g Dl) ⟨hD, Ex.new hD, upd_same⟩ (fun i H' _ p => ex_l ((e.trans e1).trans p.2.1) hx) (fun k x H' T hk p nT => g2_go (st_of upd_same) ⟨wipe2 σ i j hij _ _, by
    have hT : Dl ≠ T := ne_of_none p.2.2 nT
    refine cw_turn (p := ⟨p.1, p.2.1.trans (Ex.new nT), by rw [upd_ne hT]; exact p.2.2⟩) (by have := (List.getElem?_eq_some_iff.mp hk).1; omega) (ht k x H1 (e.trans e1) hk) (fun hf => he k x H1 (e.trans e1) hk hf)⟩)
    (fun H' p => q Dl H' (fresh_back e1 p.1) (e1.trans p.2.1) p.2.2)⟩

/-! ### numbers that are not negative -/
theorem vdiv (x m : Nat) : V.int ((x : Int).fdiv (m : Int)) = V.int ((x / m : Nat) : Int) := by
  rw [Int.fdiv_eq_ediv_of_nonneg _ (Int.natCast_nonneg m), Int.natCast_ediv]
theorem vmod (x m : Nat) : V.int ((x : Int).fmod (m : Int)) = V.int ((x % m : Nat) : Int) := by
  rw [Int.fmod_eq_emod_of_nonneg _ (Int.natCast_nonneg m), Int.natCast_emod]
theorem vadd (x m : Nat) : V.int ((x : Int) + (m : Int)) = V.int ((x + m : Nat) : Int) := by rw [Int.natCast_add]
theorem rv_eqB {i j : Int} {b : Bool} (e : decide (i = j) = b) : RV rEq (.int i) (.int j) H (.bl b) := by
  have h := rv_eq (H := H) (x := .int i) (y := .int j) rfl
  rw [show decide (V.int i = V.int j) = b by
    rw [← e]
    exact decide_eq_decide.mpr ⟨fun h => V.int.inj h, fun h => by rw [h]⟩] at h
  exact h
theorem rv_neB {i j : Int} {b : Bool} (e : (!decide (i = j)) = b) : RV rNe (.int i) (.int j) H (.bl b) := by
  have h := rv_ne (H := H) (x := .int i) (y := .int j) rfl
  rw [show decide (V.int i = V.int j) = decide (i = j) from decide_eq_decide.mpr ⟨fun h => V.int.inj h, fun h => by rw [h]⟩, e] at h
  exact h
/-- a number within, by % of any number -/
theorem fmod_lt (x : Int) {m : Nat} (h : 0 < m) : ∃ r : Nat, x.fmod (m : Int) = (r : Int) ∧ r < m := by
  have h1 : (0 : Int) < m := by omega
  have h2 := Int.fmod_nonneg_of_pos x h1
  have h3 := Int.fmod_lt_of_pos x h1
  exact ⟨(x.fmod m).toNat, by omega, by omega⟩

/-- .. enumerate of a new list -/
theorem el_lcNE {xs : List V} {tl : TE} {i j : Nat} (hij : i ≠ j) (f : Nat → Bool) (g : Nat → V) (h : EvL tl σ H xs) (hz : xs.length ≤ 40000)
    (ht : ∀ (k : Nat) (x : V) H1, Ex H H1 → xs[k]? = some x → EvT t (((wipe σ [i, j]).set i (some (.int (k : Int)))).set j (some x)) H1 (f k))
    (he : ∀ (k : Nat) (x : V) H1, Ex H H1 → xs[k]? = some x → f k = true → Ev te (((wipe σ [i, j]).set i (some (.int (k : Int)))).set j (some x)) H1 (g k)) :
    EvL (tLc (iEnum K (tCons tl tNil)) (g2 K i j) t te [i, j]) σ H (given xs.length f g) := fun H0 e Q q => h H0 e _ fun a H1 ha e1 hx => ⟨a, xs, rfl, sq_of hx, fun Dl hD =>
  lc_enum (xs := xs) (Cw H1 f g Dl) ⟨hD, Ex.new hD, upd_same⟩ (fun i H' _ p => sq_of (p.2.1 a _ hx)) (fun k x H' T hk p nT => g2_go (st_of upd_same) ⟨wipe2 σ i j hij _ _, by
    have hT : Dl ≠ T := ne_of_none p.2.2 nT
    refine cw_turn (p := ⟨p.1, p.2.1.trans (Ex.new nT), by rw [upd_ne hT]; exact p.2.2⟩) (by have := (List.getElem?_eq_some_iff.mp hk).1; omega) (ht k x H1 (e.trans e1) hk) (fun hf => he k x H1 (e.trans e1) hk hf)⟩)
    (fun H' p => q Dl H' (fresh_back e1 p.1) (e1.trans p.2.1) p.2.2)⟩
/-- a name is given what a call gives back -/
theorem q_asgX {sp : Sp} {vs : List V} {E : XK} {ta : TA} {i : Nat} (h : EvA ta σ H vs) (hs : ∀ H1, Ex H H1 → sp vs H1 (fun v H2 => tz D (σ.set i (some v)) H2) E) : tSeq (tAsg (tCall sp [] E ta) (gName i)) tz D σ H :=
  h H (Ex.refl H) _ fun H1 e => by
    rw [List.append_nil]
    exact hs H1 e
theorem nl_set {L : List Nat} {j x : Nat} : (nl L).set j (.int (x : Int)) = nl (L.set j x) := by
  unfold nl
  rw [List.map_set]
theorem lead_of {n : Nat} (v : Nat → Int) (h : ∀ k, k < n → 0 ≤ v k ∧ v k < n) : ∃ L, Lead L ∧ L.length = n ∧ (List.range n).map (fun k => V.int (v k)) = nl L := by
  refine ⟨(List.range n).map fun k => (v k).toNat, fun x hx => ?_, by rw [List.length_map, List.length_range], ?_⟩
  · rw [List.length_map, List.length_range]
    obtain ⟨k, hk, rfl⟩ := List.mem_map.mp hx
    have := h k (List.mem_range.mp hk)
    omega
  · unfold nl
    rw [List.map_map]
    refine List.map_congr_left fun k hk => ?_
    have := h k (List.mem_range.mp hk)
    show V.int (v k) = V.int ((v k).toNat : Int)
    rw [Int.toNat_of_nonneg this.1]
theorem Lead.set {L : List Nat} (h : Lead L) {j x : Nat} (hx : x < L.length) : Lead (L.set j x) := fun y hy => by
  rw [List.length_set]
  rcases List.mem_or_eq_of_mem_set hy with h1 | rfl
  · exact h y h1
  · exact hx

theorem ev_ifOr {b : Bool} {i j : Int} (h : EvT t σ H b) (h1 : Ev ta σ H (.int i)) (h2 : Ev tb σ H (.int j)) : Ev (tIf t ta tb) σ H (.int (if b = true then i else j)) := by
  cases b with
  | true => exact ev_if h (fun _ => h1) (fun b => nomatch b)
  | false => exact ev_if h (fun b => nomatch b) (fun _ => h2)
theorem cutV_mem {xs : List V} {lo hi : Option Int} {i : Nat} {x : V} (h : (cutV xs lo hi)[i]? = some x) : x ∈ xs := by
  have h1 := List.mem_of_getElem? h
  unfold cutV at h1
  exact List.mem_of_mem_drop (List.mem_of_mem_take h1)
theorem mem_il {ns : List Int} {x : V} (h : x ∈ il ns) : ∃ z, z ∈ ns ∧ x = .int z := by
  unfold il at h
  obtain ⟨z, h1, h2⟩ := List.mem_map.mp h
  exact ⟨z, h1, h2.symm⟩
theorem nl_tm (L : List Nat) (n : Nat) : (List.range L.length).map (fun i => V.int (it L n i : Int)) = nl (tm L n) := by
  unfold nl tm
  rw [List.map_map]
  rfl
theorem pos_of_mem {ns : List Int} {z : Int} (h : z ∈ ns) : 0 < ns.length := List.length_pos_of_mem h

theorem el_callN2 {sp : Sp} {xs zs : List V} {E : XK} (h : EvL ta σ H xs) (h2 : Ev tb σ H y) (hs : ∀ p H1, Ex H H1 → H1 p = some (.lst xs) → SpL sp [.ref p, y] H1 zs) : EvL (tCall sp [] E (tCons ta (tCons tb tNil))) σ H zs := fun H1 e Q q =>
  h H1 e _ fun p H2 _ e2 hp => h2 H2 (e.trans e2) _ fun H3 e3 => hs p H3 ((e.trans e2).trans e3) (e3 _ _ hp) H3 (Ex.refl H3) Q (fun r H4 n4 e4 h4 => q r H4 (fresh_back (e2.trans e3) n4) ((e2.trans e3).trans e4) h4) E

theorem s_forNLn {xs : List V} {tl : TE} {j : Nat} (h : EvL tl σ H xs) (Pv : Addr → Nat → L2.St → Hp → Prop) (h0 : ∀ p H1, H p = none → Ex H H1 → H1 p = some (.lst xs) → Pv p 0 σ H1) (hl : ∀ p i σ' H', i ≤ xs.length → Pv p i σ' H' → SqL K H' p xs)
    (hs : ∀ p i x σ' H', xs[i]? = some x → Pv p i σ' H' → tu { D with nx := Pv p (i + 1), ct := Pv p (i + 1), bk := D.nx } (σ'.set j (some x)) H') (hd : ∀ p σ' H', Pv p xs.length σ' H' → D.nx σ' H') : tFor (iList K tl) (gName j) tu D σ H :=
  s_forNL h Pv h0 hl hs hd
end
end Ld
/-! Evy: sets' lengths, lists of lists compared, ranges with a step, sorted. -/
namespace Ld
open PySem L2 Evl
section
variable {X : Cx} {K : PySem.W.Frag}
theorem pe_revLK {e : Expr} {te : TE} {k : Nat} {p1 p2 p3 pos : Pos} (h : X.K = K) (he : PE X e te) : PE X (.Subscript e (.Slice none none (some (.UnaryOp .USub (.Constant (.int 1) k p1) p2)) p3) pos) (tRevL K te) := by
  subst h
  exact pe_revL he
theorem pe_lenSetK {a : Expr} {ta : TE} {p p2 q pos : Pos} (h : X.K = K) (hg : Gl X "len") (hm : X.mg "len" = none) (hg2 : Gl X "set") (hm2 : X.mg "set" = none) (ha : PE X a ta) (hc : X.calm = true)
    (na : starEach [a] X.env = (false, eval a X.env) :: starEach [] X.env := by rfl) : PE X (.Call (.Name "len" p) [.Call (.Name "set" p2) [a] [] q] [] pos) (RZ.tLenSetI K ta) := by
  subst h
  exact RZ.pe_lenSetI hg hm hg2 hm2 ha hc na
end
section
variable {K : PySem.W.Frag} {σ : L2.St} {H H' : Hp} {ta tb tc te tx td ty : TE} {t u : TT} {x y z v : V} {r r' : R2} {p q : Addr}
theorem el_rev {xs : List V} (ha : Ev ta σ H (.ref p)) (h : SqL K H p xs) : EvL (tRevL K ta) σ H xs.reverse := fun H1 e Q k =>
  ha H1 e _ fun H2 e2 => ⟨p, xs, rfl, ex_l (e.trans e2) h, fun r hr => k r _ (fresh_back e2 hr) (e2.trans (Ex.new hr)) upd_same⟩
theorem il_rev (L : List Int) : (il L).reverse = il L.reverse := by
  unfold il
  rw [List.map_reverse]
theorem nodup_cast {L : List Nat} (h : L.Nodup) : (L.map fun (x : Nat) => (x : Int)).Nodup := by
  rw [List.Nodup, List.pairwise_map]
  exact List.Pairwise.imp (fun {a b} hab e => hab (by omega)) h
theorem ev_lenSet {L : List Nat} (ha : Ev ta σ H (.ref p)) (h : SqL K H p (nl L)) (nd : L.Nodup) (hz : L.length ≤ 4000) : Ev (RZ.tLenSetI K ta) σ H (.int (L.length : Int)) := fun H1 e Q k =>
  ha H1 e _ fun H2 e2 => ⟨p, L.map fun (x : Nat) => (x : Int), rfl, by
    have h2 := ex_l (e.trans e2) h
    rw [nl_il] at h2
    exact h2, nodup_cast nd, by rw [List.length_map]; exact hz, by
    rw [List.length_map]
    exact k H2 e2⟩
/-- a call of two new lists -/
theorem el_callNN {sp : Sp} {xs ys zs : List V} {E : XK} (h : EvL ta σ H xs) (h2 : EvL tb σ H ys) (hs : ∀ p q H1, Ex H H1 → H1 p = some (.lst xs) → H1 q = some (.lst ys) → SpL sp [.ref p, .ref q] H1 zs) : EvL (tCall sp [] E (tCons ta (tCons tb tNil))) σ H zs := fun H1 e Q k =>
  h H1 e _ fun p H2 _ e2 hp => h2 H2 (e.trans e2) _ fun q H3 _ e3 hq => hs p q H3 ((e.trans e2).trans e3) (e3 _ _ hp) hq H3 (Ex.refl H3) Q (fun r H4 n4 e4 h4 => k r H4 (fresh_back (e2.trans e3) n4) ((e2.trans e3).trans e4) h4) E
theorem el_callN1 {sp : Sp} {xs zs : List V} {E : XK} (h : EvL ta σ H xs) (hs : ∀ p H1, Ex H H1 → H1 p = some (.lst xs) → SpL sp [.ref p] H1 zs) : EvL (tCall sp [] E (tCons ta tNil)) σ H zs := fun H1 e Q k =>
  h H1 e _ fun p H2 _ e2 hp => hs p H2 (e.trans e2) hp H2 (Ex.refl H2) Q (fun r H4 n4 e4 h4 => k r H4 (fresh_back e2 n4) (e2.trans e4) h4) E
/-- [e for x in a new list of numbers] -/
theorem el_mapIN {L : List Int} {tl : TE} {j : Nat} (g : Int → V) (h : EvL tl σ H (il L)) (hz : L.length ≤ 40000)
    (he : ∀ (x : Int) H1, Ex H H1 → x ∈ L → Ev te ((wipe σ [j]).set j (some (.int x))) H1 (g x)) : EvL (tLc (iList K tl) (gName j) tYes te [j]) σ H (L.map g) := by
  have h1 := el_lcNL (K := K) (j := j) (te := te) (vs := [j]) (t := tYes) (fun _ => true) (fun i => g (L.getD i 0)) h (by rw [il_len]; exact hz) (fun x => wipe1 σ j x) (fun _ _ _ _ _ => et_yes) (fun i x H1 e hi _ => by
    obtain ⟨y, h2, rfl, h3⟩ := il_inv hi
    have h4 : L.getD i 0 = y := by
      rw [List.getD_eq_getElem?_getD, h2]
      rfl
    rw [h4]
    exact he y H1 e (List.mem_of_getElem? h2))
  rw [given_all, il_len] at h1
  have e : (List.range L.length).map (fun i => g (L.getD i 0)) = L.map g := by
    refine List.ext_getElem? fun i => ?_
    rw [List.getElem?_map, List.getElem?_map]
    by_cases hi : i < L.length
    · rw [List.getElem?_range hi, List.getElem?_eq_getElem hi]
      show some (g (L.getD i 0)) = some (g L[i])
      rw [List.getD_eq_getElem?_getD, List.getElem?_eq_getElem hi]
      rfl
    · rw [List.getElem?_eq_none (by rw [List.length_range]; omega), List.getElem?_eq_none (by omega)]
      rfl
  rw [e] at h1
  exact h1
/-- sorted(xs): the rising list of the same numbers -/
theorem el_sorted {A ns : List Int} (ha : Ev ta σ H (.ref p)) (h : SqL K H p (il ns)) (hA : A.Perm ns) (hs : A.Pairwise (· ≤ ·)) : EvL (tCB (rSortedI K) (tCons ta tNil)) σ H (il A) := fun H1 e Q k =>
  ha H1 e _ fun H2 e2 => ⟨p, ns, rfl, ex_l (e.trans e2) h, fun B r h1 h2 hr => k r _ (fresh_back e2 hr) (e2.trans (Ex.new hr)) (by
    rw [upd_same, sorted_is (h1.trans hA.symm) h2 hs]
    rfl)⟩
theorem ev_min2 {i j : Int} (ha : Ev ta σ H (.int i)) (hb : Ev tb σ H (.int j)) : Ev (tCB (fun xs H Q => ∃ i j : Int, xs = [V.int i, V.int j] ∧ Q (.int (if j < i then j else i)) H) (tCons ta (tCons tb tNil))) σ H (.int (if j < i then j else i)) := fun H1 e Q q =>
  ha H1 e _ fun H2 e2 => hb H2 (e.trans e2) _ fun H3 e3 => ⟨i, j, rfl, q H3 (e2.trans e3)⟩
theorem ev_max2' {i j : Int} (ha : Ev ta σ H (.int i)) (hb : Ev tb σ H (.int j)) : Ev (tCB (fun xs H Q => ∃ i j : Int, xs = [V.int i, V.int j] ∧ Q (.int (if j > i then j else i)) H) (tCons ta (tCons tb tNil))) σ H (.int (if j > i then j else i)) := fun H1 e Q q =>
  ha H1 e _ fun H2 e2 => hb H2 (e.trans e2) _ fun H3 e3 => ⟨i, j, rfl, q H3 (e2.trans e3)⟩

/-! ### lists of lists -/
def LLs (K : PySem.W.Frag) (H : Hp) : List Addr → List (List Nat) → Prop := Paired fun r l => SqL K H r (nl l)
theorem LLs.ex {rs : List Addr} {Ls : List (List Nat)} (h : LLs K H rs Ls) (e : Ex H H') : LLs K H' rs Ls := Paired.mapP h fun _ _ q => ex_l e q
theorem dp_nl {L : List Nat} (h : SqL K H p (nl L)) : Dp K H (.ref p) (.list (L.map fun (x : Nat) => PyData.int (x : Int))) := by
  rw [nl_il] at h
  have h1 := dp_il h
  rw [List.map_map] at h1
  exact h1
def dl (l : List Nat) : PyData := .list (l.map fun (x : Nat) => PyData.int (x : Int))
theorem dl_eq (l : List Nat) : dl l = .list ((l.map fun (x : Nat) => (x : Int)).map PyData.int) := by
  unfold dl
  rw [List.map_map]
  rfl
theorem dpAll_ll : ∀ {rs : List Addr} {Ls : List (List Nat)}, LLs K H rs Ls → DpAll K H (rs.map V.ref) (Ls.map dl)
  | _, _, .nil => .nil
  | _, _, .cons h t => .cons (dp_nl h) (dpAll_ll t)
theorem eqvAll_ll : ∀ A B : List (List Nat), PyData.eqvAll (A.map dl) (B.map dl) = decide (A = B)
  | [], [] => rfl
  | [], _ :: _ => rfl
  | _ :: _, [] => rfl
  | a :: r, b :: s => by
    show (PyData.eqv (dl a) (dl b) && PyData.eqvAll (r.map dl) (s.map dl)) = _
    rw [eqvAll_ll r s, dl_eq, dl_eq, eqv_int]
    rw [Bool.eq_iff_iff, Bool.and_eq_true, decide_eq_true_eq, decide_eq_true_eq, decide_eq_true_eq, cast_inj, List.cons.injEq]
theorem canAll_ll : ∀ A : List (List Nat), PyData.canLayAll0 (A.map dl) = true
  | [] => rfl
  | a :: r => by
    show (PyData.canLay0 (dl a) && PyData.canLayAll0 (r.map dl)) = true
    rw [canAll_ll r, dl_eq]
    show (PyData.canLayAll0 ((a.map fun (x : Nat) => (x : Int)).map PyData.int) && true) = true
    rw [canAll_int]
    rfl
theorem depthAll_ll : ∀ A : List (List Nat), PyData.depthAll (A.map dl) ≤ 1
  | [] => Nat.zero_le 1
  | a :: r => by
    show max (PyData.depth (dl a)) (PyData.depthAll (r.map dl)) ≤ 1
    have h1 : PyData.depth (dl a) = 1 := by
      rw [dl_eq]
      show PyData.depthAll ((a.map fun (x : Nat) => (x : Int)).map PyData.int) + 1 = 1
      rw [depthAll_int]
    have h2 := depthAll_ll r
    rw [h1]
    omega
theorem shaped_ll (A : List (List Nat)) : SeqAt.shaped (.list (A.map dl)) = true := by
  unfold SeqAt.shaped
  have h1 : PyData.canLay0 (.list (A.map dl)) = true := canAll_ll A
  have h2 : PyData.depth (.list (A.map dl)) ≤ 64 := by
    show PyData.depthAll (A.map dl) + 1 ≤ 64
    have := depthAll_ll A
    omega
  rw [h1, decide_eq_true h2]
  rfl
/-- a list of lists of numbers at p -/
def IsLL (K : PySem.W.Frag) (H : Hp) (p : Addr) (Ls : List (List Nat)) : Prop := ∃ rs : List Addr, SqL K H p (rs.map V.ref) ∧ LLs K H rs Ls
theorem IsLL.ex {Ls : List (List Nat)} (h : IsLL K H p Ls) (e : Ex H H') : IsLL K H' p Ls := by
  obtain ⟨rs, h1, h2⟩ := h
  exact ⟨rs, ex_l e h1, h2.ex e⟩
theorem IsLL.dp {Ls : List (List Nat)} (h : IsLL K H p Ls) : Dp K H (.ref p) (.list (Ls.map dl)) := by
  obtain ⟨rs, h1, h2⟩ := h
  exact .lst h1 (dpAll_ll h2)
theorem rv_eqLL {A B : List (List Nat)} (h1 : IsLL K H p A) (h2 : IsLL K H q B) : RV (rEqD K) (.ref p) (.ref q) H (.bl (decide (A = B))) := fun H1 e Q k =>
  ⟨_, _, (h1.ex e).dp, (h2.ex e).dp, shaped_ll A, shaped_ll B, by
    rw [show PyData.eqv (.list (A.map dl)) (.list (B.map dl)) = decide (A = B) from eqvAll_ll A B]
    exact k H1 (Ex.refl H1)⟩
theorem rv_neLL {A B : List (List Nat)} (h1 : IsLL K H p A) (h2 : IsLL K H q B) : RV (rNeD K) (.ref p) (.ref q) H (.bl (!decide (A = B))) := fun H1 e Q k =>
  ⟨_, _, (h1.ex e).dp, (h2.ex e).dp, shaped_ll A, shaped_ll B, by
    rw [show PyData.eqv (.list (A.map dl)) (.list (B.map dl)) = decide (A = B) from eqvAll_ll A B]
    exact k H1 (Ex.refl H1)⟩
theorem rv_neLL0 {A B : List (List Nat)} (h1 : IsLL K H p A) (h2 : IsLL K H q B) (e : A = B) : RV (rNeD K) (.ref p) (.ref q) H (.bl false) := by
  have h := rv_neLL h1 h2
  rw [decide_eq_true e] at h
  exact h
/-- [a, b] of two new lists -/
theorem tl_two {xs ys : List V} {Q : VK} (h1 : EvL ta σ H xs) (h2 : EvL tb σ H ys) (k : ∀ p q r H2, H r = none → Ex H H2 → H2 p = some (.lst xs) → H2 q = some (.lst ys) → H2 r = some (.lst [.ref p, .ref q]) → Q (.ref r) H2) : tLst (tCons ta (tCons tb tNil)) σ H Q :=
  h1 H (Ex.refl H) _ fun p H1 _ e1 hp => h2 H1 e1 _ fun q H2 _ e2 hq => ⟨by show 2 ≤ sizeLine; decide, fun r hr => k p q r _ (fresh_back (e1.trans e2) hr) ((e1.trans e2).trans (Ex.new hr)) (Ex.new hr _ _ (e2 _ _ hp)) (Ex.new hr _ _ hq) upd_same⟩

/-! ### for i in range(a, b, c) -/
variable {D : Ends} {tu tw tz : TS}
theorem rg_up {n w : Nat} (hw : 0 < w) (hw2 : w < 1000) (hn : n ≤ 1000) : RgC 0 ((n : Int) - (w : Int) + 1) (w : Int) (n / w) := by
  have hsz : Builtin.Range.rangeSize 0 ((n : Int) - (w : Int) + 1) (w : Int) = ((n / w : Nat) : Int) := by
    unfold Builtin.Range.rangeSize
    rw [if_pos (by omega)]
    by_cases h : w ≤ n
    · rw [if_pos (by omega)]
      have e : (n : Int) - (w : Int) + 1 - 0 - 1 = ((n - w : Nat) : Int) := by omega
      rw [e, ← Int.natCast_ediv]
      have h2 : n / w = (n - w) / w + 1 := by
        rw [Nat.div_eq_sub_div hw h]
      rw [h2, Int.natCast_add]
      rfl
    · rw [if_neg (by omega), Nat.div_eq_of_lt (by omega)]
      rfl
  refine ⟨by omega, by omega, ?_, hsz⟩
  unfold Builtin.Range.small
  rw [hsz]
  have h1 : n / w * w ≤ n := Nat.div_mul_le_self n w
  have h2 : n / w ≤ n := Nat.div_le_self n w
  simp only [Builtin.Range.rangeFitsLong, Bool.and_eq_true, Bool.or_eq_true, decide_eq_true_eq, beq_iff_eq]
  rw [if_pos (by omega)]
  generalize n / w = m at h1 h2 ⊢
  refine ⟨by omega, .inr ?_⟩
  rw [Bool.and_eq_true, decide_eq_true_eq, decide_eq_true_eq]
  omega
theorem s_forR3 {ta : TA} {j : Nat} {a b c : Int} {n : Nat} (h : EvA ta σ H [.int a, .int b, .int c]) (hn : RgC a b c n) (Pv : Nat → L2.St → Hp → Prop) (h0 : ∀ H1, Ex H H1 → Pv 0 σ H1)
    (hs : ∀ (i : Nat) σ' H', i < n → Pv i σ' H' → tu { D with nx := Pv (i + 1), ct := Pv (i + 1), bk := D.nx } (σ'.set j (some (.int (a + (i : Nat) * c)))) H') (hd : ∀ σ' H', Pv n σ' H' → D.nx σ' H') : tFor (iRng3 ta) (gName j) tu D σ H :=
  h H (Ex.refl H) _ fun H1 e => ⟨a, b, c, n, rfl, hn, for_rangeC Pv (h0 H1 e) hs hd⟩
theorem q_forR3 {ta : TA} {j : Nat} {a b c : Int} {n : Nat} (h : EvA ta σ H [.int a, .int b, .int c]) (hn : RgC a b c n) (Pv : Nat → L2.St → Hp → Prop) (h0 : ∀ H1, Ex H H1 → Pv 0 σ H1)
    (hs : ∀ (i : Nat) σ' H', i < n → Pv i σ' H' → tu { D with nx := Pv (i + 1), ct := Pv (i + 1), bk := tz D } (σ'.set j (some (.int (a + (i : Nat) * c)))) H') (hd : ∀ σ' H', Pv n σ' H' → tz D σ' H') : tSeq (tFor (iRng3 ta) (gName j) tu) tz D σ H :=
  s_forR3 (D := { D with nx := tz D }) h hn Pv h0 hs hd

theorem nl_map_st (A : List Nat) (f : Nat → Nat) : (List.range A.length).map (fun i => V.int (f (st A i) : Int)) = nl (A.map f) := by
  unfold nl
  rw [List.map_map]
  refine List.ext_getElem? fun i => ?_
  rw [List.getElem?_map, List.getElem?_map]
  by_cases hi : i < A.length
  · rw [List.getElem?_range hi, st_get hi]
    rfl
  · rw [List.getElem?_eq_none (by rw [List.length_range]; omega), List.getElem?_eq_none (by omega)]
    rfl
theorem nl_map (A : List Nat) (f : Nat → Nat) : A.map (fun x => V.int (f x : Int)) = nl (A.map f) := by
  unfold nl
  rw [List.map_map]
  rfl
/-- a name is given what a call of a new list gives back -/
theorem q_asgXN {sp : Sp} {xs : List V} {E : XK} {i : Nat} (h : EvL ta σ H xs) (hs : ∀ p H1, H p = none → Ex H H1 → H1 p = some (.lst xs) → sp [.ref p] H1 (fun v H2 => tz D (σ.set i (some v)) H2) E) : tSeq (tAsg (tCall sp [] E (tCons ta tNil)) (gName i)) tz D σ H :=
  h H (Ex.refl H) _ fun p H1 n e h1 => hs p H1 n e h1
theorem q_two {xs ys : List V} {i : Nat} (h1 : EvL ta σ H xs) (h2 : EvL tb σ H ys) (k : ∀ p q r H2, H r = none → Ex H H2 → H2 p = some (.lst xs) → H2 q = some (.lst ys) → H2 r = some (.lst [.ref p, .ref q]) → tz D (σ.set i (some (.ref r))) H2) : tSeq (tAsg (tLst (tCons ta (tCons tb tNil))) (gName i)) tz D σ H :=
  tl_two (Q := fun x H1 => tz D (σ.set i (some x)) H1) h1 h2 k
end
end Ld
namespace Ld
open PySem L2 Evl
def topS (i : Nat) : Stmt := PySem.Challenge.pw_leadson_k03_behind.main.body.getD i (.Pass ⟨0, 0, 0, 0⟩)
section
variable {P : Program} {w : World} {K : PySem.W.Frag} {mg : Str → Option Value} {base : Heap}
def IsLd (H : Hp) (a : Addr) (L : List Nat) : Prop := Rd H a (.lst (nl L)) ∧ Lead L ∧ L.length ≤ 64
theorem IsLd.ex {H H' : Hp} {a : Addr} {L : List Nat} (h : IsLd H a L) (e : Ex H H') : IsLd H' a L := ⟨ex_rd e h.1, h.2⟩
theorem IsLd.sq {K : PySem.W.Frag} {H : Hp} {a : Addr} {L : List Nat} (h : IsLd H a L) : SqL K H a (nl L) := .inl h.1

abbrev s_is_number : Stmt := topS 7
abbrev N_is_number : List Str := ["thing", "least", "most"]
theorem sc_is_number : FnScope N_is_number ["thing", "least", "most"] (defScope s_is_number) := ⟨rfl, rfl, rfl, by decide +kernel, rfl, by decide +kernel, by decide +kernel⟩
def spIsNum : Sp := fun vs H Q _ => ∃ i lo hi : Int, vs = [.int i, .int lo, .int hi] ∧ RetV (.bl (decide (lo ≤ i) && decide (i ≤ hi))) H Q
theorem sv_is_number {H : Hp} {i lo hi : Int} {b : Bool} (e : (decide (lo ≤ i) && decide (i ≤ hi)) = b) : SpV spIsNum [.int i, .int lo, .int hi] H (.bl b) := fun H1 _ Q q E => ⟨i, lo, hi, rfl, by
  rw [e]
  exact q⟩
theorem ok_is_number {f : Addr} {fd : FuncData} (F : Fun K "is_number" "is_number" s_is_number f fd) (B : Bl mg) : FnOk P w K mg base CX0 1 f fd ["thing", "least", "most"] spIsNum := by
  refine F.ok sc_is_number (fun vs H Q E h => ?_) (fun cdv A outer s H vs Q E hr h => ?_)
  · obtain ⟨i, lo, hi, rfl, _⟩ := h
    rfl
  · obtain ⟨i, lo, hi, rfl, q⟩ := h
    refine ⟨_, (pss_one (ps_ret (pe_and (pe_callB (call_isiK' (K := K) rfl) (by rfl) B.isinstance_ bo_isinstance (pa_cons (pv 0) (pa_cons (pe_bltn (v := .ty "int") (by rfl) B.int_ bo_int rfl) pa_nil))) (pe_and (pe_not (pe_callB (call_isiK' (K := K) rfl) (by rfl) B.isinstance_ bo_isinstance (pa_cons (pv 0) (pa_cons (pe_bltn (v := .ty "bool") (by rfl) B.bool_ bo_bool rfl) pa_nil)))) (pe_one (pe_chain op_le op_le (pv 1) (pv 0) (pv 2))))))), ?_⟩
    exact ret_V q (Ex.refl H) (ev_andV (a := true) (ev_isiInt (ev_var rfl)) fun _ => ev_andV (a := true) (ev_notF (ev_isiBool (ev_var rfl))) fun _ => ev_chain (ev_var rfl) (ev_var rfl) (ev_var rfl) rv_I0 rv_I0)
abbrev s_asked_leading : Stmt := topS 8
abbrev N_asked_leading : List Str := ["leading", "place"]
theorem sc_asked_leading : FnScope N_asked_leading ["leading"] (defScope s_asked_leading) := ⟨rfl, rfl, rfl, by decide +kernel, rfl, by decide +kernel, by decide +kernel⟩
def spAskedL : Sp := fun vs H Q _ => ∃ (a : Addr) (L : List Nat), vs = [.ref a] ∧ IsLd H a L ∧ RetV .non H Q
theorem sv_asked_leading {H : Hp} {a : Addr} {L : List Nat} (h : IsLd H a L) : SpV spAskedL [.ref a] H .non := fun _ e _ q _ => ⟨a, L, rfl, h.ex e, q⟩
theorem ok_asked_leading {f : Addr} {fd : FuncData} (F : Fun K "asked_leading" "asked_leading" s_asked_leading f fd) (B : Bl mg) (D_is_number : Dk P w K mg base CX0 1 "is_number" ["thing", "least", "most"] spIsNum) :
    FnOk P w K mg base CX0 2 f fd ["leading"] spAskedL := by
  refine F.ok sc_asked_leading (fun vs H Q E h => ?_) (fun cdv A outer s H vs Q E hr h => ?_)
  · obtain ⟨a, L, rfl, _⟩ := h
    rfl
  · obtain ⟨a, L, rfl, hL, q⟩ := h
    refine ⟨_, (pss_one (ps_if (PW.pt (pw_or (pt_not (pt_val (pe_callB (call_isiK' (K := K) rfl) (by rfl) B.isinstance_ bo_isinstance (pa_cons (pv 0) (pa_cons (pe_bltn (v := .ty "list") (by rfl) B.list_ bo_list rfl) pa_nil))))) (pw_or1 (pt_not (pt_val (pe_callB (cr_allK (K := K) rfl rfl) (by rfl) B.all_ bo_all (pa_cons (pe_lc (own := [("place", 1)]) (g := gName 1) (tt := tYes) rfl sc_asked_leading.nd (pi_list (pv 0)) (blkOk_by (N := N_asked_leading) (sc := defScope s_asked_leading) (by decide +kernel)) (fun _ _ _ _ _ => (pg_name (i := 1) sc_asked_leading.nd rfl (Or.inl rfl))) (fun _ _ _ _ _ => pts_nil) (fun _ _ _ _ _ => (pe_callD D_is_number (hr.mono (by decide)) (by rfl) pass0 (pa_cons (pv 1) (pa_cons pe_int (pa_cons (pe_op op_sub (pe_callB (call_lenK (K := K) rfl) (by rfl) B.len_ bo_len (pa_cons (pv 0) pa_nil)) pe_int) pa_nil)))))) pa_nil)))))))
    (pss_one ps_never)
    pss_nil)), ?_⟩
    refine s_skip (et_orF (et_notT (et_B (ev_isiList (ev_var rfl) hL.1))) (et_notT (et_B (ev_allT (el_mapNc (ev_var rfl) hL.sq (by have := hL.2.2; omega) fun x H1 e hx => ev_callV (ea3 (ev_var rfl) ev_c (ev_op (ev_lenNl (ev_var rfl) (hL.ex e).sq) ev_c rv_I0)) (sv_is_number ?_)))))) fun H1 e => q H1 e
    have h1 := hL.2.1 x hx
    rw [Bool.and_eq_true, decide_eq_true_eq, decide_eq_true_eq]
    omega
abbrev s_asked_steps : Stmt := topS 9
abbrev N_asked_steps : List Str := ["steps"]
theorem sc_asked_steps : FnScope N_asked_steps ["steps"] (defScope s_asked_steps) := ⟨rfl, rfl, rfl, by decide +kernel, rfl, by decide +kernel, by decide +kernel⟩
def spAskedS : Sp := fun vs H Q _ => ∃ (n : Nat), vs = [.int (n : Int)] ∧ RetV .non H Q
theorem sv_asked_steps {H : Hp} {n : Nat} : SpV spAskedS [.int (n : Int)] H .non := fun _ _ _ q _ => ⟨n, rfl, q⟩
theorem ok_asked_steps {f : Addr} {fd : FuncData} (F : Fun K "asked_steps" "asked_steps" s_asked_steps f fd) (B : Bl mg) : FnOk P w K mg base CX0 1 f fd ["steps"] spAskedS := by
  refine F.ok sc_asked_steps (fun vs H Q E h => ?_) (fun cdv A outer s H vs Q E hr h => ?_)
  · obtain ⟨n, rfl, _⟩ := h
    rfl
  · obtain ⟨n, rfl, q⟩ := h
    refine ⟨_, (pss_one (ps_if (PW.pt (pw_or (pt_not (pt_val (pe_callB (call_isiK' (K := K) rfl) (by rfl) B.isinstance_ bo_isinstance (pa_cons (pv 0) (pa_cons (pe_bltn (v := .ty "int") (by rfl) B.int_ bo_int rfl) pa_nil))))) (pw_or (pt_val (pe_callB (call_isiK' (K := K) rfl) (by rfl) B.isinstance_ bo_isinstance (pa_cons (pv 0) (pa_cons (pe_bltn (v := .ty "bool") (by rfl) B.bool_ bo_bool rfl) pa_nil)))) (pw_or1 (pt_cmpR op_lt (pv 0) pe_int (nomark _))))))
    (pss_one ps_never)
    pss_nil)), ?_⟩
    exact s_skip (et_orF (et_notT (et_B (ev_isiInt (ev_var rfl)))) (et_orF (et_B (ev_isiBool (ev_var rfl))) (et_test (ev_op (ev_var rfl) ev_c (rv_dec (by rw [decide_eq_false (by omega)])))))) fun H1 e => q H1 e
abbrev s_asked_back : Stmt := topS 10
abbrev N_asked_back : List Str := ["leading"]
theorem sc_asked_back : FnScope N_asked_back ["leading"] (defScope s_asked_back) := ⟨rfl, rfl, rfl, by decide +kernel, rfl, by decide +kernel, by decide +kernel⟩
def spAskedB : Sp := fun vs H Q _ => ∃ (a : Addr) (L : List Nat), vs = [.ref a] ∧ IsLd H a L ∧ L.Nodup ∧ RetV .non H Q
theorem sv_asked_back {H : Hp} {a : Addr} {L : List Nat} (h : IsLd H a L) (nd : L.Nodup) : SpV spAskedB [.ref a] H .non := fun _ e _ q _ => ⟨a, L, rfl, h.ex e, nd, q⟩
theorem ok_asked_back {f : Addr} {fd : FuncData} (F : Fun K "asked_back" "asked_back" s_asked_back f fd) (B : Bl mg) : FnOk P w K mg base CX0 1 f fd ["leading"] spAskedB := by
  refine F.ok sc_asked_back (fun vs H Q E h => ?_) (fun cdv A outer s H vs Q E hr h => ?_)
  · obtain ⟨a, L, rfl, _⟩ := h
    rfl
  · obtain ⟨a, L, rfl, hL, nd, q⟩ := h
    refine ⟨_, (pss_one (ps_if (pt_cmpR op_ne (pe_lenSetK (K := K) rfl (by rfl) B.len_ (by rfl) B.set_ (pv 0) rfl) (pe_callB (call_lenK (K := K) rfl) (by rfl) B.len_ bo_len (pa_cons (pv 0) pa_nil)) (nomark _))
    (pss_one ps_never)
    pss_nil)), ?_⟩
    have h64 := hL.2.2
    exact s_skip (et_test (ev_op (ev_lenSet (ev_var rfl) hL.sq nd (by omega)) (ev_lenNl (ev_var rfl) hL.sq) (rv_neB (by rw [decide_eq_true rfl]; rfl)))) fun H1 e => q H1 e
abbrev s_done : Stmt := topS 11
abbrev N_done : List Str := ["leading", "steps", "found", "twice", "left", "place"]
theorem sc_done : FnScope N_done ["leading", "steps"] (defScope s_done) := ⟨rfl, rfl, rfl, by decide +kernel, rfl, by decide +kernel, by decide +kernel⟩
def spDone : Sp := fun vs H Q _ => ∃ (a : Addr) (L : List Nat) (n : Nat), vs = [.ref a, .int (n : Int)] ∧ IsLd H a L ∧ RetL (nl (tm L n)) H Q
theorem sl_done {H : Hp} {a : Addr} {L : List Nat} {n : Nat} (h : IsLd H a L) : SpL spDone [.ref a, .int (n : Int)] H (nl (tm L n)) := fun _ e _ q _ => ⟨a, L, n, rfl, h.ex e, q⟩
theorem ok_done {f : Addr} {fd : FuncData} (F : Fun K "done" "done" s_done f fd) (B : Bl mg) : FnOk P w K mg base CX0 1 f fd ["leading", "steps"] spDone := by
  refine F.ok sc_done (fun vs H Q E h => ?_) (fun cdv A outer s H vs Q E hr h => ?_)
  · obtain ⟨a, L, n, rfl, _⟩ := h
    rfl
  · obtain ⟨a, L, n, rfl, hL, q⟩ := h
    refine ⟨_, (pss_cons (ps_setLc (i := 2) (own := [("place", 5)]) (g := gName 5) (tt := tYes) rfl sc_done.nd rfl rfl (sw_true rfl rfl rfl (by decide +kernel)) (pi_range1 (by rfl) B.range_ (pa_cons (pe_callB (call_lenK (K := K) rfl) (by rfl) B.len_ bo_len (pa_cons (pv 0) pa_nil)) pa_nil)) (blkOk_by (N := N_done) (sc := defScope s_done) (by decide +kernel)) (fun _ _ _ _ _ => (pg_name (i := 5) sc_done.nd rfl (Or.inl rfl))) (fun _ _ _ _ _ => pts_nil) (fun _ _ _ _ _ => (pv 5)))
    (pss_cons (ps_set (i := 3) sc_done.nd rfl (Or.inr rfl) (pe_callTy (call_listK (K := K) rfl) (by rfl) B.list_ bo_list (pa_cons (pv 0) pa_nil)))
    (pss_cons (ps_set (i := 4) sc_done.nd rfl (Or.inl rfl) (pv 1))
    (pss_cons (ps_while PassesOwn.never (pt_cmpR op_gt (pv 4) pe_int (nomark _))
    (pss_cut (ps_if (pt_cmpR op_eq (pe_op op_modN (pv 4) pe_int) pe_int (nomark _))
    (pss_one (ps_setLc (i := 2) (own := [("place", 5)]) (g := gName 5) (tt := tYes) rfl sc_done.nd rfl rfl (sw_true rfl rfl rfl (by decide +kernel)) (pi_list (pv 2)) (blkOk_by (N := N_done) (sc := defScope s_done) (by decide +kernel)) (fun _ _ _ _ _ => (pg_name (i := 5) sc_done.nd rfl (Or.inl rfl))) (fun _ _ _ _ _ => pts_nil) (fun _ _ _ _ _ => (pe_ix (ix_listK (K := K) rfl) (pv 3) (pv 5) (fun _ _ => rfl)))))
    pss_nil)
    (pss_cons (ps_set (i := 3) sc_done.nd rfl (Or.inr rfl) (pe_lc (own := [("place", 5)]) (g := gName 5) (tt := tYes) rfl sc_done.nd (pi_list (pv 3)) (blkOk_by (N := N_done) (sc := defScope s_done) (by decide +kernel)) (fun _ _ _ _ _ => (pg_name (i := 5) sc_done.nd rfl (Or.inl rfl))) (fun _ _ _ _ _ => pts_nil) (fun _ _ _ _ _ => (pe_ix (ix_listK (K := K) rfl) (pv 3) (pv 5) (fun _ _ => rfl)))))
    (pss_one (ps_set (i := 4) sc_done.nd rfl (Or.inl rfl) (pe_op op_fdivN (pv 4) pe_int))))))
    (pss_one (ps_ret (pv 2))))))), ?_⟩
    have h64 := hL.2.2
    -- found = [place for place in range(len(leading))]
    refine q_asgL (el_mapR (fun i => V.int i) (ea1 (ev_lenNl (ev_var rfl) hL.sq)) (by omega) fun i H1 e hi => ev_var rfl) fun pf H1 nf e1 h1 => ?_
    -- twice = list(leading)
    refine q_asgL (el_listOf (ev_var rfl) (hL.ex e1).sq) fun pt H2 nt e2 h2 => ?_
    refine q_asg (ev_var rfl) fun H3 e3 => ?_
    refine q_while (fun m σ' H' => ∃ (x y : Nat) (pf pt : Addr) (z : Option V), σ' = [some (.ref a), some (.int (n : Int)), some (.ref pf), some (.ref pt), some (.int (m : Int)), z] ∧ x + y * m = n ∧ Ex H H' ∧ H pf = none ∧ H' pf = some (.lst (nl (tm L x))) ∧ H' pt = some (.lst (nl (tm L y)))) n
      ⟨0, 1, pf, pt, none, rfl, by omega, (e1.trans e2).trans e3, nf, ?_, ?_⟩ fun m σ' H' hw => ?_
    · rw [tm_zero]
      exact e3 _ _ (e2 _ _ h1)
    · rw [tm_one]
      exact e3 _ _ h2
    obtain ⟨x, y, pf, pt, z, rfl, exy, eH, nf, hf, ht⟩ := hw
    refine ⟨decide ((0 : Int) < m), et_test (ev_op (ev_var rfl) ev_c rv_I0), fun hb H4 e4 => ?_, fun hb H4 e4 => ?_⟩
    · have hm : (0 : Int) < m := of_decide_eq_true hb
      refine ⟨_, fun σ2 H2 h => h, ?_⟩
      -- if left % 2 == 1: found = [twice[place] for place in found]
      refine q_cut (M := fun σ' H' => ∃ (x' : Nat) (pf : Addr) (z : Option V), σ' = [some (.ref a), some (.int (n : Int)), some (.ref pf), some (.ref pt), some (.int (m : Int)), z] ∧ x' = x + (if m % 2 = 1 then y else 0) ∧ Ex H H' ∧ H pf = none ∧ H' pf = some (.lst (nl (tm L x'))) ∧ H' pt = some (.lst (nl (tm L y)))) ?_ fun σ' H' hM => ?_
      · refine s_if (et_test (ev_op (ev_op (ev_var rfl) ev_c (rv_IW (by decide) (vmod m 2))) ev_c (rv_eqB rfl))) (fun hb H5 e5 => ?_) (fun hb H5 e5 => ?_)
        · have h2 : m % 2 = 1 := by
            have := of_decide_eq_true hb
            omega
          refine s_asgL (el_mapN (L := tm L x) (fun v => V.int (st (tm L y) v : Int)) (ev_var rfl) (sq_of (e5 _ _ (e4 _ _ hf))) (by rw [tm_length]; omega) fun v H6 e6 hv => ev_op (ev_var rfl) (ev_var rfl) (rv_ixN (sq_of (e6 _ _ (e5 _ _ (e4 _ _ ht)))) ?_)) fun pn H6 nn e6 h6 => ?_
          · rw [tm_length, ← tm_length L x]
            exact lead_tm hL.2.1 x v hv
          · refine ⟨x + y, pn, z, rfl, by rw [if_pos h2], ((eH.trans e4).trans e5).trans e6, fresh_back ((eH.trans e4).trans e5) nn, ?_, e6 _ _ (e5 _ _ (e4 _ _ ht))⟩
            rw [h6, ← tm_then hL.2.1]
            unfold nl
            rw [List.map_map]
            rfl
        · have h2 : ¬ m % 2 = 1 := by
            have := of_decide_eq_false hb
            omega
          exact ⟨x, pf, z, rfl, by rw [if_neg h2, Nat.add_zero], (eH.trans e4).trans e5, nf, e5 _ _ (e4 _ _ hf), e5 _ _ (e4 _ _ ht)⟩
      · obtain ⟨x', pf, z, rfl, ex', eH, nf, hf, ht⟩ := hM
        -- twice = [twice[place] for place in twice]
        refine q_asgL (el_mapN (L := tm L y) (fun v => V.int (st (tm L y) v : Int)) (ev_var rfl) (sq_of ht) (by rw [tm_length]; omega) fun v H6 e6 hv => ev_op (ev_var rfl) (ev_var rfl) (rv_ixN (sq_of (e6 _ _ ht)) ?_)) fun pn H6 nn e6 h6 => ?_
        · exact lead_tm hL.2.1 y v hv
        refine s_asg (ev_op (ev_var rfl) ev_c (rv_IW ⟨by decide, by decide⟩ (vdiv m 2))) fun H7 e7 => ?_
        refine ⟨m / 2, by omega, x', y + y, pf, pn, z, rfl, ?_, (eH.trans e6).trans e7, nf, e7 _ _ (e6 _ _ hf), ?_⟩
        · have h3 := Nat.mod_add_div m 2
          have h4 : y * m = y * (m % 2) + y * (2 * (m / 2)) := by rw [← Nat.mul_add, h3]
          have h5 : y * (2 * (m / 2)) = (y + y) * (m / 2) := by
            rw [← Nat.mul_assoc, Nat.mul_two]
          split at ex'
          · rename_i h6
            rw [h6, Nat.mul_one] at h4
            omega
          · have h6 : m % 2 = 0 := by omega
            rw [h6, Nat.mul_zero] at h4
            omega
        · rw [e7 _ _ h6, ← tm_then hL.2.1]
          unfold nl
          rw [List.map_map]
          rfl
    · have hm : m = 0 := by
        have := of_decide_eq_false hb
        omega
      subst hm
      rw [Nat.mul_zero, Nat.add_zero] at exy
      subst exy
      exact ret_N q (eH.trans e4) nf (e4 _ _ hf) rfl
abbrev s_times : Stmt := topS 12
abbrev N_times : List Str := ["leading", "steps"]
theorem sc_times : FnScope N_times ["leading", "steps"] (defScope s_times) := ⟨rfl, rfl, rfl, by decide +kernel, rfl, by decide +kernel, by decide +kernel⟩
def spTimes : Sp := fun vs H Q _ => ∃ (a : Addr) (L : List Nat) (n : Nat), vs = [.ref a, .int (n : Int)] ∧ IsLd H a L ∧ RetL (nl (tm L n)) H Q
theorem sl_times {H : Hp} {a : Addr} {L : List Nat} {n : Nat} (h : IsLd H a L) : SpL spTimes [.ref a, .int (n : Int)] H (nl (tm L n)) := fun _ e _ q _ => ⟨a, L, n, rfl, h.ex e, q⟩
theorem ok_times {f : Addr} {fd : FuncData} (F : Fun K "times" "times" s_times f fd) (D_asked_leading : Dk P w K mg base CX0 2 "asked_leading" ["leading"] spAskedL) (D_asked_steps : Dk P w K mg base CX0 1 "asked_steps" ["steps"] spAskedS)
    (D_done : Dk P w K mg base CX0 1 "done" ["leading", "steps"] spDone) : FnOk P w K mg base CX0 3 f fd ["leading", "steps"] spTimes := by
  refine F.ok sc_times (fun vs H Q E h => ?_) (fun cdv A outer s H vs Q E hr h => ?_)
  · obtain ⟨a, L, n, rfl, _⟩ := h
    rfl
  · obtain ⟨a, L, n, rfl, hL, q⟩ := h
    refine ⟨_, (pss_cons (ps_expr (pe_callD D_asked_leading (hr.mono (by decide)) (by rfl) pass0 (pa_cons (pv 0) pa_nil)))
    (pss_cons (ps_expr (pe_callD D_asked_steps (hr.mono (by decide)) (by rfl) pass0 (pa_cons (pv 1) pa_nil)))
    (pss_one (ps_ret (pe_callD D_done (hr.mono (by decide)) (by rfl) pass0 (pa_cons (pv 0) (pa_cons (pv 1) pa_nil))))))), ?_⟩
    refine q_drop (ev_callV (ea1 (ev_var rfl)) (sv_asked_leading hL)) fun H1 e1 => ?_
    refine q_drop (ev_callV (ea1 (ev_var rfl)) sv_asked_steps) fun H2 e2 => ?_
    exact ret_L q (e1.trans e2) (el_callL (ea2 (ev_var rfl) (ev_var rfl)) (sl_done (hL.ex (e1.trans e2))))
abbrev s_behind : Stmt := topS 13
abbrev N_behind : List Str := ["one", "other", "place"]
theorem sc_behind : FnScope N_behind ["one", "other"] (defScope s_behind) := ⟨rfl, rfl, rfl, by decide +kernel, rfl, by decide +kernel, by decide +kernel⟩
def spBehind : Sp := fun vs H Q _ => ∃ (a b : Addr) (A B : List Nat), vs = [.ref a, .ref b] ∧ IsLd H a A ∧ IsLd H b B ∧ A.length = B.length ∧ RetL (nl (A.map (st B))) H Q
theorem sl_behind {H : Hp} {a b : Addr} {A B : List Nat} (ha : IsLd H a A) (hb : IsLd H b B) (hl : A.length = B.length) : SpL spBehind [.ref a, .ref b] H (nl (A.map (st B))) := fun _ e _ q _ => ⟨a, b, A, B, rfl, ha.ex e, hb.ex e, hl, q⟩
theorem ok_behind {f : Addr} {fd : FuncData} (F : Fun K "behind" "behind" s_behind f fd) (B : Bl mg) (D_asked_leading : Dk P w K mg base CX0 2 "asked_leading" ["leading"] spAskedL) :
    FnOk P w K mg base CX0 3 f fd ["one", "other"] spBehind := by
  refine F.ok sc_behind (fun vs H Q E h => ?_) (fun cdv A outer s H vs Q E hr h => ?_)
  · obtain ⟨a, b, A, B, rfl, _⟩ := h
    rfl
  · obtain ⟨a, b, A, C, rfl, hA, hC, hl, q⟩ := h
    refine ⟨_, (pss_cons (ps_expr (pe_callD D_asked_leading (hr.mono (by decide)) (by rfl) pass0 (pa_cons (pv 0) pa_nil)))
    (pss_cons (ps_expr (pe_callD D_asked_leading (hr.mono (by decide)) (by rfl) pass0 (pa_cons (pv 1) pa_nil)))
    (pss_cons (ps_if (pt_cmpR op_ne (pe_callB (call_lenK (K := K) rfl) (by rfl) B.len_ bo_len (pa_cons (pv 0) pa_nil)) (pe_callB (call_lenK (K := K) rfl) (by rfl) B.len_ bo_len (pa_cons (pv 1) pa_nil)) (nomark _))
    (pss_one ps_never)
    pss_nil)
    (pss_one (ps_ret (pe_lc (own := [("place", 2)]) (g := gName 2) (tt := tYes) rfl sc_behind.nd (pi_list (pv 0)) (blkOk_by (N := N_behind) (sc := defScope s_behind) (by decide +kernel)) (fun _ _ _ _ _ => (pg_name (i := 2) sc_behind.nd rfl (Or.inl rfl))) (fun _ _ _ _ _ => pts_nil) (fun _ _ _ _ _ => (pe_ix (ix_listK (K := K) rfl) (pv 1) (pv 2) (fun _ _ => rfl))))))))), ?_⟩
    refine q_drop (ev_callV (ea1 (ev_var rfl)) (sv_asked_leading hA)) fun H1 e1 => ?_
    refine q_drop (ev_callV (ea1 (ev_var rfl)) (sv_asked_leading (hC.ex e1))) fun H2 e2 => ?_
    have e := e1.trans e2
    refine q_skip (et_test (ev_op (ev_lenNl (ev_var rfl) (hA.ex e).sq) (ev_lenNl (ev_var rfl) (hC.ex e).sq) (rv_neB (by rw [hl, decide_eq_true rfl]; rfl)))) fun H3 e3 => ?_
    have e' := e.trans e3
    have h64 := hA.2.2
    have h := ret_L (te := tLc (iList K (tVar 0)) (gName 2) tYes (tOp (rIxL K) (tVar 1) (tVar 2)) [2]) (σ := start N_behind [.ref a, .ref b]) q e' (by
      have h1 := el_mapN (K := K) (σ := start N_behind [.ref a, .ref b]) (te := tOp (rIxL K) (tVar 1) (tVar 2)) (j := 2) (fun x => V.int (st C x : Int)) (ev_var (i := 0) rfl) (hA.ex e').sq (by omega) fun x H4 e4 hx => ev_op (ev_var (i := 1) rfl) (ev_var (i := 2) rfl) (rv_ixN (hC.ex (e'.trans e4)).sq (by
        have := hA.2.1 x hx
        omega))
      rw [show A.map (fun x => V.int (st C x : Int)) = nl (A.map (st C)) by
        unfold nl
        rw [List.map_map]
        rfl] at h1
      exact h1)
    exact h
abbrev s_undone : Stmt := topS 14
abbrev N_undone : List Str := ["leading", "place", "found", "there"]
theorem sc_undone : FnScope N_undone ["leading"] (defScope s_undone) := ⟨rfl, rfl, rfl, by decide +kernel, rfl, by decide +kernel, by decide +kernel⟩
def spUndone : Sp := fun vs H Q _ => ∃ (a : Addr) (L : List Nat), vs = [.ref a] ∧ IsLd H a L ∧ L.Nodup ∧ RetL (nl (inv L)) H Q
theorem sl_undone {H : Hp} {a : Addr} {L : List Nat} (h : IsLd H a L) (nd : L.Nodup) : SpL spUndone [.ref a] H (nl (inv L)) := fun _ e _ q _ => ⟨a, L, rfl, h.ex e, nd, q⟩
theorem ok_undone {f : Addr} {fd : FuncData} (F : Fun K "undone" "undone" s_undone f fd) (B : Bl mg) (D_asked_leading : Dk P w K mg base CX0 2 "asked_leading" ["leading"] spAskedL) (D_asked_back : Dk P w K mg base CX0 1 "asked_back" ["leading"] spAskedB) :
    FnOk P w K mg base CX0 3 f fd ["leading"] spUndone := by
  refine F.ok sc_undone (fun vs H Q E h => ?_) (fun cdv A outer s H vs Q E hr h => ?_)
  · obtain ⟨a, L, rfl, _⟩ := h
    rfl
  · obtain ⟨a, L, rfl, hL, nd, q⟩ := h
    refine ⟨_, (pss_cons (ps_expr (pe_callD D_asked_leading (hr.mono (by decide)) (by rfl) pass0 (pa_cons (pv 0) pa_nil)))
    (pss_cons (ps_expr (pe_callD D_asked_back (hr.mono (by decide)) (by rfl) pass0 (pa_cons (pv 0) pa_nil)))
    (pss_cons (ps_setLc (i := 2) (own := [("place", 1)]) (g := gName 1) (tt := tYes) rfl sc_undone.nd rfl rfl (sw_true rfl rfl rfl (by decide +kernel)) (pi_list (pv 0)) (blkOk_by (N := N_undone) (sc := defScope s_undone) (by decide +kernel)) (fun _ _ _ _ _ => (pg_name (i := 1) sc_undone.nd rfl (Or.inl rfl))) (fun _ _ _ _ _ => pts_nil) (fun _ _ _ _ _ => pe_int))
    (pss_cons (ps_for PassesOwn.never rfl (pi_enum (by rfl) B.enumerate_ (pa_cons (pv 0) pa_nil)) (pg_tup (by rfl) (pgs_cons (pg_name (i := 1) sc_undone.nd rfl (Or.inl rfl)) (pgs_cons (pg_name (i := 3) sc_undone.nd rfl (Or.inl rfl)) pgs_nil)))
    (pss_one (ps_asg (pv 1) (pg_sub (pv 2) (pv 3) set_list))))
    (pss_one (ps_ret (pv 2))))))), ?_⟩
    have h64 := hL.2.2
    refine q_drop (ev_callV (ea1 (ev_var rfl)) (sv_asked_leading hL)) fun H1 e1 => ?_
    refine q_drop (ev_callV (ea1 (ev_var rfl)) (sv_asked_back (hL.ex e1) nd)) fun H2 e2 => ?_
    have e := e1.trans e2
    refine q_asgL (el_mapNc (ev_var rfl) (hL.ex e).sq (by omega) fun x H3 e3 _ => ev_c) fun p H3 n3 e3 h3 => ?_
    have np : H p = none := fresh_back e n3
    refine q_forE (ev_var rfl) (hL.ex (e.trans e3)).sq (fun k σ' H' => ∃ (y1 y3 : Option V), σ' = [some (.ref a), y1, some (.ref p), y3] ∧ Ex H H' ∧ H' p = some (.lst (nl (back L k))))
      (fun H4 e4 => ⟨_, _, rfl, (e.trans e3).trans e4, ?_⟩) (fun k σ' H' _ ⟨_, _, _, e, _⟩ => (hL.ex e).sq) (fun k x σ' H' H4 hx hP e4 _ => ?_) (fun σ' H' hP => ?_)
    · rw [e4 _ _ h3, back_zero]
      unfold nl
      rw [List.map_replicate]
      rfl
    · obtain ⟨y1, y3, rfl, e5, h5⟩ := hP
      obtain ⟨y, hy, rfl, hk⟩ := nl_inv hx
      have ey : y = st L k := by
        rw [st_get hk] at hy
        exact (Option.some.inj hy).symm
      subst ey
      refine s_setL (j := st L k) (e4 _ _ h5) (ev_var rfl) (ev_var rfl) (ev_var rfl) (by rw [nl_len, back_len]; exact st_lt hL.2.1 hk) fun H6 e6 => ?_
      refine ⟨_, _, rfl, Ex.mut ((e5.trans e4).trans e6) np, ?_⟩
      rw [upd_same, nl_set, back_step hL.2.1 nd hk]
    · obtain ⟨y1, y3, rfl, e5, h5⟩ := hP
      rw [nl_len, back_all hL.2.1 nd] at h5
      exact ret_N q e5 np h5 rfl
abbrev s_law_leading : Stmt := topS 16
abbrev N_law_leading : List Str := ["_law_script", "_law_many", "_law_kind", "_law_place", "_law_cell", "_law_found", "_law_other", "_law_kept"]
theorem sc_law_leading : FnScope N_law_leading ["_law_script"] (defScope s_law_leading) := ⟨rfl, rfl, rfl, by decide +kernel, rfl, by decide +kernel, by decide +kernel⟩
def spLLead (K : PySem.W.Frag) : Sp := fun vs H Q _ => ∃ (a : Addr) (ns : List Int), vs = [.ref a] ∧ SqL K H a (il ns) ∧ ns.length ≤ 63 ∧ ∀ L, Lead L → L.length = ns.length → RetL (nl L) H Q
theorem ok_law_leading {f : Addr} {fd : FuncData} (F : Fun K "_law_leading" "_law_leading" s_law_leading f fd) (B : Bl mg) : FnOk P w K mg base CX0 1 f fd ["_law_script"] (spLLead K) := by
  refine F.ok sc_law_leading (fun vs H Q E h => ?_) (fun cdv A outer s H vs Q E hr h => ?_)
  · obtain ⟨a, ns, rfl, _⟩ := h
    rfl
  · obtain ⟨a, ns, rfl, hS, h63, q⟩ := h
    refine ⟨_, (pss_cons (ps_set (i := 1) sc_law_leading.nd rfl (Or.inr rfl) (pe_callB (call_lenK (K := K) rfl) (by rfl) B.len_ bo_len (pa_cons (pv 0) pa_nil)))
    (pss_cons (ps_set (i := 2) sc_law_leading.nd rfl (Or.inl rfl) (pe_op op_modN (pe_callB (cr_sumK (K := K) rfl rfl) (by rfl) B.sum_ bo_sum (pa_cons (pv 0) pa_nil)) pe_int))
    (pss_cons (ps_if (pt_cmpR op_eq (pv 2) pe_int (nomark _))
    (pss_one (ps_ret (pe_lc (own := [("_law_place", 3), ("_law_cell", 4)]) (g := gTup K 2 (gCons (gName 3) (gCons (gName 4) gNil))) (tt := tYes) rfl sc_law_leading.nd (pi_enum (by rfl) B.enumerate_ (pa_cons (pv 0) pa_nil)) (blkOk_by (N := N_law_leading) (sc := defScope s_law_leading) (by decide +kernel)) (fun _ _ _ _ _ => (pg_tup (by rfl) (pgs_cons (pg_name (i := 3) sc_law_leading.nd rfl (Or.inl rfl)) (pgs_cons (pg_name (i := 4) sc_law_leading.nd rfl (Or.inl rfl)) pgs_nil)))) (fun _ _ _ _ _ => pts_nil) (fun _ _ _ _ _ => (pe_op op_modN (pv 4) (pe_op op_add (pv 3) pe_int))))))
    pss_nil)
    (pss_cons (ps_setLc (i := 5) (own := [("_law_place", 3)]) (g := gName 3) (tt := tYes) rfl sc_law_leading.nd rfl rfl (sw_true rfl rfl rfl (by decide +kernel)) (pi_range1 (by rfl) B.range_ (pa_cons (pv 1) pa_nil)) (blkOk_by (N := N_law_leading) (sc := defScope s_law_leading) (by decide +kernel)) (fun _ _ _ _ _ => (pg_name (i := 3) sc_law_leading.nd rfl (Or.inl rfl))) (fun _ _ _ _ _ => pts_nil) (fun _ _ _ _ _ => (pv 3)))
    (pss_cons (ps_if (pt_cmpR (op_inK (K := K) rfl) (pv 2) (pe_lst (pa_cons pe_int (pa_cons pe_int pa_nil))) (by rfl))
    (pss_cons (ps_for PassesOwn.never rfl (pi_enum (by rfl) B.enumerate_ (pa_cons (pv 0) pa_nil)) (pg_tup (by rfl) (pgs_cons (pg_name (i := 3) sc_law_leading.nd rfl (Or.inl rfl)) (pgs_cons (pg_name (i := 4) sc_law_leading.nd rfl (Or.inl rfl)) pgs_nil)))
    (pss_cons (ps_set (i := 6) sc_law_leading.nd rfl (Or.inl rfl) (pe_op op_modN (pv 4) (pv 1)))
    (pss_cons (ps_set (i := 7) sc_law_leading.nd rfl (Or.inl rfl) (pe_ix (ix_listK (K := K) rfl) (pv 5) (pv 3) (fun _ _ => rfl)))
    (pss_cons (ps_asg (pe_ix (ix_listK (K := K) rfl) (pv 5) (pv 6) (fun _ _ => rfl)) (pg_sub (pv 5) (pv 3) set_list))
    (pss_one (ps_asg (pv 7) (pg_sub (pv 5) (pv 6) set_list)))))))
    (pss_one (ps_ret (pv 5))))
    pss_nil)
    (pss_cons (ps_if (pt_cmpR op_eq (pv 2) pe_int (nomark _))
    (pss_one (ps_ret (pe_lc (own := [("_law_place", 3), ("_law_cell", 4)]) (g := gTup K 2 (gCons (gName 3) (gCons (gName 4) gNil))) (tt := tYes) rfl sc_law_leading.nd (pi_enum (by rfl) B.enumerate_ (pa_cons (pv 0) pa_nil)) (blkOk_by (N := N_law_leading) (sc := defScope s_law_leading) (by decide +kernel)) (fun _ _ _ _ _ => (pg_tup (by rfl) (pgs_cons (pg_name (i := 3) sc_law_leading.nd rfl (Or.inl rfl)) (pgs_cons (pg_name (i := 4) sc_law_leading.nd rfl (Or.inl rfl)) pgs_nil)))) (fun _ _ _ _ _ => pts_nil) (fun _ _ _ _ _ => (pe_op op_modN (pe_op op_add (pe_op op_add (pv 3) pe_int) (pe_op op_modN (pv 4) pe_int)) (pv 1))))))
    pss_nil)
    (pss_one (ps_ret (pe_lc (own := [("_law_cell", 4)]) (g := gName 4) (tt := tYes) rfl sc_law_leading.nd (pi_list (pv 0)) (blkOk_by (N := N_law_leading) (sc := defScope s_law_leading) (by decide +kernel)) (fun _ _ _ _ _ => (pg_name (i := 4) sc_law_leading.nd rfl (Or.inl rfl))) (fun _ _ _ _ _ => pts_nil) (fun _ _ _ _ _ => (pe_op op_modN (pv 4) (pv 1)))))))))))), ?_⟩
    refine q_asg (ev_lenIl (ev_var rfl) hS) fun H1 e1 => ?_
    refine q_asg (ev_op (ev_sum (ev_var rfl) (ex_l e1 hS)) ev_c (rv_I (by decide))) fun H2 e2 => ?_
    have hS2 := ex_l (e1.trans e2) hS
    refine q_when (et_test (ev_op (ev_var rfl) ev_c (rv_eqB rfl))) (fun _ H3 e3 => ?_) (fun _ H3 e3 => ?_)
    · -- return [cell % (place + 1) for place, cell in enumerate(script)]
      obtain ⟨L, h1, h2, h3⟩ := lead_of (n := ns.length) (fun k => (ns.getD k 0).fmod ((k : Int) + 1)) fun k hk => by
        obtain ⟨r, hr, hr2⟩ := fmod_lt (ns.getD k 0) (m := k + 1) (by omega)
        rw [show ((k : Int) + 1) = ((k + 1 : Nat) : Int) by omega, hr]
        omega
      refine ret_L (q L h1 h2) ((e1.trans e2).trans e3) ?_
      rw [← h3, ← given_all, ← il_len ns]
      refine el_lcE (by decide) (fun _ => true) _ (ev_var rfl) (ex_l e3 hS2) (by rw [il_len]; omega) (fun _ _ _ _ _ => et_yes) fun k x H4 e4 hk _ => ?_
      obtain ⟨y, hy, rfl, hl⟩ := il_inv hk
      refine ev_op (ev_var rfl) (ev_op (ev_var rfl) ev_c rv_I0) (rv_IW (by omega) ?_)
      rw [List.getD_eq_getElem?_getD, hy]
      rfl
    · -- found = [place for place in range(many)]
      refine q_asgL (el_mapR (fun i => V.int i) (ea1 (ev_var rfl)) (by omega) fun i H4 e4 hi => ev_var rfl) fun pf H4 nf e4 h4 => ?_
      have eb := ((e1.trans e2).trans e3).trans e4
      have nf0 : H pf = none := fresh_back ((e1.trans e2).trans e3) nf
      refine q_when (et_test (ev_opL (ev_var rfl) (el_lst (ea2 ev_c ev_c) (by decide)) fun p H5 h5 e5 => rv_isL (sq_of h5) rfl rfl)) (fun _ H5 e5 => ?_) (fun _ H5 e5 => ?_)
      · -- places exchanged
        refine q_forE (ev_var rfl) (ex_l ((e3.trans e4).trans e5) hS2) (fun i σ' H' => ∃ (L : List Nat) (k : Int) (y3 y4 y6 y7 : Option V), σ' = [some (.ref a), some (.int (ns.length : Int)), some (.int k), y3, y4, some (.ref pf), y6, y7] ∧ Ex H H' ∧ H' pf = some (.lst (nl L)) ∧ Lead L ∧ L.length = ns.length)
          (fun H6 e6 => ⟨List.range ns.length, _, _, _, _, _, rfl, (eb.trans e5).trans e6, e6 _ _ (e5 _ _ h4), fun x hx => by rw [List.length_range]; exact List.mem_range.mp hx, List.length_range⟩)
          (fun i σ' H' _ ⟨L, k, y3, y4, y6, y7, _, e, _⟩ => ex_l e hS) (fun i x σ' H' H6 hx hp e6 _ => ?_) (fun σ' H' hp => ?_)
        · obtain ⟨L, k, y3, y4, y6, y7, rfl, eH, hf, hL, hlen⟩ := hp
          obtain ⟨z, hz, rfl, hi⟩ := il_inv hx
          obtain ⟨r, hr, hr2⟩ := fmod_lt z (m := ns.length) (by omega)
          refine q_asg (ev_op (ev_var rfl) (ev_var rfl) (rv_IW (by omega) (w := .int (r : Int)) (by rw [hr]))) fun H7 e7 => ?_
          have hf7 := e7 _ _ (e6 _ _ hf)
          refine q_asg (ev_op (ev_var rfl) (ev_var rfl) (rv_ixN (j := i) (sq_of hf7) (by omega))) fun H8 e8 => ?_
          have hf8 := e8 _ _ hf7
          refine q_setL hf8 (ev_op (ev_var rfl) (ev_var rfl) (rv_ixN (j := r) (sq_of hf8) (by omega))) (ev_var rfl) (ev_var rfl) (j := i) (by rw [nl_len]; omega) fun H9 e9 => ?_
          rw [nl_set]
          refine s_setL (j := r) upd_same (ev_var rfl) (ev_var rfl) (ev_var rfl) (by rw [nl_len, List.length_set]; omega) fun H10 e10 => ?_
          rw [nl_set]
          refine ⟨(L.set i (st L r)).set r (st L i), k, _, _, _, _, rfl, ?_, upd_same, ?_, ?_⟩
          · exact Ex.mut ((Ex.mut ((((eH.trans e6).trans e7).trans e8).trans e9) nf0).trans e10) nf0
          · exact (hL.set (st_lt hL (by omega))).set (by rw [List.length_set]; exact st_lt hL (by omega))
          · rw [List.length_set, List.length_set, hlen]
        · obtain ⟨L, k, y3, y4, y6, y7, rfl, eH, hf, hL, hlen⟩ := hp
          exact ret_N (q L hL hlen) eH nf0 hf rfl
      · refine q_when (et_test (ev_op (ev_var rfl) ev_c (rv_eqB rfl))) (fun _ H6 e6 => ?_) (fun _ H6 e6 => ?_)
        · -- return [(place + 1 + cell % 3) % many for place, cell in enumerate(script)]
          obtain ⟨L, h1, h2, h3⟩ := lead_of (n := ns.length) (fun k => ((k : Int) + 1 + (ns.getD k 0).fmod 3).fmod (ns.length : Int)) fun k hk => by
            obtain ⟨r, hr, hr2⟩ := fmod_lt ((k : Int) + 1 + (ns.getD k 0).fmod 3) (m := ns.length) (by omega)
            rw [hr]
            omega
          refine ret_L (q L h1 h2) ((eb.trans e5).trans e6) ?_
          rw [← h3, ← given_all, ← il_len ns]
          refine el_lcE (by decide) (fun _ => true) _ (ev_var rfl) (ex_l ((eb.trans e5).trans e6) hS) (by rw [il_len]; omega) (fun _ _ _ _ _ => et_yes) fun k x H7 e7 hk _ => ?_
          obtain ⟨y, hy, rfl, hl⟩ := il_inv hk
          refine ev_op (ev_op (ev_op (ev_var rfl) ev_c rv_I0) (ev_op (ev_var rfl) ev_c (rv_I (by decide))) rv_I0) (ev_var rfl) (rv_IW (show ((il ns).length : Int) ≠ 0 by rw [il_len]; omega) ?_)
          rw [List.getD_eq_getElem?_getD, hy]
          rfl
        · -- return [cell % many for cell in script]
          obtain ⟨L, h1, h2, h3⟩ := lead_of (n := ns.length) (fun k => (ns.getD k 0).fmod (ns.length : Int)) fun k hk => by
            obtain ⟨r, hr, hr2⟩ := fmod_lt (ns.getD k 0) (m := ns.length) (by omega)
            rw [hr]
            omega
          refine ret_L (q L h1 h2) ((eb.trans e5).trans e6) ?_
          rw [← h3]
          have ee : (List.range ns.length).map (fun k => V.int ((ns.getD k 0).fmod (ns.length : Int))) = ns.map (fun x => V.int (x.fmod (ns.length : Int))) := by
            refine List.ext_getElem? fun i => ?_
            rw [List.getElem?_map, List.getElem?_map]
            by_cases hi : i < ns.length
            · rw [List.getElem?_range hi, List.getElem?_eq_getElem hi]
              show some (V.int ((ns.getD i 0).fmod _)) = some (V.int (ns[i].fmod _))
              rw [List.getD_eq_getElem?_getD, List.getElem?_eq_getElem hi]
              rfl
            · rw [List.getElem?_eq_none (by rw [List.length_range]; omega), List.getElem?_eq_none (by omega)]
              rfl
          rw [ee]
          refine el_mapI (fun x => V.int (x.fmod (ns.length : Int))) (ev_var rfl) (ex_l ((eb.trans e5).trans e6) hS) (by omega) fun x H7 e7 hx => ?_
          have : ns.length ≠ 0 := fun e => by
            rw [List.length_eq_zero_iff.mp e] at hx
            cases hx
          exact ev_op (ev_var rfl) (ev_var rfl) (rv_I (show (ns.length : Int) ≠ 0 by omega))
abbrev s_law_numbers : Stmt := topS 17
abbrev N_law_numbers : List Str := ["_law_found", "_law_one"]
theorem sc_law_numbers : FnScope N_law_numbers ["_law_found"] (defScope s_law_numbers) := ⟨rfl, rfl, rfl, by decide +kernel, rfl, by decide +kernel, by decide +kernel⟩
def spNums : Sp := fun vs H Q _ => ∃ (a : Addr) (ns : List Int), vs = [.ref a] ∧ Rd H a (.lst (il ns)) ∧ ns.length ≤ 40000 ∧ RetV (.bl true) H Q
theorem sv_nums {H : Hp} {a : Addr} {ns : List Int} (h : Rd H a (.lst (il ns))) (hz : ns.length ≤ 40000) : SpV spNums [.ref a] H (.bl true) := fun _ e _ q _ => ⟨a, ns, rfl, ex_rd e h, hz, q⟩
theorem sv_numsN {H : Hp} {a : Addr} {L : List Nat} (h : Rd H a (.lst (nl L))) (hz : L.length ≤ 40000) : SpV spNums [.ref a] H (.bl true) := by
  rw [nl_il] at h
  exact sv_nums h (by rw [List.length_map]; exact hz)
theorem ok_law_numbers {f : Addr} {fd : FuncData} (F : Fun K "_law_numbers" "_law_numbers" s_law_numbers f fd) (B : Bl mg) : FnOk P w K mg base CX0 1 f fd ["_law_found"] spNums := by
  refine F.ok sc_law_numbers (fun vs H Q E h => ?_) (fun cdv A outer s H vs Q E hr h => ?_)
  · obtain ⟨a, ns, rfl, _⟩ := h
    rfl
  · obtain ⟨a, ns, rfl, hL, hz, q⟩ := h
    refine ⟨_, (pss_cons (ps_if (pt_not (pt_val (pe_callB (call_isiK' (K := K) rfl) (by rfl) B.isinstance_ bo_isinstance (pa_cons (pv 0) (pa_cons (pe_bltn (v := .ty "list") (by rfl) B.list_ bo_list rfl) pa_nil)))))
    (pss_one (ps_ret pe_bl))
    pss_nil)
    (pss_one (ps_ret (pe_callB (cr_allK (K := K) rfl rfl) (by rfl) B.all_ bo_all (pa_cons (pe_lc (own := [("_law_one", 1)]) (g := gName 1) (tt := tYes) rfl sc_law_numbers.nd (pi_list (pv 0)) (blkOk_by (N := N_law_numbers) (sc := defScope s_law_numbers) (by decide +kernel)) (fun _ _ _ _ _ => (pg_name (i := 1) sc_law_numbers.nd rfl (Or.inl rfl))) (fun _ _ _ _ _ => pts_nil) (fun _ _ _ _ _ => (pe_and (pe_callB (call_isiK' (K := K) rfl) (by rfl) B.isinstance_ bo_isinstance (pa_cons (pv 1) (pa_cons (pe_bltn (v := .ty "int") (by rfl) B.int_ bo_int rfl) pa_nil))) (pe_one (pe_not (pe_callB (call_isiK' (K := K) rfl) (by rfl) B.isinstance_ bo_isinstance (pa_cons (pv 1) (pa_cons (pe_bltn (v := .ty "bool") (by rfl) B.bool_ bo_bool rfl) pa_nil)))))))) pa_nil))))), ?_⟩
    refine q_skip (et_notT (et_B (ev_isiList (ev_var rfl) hL))) fun H1 e1 => ?_
    exact ret_V q e1 (ev_allT (el_mapIc (ev_var rfl) (.inl (ex_rd e1 hL)) hz fun x H2 e2 _ => ev_andT (ev_isiInt (ev_var rfl)) (ev_notF (ev_isiBool (ev_var rfl)))))
abbrev s_law_back : Stmt := topS 18
abbrev N_law_back : List Str := ["_law_script", "_law_many", "_law_place", "_law_found", "_law_wide", "_law_first", "_law_cell", "_law_other", "_law_kept"]
theorem sc_law_back : FnScope N_law_back ["_law_script"] (defScope s_law_back) := ⟨rfl, rfl, rfl, by decide +kernel, rfl, by decide +kernel, by decide +kernel⟩
def spLBack (K : PySem.W.Frag) : Sp := fun vs H Q _ => ∃ (a : Addr) (ns : List Int), vs = [.ref a] ∧ SqL K H a (il ns) ∧ ns.length ≤ 63 ∧ ∀ L, Lead L → L.Nodup → L.length = ns.length → RetL (nl L) H Q
theorem ok_law_back {f : Addr} {fd : FuncData} (F : Fun K "_law_back" "_law_back" s_law_back f fd) (B : Bl mg) : FnOk P w K mg base CX0 1 f fd ["_law_script"] (spLBack K) := by
  refine F.ok sc_law_back (fun vs H Q E h => ?_) (fun cdv A outer s H vs Q E hr h => ?_)
  · obtain ⟨a, ns, rfl, _⟩ := h
    rfl
  · obtain ⟨a, ns, rfl, hS, h63, q⟩ := h
    refine ⟨_, (pss_cons (ps_set (i := 1) sc_law_back.nd rfl (Or.inl rfl) (pe_callB (call_lenK (K := K) rfl) (by rfl) B.len_ bo_len (pa_cons (pv 0) pa_nil)))
    (pss_cons (ps_setLc (i := 3) (own := [("_law_place", 2)]) (g := gName 2) (tt := tYes) rfl sc_law_back.nd rfl rfl (sw_true rfl rfl rfl (by decide +kernel)) (pi_range1 (by rfl) B.range_ (pa_cons (pv 1) pa_nil)) (blkOk_by (N := N_law_back) (sc := defScope s_law_back) (by decide +kernel)) (fun _ _ _ _ _ => (pg_name (i := 2) sc_law_back.nd rfl (Or.inl rfl))) (fun _ _ _ _ _ => pts_nil) (fun _ _ _ _ _ => (pv 2)))
    (pss_cons (ps_if (pt_cmpR op_eq (pe_op op_modN (pe_callB (cr_sumK (K := K) rfl rfl) (by rfl) B.sum_ bo_sum (pa_cons (pv 0) pa_nil)) pe_int) pe_int (nomark _))
    (pss_cons (ps_set (i := 4) sc_law_back.nd rfl (Or.inl rfl) (pe_op op_add pe_int (pe_op op_modN (pe_op op_fdivN (pe_callB (cr_sumK (K := K) rfl rfl) (by rfl) B.sum_ bo_sum (pa_cons (pv 0) pa_nil)) pe_int) pe_int)))
    (pss_cons (ps_for PassesOwn.never rfl (pi_range3 (by rfl) B.range_ (pa_cons pe_int (pa_cons (pe_op op_add (pe_op op_sub (pv 1) (pv 4)) pe_int) (pa_cons (pv 4) pa_nil)))) (pg_name (i := 5) sc_law_back.nd rfl (Or.inl rfl))
    (pss_one (ps_for PassesOwn.never rfl (pi_range2 (by rfl) B.range_ (pa_cons (pv 5) (pa_cons (pe_op op_add (pv 5) (pv 4)) pa_nil))) (pg_name (i := 2) sc_law_back.nd rfl (Or.inl rfl))
    (pss_one (ps_asg (pe_op op_add (pv 5) (pe_op op_modN (pe_op op_add (pe_op op_sub (pv 2) (pv 5)) pe_int) (pv 4))) (pg_sub (pv 3) (pv 2) set_list))))))
    (pss_one (ps_ret (pv 3)))))
    pss_nil)
    (pss_cons (ps_for PassesOwn.never rfl (pi_enum (by rfl) B.enumerate_ (pa_cons (pv 0) pa_nil)) (pg_tup (by rfl) (pgs_cons (pg_name (i := 2) sc_law_back.nd rfl (Or.inl rfl)) (pgs_cons (pg_name (i := 6) sc_law_back.nd rfl (Or.inl rfl)) pgs_nil)))
    (pss_cons (ps_set (i := 7) sc_law_back.nd rfl (Or.inl rfl) (pe_ifExp (pt_cmpR op_eq (pe_op op_modN (pv 6) pe_int) pe_int (nomark _)) (pe_op op_add (pv 2) (pe_op op_modN (pv 6) pe_int)) (pe_op op_modN (pv 6) (pv 1))))
    (pss_cons (ps_set (i := 7) sc_law_back.nd rfl (Or.inl rfl) (pe_callB (call_min2 rfl) (by rfl) B.min_ bo_min (pa_cons (pv 7) (pa_cons (pe_op op_sub (pv 1) pe_int) pa_nil))))
    (pss_cons (ps_set (i := 8) sc_law_back.nd rfl (Or.inl rfl) (pe_ix (ix_listK (K := K) rfl) (pv 3) (pv 2) (fun _ _ => rfl)))
    (pss_cons (ps_asg (pe_ix (ix_listK (K := K) rfl) (pv 3) (pv 7) (fun _ _ => rfl)) (pg_sub (pv 3) (pv 2) set_list))
    (pss_one (ps_asg (pv 8) (pg_sub (pv 3) (pv 7) set_list))))))))
    (pss_one (ps_ret (pv 3))))))), ?_⟩
    refine q_asg (ev_lenIl (ev_var rfl) hS) fun H1 e1 => ?_
    refine q_asgL (el_mapR (fun i => V.int i) (ea1 (ev_var rfl)) (by omega) fun i H2 e2 hi => ev_var rfl) fun pf H2 nf e2 h2 => ?_
    have h2 : H2 pf = some (.lst (nl (List.range ns.length))) := h2
    have e := e1.trans e2
    have np : H pf = none := fresh_back e1 nf
    refine q_when (et_test (ev_op (ev_op (ev_sum (ev_var rfl) (ex_l e hS)) ev_c (rv_I (by decide))) ev_c (rv_eqB rfl))) (fun _ H3 e3 => ?_) (fun _ H3 e3 => ?_)
    · obtain ⟨r, hr, hr2⟩ := fmod_lt (ns.sum.fdiv 3) (m := 6) (by decide)
      have e' := e.trans e3
      refine q_asg (ev_op ev_c (ev_op (ev_op (ev_sum (ev_var rfl) (ex_l e' hS)) ev_c (rv_I ⟨by decide, by decide⟩)) ev_c (rv_IW (by decide) (w := .int (r : Int)) (by show V.int ((ns.sum.fdiv 3).fmod ((6 : Nat) : Int)) = _; rw [hr]))) (rv_dec (w := .int ((r + 1 : Nat) : Int)) (by congr 1; omega))) fun H4 e4 => ?_
      refine q_forR3 (ea3 ev_c (ev_op (ev_op (ev_var rfl) (ev_var rfl) rv_I0) ev_c rv_I0) (ev_var rfl)) (rg_up (n := ns.length) (w := r + 1) (by omega) (by omega) (by omega))
        (fun i σ' H' => ∃ (y2 y5 y6 y7 y8 : Option V), σ' = [some (.ref a), some (.int (ns.length : Int)), y2, some (.ref pf), some (.int ((r + 1 : Nat) : Int)), y5, y6, y7, y8] ∧ Ex H H' ∧ H' pf = some (.lst (nl (blk ns.length (r + 1) (i * (r + 1))))))
        (fun H5 e5 => ⟨_, _, _, _, _, rfl, (e'.trans e4).trans e5, by rw [Nat.zero_mul, blk_zero]; exact e5 _ _ (e4 _ _ (e3 _ _ h2))⟩) (fun i σ' H' hi hP => ?_) (fun σ' H' hP => ?_)
      · obtain ⟨y2, y5, y6, y7, y8, rfl, e5, h5⟩ := hP
        have hJ : i * (r + 1) + (r + 1) ≤ ns.length := by
          have h6 : (i + 1) * (r + 1) ≤ ns.length / (r + 1) * (r + 1) := Nat.mul_le_mul_right _ hi
          have h7 := Nat.div_mul_le_self ns.length (r + 1)
          rw [Nat.succ_mul] at h6
          omega
        rw [show (0 : Int) + ((i : Nat) : Int) * ((r + 1 : Nat) : Int) = ((i * (r + 1) : Nat) : Int) by rw [Int.natCast_mul]; omega]
        refine s_forR2 (lo := ((i * (r + 1) : Nat) : Int)) (n := ((i * (r + 1) : Nat) : Int) + ((r + 1 : Nat) : Int)) (ea2 (ev_var rfl) (ev_op (ev_var rfl) (ev_var rfl) rv_I0)) (by omega)
          (fun i' σ' H' => ∃ (y2 y6 y7 y8 : Option V), σ' = [some (.ref a), some (.int (ns.length : Int)), y2, some (.ref pf), some (.int ((r + 1 : Nat) : Int)), some (.int ((i * (r + 1) : Nat) : Int)), y6, y7, y8] ∧ Ex H H' ∧ H' pf = some (.lst (nl (blk ns.length (r + 1) (i * (r + 1) + i')))))
          (fun H6 e6 => ⟨_, _, _, _, rfl, e5.trans e6, e6 _ _ h5⟩) (fun i' σ' H' hi' hP => ?_) (fun σ' H' hP => ?_)
        · obtain ⟨y2, y6, y7, y8, rfl, e6, h6⟩ := hP
          have hi2 : i' < r + 1 := by omega
          rw [← Int.natCast_add]
          refine s_setL (j := i * (r + 1) + i') h6 (ev_op (ev_var rfl) (ev_op (ev_op (ev_op (ev_var rfl) (ev_var rfl) (rv_dec (w := .int (i' : Int)) (by congr 1; omega))) ev_c (rv_dec (vadd i' 1))) (ev_var rfl) (rv_IW (by omega) (vmod (i' + 1) (r + 1)))) (rv_dec (vadd _ _))) (ev_var rfl) (ev_var rfl) (by rw [nl_len, blk_len]; omega) fun H7 e7 => ?_
          refine ⟨_, _, _, _, rfl, Ex.mut (e6.trans e7) np, ?_⟩
          rw [upd_same, nl_set, ← rot_at hi2, blk_step (by omega)]
          rfl
        · obtain ⟨y2, y6, y7, y8, rfl, e6, h6⟩ := hP
          refine ⟨_, _, _, _, _, rfl, e6, ?_⟩
          rw [h6, show ((i * (r + 1) : Nat) : Int) + ((r + 1 : Nat) : Int) - ((i * (r + 1) : Nat) : Int) = ((r + 1 : Nat) : Int) by omega, Int.toNat_natCast, Nat.succ_mul]
      · obtain ⟨y2, y5, y6, y7, y8, rfl, e5, h5⟩ := hP
        exact ret_N (q _ (blk_lead (by omega) (Nat.div_mul_le_self _ _)) (nodup_of (blk_inj (by omega))) (blk_len _ _ _)) e5 np h5 rfl
    · refine q_forE (ev_var rfl) (ex_l (e.trans e3) hS) (fun i σ' H' => ∃ (L : List Nat) (y2 y4 y5 y6 y7 y8 : Option V), σ' = [some (.ref a), some (.int (ns.length : Int)), y2, some (.ref pf), y4, y5, y6, y7, y8] ∧ Ex H H' ∧ H' pf = some (.lst (nl L)) ∧ Lead L ∧ Inj L ∧ L.length = ns.length)
        (fun H4 e4 => ⟨List.range ns.length, _, _, _, _, _, _, rfl, (e.trans e3).trans e4, e4 _ _ (e3 _ _ h2), fun x hx => by rw [List.length_range]; exact List.mem_range.mp hx, inj_of List.nodup_range, List.length_range⟩)
        (fun i σ' H' _ ⟨L, _, _, _, _, _, _, _, e, _⟩ => ex_l e hS) (fun i x σ' H' H6 hx hP e6 _ => ?_) (fun σ' H' hP => ?_)
      · obtain ⟨L, y2, y4, y5, y6, y7, y8, rfl, eH, hf, hL, hI, hlen⟩ := hP
        obtain ⟨z, hz, rfl, hi⟩ := il_inv hx
        obtain ⟨r4, hr4, hr42⟩ := fmod_lt z (m := 4) (by decide)
        obtain ⟨rm, hrm, hrm2⟩ := fmod_lt z (m := ns.length) (by omega)
        -- other = place + cell % 4 if cell % 2 == 0 else cell % many
        refine q_asg (ev_ifOr (et_test (ev_op (ev_op (ev_var rfl) ev_c (rv_I (by decide))) ev_c (rv_eqB rfl))) (ev_op (ev_var rfl) (ev_op (ev_var rfl) ev_c (rv_IW (by decide) (w := .int (r4 : Int)) (by show V.int (z.fmod ((4 : Nat) : Int)) = _; rw [hr4]))) rv_I0) (ev_op (ev_var rfl) (ev_var rfl) (rv_IW (by omega) (w := .int (rm : Int)) (by rw [hrm])))) fun H7 e7 => ?_
        generalize hb : (if decide (z.fmod 2 = 0) = true then (i : Int) + (r4 : Int) else (rm : Int)) = o
        have ho : 0 ≤ o := by
          rw [← hb]
          split <;> omega
        -- other = min(other, many - 1)
        obtain ⟨j, hj, hjl⟩ : ∃ j : Nat, (if (ns.length : Int) - 1 < o then (ns.length : Int) - 1 else o) = (j : Int) ∧ j < ns.length := by
          refine ⟨(if (ns.length : Int) - 1 < o then (ns.length : Int) - 1 else o).toNat, ?_, ?_⟩
          · split <;> omega
          · split <;> omega
        refine q_asg (ev_is (ev_min2 (ev_var rfl) (ev_op (ev_var rfl) ev_c rv_I0)) (congrArg V.int hj)) fun H8 e8 => ?_
        have hf8 := e8 _ _ (e7 _ _ (e6 _ _ hf))
        refine q_asg (ev_op (ev_var rfl) (ev_var rfl) (rv_ixN (j := i) (sq_of hf8) (by omega))) fun H9 e9 => ?_
        have hf9 := e9 _ _ hf8
        refine q_setL hf9 (ev_op (ev_var rfl) (ev_var rfl) (rv_ixN (j := j) (sq_of hf9) (by omega))) (ev_var rfl) (ev_var rfl) (j := i) (by rw [nl_len]; omega) fun H10 e10 => ?_
        rw [nl_set]
        refine s_setL (j := j) upd_same (ev_var rfl) (ev_var rfl) (ev_var rfl) (by rw [nl_len, List.length_set]; omega) fun H11 e11 => ?_
        rw [nl_set]
        refine ⟨(L.set i (st L j)).set j (st L i), _, _, _, _, _, _, rfl, ?_, upd_same, ?_, swap_inj hI (by omega) (by omega), ?_⟩
        · exact Ex.mut ((Ex.mut (((((eH.trans e6).trans e7).trans e8).trans e9).trans e10) np).trans e11) np
        · exact (hL.set (st_lt hL (by omega))).set (by rw [List.length_set]; exact st_lt hL (by omega))
        · rw [List.length_set, List.length_set, hlen]
      · obtain ⟨L, y2, y4, y5, y6, y7, y8, rfl, eH, hf, hL, hI, hlen⟩ := hP
        exact ret_N (q L hL (nodup_of hI) hlen) eH np hf rfl
end
end Ld

namespace Ld
open PySem L2 Evl
section
variable {P : Program} {w : World} {K : PySem.W.Frag} {mg : Str → Option Value} {base : Heap}
/-! ### the law -/
abbrev s_law : Stmt := topS 19
abbrev N_law : List Str := ["_law_script", "_law_one", "_law_other", "_law_handed", "_law_again", "_law_found", "_law_some", "_law_more", "_law_whole", "_law_kept", "_law_cell", "_law_there", "_law_place"]
theorem sc_law : FnScope N_law ["_law_script"] (defScope s_law) := ⟨rfl, rfl, rfl, by decide +kernel, rfl, by decide +kernel, by decide +kernel⟩
def spLaw (K : PySem.W.Frag) : Sp := fun vs H Q _ => ∃ (a : Addr) (ns : List Int), vs = [.ref a] ∧ SqL K H a (ns.map V.int) ∧ ns.length ≤ 63 ∧ ∀ H', Q (.bl true) H'
theorem ok_law {f : Addr} {fd : FuncData} (F : Fun K "law" "law" s_law f fd) (B : Bl mg) (D_law_leading : Dk P w K mg base CX0 1 "_law_leading" ["_law_script"] (spLLead K)) (D_law_numbers : Dk P w K mg base CX0 1 "_law_numbers" ["_law_found"] spNums)
    (D_law_back : Dk P w K mg base CX0 1 "_law_back" ["_law_script"] (spLBack K)) (D_times : Dk P w K mg base CX0 3 "times" ["leading", "steps"] spTimes) (D_behind : Dk P w K mg base CX0 3 "behind" ["one", "other"] spBehind)
    (D_undone : Dk P w K mg base CX0 3 "undone" ["leading"] spUndone) : FnOk P w K mg base CX0 4 f fd ["_law_script"] (spLaw K) := by
  refine F.ok sc_law (fun vs H Q E h => ?_) (fun cdv A outer s H vs Q E hr h => ?_)
  · obtain ⟨a, ns, rfl, _⟩ := h
    rfl
  · obtain ⟨a, ns, rfl, hS, h63, q⟩ := h
    have hS : SqL K H a (il ns) := hS
    refine ⟨_, (pss_cons (ps_set (i := 1) sc_law.nd rfl (Or.inr rfl) (pe_callD D_law_leading (hr.mono (by decide)) (by rfl) pass0 (pa_cons (pv 0) pa_nil)))
    (pss_cons (ps_set (i := 2) sc_law.nd rfl (Or.inr rfl) (pe_callD D_law_leading (hr.mono (by decide)) (by rfl) pass0 (pa_cons (pe_lc (own := [("_law_cell", 10)]) (g := gName 10) (tt := tYes) rfl sc_law.nd (pi_list (pe_revLK (K := K) rfl (pv 0))) (blkOk_by (N := N_law) (sc := defScope s_law) (by decide +kernel)) (fun _ _ _ _ _ => (pg_name (i := 10) sc_law.nd rfl (Or.inl rfl))) (fun _ _ _ _ _ => pts_nil) (fun _ _ _ _ _ => (pe_op op_fdivN (pv 10) pe_int))) pa_nil)))
    (pss_cons (ps_set (i := 3) sc_law.nd rfl (Or.inl rfl) (pe_lst (pa_cons (pe_callTy (call_listK (K := K) rfl) (by rfl) B.list_ bo_list (pa_cons (pv 1) pa_nil)) (pa_cons (pe_callTy (call_listK (K := K) rfl) (by rfl) B.list_ bo_list (pa_cons (pv 2) pa_nil)) pa_nil))))
    (pss_cons (ps_for PassesOwn.never rfl (pi_range1 (by rfl) B.range_ (pa_cons pe_int pa_nil)) (pg_name (i := 4) sc_law.nd rfl (Or.inl rfl))
    (pss_cons (ps_set (i := 5) sc_law.nd rfl (Or.inr rfl) (pe_callD D_behind (hr.mono (by decide)) (by rfl) pass0 (pa_cons (pe_ix (ix_listK (K := K) rfl) (pv 3) pe_int (fun _ _ => rfl)) (pa_cons (pe_ix (ix_listK (K := K) rfl) (pv 3) pe_int (fun _ _ => rfl)) pa_nil))))
    (pss_cons (ps_if (PW.pt (pw_or (pt_not (pt_val (pe_callD D_law_numbers (hr.mono (by decide)) (by rfl) pass0 (pa_cons (pv 5) pa_nil)))) (pw_or1 (pt_cmpR (op_neK (K := K) rfl hr.units) (pv 5) (pe_lc (own := [("_law_place", 12)]) (g := gName 12) (tt := tYes) rfl sc_law.nd (pi_range1 (by rfl) B.range_ (pa_cons (pe_callB (call_lenK (K := K) rfl) (by rfl) B.len_ bo_len (pa_cons (pv 1) pa_nil)) pa_nil)) (blkOk_by (N := N_law) (sc := defScope s_law) (by decide +kernel)) (fun _ _ _ _ _ => (pg_name (i := 12) sc_law.nd rfl (Or.inl rfl))) (fun _ _ _ _ _ => pts_nil) (fun _ _ _ _ _ => (pe_ix (ix_listK (K := K) rfl) (pv 2) (pe_ix (ix_listK (K := K) rfl) (pv 1) (pv 12) (fun _ _ => rfl)) (fun _ _ => rfl)))) (nomark _)))))
    (pss_one (ps_ret pe_bl))
    pss_nil)
    (pss_cons (ps_if (pt_cmpR (op_neK (K := K) rfl hr.units) (pv 3) (pe_lst (pa_cons (pv 1) (pa_cons (pv 2) pa_nil))) (nomark _))
    (pss_one (ps_ret pe_bl))
    pss_nil)
    (pss_one (ps_expr (pe_bm PySem.F.plainAttrs_list PySem.F.slot_list_append PySem.F.type_list_append mt_append (pv 5) (pa_cons pe_int pa_nil))))))))
    (pss_cons (ps_set (i := 6) sc_law.nd rfl (Or.inl rfl) (pe_op op_modN (pe_callB (cr_sumK (K := K) rfl rfl) (by rfl) B.sum_ bo_sum (pa_cons (pv 0) pa_nil)) pe_int))
    (pss_cons (ps_set (i := 7) sc_law.nd rfl (Or.inl rfl) (pe_op op_modN (pe_op op_fdivN (pe_callB (cr_sumK (K := K) rfl rfl) (by rfl) B.sum_ bo_sum (pa_cons (pv 0) pa_nil)) pe_int) (pe_op op_pow pe_int pe_int)))
    (pss_cons (ps_if (pt_cmpR (op_neK (K := K) rfl hr.units) (pe_callD D_behind (hr.mono (by decide)) (by rfl) pass0 (pa_cons (pe_callD D_times (hr.mono (by decide)) (by rfl) pass0 (pa_cons (pv 1) (pa_cons (pv 6) pa_nil))) (pa_cons (pe_callD D_times (hr.mono (by decide)) (by rfl) pass0 (pa_cons (pv 1) (pa_cons (pv 7) pa_nil))) pa_nil))) (pe_callD D_times (hr.mono (by decide)) (by rfl) pass0 (pa_cons (pv 1) (pa_cons (pe_op op_add (pv 6) (pv 7)) pa_nil))) (nomark _))
    (pss_one (ps_ret pe_bl))
    pss_nil)
    (pss_cons (ps_if (pt_cmpR (op_neK (K := K) rfl hr.units) (pe_callD D_times (hr.mono (by decide)) (by rfl) pass0 (pa_cons (pe_callD D_times (hr.mono (by decide)) (by rfl) pass0 (pa_cons (pv 1) (pa_cons (pv 6) pa_nil))) (pa_cons (pv 7) pa_nil))) (pe_callD D_times (hr.mono (by decide)) (by rfl) pass0 (pa_cons (pv 1) (pa_cons (pe_op op_mul (pv 6) (pv 7)) pa_nil))) (nomark _))
    (pss_one (ps_ret pe_bl))
    pss_nil)
    (pss_cons (ps_set (i := 8) sc_law.nd rfl (Or.inl rfl) (pe_callD D_law_back (hr.mono (by decide)) (by rfl) pass0 (pa_cons (pv 0) pa_nil)))
    (pss_cons (ps_set (i := 9) sc_law.nd rfl (Or.inl rfl) (pe_callTy (call_listK (K := K) rfl) (by rfl) B.list_ bo_list (pa_cons (pv 8) pa_nil)))
    (pss_cons (ps_for PassesOwn.never rfl (pi_range1 (by rfl) B.range_ (pa_cons pe_int pa_nil)) (pg_name (i := 4) sc_law.nd rfl (Or.inl rfl))
    (pss_cons (ps_set (i := 5) sc_law.nd rfl (Or.inr rfl) (pe_callD D_undone (hr.mono (by decide)) (by rfl) pass0 (pa_cons (pv 9) pa_nil)))
    (pss_cons (ps_if (PW.pt (pw_or (pt_not (pt_val (pe_callD D_law_numbers (hr.mono (by decide)) (by rfl) pass0 (pa_cons (pv 5) pa_nil)))) (pw_or (pt_cmpR (op_neK (K := K) rfl hr.units) (pv 9) (pv 8) (nomark _)) (pw_or1 (pt_cmpR (op_neK (K := K) rfl hr.units) (pe_callB (cr_sortedK (K := K) rfl) (by rfl) B.sorted_ bo_sorted (pa_cons (pv 5) pa_nil)) (pe_lc (own := [("_law_place", 12)]) (g := gName 12) (tt := tYes) rfl sc_law.nd (pi_range1 (by rfl) B.range_ (pa_cons (pe_callB (call_lenK (K := K) rfl) (by rfl) B.len_ bo_len (pa_cons (pv 8) pa_nil)) pa_nil)) (blkOk_by (N := N_law) (sc := defScope s_law) (by decide +kernel)) (fun _ _ _ _ _ => (pg_name (i := 12) sc_law.nd rfl (Or.inl rfl))) (fun _ _ _ _ _ => pts_nil) (fun _ _ _ _ _ => (pv 12))) (nomark _))))))
    (pss_one (ps_ret pe_bl))
    pss_nil)
    (pss_cons (ps_if (pt_cmpR (op_neK (K := K) rfl hr.units) (pe_lc (own := [("_law_there", 11)]) (g := gName 11) (tt := tYes) rfl sc_law.nd (pi_list (pv 8)) (blkOk_by (N := N_law) (sc := defScope s_law) (by decide +kernel)) (fun _ _ _ _ _ => (pg_name (i := 11) sc_law.nd rfl (Or.inl rfl))) (fun _ _ _ _ _ => pts_nil) (fun _ _ _ _ _ => (pe_ix (ix_listK (K := K) rfl) (pv 5) (pv 11) (fun _ _ => rfl)))) (pe_lc (own := [("_law_place", 12)]) (g := gName 12) (tt := tYes) rfl sc_law.nd (pi_range1 (by rfl) B.range_ (pa_cons (pe_callB (call_lenK (K := K) rfl) (by rfl) B.len_ bo_len (pa_cons (pv 8) pa_nil)) pa_nil)) (blkOk_by (N := N_law) (sc := defScope s_law) (by decide +kernel)) (fun _ _ _ _ _ => (pg_name (i := 12) sc_law.nd rfl (Or.inl rfl))) (fun _ _ _ _ _ => pts_nil) (fun _ _ _ _ _ => (pv 12))) (nomark _))
    (pss_one (ps_ret pe_bl))
    pss_nil)
    (pss_cons (ps_if (PW.pt (pw_or (pt_cmpR (op_neK (K := K) rfl hr.units) (pe_callD D_behind (hr.mono (by decide)) (by rfl) pass0 (pa_cons (pv 5) (pa_cons (pv 8) pa_nil))) (pe_callD D_behind (hr.mono (by decide)) (by rfl) pass0 (pa_cons (pv 8) (pa_cons (pv 5) pa_nil))) (nomark _)) (pw_or1 (pt_cmpR (op_neK (K := K) rfl hr.units) (pe_callD D_undone (hr.mono (by decide)) (by rfl) pass0 (pa_cons (pv 5) pa_nil)) (pv 8) (nomark _)))))
    (pss_one (ps_ret pe_bl))
    pss_nil)
    (pss_one (ps_expr (pe_bm PySem.F.plainAttrs_list PySem.F.slot_list_append PySem.F.type_list_append mt_append (pv 5) (pa_cons pe_int pa_nil)))))))))
    (pss_one (ps_ret pe_bl))))))))))))), ?_⟩
    -- one, other
    refine q_asgX (ea1 (ev_var rfl)) fun H1 e1 => ⟨a, ns, rfl, ex_l e1 hS, h63, fun A hA hlA p1 H2 n2 e2 h2 => ?_⟩
    have hS2 := ex_l (e1.trans e2) hS
    refine q_asgXN (xs := il (ns.reverse.map fun x => x.fdiv 3)) ?_ fun p H3 n3 e3 h3 => ⟨p, _, rfl, sq_of h3, by rw [List.length_map, List.length_reverse]; exact h63, fun C hC hlC p2 H4 n4 e4 h4 => ?_⟩
    · have h := el_mapIN (K := K) (L := ns.reverse) (te := tOp (rI CDivN fun i j => .int (i.fdiv j)) (tVar 10) (tC (.int 3))) (tl := tRevL K (tVar 0)) (σ := [some (.ref a), some (.ref p1), none, none, none, none, none, none, none, none, none, none, none]) (H := H2) (j := 10) (fun x => V.int (x.fdiv 3)) (by
        rw [← il_rev]
        exact el_rev (ev_var rfl) hS2) (by rw [List.length_reverse]; omega) fun x H3 e3 hx => ev_op (ev_var rfl) ev_c (rv_I ⟨by decide, by decide⟩)
      unfold il
      rw [List.map_map]
      exact h
    rw [List.length_map, List.length_reverse] at hlC
    have hS4 := ex_l (e3.trans e4) hS2
    have hA4 : IsLd H4 p1 A := IsLd.ex ⟨.inl h2, hA, by omega⟩ (e3.trans e4)
    have hC4 : IsLd H4 p2 C := ⟨.inl h4, hC, by omega⟩
    -- handed = [list(one), list(other)]
    refine q_two (el_listOf (ev_var rfl) hA4.sq) (el_listOf (ev_var rfl) hC4.sq) fun q1 q2 r H5 nr e5 hq1 hq2 hr5 => ?_
    have hA5 := hA4.ex e5
    have hC5 := hC4.ex e5
    have hS5 := ex_l e5 hS4
    have hQ1 : IsLd H5 q1 A := ⟨.inl hq1, hA, by omega⟩
    have hQ2 : IsLd H5 q2 C := ⟨.inl hq2, hC, by omega⟩
    refine q_forR1 (n := 2) (ea1 ev_c) (by decide) (fun k σ' H' => ∃ (y4 y5 : Option V), σ' = [some (.ref a), some (.ref p1), some (.ref p2), some (.ref r), y4, y5, none, none, none, none, none, none, none] ∧ Ex H5 H') (fun H6 e6 => ⟨_, _, rfl, e6⟩) (fun k σ' H' hk hP => ?_) (fun σ' H' hP => ?_)
    · obtain ⟨y4, y5, rfl, e6⟩ := hP
      have hr6 := e6 _ _ hr5
      refine q_asgL (el_callL (ea2 (ev_op (ev_var rfl) ev_c (rv_ixL (sq_of hr6) (atI_nat (j := 0) rfl))) (ev_op (ev_var rfl) ev_c (rv_ixL (sq_of hr6) (atI_nat (j := 1) rfl)))) (sl_behind (hQ1.ex e6) (hQ2.ex e6) (by omega))) fun p5 H7 n7 e7 h7 => ?_
      have e67 := e6.trans e7
      refine q_skip (et_orF (et_notT (et_B (ev_callV (ea1 (ev_var rfl)) (sv_numsN (.inl h7) (by rw [List.length_map]; omega))))) (et_test (ev_opL (xs := nl (A.map (st C))) (ev_var rfl) (by
        rw [← nl_map_st]
        exact el_mapR (fun i => V.int (st C (st A i) : Int)) (ea1 (ev_lenNl (ev_var rfl) (hA5.ex e67).sq)) (by omega) fun i H8 e8 hi => ev_op (ev_var rfl) (ev_op (ev_var rfl) (ev_var rfl) (rv_ixN (hA5.ex (e67.trans e8)).sq hi)) (rv_ixN (hC5.ex (e67.trans e8)).sq (by
          have := st_lt hA hi
          omega))) fun p H8 h8 e8 => rv_neN0 (sq_of (e8 _ _ h7)) (sq_of h8) rfl))) fun H8 e8 => ?_
      have e68 := e67.trans e8
      refine q_skip (et_test (ev_opL (ev_var rfl) (el_lst (ea2 (ev_var rfl) (ev_var rfl)) (by show 2 ≤ 100000; decide)) fun p H9 h9 e9 => rv_neLL0 (A := [A, C]) (B := [A, C]) ⟨[q1, q2], sq_of (e9 _ _ (e68 _ _ hr5)), .cons (hQ1.ex (e68.trans e9)).sq (.cons (hQ2.ex (e68.trans e9)).sq .nil)⟩
        ⟨[p1, p2], sq_of h9, .cons (hA5.ex (e68.trans e9)).sq (.cons (hC5.ex (e68.trans e9)).sq .nil)⟩ rfl)) fun H9 e9 => ?_
      refine s_app (e9 _ _ (e8 _ _ h7)) (ev_var rfl) ev_c (by rw [nl_len, List.length_map]; omega) fun H10 e10 => ?_
      exact ⟨_, _, rfl, Ex.mut ((e68.trans e9).trans e10) (fresh_back e6 n7)⟩
    · obtain ⟨y4, y5, rfl, e6⟩ := hP
      have hA6 := hA5.ex e6
      have hS6 := ex_l e6 hS5
      obtain ⟨r1, hr1, hr12⟩ := fmod_lt ns.sum (m := 50) (by decide)
      obtain ⟨r2, hr2, _⟩ := fmod_lt (ns.sum.fdiv 50) (m := 10 ^ 9) (by decide)
      refine q_asg (ev_op (ev_sum (ev_var rfl) hS6) ev_c (rv_IW (by decide) (w := .int (r1 : Int)) (by show V.int (ns.sum.fmod ((50 : Nat) : Int)) = _; rw [hr1]))) fun H7 e7 => ?_
      refine q_asg (ev_op (ev_op (ev_sum (ev_var rfl) (ex_l e7 hS6)) ev_c (rv_I ⟨by decide, by decide⟩)) (ev_op ev_c ev_c (rv_I ⟨by decide, by decide, by decide⟩)) (rv_IW (by decide) (w := .int (r2 : Int)) (by show V.int ((ns.sum.fdiv 50).fmod ((10 ^ 9 : Nat) : Int)) = _; rw [hr2]))) fun H8 e8 => ?_
      have hA8 := hA6.ex (e7.trans e8)
      have hld : ∀ {H' : Hp} {p : Addr} {k : Nat}, H' p = some (.lst (nl (tm A k))) → IsLd H' p (tm A k) := fun h => ⟨.inl h, lead_tm hA _, by rw [tm_length]; omega⟩
      refine q_skip (et_test (ev_opLL (el_callNN (el_callL (ea2 (ev_var rfl) (ev_var rfl)) (sl_times hA8)) (el_callL (ea2 (ev_var rfl) (ev_var rfl)) (sl_times hA8)) fun p q H9 e9 h9 h10 => sl_behind (hld h9) (hld h10) (by rw [tm_length, tm_length]))
        (el_callL (ea2 (ev_var rfl) (ev_op (ev_var rfl) (ev_var rfl) (rv_dec (vadd r1 r2)))) (sl_times hA8)) fun p q H9 h9 h10 _ => rv_neN0 (sq_of h9) (sq_of h10) (tm_then hA r1 r2))) fun H9 e9 => ?_
      have hA9 := hA8.ex e9
      refine q_skip (et_test (ev_opLL (xs := nl (tm (tm A r1) r2)) (ys := nl (tm A (r1 * r2))) (el_callN2 (el_callL (ea2 (ev_var rfl) (ev_var rfl)) (sl_times hA9)) (ev_var rfl) fun p H10 e10 h10 => sl_times (hld h10)) (el_callL (ea2 (ev_var rfl) (ev_op (ev_var rfl) (ev_var rfl) (rv_IW (.inl ⟨by omega, by omega⟩) (w := .int ((r1 * r2 : Nat) : Int)) (by rw [Int.natCast_mul])))) (sl_times hA9)) fun p q H10 h10 h11 _ => rv_neN0 (sq_of h10) (sq_of h11) (tm_tm hA r1 r2))) fun H10 e10 => ?_
      -- whole, kept
      refine q_asgX (ea1 (ev_var rfl)) fun H11 e11 => ⟨a, ns, rfl, ex_l ((((e7.trans e8).trans e9).trans e10).trans e11) hS6, h63, fun W hW ndW hlW p8 H12 n12 e12 h12 => ?_⟩
      have hW12 : IsLd H12 p8 W := ⟨.inl h12, hW, by omega⟩
      refine q_asgL (el_listOf (ev_var rfl) hW12.sq) fun p9 H13 n13 e13 h13 => ?_
      have hW13 := hW12.ex e13
      have hX13 : IsLd H13 p9 W := ⟨.inl h13, hW, by omega⟩
      have hIl := inv_lead hW ndW
      have hIn := inv_nodup hW ndW
      refine q_forR1 (n := 2) (ea1 ev_c) (by decide) (fun k σ' H' => ∃ (y4 y5 : Option V), σ' = [some (.ref a), some (.ref p1), some (.ref p2), some (.ref r), y4, y5, some (.int (r1 : Int)), some (.int (r2 : Int)), some (.ref p8), some (.ref p9), none, none, none] ∧ Ex H13 H') (fun H14 e14 => ⟨_, _, rfl, e14⟩) (fun k σ' H' hk hP => ?_) (fun σ' H' hP => ?_)
      · obtain ⟨y4, y5, rfl, e14⟩ := hP
        refine q_asgL (el_callL (ea1 (ev_var rfl)) (sl_undone (hX13.ex e14) ndW)) fun p5 H15 n15 e15 h15 => ?_
        have e := e14.trans e15
        have hI : ∀ {H' : Hp}, H' p5 = some (.lst (nl (inv W))) → IsLd H' p5 (inv W) := fun h => ⟨.inl h, hIl, by rw [inv_len]; omega⟩
        have hrg : ∀ {H' : Hp}, Ex H13 H' → EvL (tLc (iRng1 (tCons (tCB (rLen1 K) (tCons (tVar 8) tNil)) tNil)) (gName 12) tYes (tVar 12) [12]) [some (.ref a), some (.ref p1), some (.ref p2), some (.ref r), some (.int (k : Int)), some (.ref p5), some (.int (r1 : Int)), some (.int (r2 : Int)), some (.ref p8), some (.ref p9), none, none, none] H' (nl (List.range W.length)) := fun e =>
          el_mapR (fun i => V.int (i : Int)) (ea1 (ev_lenNl (ev_var rfl) (hW13.ex e).sq)) (by omega) fun i H16 e16 hi => ev_var rfl
        refine q_skip (et_orF (et_notT (et_B (ev_callV (ea1 (ev_var rfl)) (sv_numsN (.inl h15) (by rw [inv_len]; omega))))) (et_orF (et_test (ev_op (ev_var rfl) (ev_var rfl) (rv_neN0 (hX13.ex e).sq (hW13.ex e).sq rfl)))
          (et_test (ev_opLL (xs := nl (List.range W.length)) (by
            rw [nl_il]
            have hs := hI h15
            have hs2 := hs.sq (K := K)
            rw [nl_il] at hs2
            refine el_sorted (ev_var rfl) hs2 ?_ (range_sorted _)
            have hp := (perm_range hIl hIn).symm.map (fun (x : Nat) => (x : Int))
            rw [inv_len] at hp
            exact hp) (hrg e) fun p q H16 h16 h17 _ => rv_neN0 (sq_of h16) (sq_of h17) rfl)))) fun H16 e16 => ?_
        have h16 := e16 _ _ h15
        have e' := e.trans e16
        refine q_skip (et_test (ev_opLL (xs := nl (List.range W.length)) (by
            rw [← inv_then hW ndW, ← nl_map]
            exact el_mapN (fun x => V.int (st (inv W) x : Int)) (ev_var rfl) (hW13.ex e').sq (by omega) fun x H17 e17 hx => ev_op (ev_var rfl) (ev_var rfl) (rv_ixN (sq_of (e17 _ _ h16)) (by rw [inv_len]; exact hW x hx))) (hrg e') fun p q H17 h17 h18 _ => rv_neN0 (sq_of h17) (sq_of h18) rfl)) fun H17 e17 => ?_
        have h17 := e17 _ _ h16
        have e'' := e'.trans e17
        refine q_skip (et_orF (et_test (ev_opLL (el_callL (ea2 (ev_var rfl) (ev_var rfl)) (sl_behind (hI h17) (hW13.ex e'') (inv_len W))) (el_callL (ea2 (ev_var rfl) (ev_var rfl)) (sl_behind (hW13.ex e'') (hI h17) (inv_len W).symm)) fun p q H18 h18 h19 _ => rv_neN0 (sq_of h18) (sq_of h19) (by rw [inv_then hW ndW, then_inv hW ndW])))
          (et_test (ev_opL1 (el_callL (ea1 (ev_var rfl)) (sl_undone (hI h17) hIn)) (fun _ _ => ev_var rfl) fun p H18 h18 e18 => rv_neN0 (sq_of h18) (hW13.ex (e''.trans e18)).sq (inv_inv hW ndW)))) fun H18 e18 => ?_
        refine s_app (e18 _ _ h17) (ev_var rfl) ev_c (by rw [nl_len, inv_len]; omega) fun H19 e19 => ?_
        exact ⟨_, _, rfl, Ex.mut ((e''.trans e18).trans e19) (fresh_back e14 n15)⟩
      · obtain ⟨y4, y5, rfl, e14⟩ := hP
        exact s_ret ev_c fun H15 _ => q H15

end
end Ld
namespace Ld
open PySem L2 Evl
/-! ### what the top has written -/
theorem all_mk {l : PySem.W.OpenLaw} {w : World} {K : PySem.W.Frag} {h : Heap} {mg : Str → Option Value} {fa f0 f1 f2 f3 f4 f5 f6 f7 f8 f9 f10 f11 : Addr} (X : K.In h) (G : h.Ns mainGlobals mg) (hfa : mg "law" = some (.ref fa))
    {od0 od1 od2 od3 od4 od5 od6 od7 od8 od9 od10 od11 an0 an1 an2 an3 an4 an5 an6 an7 an8 an9 an10 an11 : Option Addr} {sl0 sl1 sl2 sl3 sl4 sl5 sl6 sl7 sl8 sl9 sl10 sl11 : Array (Option Value)} {oc0 oc1 oc2 oc3 oc4 oc5 oc6 oc7 oc8 oc9 oc10 oc11 kV0 kV1 kV2 kV3 kV4 kV5 kV6 kV7 kV8 kV9 kV10 kV11 dc0 dc1 dc2 dc3 dc4 dc5 dc6 dc7 dc8 dc9 dc10 dc11 pm0 pm1 pm2 pm3 pm4 pm5 pm6 pm7 pm8 pm9 pm10 pm11 cd0 cd1 cd2 cd3 cd4 cd5 cd6 cd7 cd8 cd9 cd10 cd11 ct0 ct1 ct2 ct3 ct4 ct5 ct6 ct7 ct8 ct9 ct10 ct11 : Value}
    (a0 : PySem.W.nsIn K mainGlobals "is_number" = some (some (.ref f0))) (l0 : K.lookup f0 = some ⟨oc0, od0, .func (PySem.W.fnOf "is_number" "is_number" (defArgs s_is_number) (defBody s_is_number) (defScope s_is_number) .none kV0 dc0 pm0 an0 cd0 ct0), sl0⟩) (c0 : PySem.W.codeIn K cd0 "is_number" = true) (k0 : PySem.W.keepIn K (.ref f0) = true)
    (a1 : PySem.W.nsIn K mainGlobals "asked_steps" = some (some (.ref f1))) (l1 : K.lookup f1 = some ⟨oc1, od1, .func (PySem.W.fnOf "asked_steps" "asked_steps" (defArgs s_asked_steps) (defBody s_asked_steps) (defScope s_asked_steps) .none kV1 dc1 pm1 an1 cd1 ct1), sl1⟩) (c1 : PySem.W.codeIn K cd1 "asked_steps" = true) (k1 : PySem.W.keepIn K (.ref f1) = true)
    (a2 : PySem.W.nsIn K mainGlobals "asked_back" = some (some (.ref f2))) (l2 : K.lookup f2 = some ⟨oc2, od2, .func (PySem.W.fnOf "asked_back" "asked_back" (defArgs s_asked_back) (defBody s_asked_back) (defScope s_asked_back) .none kV2 dc2 pm2 an2 cd2 ct2), sl2⟩) (c2 : PySem.W.codeIn K cd2 "asked_back" = true) (k2 : PySem.W.keepIn K (.ref f2) = true)
    (a3 : PySem.W.nsIn K mainGlobals "done" = some (some (.ref f3))) (l3 : K.lookup f3 = some ⟨oc3, od3, .func (PySem.W.fnOf "done" "done" (defArgs s_done) (defBody s_done) (defScope s_done) .none kV3 dc3 pm3 an3 cd3 ct3), sl3⟩) (c3 : PySem.W.codeIn K cd3 "done" = true) (k3 : PySem.W.keepIn K (.ref f3) = true)
    (a4 : PySem.W.nsIn K mainGlobals "_law_leading" = some (some (.ref f4))) (l4 : K.lookup f4 = some ⟨oc4, od4, .func (PySem.W.fnOf "_law_leading" "_law_leading" (defArgs s_law_leading) (defBody s_law_leading) (defScope s_law_leading) .none kV4 dc4 pm4 an4 cd4 ct4), sl4⟩) (c4 : PySem.W.codeIn K cd4 "_law_leading" = true) (k4 : PySem.W.keepIn K (.ref f4) = true)
    (a5 : PySem.W.nsIn K mainGlobals "_law_numbers" = some (some (.ref f5))) (l5 : K.lookup f5 = some ⟨oc5, od5, .func (PySem.W.fnOf "_law_numbers" "_law_numbers" (defArgs s_law_numbers) (defBody s_law_numbers) (defScope s_law_numbers) .none kV5 dc5 pm5 an5 cd5 ct5), sl5⟩) (c5 : PySem.W.codeIn K cd5 "_law_numbers" = true) (k5 : PySem.W.keepIn K (.ref f5) = true)
    (a6 : PySem.W.nsIn K mainGlobals "_law_back" = some (some (.ref f6))) (l6 : K.lookup f6 = some ⟨oc6, od6, .func (PySem.W.fnOf "_law_back" "_law_back" (defArgs s_law_back) (defBody s_law_back) (defScope s_law_back) .none kV6 dc6 pm6 an6 cd6 ct6), sl6⟩) (c6 : PySem.W.codeIn K cd6 "_law_back" = true) (k6 : PySem.W.keepIn K (.ref f6) = true)
    (a7 : PySem.W.nsIn K mainGlobals "asked_leading" = some (some (.ref f7))) (l7 : K.lookup f7 = some ⟨oc7, od7, .func (PySem.W.fnOf "asked_leading" "asked_leading" (defArgs s_asked_leading) (defBody s_asked_leading) (defScope s_asked_leading) .none kV7 dc7 pm7 an7 cd7 ct7), sl7⟩) (c7 : PySem.W.codeIn K cd7 "asked_leading" = true) (k7 : PySem.W.keepIn K (.ref f7) = true)
    (a8 : PySem.W.nsIn K mainGlobals "times" = some (some (.ref f8))) (l8 : K.lookup f8 = some ⟨oc8, od8, .func (PySem.W.fnOf "times" "times" (defArgs s_times) (defBody s_times) (defScope s_times) .none kV8 dc8 pm8 an8 cd8 ct8), sl8⟩) (c8 : PySem.W.codeIn K cd8 "times" = true) (k8 : PySem.W.keepIn K (.ref f8) = true)
    (a9 : PySem.W.nsIn K mainGlobals "behind" = some (some (.ref f9))) (l9 : K.lookup f9 = some ⟨oc9, od9, .func (PySem.W.fnOf "behind" "behind" (defArgs s_behind) (defBody s_behind) (defScope s_behind) .none kV9 dc9 pm9 an9 cd9 ct9), sl9⟩) (c9 : PySem.W.codeIn K cd9 "behind" = true) (k9 : PySem.W.keepIn K (.ref f9) = true)
    (a10 : PySem.W.nsIn K mainGlobals "undone" = some (some (.ref f10))) (l10 : K.lookup f10 = some ⟨oc10, od10, .func (PySem.W.fnOf "undone" "undone" (defArgs s_undone) (defBody s_undone) (defScope s_undone) .none kV10 dc10 pm10 an10 cd10 ct10), sl10⟩) (c10 : PySem.W.codeIn K cd10 "undone" = true) (k10 : PySem.W.keepIn K (.ref f10) = true)
    (a11 : PySem.W.nsIn K mainGlobals "law" = some (some (.ref f11))) (l11 : K.lookup f11 = some ⟨oc11, od11, .func (PySem.W.fnOf "law" "law" (defArgs s_law) (defBody s_law) (defScope s_law) .none kV11 dc11 pm11 an11 cd11 ct11), sl11⟩) (c11 : PySem.W.codeIn K cd11 "law" = true) (k11 : PySem.W.keepIn K (.ref f11) = true)
    (z_len : PySem.W.nsIn K mainGlobals "len" = some none)
    (z_sum : PySem.W.nsIn K mainGlobals "sum" = some none)
    (z_range : PySem.W.nsIn K mainGlobals "range" = some none)
    (z_list : PySem.W.nsIn K mainGlobals "list" = some none)
    (z_enumerate : PySem.W.nsIn K mainGlobals "enumerate" = some none)
    (z_isinstance : PySem.W.nsIn K mainGlobals "isinstance" = some none)
    (z_int : PySem.W.nsIn K mainGlobals "int" = some none)
    (z_bool : PySem.W.nsIn K mainGlobals "bool" = some none)
    (z_all : PySem.W.nsIn K mainGlobals "all" = some none)
    (z_any : PySem.W.nsIn K mainGlobals "any" = some none)
    (z_max : PySem.W.nsIn K mainGlobals "max" = some none)
    (z_min : PySem.W.nsIn K mainGlobals "min" = some none)
    (z_sorted : PySem.W.nsIn K mainGlobals "sorted" = some none)
    (z_set : PySem.W.nsIn K mainGlobals "set" = some none)
    (z_reversed : PySem.W.nsIn K mainGlobals "reversed" = some none)
    (z_tuple : PySem.W.nsIn K mainGlobals "tuple" = some none)
    : ∃ fd : FuncData, (∀ (s : Shared) (v : Value), BindsTo s fd ⟨[v], []⟩ [("_law_script", v)]) ∧ ∀ base : Heap, K.In base → base.Ns mainGlobals mg → FnOk l.prog w K mg base CX0 4 fa fd ["_law_script"] (spLaw K) := by
  have e := hfa.symm.trans (PySem.W.mg_of X G a11)
  cases e
  have B : Bl mg := ⟨PySem.W.mg_none_of X G z_len, PySem.W.mg_none_of X G z_sum, PySem.W.mg_none_of X G z_range, PySem.W.mg_none_of X G z_list, PySem.W.mg_none_of X G z_enumerate, PySem.W.mg_none_of X G z_isinstance, PySem.W.mg_none_of X G z_int, PySem.W.mg_none_of X G z_bool, PySem.W.mg_none_of X G z_all, PySem.W.mg_none_of X G z_any, PySem.W.mg_none_of X G z_max, PySem.W.mg_none_of X G z_min, PySem.W.mg_none_of X G z_sorted, PySem.W.mg_none_of X G z_set, PySem.W.mg_none_of X G z_reversed, PySem.W.mg_none_of X G z_tuple⟩
  have F0 := fun_mk (st := s_is_number) l0 c0 k0
  have F1 := fun_mk (st := s_asked_steps) l1 c1 k1
  have F2 := fun_mk (st := s_asked_back) l2 c2 k2
  have F3 := fun_mk (st := s_done) l3 c3 k3
  have F4 := fun_mk (st := s_law_leading) l4 c4 k4
  have F5 := fun_mk (st := s_law_numbers) l5 c5 k5
  have F6 := fun_mk (st := s_law_back) l6 c6 k6
  have F7 := fun_mk (st := s_asked_leading) l7 c7 k7
  have F8 := fun_mk (st := s_times) l8 c8 k8
  have F9 := fun_mk (st := s_behind) l9 c9 k9
  have F10 := fun_mk (st := s_undone) l10 c10 k10
  have F11 := fun_mk (st := s_law) l11 c11 k11
  refine ⟨PySem.W.fnOf "law" "law" (defArgs s_law) (defBody s_law) (defScope s_law) .none kV11 dc11 pm11 an11 cd11 ct11, fun s v => .of_eq rfl, fun base _ _ => ?_⟩
  have D_is_number : Dk l.prog w K mg base CX0 1 "is_number" ["thing", "least", "most"] spIsNum := ⟨_, _, ok_is_number F0 B, PySem.W.mg_of X G a0, k0, F0.binds fun _ _ _ _ _ _ us hl => match us, hl with | [_, _, _], _ => rfl⟩
  have D_asked_steps : Dk l.prog w K mg base CX0 1 "asked_steps" ["steps"] spAskedS := ⟨_, _, ok_asked_steps F1 B, PySem.W.mg_of X G a1, k1, F1.binds fun _ _ _ _ _ _ us hl => match us, hl with | [_], _ => rfl⟩
  have D_asked_back : Dk l.prog w K mg base CX0 1 "asked_back" ["leading"] spAskedB := ⟨_, _, ok_asked_back F2 B, PySem.W.mg_of X G a2, k2, F2.binds fun _ _ _ _ _ _ us hl => match us, hl with | [_], _ => rfl⟩
  have D_done : Dk l.prog w K mg base CX0 1 "done" ["leading", "steps"] spDone := ⟨_, _, ok_done F3 B, PySem.W.mg_of X G a3, k3, F3.binds fun _ _ _ _ _ _ us hl => match us, hl with | [_, _], _ => rfl⟩
  have D_law_leading : Dk l.prog w K mg base CX0 1 "_law_leading" ["_law_script"] (spLLead K) := ⟨_, _, ok_law_leading F4 B, PySem.W.mg_of X G a4, k4, F4.binds fun _ _ _ _ _ _ us hl => match us, hl with | [_], _ => rfl⟩
  have D_law_numbers : Dk l.prog w K mg base CX0 1 "_law_numbers" ["_law_found"] spNums := ⟨_, _, ok_law_numbers F5 B, PySem.W.mg_of X G a5, k5, F5.binds fun _ _ _ _ _ _ us hl => match us, hl with | [_], _ => rfl⟩
  have D_law_back : Dk l.prog w K mg base CX0 1 "_law_back" ["_law_script"] (spLBack K) := ⟨_, _, ok_law_back F6 B, PySem.W.mg_of X G a6, k6, F6.binds fun _ _ _ _ _ _ us hl => match us, hl with | [_], _ => rfl⟩
  have D_asked_leading : Dk l.prog w K mg base CX0 2 "asked_leading" ["leading"] spAskedL := ⟨_, _, ok_asked_leading F7 B D_is_number, PySem.W.mg_of X G a7, k7, F7.binds fun _ _ _ _ _ _ us hl => match us, hl with | [_], _ => rfl⟩
  have D_times : Dk l.prog w K mg base CX0 3 "times" ["leading", "steps"] spTimes := ⟨_, _, ok_times F8 D_asked_leading D_asked_steps D_done, PySem.W.mg_of X G a8, k8, F8.binds fun _ _ _ _ _ _ us hl => match us, hl with | [_, _], _ => rfl⟩
  have D_behind : Dk l.prog w K mg base CX0 3 "behind" ["one", "other"] spBehind := ⟨_, _, ok_behind F9 B D_asked_leading, PySem.W.mg_of X G a9, k9, F9.binds fun _ _ _ _ _ _ us hl => match us, hl with | [_, _], _ => rfl⟩
  have D_undone : Dk l.prog w K mg base CX0 3 "undone" ["leading"] spUndone := ⟨_, _, ok_undone F10 B D_asked_leading D_asked_back, PySem.W.mg_of X G a10, k10, F10.binds fun _ _ _ _ _ _ us hl => match us, hl with | [_], _ => rfl⟩
  exact ok_law F11 B D_law_leading D_law_numbers D_law_back D_times D_behind D_undone
end Ld
open PySem PySem.W PyProof.Rows
set_option maxRecDepth 100000 in
set_option maxHeartbeats 0 in
theorem PySem.Challenge.cw_leadson_k03_behind_holds : PySem.Challenge.rw_leadson_k03_behind.Holds := by
  w_on; o_law; k_head; (case hw => w_witness2)
  k_fill
  refine L2.walk_of (l := PySem.Challenge.rw_leadson_k03_behind) (n := 63) (k := 4) (x := "_law_script") (CX := fun _ => L2.CX0) (sp := fun w => Ld.spLaw _) rfl (by decide) rfl ⟨rfl, by decide, by decide⟩ (fun w h Y => PySem.W.kIn_of Y) ?F (fun _ _ a ns hl _ hS => ⟨a, ns, rfl, hS, hl, fun _ => rfl⟩) (fun _ _ _ _ _ h => h)
  case F =>
    intro w mg fa h KX G hmg
    refine' Ld.all_mk KX G hmg ?a0 ?l0 ?c0 ?k0 ?a1 ?l1 ?c1 ?k1 ?a2 ?l2 ?c2 ?k2 ?a3 ?l3 ?c3 ?k3 ?a4 ?l4 ?c4 ?k4 ?a5 ?l5 ?c5 ?k5 ?a6 ?l6 ?c6 ?k6 ?a7 ?l7 ?c7 ?k7 ?a8 ?l8 ?c8 ?k8 ?a9 ?l9 ?c9 ?k9 ?a10 ?l10 ?c10 ?k10 ?a11 ?l11 ?c11 ?k11 ?z_len ?z_sum ?z_range ?z_list ?z_enumerate ?z_isinstance ?z_int ?z_bool ?z_all ?z_any ?z_max ?z_min ?z_sorted ?z_set ?z_reversed ?z_tuple
    (case a0 => k_is)
    (case l0 => k_is)
    (case c0 => k_is)
    (case k0 => k_is)
    (case a1 => k_is)
    (case l1 => k_is)
    (case c1 => k_is)
    (case k1 => k_is)
    (case a2 => k_is)
    (case l2 => k_is)
    (case c2 => k_is)
    (case k2 => k_is)
    (case a3 => k_is)
    (case l3 => k_is)
    (case c3 => k_is)
    (case k3 => k_is)
    (case a4 => k_is)
    (case l4 => k_is)
    (case c4 => k_is)
    (case k4 => k_is)
    (case a5 => k_is)
    (case l5 => k_is)
    (case c5 => k_is)
    (case k5 => k_is)
    (case a6 => k_is)
    (case l6 => k_is)
    (case c6 => k_is)
    (case k6 => k_is)
    (case a7 => k_is)
    (case l7 => k_is)
    (case c7 => k_is)
    (case k7 => k_is)
    (case a8 => k_is)
    (case l8 => k_is)
    (case c8 => k_is)
    (case k8 => k_is)
    (case a9 => k_is)
    (case l9 => k_is)
    (case c9 => k_is)
    (case k9 => k_is)
    (case a10 => k_is)
    (case l10 => k_is)
    (case c10 => k_is)
    (case k10 => k_is)
    (case a11 => k_is)
    (case l11 => k_is)
    (case c11 => k_is)
    (case k11 => k_is)
    (case z_len => k_is)
    (case z_sum => k_is)
    (case z_range => k_is)
    (case z_list => k_is)
    (case z_enumerate => k_is)
    (case z_isinstance => k_is)
    (case z_int => k_is)
    (case z_bool => k_is)
    (case z_all => k_is)
    (case z_any => k_is)
    (case z_max => k_is)
    (case z_min => k_is)
    (case z_sorted => k_is)
    (case z_set => k_is)
    (case z_reversed => k_is)
    (case z_tuple => k_is)
