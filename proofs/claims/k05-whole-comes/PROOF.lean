import PyProof.Rows.All
import Wide.All
import OpenK.AllK
import Wide.FinOn
import HandS.ForMost
import HandS.Evl
import HandS.IsInst
import HandS.SortInts
import HandS.Zip
import HandS.Style
import HandS.More
import PySem.Challenge.RW_leadson_k05_whole_comes
set_option Elab.async false
set_option linter.all false
set_option maxRecDepth 100000
set_option maxHeartbeats 4000000
/-! Ma: leadings as lists of numbers: a step, many steps, done so often. Plain Lean. -/
namespace Ld
/-- one step -/
def st (L : List Nat) (p : Nat) : Nat := L.getD p 0
/-- so many steps -/
def it (L : List Nat) : Nat → Nat → Nat
  | 0, p => p
  | k + 1, p => it L k (st L p)
def Lead (L : List Nat) : Prop := ∀ x ∈ L, x < L.length
/-- done so often -/
def tm (L : List Nat) (k : Nat) : List Nat := (List.range L.length).map fun p => it L k p

theorem st_get {L : List Nat} {p : Nat} (h : p < L.length) : L[p]? = some (st L p) := by
  unfold st
  rw [List.getD_eq_getElem?_getD, List.getElem?_eq_getElem h]
  rfl
theorem st_eq {L : List Nat} {p : Nat} (h : p < L.length) : st L p = L[p] := by
  have e := st_get h
  rw [List.getElem?_eq_getElem h] at e
  exact (Option.some.inj e).symm
theorem st_mem {L : List Nat} {p : Nat} (h : p < L.length) : st L p ∈ L := by
  rw [st_eq h]
  exact List.getElem_mem h
theorem st_lt {L : List Nat} {p : Nat} (hL : Lead L) (h : p < L.length) : st L p < L.length := hL _ (st_mem h)
theorem it_lt {L : List Nat} (hL : Lead L) : ∀ (k : Nat) {p : Nat}, p < L.length → it L k p < L.length
  | 0, _, h => h
  | k + 1, _, h => it_lt hL k (st_lt hL h)
theorem it_add (L : List Nat) : ∀ (a b p : Nat), it L (a + b) p = it L b (it L a p)
  | 0, b, p => by rw [Nat.zero_add]; rfl
  | a + 1, b, p => by
    rw [show a + 1 + b = (a + b) + 1 by omega]
    show it L (a + b) (st L p) = it L b (it L a (st L p))
    exact it_add L a b _
theorem it_succ (L : List Nat) (k p : Nat) : it L (k + 1) p = st L (it L k p) := it_add L k 1 p
theorem tm_length (L : List Nat) (k : Nat) : (tm L k).length = L.length := by
  unfold tm
  rw [List.length_map, List.length_range]
theorem tm_get {L : List Nat} {k p : Nat} (h : p < L.length) : (tm L k)[p]? = some (it L k p) := by
  unfold tm
  rw [List.getElem?_map, List.getElem?_range h]
  rfl
theorem st_tm {L : List Nat} {k p : Nat} (h : p < L.length) : st (tm L k) p = it L k p := by
  have e := st_get (L := tm L k) (p := p) (by rw [tm_length]; exact h)
  rw [tm_get h] at e
  exact (Option.some.inj e).symm
theorem lead_tm {L : List Nat} (hL : Lead L) (k : Nat) : Lead (tm L k) := fun x hx => by
  rw [tm_length]
  unfold tm at hx
  obtain ⟨p, hp, rfl⟩ := List.mem_map.mp hx
  exact it_lt hL k (List.mem_range.mp hp)
theorem tm_zero (L : List Nat) : tm L 0 = List.range L.length := by
  unfold tm
  show List.map (fun p => p) _ = _
  rw [List.map_id']
theorem tm_one (L : List Nat) : tm L 1 = L := by
  refine List.ext_getElem? fun i => ?_
  by_cases h : i < L.length
  · rw [tm_get h, st_get h]
    rfl
  · rw [List.getElem?_eq_none (by rw [tm_length]; omega), List.getElem?_eq_none (by omega)]
/-- the one, then the other -/
theorem tm_then {L : List Nat} (hL : Lead L) (a b : Nat) : (tm L a).map (fun x => st (tm L b) x) = tm L (a + b) := by
  unfold tm
  rw [List.map_map]
  refine List.map_congr_left fun p hp => ?_
  have hp' := List.mem_range.mp hp
  show st (tm L b) (it L a p) = it L (a + b) p
  rw [st_tm (it_lt hL a hp'), it_add]
theorem it_tm {L : List Nat} (hL : Lead L) (a : Nat) : ∀ (b : Nat) {p : Nat}, p < L.length → it (tm L a) b p = it L (a * b) p
  | 0, _, _ => rfl
  | b + 1, p, h => by
    show it (tm L a) b (st (tm L a) p) = _
    rw [st_tm h, it_tm hL a b (it_lt hL a h), ← it_add, Nat.mul_succ, Nat.add_comm]
theorem tm_tm {L : List Nat} (hL : Lead L) (a b : Nat) : tm (tm L a) b = tm L (a * b) := by
  refine List.ext_getElem? fun i => ?_
  by_cases h : i < L.length
  · rw [tm_get (by rw [tm_length]; exact h), tm_get h, it_tm hL a b h]
  · rw [List.getElem?_eq_none (by rw [tm_length, tm_length]; omega), List.getElem?_eq_none (by rw [tm_length]; omega)]

/-! ### no more than n different numbers below n -/
theorem nodup_erase_len {n : Nat} : ∀ {l : List Nat}, l.Nodup → (∀ x ∈ l, x < n) → l.length ≤ n := by
  induction n with
  | zero =>
    intro l _ h
    cases l with
    | nil => exact Nat.le_refl 0
    | cons x r => exact absurd (h x (List.mem_cons_self ..)) (Nat.not_lt_zero x)
  | succ n ih =>
    intro l nd h
    have h1 : (l.erase n).length ≤ n := ih (nd.erase n) fun x hx => by
      have h2 := h x (List.mem_of_mem_erase hx)
      have h3 : x ≠ n := fun e => by
        subst e
        exact (nd.not_mem_erase) hx
      omega
    have h4 : l.length ≤ (l.erase n).length + 1 := by
      by_cases hm : n ∈ l
      · rw [List.length_erase_of_mem hm]
        omega
      · rw [List.erase_of_not_mem hm]
        omega
    omega
theorem nodup_len {n : Nat} {l : List Nat} (nd : l.Nodup) (h : ∀ x ∈ l, x < n) : l.length ≤ n := nodup_erase_len nd h
/-- injective by numbers: a list by a function -/
theorem nodup_of_inj {m : Nat} {f : Nat → Nat} (h : ∀ i j, i < j → j < m → f i ≠ f j) : ((List.range m).map f).Nodup := by
  rw [List.Nodup, List.pairwise_map]
  refine List.Pairwise.imp_of_mem (fun {a b} ha hb hab => ?_) List.pairwise_lt_range
  exact h a b hab (List.mem_range.mp hb)
theorem inj_of_nodup {m : Nat} {f : Nat → Nat} (h : ((List.range m).map f).Nodup) {i j : Nat} (hi : i < m) (hj : j < m) (e : f i = f j) : i = j := by
  have h1 : ((List.range m).map f)[i]? = some (f i) := by rw [List.getElem?_map, List.getElem?_range hi]; rfl
  have h2 : ((List.range m).map f)[j]? = some (f j) := by rw [List.getElem?_map, List.getElem?_range hj]; rfl
  obtain ⟨l1, e1⟩ := List.getElem?_eq_some_iff.mp h1
  obtain ⟨l2, e2⟩ := List.getElem?_eq_some_iff.mp h2
  exact (List.getElem_inj h).mp (e1.trans (e.trans e2.symm))

/-! ### once round: behind a first meeting all comes again -/
theorem it_period {L : List Nat} {p a d : Nat} (h : it L (a + d) p = it L a p) : ∀ k, it L (a + k * d) p = it L a p
  | 0 => by rw [Nat.zero_mul]; rfl
  | k + 1 => by
    rw [Nat.succ_mul, ← Nat.add_assoc, Nat.add_right_comm, it_add, h, ← it_add]
    exact it_period h k
theorem it_round {L : List Nat} {p a d : Nat} (h : it L (a + d) p = it L a p) (r : Nat) : it L (a + d + r % d) p = it L (a + d + r) p := by
  have e1 : r % d + d * (r / d) = r := Nat.mod_add_div r d
  have e2 : it L (a + d + r) p = it L (r % d) (it L (a + (1 + r / d) * d) p) := by
    rw [← it_add]
    congr 1
    rw [Nat.add_mul, Nat.one_mul, Nat.mul_comm (r / d) d]
    omega
  rw [e2, it_period h, it_add, h]
end Ld
/-! Mb: leadings that can be taken back: no place twice. Plain Lean. -/
namespace Ld
def Inj (L : List Nat) : Prop := ∀ a b, a < L.length → b < L.length → st L a = st L b → a = b
theorem inj_of {L : List Nat} (h : L.Nodup) : Inj L := fun a b ha hb e => by
  rw [st_eq ha, st_eq hb] at e
  exact (List.getElem_inj h).mp e
theorem nodup_of {L : List Nat} (h : Inj L) : L.Nodup := by
  rw [List.Nodup, List.pairwise_iff_getElem]
  intro i j hi hj hij e
  have := h i j hi hj (by rw [st_eq hi, st_eq hj]; exact e)
  omega
theorem surj {L : List Nat} (hL : Lead L) (nd : L.Nodup) {q : Nat} (hq : q < L.length) : q ∈ L := by
  refine Classical.byContradiction fun h => ?_
  have h1 := nodup_len (n := L.length) (l := q :: L) (List.nodup_cons.mpr ⟨h, nd⟩) fun x hx => by
    rcases List.mem_cons.mp hx with rfl | hx
    · exact hq
    · exact hL x hx
  rw [List.length_cons] at h1
  omega
theorem st_set {L : List Nat} {j x p : Nat} (hj : j < L.length) : st (L.set j x) p = if p = j then x else st L p := by
  unfold st
  rw [List.getD_eq_getElem?_getD, List.getD_eq_getElem?_getD, List.getElem?_set]
  by_cases e : p = j
  · subst e
    rw [if_pos rfl, if_pos hj, if_pos rfl]
    rfl
  · rw [if_neg fun q => e q.symm, if_neg e]
theorem set_self {L : List Nat} {j : Nat} (hj : j < L.length) : L.set j (st L j) = L := by
  refine List.ext_getElem? fun i => ?_
  rw [List.getElem?_set]
  by_cases e : j = i
  · subst e
    rw [if_pos rfl, if_pos hj, st_get hj]
  · rw [if_neg e]
/-- two places exchanged -/
theorem swap_inj {L : List Nat} (h : Inj L) {i j : Nat} (hi : i < L.length) (hj : j < L.length) : Inj ((L.set i (st L j)).set j (st L i)) := by
  have hs : ∀ p, st ((L.set i (st L j)).set j (st L i)) p = st L (if p = j then i else if p = i then j else p) := fun p => by
    rw [st_set (by rw [List.length_set]; exact hj)]
    by_cases e : p = j
    · rw [if_pos e, if_pos e]
    · rw [if_neg e, if_neg e, st_set hi]
      by_cases e2 : p = i
      · rw [if_pos e2, if_pos e2]
      · rw [if_neg e2, if_neg e2]
  intro a b ha hb e
  rw [List.length_set, List.length_set] at ha hb
  rw [hs, hs] at e
  have h1 := h _ _ (by split <;> (try split) <;> omega) (by split <;> (try split) <;> omega) e
  split at h1 <;> split at h1 <;> (try split at h1) <;> (try split at h1) <;> omega
/-! ### taken back -/
def inv (L : List Nat) : List Nat := (List.range L.length).map fun q => L.idxOf q
theorem inv_len (L : List Nat) : (inv L).length = L.length := by
  unfold inv
  rw [List.length_map, List.length_range]
theorem inv_st {L : List Nat} {q : Nat} (hq : q < L.length) : st (inv L) q = L.idxOf q := by
  have h := st_get (L := inv L) (p := q) (by rw [inv_len]; exact hq)
  unfold inv at h
  rw [List.getElem?_map, List.getElem?_range hq] at h
  exact (Option.some.inj h).symm
theorem idx_st {L : List Nat} (nd : L.Nodup) {p : Nat} (hp : p < L.length) : L.idxOf (st L p) = p := by
  rw [st_eq hp]
  exact nd.idxOf_getElem p hp
theorem st_idx {L : List Nat} {q : Nat} (h : q ∈ L) : st L (L.idxOf q) = q := by
  have h1 : L.idxOf q < L.length := List.idxOf_lt_length_iff.mpr h
  rw [st_eq h1]
  exact List.getElem_idxOf h1
theorem inv_back {L : List Nat} (hL : Lead L) (nd : L.Nodup) {p : Nat} (hp : p < L.length) : st (inv L) (st L p) = p := by
  rw [inv_st (st_lt hL hp), idx_st nd hp]
theorem inv_fwd {L : List Nat} (hL : Lead L) (nd : L.Nodup) {q : Nat} (hq : q < L.length) : st L (st (inv L) q) = q := by
  rw [inv_st hq, st_idx (surj hL nd hq)]
theorem inv_lead {L : List Nat} (hL : Lead L) (nd : L.Nodup) : Lead (inv L) := fun x hx => by
  rw [inv_len]
  unfold inv at hx
  obtain ⟨q, hq, rfl⟩ := List.mem_map.mp hx
  exact List.idxOf_lt_length_iff.mpr (surj hL nd (List.mem_range.mp hq))
theorem inv_nodup {L : List Nat} (hL : Lead L) (nd : L.Nodup) : (inv L).Nodup := by
  refine nodup_of fun a b ha hb e => ?_
  rw [inv_len] at ha hb
  have h1 := inv_fwd hL nd ha
  rw [e, inv_fwd hL nd hb] at h1
  exact h1.symm
theorem ext_st {A B : List Nat} (hl : A.length = B.length) (h : ∀ p, p < A.length → st A p = st B p) : A = B := by
  refine List.ext_getElem? fun i => ?_
  by_cases hi : i < A.length
  · rw [st_get hi, st_get (by omega), h i hi]
  · rw [List.getElem?_eq_none (by omega), List.getElem?_eq_none (by omega)]
theorem inv_inv {L : List Nat} (hL : Lead L) (nd : L.Nodup) : inv (inv L) = L := by
  refine ext_st (by rw [inv_len, inv_len]) fun p hp => ?_
  rw [inv_len, inv_len] at hp
  have h1 := inv_back (inv_lead hL nd) (inv_nodup hL nd) (p := st L p) (by rw [inv_len]; exact st_lt hL hp)
  rw [inv_back hL nd hp] at h1
  exact h1
theorem st_map {A : List Nat} {f : Nat → Nat} {p : Nat} (hp : p < A.length) : st (A.map f) p = f (st A p) := by
  have h := st_get (L := A.map f) (p := p) (by rw [List.length_map]; exact hp)
  rw [List.getElem?_map, st_get hp] at h
  exact (Option.some.inj h).symm
theorem st_range {n p : Nat} (hp : p < n) : st (List.range n) p = p := by
  have h := st_get (L := List.range n) (p := p) (by rw [List.length_range]; exact hp)
  rw [List.getElem?_range hp] at h
  exact (Option.some.inj h).symm
/-- the one, then the other -/
theorem inv_then {L : List Nat} (hL : Lead L) (nd : L.Nodup) : L.map (st (inv L)) = List.range L.length := by
  refine ext_st (by rw [List.length_map, List.length_range]) fun p hp => ?_
  rw [List.length_map] at hp
  rw [st_map hp, inv_back hL nd hp, st_range hp]
theorem then_inv {L : List Nat} (hL : Lead L) (nd : L.Nodup) : (inv L).map (st L) = List.range L.length := by
  refine ext_st (by rw [List.length_map, List.length_range, inv_len]) fun p hp => ?_
  rw [List.length_map, inv_len] at hp
  rw [st_map (by rw [inv_len]; exact hp), inv_fwd hL nd hp, st_range hp]
/-- all places of a leading that can be taken back, in turn -/
theorem perm_range {L : List Nat} (hL : Lead L) (nd : L.Nodup) : L.Perm (List.range L.length) := by
  refine (List.perm_ext_iff_of_nodup nd List.nodup_range).mpr fun a => ⟨fun h => List.mem_range.mpr (hL a h), fun h => surj hL nd (List.mem_range.mp h)⟩
theorem range_sorted (n : Nat) : ((List.range n).map fun (x : Nat) => (x : Int)).Pairwise (· ≤ ·) := by
  rw [List.pairwise_map]
  exact List.Pairwise.imp (fun {a b} h => by omega) List.pairwise_lt_range
theorem sorted_is {A B : List Int} (h : A.Perm B) (ha : A.Pairwise (· ≤ ·)) (hb : B.Pairwise (· ≤ ·)) : A = B :=
  List.Perm.eq_of_pairwise (fun _ _ _ _ h1 h2 => Int.le_antisymm h1 h2) ha hb h
theorem sorted_range {L : List Nat} (hL : Lead L) (nd : L.Nodup) {A : List Int} (h : A.Perm (L.map fun (x : Nat) => (x : Int))) (ha : A.Pairwise (· ≤ ·)) : A = (List.range L.length).map fun (x : Nat) => (x : Int) :=
  sorted_is (h.trans ((perm_range hL nd).map _)) ha (range_sorted _)
/-! ### a walk that writes the places of a leading where they lead from -/
def back (L : List Nat) (k : Nat) : List Nat := (List.range L.length).map fun q => if L.idxOf q < k then L.idxOf q else 0
theorem back_len (L : List Nat) (k : Nat) : (back L k).length = L.length := by
  unfold back
  rw [List.length_map, List.length_range]
theorem back_st {L : List Nat} {k q : Nat} (hq : q < L.length) : st (back L k) q = if L.idxOf q < k then L.idxOf q else 0 := by
  unfold back
  rw [st_map (by rw [List.length_range]; exact hq), st_range hq]
theorem back_zero (L : List Nat) : back L 0 = List.replicate L.length 0 := by
  unfold back
  rw [List.map_congr_left (g := fun _ => 0) fun q _ => if_neg (Nat.not_lt_zero _), List.map_const', List.length_range]
theorem back_step {L : List Nat} (hL : Lead L) (nd : L.Nodup) {k : Nat} (hk : k < L.length) : (back L k).set (st L k) k = back L (k + 1) := by
  have h1 := st_lt hL hk
  refine ext_st (by rw [List.length_set, back_len, back_len]) fun q hq => ?_
  rw [List.length_set, back_len] at hq
  rw [st_set (by rw [back_len]; exact h1), back_st hq, back_st hq]
  have hm := surj hL nd hq
  by_cases e : q = st L k
  · subst e
    rw [if_pos rfl, idx_st nd hk, if_pos (by omega)]
  · rw [if_neg e]
    have h2 : L.idxOf q ≠ k := fun e2 => by
      have h3 := st_idx hm
      rw [e2] at h3
      exact e h3.symm
    by_cases h4 : L.idxOf q < k
    · rw [if_pos h4, if_pos (by omega)]
    · rw [if_neg h4, if_neg (by omega)]
theorem back_all {L : List Nat} (hL : Lead L) (nd : L.Nodup) : back L L.length = inv L := by
  unfold back inv
  refine List.map_congr_left fun q hq => ?_
  rw [if_pos (List.idxOf_lt_length_iff.mpr (surj hL nd (List.mem_range.mp hq)))]
/-! ### many alike rings -/
def rot (w p : Nat) : Nat := p / w * w + (p % w + 1) % w
theorem rot_div {w p : Nat} (hw : 0 < w) : rot w p / w = p / w := by
  unfold rot
  have h1 := Nat.mod_lt (p % w + 1) hw
  rw [Nat.mul_comm, Nat.mul_add_div hw, Nat.div_eq_of_lt h1, Nat.add_zero]
theorem rot_mod {w p : Nat} (hw : 0 < w) : rot w p % w = (p % w + 1) % w := by
  unfold rot
  rw [Nat.mul_comm, Nat.mul_add_mod, Nat.mod_mod]
theorem succ_mod_inj {w a b : Nat} (ha : a < w) (hb : b < w) (e : (a + 1) % w = (b + 1) % w) : a = b := by
  by_cases h1 : a + 1 = w
  · by_cases h2 : b + 1 = w
    · omega
    · rw [h1, Nat.mod_self, Nat.mod_eq_of_lt (show b + 1 < w by omega)] at e
      omega
  · rw [Nat.mod_eq_of_lt (show a + 1 < w by omega)] at e
    by_cases h2 : b + 1 = w
    · rw [h2, Nat.mod_self] at e
      omega
    · rw [Nat.mod_eq_of_lt (show b + 1 < w by omega)] at e
      omega
theorem rot_inj {w p q : Nat} (hw : 0 < w) (e : rot w p = rot w q) : p = q := by
  have h1 := rot_div (p := p) hw
  have h2 := rot_div (p := q) hw
  have h3 := rot_mod (p := p) hw
  have h4 := rot_mod (p := q) hw
  rw [e] at h1 h3
  have h5 := succ_mod_inj (Nat.mod_lt p hw) (Nat.mod_lt q hw) (h3.symm.trans h4)
  have h6 := Nat.div_add_mod p w
  have h7 := Nat.div_add_mod q w
  rw [← h1, h2, h5] at h6
  omega
theorem rot_lt {w J p : Nat} (hw : 0 < w) (h : p < J * w) : rot w p < J * w := by
  have h1 : rot w p / w < J := by
    rw [rot_div hw]
    exact Nat.div_lt_of_lt_mul (by rw [Nat.mul_comm]; exact h)
  have h2 := (Nat.div_lt_iff_lt_mul hw).mp h1
  exact h2
theorem rot_at {w j i : Nat} (hi : i < w) : rot w (j * w + i) = j * w + (i + 1) % w := by
  have hw : 0 < w := by omega
  unfold rot
  rw [Nat.mul_comm j w, Nat.mul_add_div hw, Nat.div_eq_of_lt hi, Nat.add_zero, Nat.mul_add_mod, Nat.mod_eq_of_lt hi, Nat.mul_comm j w]
def blk (n w k : Nat) : List Nat := (List.range n).map fun p => if p < k then rot w p else p
theorem blk_len (n w k : Nat) : (blk n w k).length = n := by
  unfold blk
  rw [List.length_map, List.length_range]
theorem blk_st {n w k p : Nat} (hp : p < n) : st (blk n w k) p = if p < k then rot w p else p := by
  unfold blk
  rw [st_map (by rw [List.length_range]; exact hp), st_range hp]
theorem blk_zero (n w : Nat) : blk n w 0 = List.range n := by
  unfold blk
  rw [List.map_congr_left (g := fun p => p) fun p _ => if_neg (Nat.not_lt_zero p), List.map_id']
theorem blk_step {n w k : Nat} (hk : k < n) : (blk n w k).set k (rot w k) = blk n w (k + 1) := by
  refine ext_st (by rw [List.length_set, blk_len, blk_len]) fun q hq => ?_
  rw [List.length_set, blk_len] at hq
  rw [st_set (by rw [blk_len]; exact hk), blk_st hq, blk_st hq]
  by_cases e : q = k
  · subst e
    rw [if_pos rfl, if_pos (by omega)]
  · rw [if_neg e]
    by_cases h : q < k
    · rw [if_pos h, if_pos (by omega)]
    · rw [if_neg h, if_neg (by omega)]
theorem blk_lead {n w J : Nat} (hw : 0 < w) (hJ : J * w ≤ n) : Lead (blk n w (J * w)) := fun x hx => by
  rw [blk_len]
  unfold blk at hx
  obtain ⟨p, hp, rfl⟩ := List.mem_map.mp hx
  have hp := List.mem_range.mp hp
  split
  · rename_i h
    have := rot_lt hw h
    omega
  · exact hp
theorem blk_inj {n w J : Nat} (hw : 0 < w) : Inj (blk n w (J * w)) := fun a b ha hb e => by
  rw [blk_len] at ha hb
  rw [blk_st ha, blk_st hb] at e
  split at e <;> split at e
  · exact rot_inj hw e
  · rename_i h1 h2
    have := rot_lt hw h1
    omega
  · rename_i h1 h2
    have := rot_lt hw h2
    omega
  · exact e
end Ld
/-! Mc: the way from a place, sorted lists of places. Plain Lean. -/
namespace Ld
/-- the first m places of the way from p -/
def path (L : List Nat) (p m : Nat) : List Nat := (List.range m).map fun k => it L k p
/-- m: all places that are come to from p -/
structure Orb (L : List Nat) (p m : Nat) : Prop where
  pos : 0 < m
  inj : ∀ i j, i < j → j < m → it L i p ≠ it L j p
  back : ∃ i, i < m ∧ it L m p = it L i p
theorem path_len (L : List Nat) (p m : Nat) : (path L p m).length = m := by
  unfold path
  rw [List.length_map, List.length_range]
theorem mem_path {L : List Nat} {p m x : Nat} : x ∈ path L p m ↔ ∃ i, i < m ∧ x = it L i p := by
  unfold path
  rw [List.mem_map]
  exact ⟨fun ⟨i, h1, h2⟩ => ⟨i, List.mem_range.mp h1, h2.symm⟩, fun ⟨i, h1, h2⟩ => ⟨i, List.mem_range.mpr h1, h2.symm⟩⟩
theorem path_succ (L : List Nat) (p m : Nat) : path L p (m + 1) = path L p m ++ [it L m p] := by
  unfold path
  rw [List.range_succ, List.map_append]
  rfl
theorem path_get {L : List Nat} {p m i : Nat} (h : i < m) : (path L p m)[i]? = some (it L i p) := by
  unfold path
  rw [List.getElem?_map, List.getElem?_range h]
  rfl
theorem path_lt {L : List Nat} (hL : Lead L) {p : Nat} (hp : p < L.length) (m : Nat) {x : Nat} (h : x ∈ path L p m) : x < L.length := by
  obtain ⟨i, _, rfl⟩ := mem_path.mp h
  exact it_lt hL i hp
theorem Orb.mem {L : List Nat} {p m : Nat} (h : Orb L p m) : p ∈ path L p m := mem_path.mpr ⟨0, h.pos, rfl⟩
theorem Orb.shut {L : List Nat} {p m x : Nat} (h : Orb L p m) (hx : x ∈ path L p m) : st L x ∈ path L p m := by
  obtain ⟨i, hi, rfl⟩ := mem_path.mp hx
  rw [← it_succ]
  by_cases e : i + 1 = m
  · obtain ⟨j, hj, ej⟩ := h.back
    rw [e, ej]
    exact mem_path.mpr ⟨j, hj, rfl⟩
  · exact mem_path.mpr ⟨i + 1, by omega, rfl⟩
theorem Orb.nodup {L : List Nat} {p m : Nat} (h : Orb L p m) : (path L p m).Nodup := nodup_of_inj h.inj
theorem Orb.le {L : List Nat} (hL : Lead L) {p m : Nat} (hp : p < L.length) (h : Orb L p m) : m ≤ L.length := by
  have h1 := nodup_len h.nodup fun x hx => path_lt hL hp m hx
  rw [path_len] at h1
  exact h1
theorem inj_le {L : List Nat} (hL : Lead L) {p m : Nat} (hp : p < L.length) (h : ∀ i j, i < j → j < m → it L i p ≠ it L j p) : m ≤ L.length := by
  have h1 := nodup_len (nodup_of_inj h) (n := L.length) fun x hx => by
    obtain ⟨i, _, rfl⟩ := List.mem_map.mp hx
    exact it_lt hL i hp
  rw [List.length_map, List.length_range] at h1
  exact h1
/-- all that is come to -/
theorem Orb.all {L : List Nat} {p m : Nat} (h : Orb L p m) : ∀ k, it L k p ∈ path L p m
  | 0 => h.mem
  | k + 1 => by
    rw [it_succ]
    exact h.shut (h.all k)
theorem path_idx {L : List Nat} {p m x : Nat} (h : x ∈ path L p m) : it L ((path L p m).idxOf x) p = x := by
  have h1 : (path L p m).idxOf x < (path L p m).length := List.idxOf_lt_length_iff.mpr h
  have h2 := st_idx h
  rw [path_len] at h1
  have h3 := path_get (L := L) (p := p) h1
  rw [st_get (by rw [path_len]; exact h1), h2] at h3
  exact (Option.some.inj h3).symm
theorem Orb.uniq {L : List Nat} {p m n : Nat} (hm : Orb L p m) (hn : Orb L p n) : m = n := by
  obtain ⟨i, hi, e⟩ := hm.back
  obtain ⟨j, hj, e2⟩ := hn.back
  by_cases h : m < n
  · exact absurd e.symm (hn.inj i m hi h)
  · by_cases h2 : n < m
    · exact absurd e2.symm (hm.inj j n hj h2)
    · omega
theorem orb_ex {L : List Nat} (hL : Lead L) {p : Nat} (hp : p < L.length) : ∃ m, Orb L p m := by
  have h : ∀ k, (∀ i j, i < j → j < k → it L i p ≠ it L j p) ∨ ∃ m, Orb L p m := fun k => by
    induction k with
    | zero => exact .inl fun i j _ h => absurd h (Nat.not_lt_zero j)
    | succ k ih =>
      rcases ih with ih | ih
      · by_cases hb : ∃ i, i < k ∧ it L k p = it L i p
        · obtain ⟨i, hi, e⟩ := hb
          exact .inr ⟨k, by omega, ih, i, hi, e⟩
        · refine .inl fun i j hij hj e => ?_
          by_cases ej : j = k
          · subst ej
            exact hb ⟨i, hij, e.symm⟩
          · exact ih i j hij (by omega) e
      · exact .inr ih
  rcases h (L.length + 1) with h | h
  · have := inj_le hL hp h
    omega
  · exact h
/-! ### rising -/
def srt (L : List Nat) : List Nat := L.mergeSort fun a b => decide (a ≤ b)
theorem srt_perm (L : List Nat) : (srt L).Perm L := List.mergeSort_perm L _
theorem srt_le (L : List Nat) : (srt L).Pairwise (· ≤ ·) := by
  have h := List.pairwise_mergeSort (le := fun (a b : Nat) => decide (a ≤ b)) (fun a b c h1 h2 => by
    rw [decide_eq_true_eq] at h1 h2 ⊢
    omega) (fun a b => by
    rw [Bool.or_eq_true, decide_eq_true_eq, decide_eq_true_eq]
    omega) L
  exact h.imp fun h => of_decide_eq_true h
theorem srt_cast (L : List Nat) : ((srt L).map fun (x : Nat) => (x : Int)).Pairwise (· ≤ ·) := by
  rw [List.pairwise_map]
  exact (srt_le L).imp fun h => by omega
theorem mem_srt {L : List Nat} {x : Nat} : x ∈ srt L ↔ x ∈ L := (srt_perm L).mem_iff
theorem srt_len (L : List Nat) : (srt L).length = L.length := (srt_perm L).length_eq
/-! ### what the answers' own word asks -/
def shutB (L : List Nat) (p q : Nat) (ps : List Int) : Bool := (decide ((p : Int) ∈ ps) && !decide ((q : Int) ∈ ps)) && ps.all fun x => (decide (0 ≤ x) && decide (x < (L.length : Int))) && decide ((st L x.toNat : Int) ∈ ps)
theorem shutB_nat {L : List Nat} {p q : Nat} {ps : List Nat} (h1 : p ∈ ps) (h2 : q ∉ ps) (h3 : ∀ y ∈ ps, y < L.length ∧ st L y ∈ ps) : shutB L p q (ps.map fun (x : Nat) => (x : Int)) = true := by
  have hm : ∀ i : Nat, (i : Int) ∈ ps.map (fun (x : Nat) => (x : Int)) ↔ i ∈ ps := fun i => by
    rw [List.mem_map]
    refine ⟨fun ⟨j, h1, h2⟩ => ?_, fun h => ⟨i, h, rfl⟩⟩
    have : j = i := by omega
    rw [← this]
    exact h1
  unfold shutB
  rw [decide_eq_true ((hm p).mpr h1), decide_eq_false fun h => h2 ((hm q).mp h), List.all_map]
  show (ps.all _) = true
  refine List.all_eq_true.mpr fun y hy => ?_
  obtain ⟨h4, h5⟩ := h3 y hy
  show ((decide (0 ≤ (y : Int)) && decide ((y : Int) < (L.length : Int))) && decide ((st L (y : Int).toNat : Int) ∈ _)) = true
  rw [decide_eq_true (by omega), decide_eq_true (by omega), Int.toNat_natCast, decide_eq_true ((hm _).mpr h5)]
  rfl
theorem shutB_no {L : List Nat} {p q : Nat} {ps : List Int} (h : (q : Int) ∈ ps) : shutB L p q ps = false := by
  unfold shutB
  rw [decide_eq_true h, Bool.not_true, Bool.and_false, Bool.false_and]
end Ld
/-! Md: ways that meet. Plain Lean. -/
namespace Ld
/-- their ways come to one place -/
def Meets (L : List Nat) (x p : Nat) : Prop := ∃ i j, it L i x = it L j p
theorem meets_self (L : List Nat) (p : Nat) : Meets L p p := ⟨0, 0, rfl⟩
theorem meets_st {L : List Nat} {x p : Nat} : Meets L (st L x) p ↔ Meets L x p := by
  refine ⟨fun ⟨i, j, h⟩ => ⟨i + 1, j, h⟩, fun ⟨i, j, h⟩ => ?_⟩
  cases i with
  | zero => exact ⟨0, j + 1, by rw [it_succ, ← h]; rfl⟩
  | succ i => exact ⟨i, j, h⟩
theorem meets_it {L : List Nat} {x p : Nat} : ∀ k, Meets L (it L k x) p ↔ Meets L x p
  | 0 => Iff.rfl
  | k + 1 => by
    rw [it_succ, meets_st]
    exact meets_it k
theorem path_meets {L : List Nat} {p m x : Nat} (h : x ∈ path L p m) : Meets L x p := by
  obtain ⟨i, _, rfl⟩ := mem_path.mp h
  exact ⟨0, i, rfl⟩
theorem meets_comm {L : List Nat} {x p : Nat} (h : Meets L x p) : Meets L p x := by
  obtain ⟨i, j, h⟩ := h
  exact ⟨j, i, h.symm⟩
/-- where two ways don't meet within their places they never do -/
theorem no_meet {L : List Nat} {p q m n : Nat} (hp : Orb L p m) (hq : Orb L q n) (h : ∀ x ∈ path L q n, x ∉ path L p m) : ¬ Meets L q p := fun ⟨i, j, e⟩ => h _ (hq.all i) (by
  rw [e]
  exact hp.all j)
/-! ### a dict's keys, as they are put in -/
def addK (ks : List Nat) (k : Nat) : List Nat := if k ∈ ks then ks else ks ++ [k]
theorem mem_addK {ks : List Nat} {k x : Nat} : x ∈ addK ks k ↔ x ∈ ks ∨ x = k := by
  unfold addK
  split
  · rename_i h
    exact ⟨.inl, fun h2 => h2.elim id fun e => by rw [e]; exact h⟩
  · rw [List.mem_append, List.mem_singleton]
theorem nodup_addK {ks : List Nat} {k : Nat} (h : ks.Nodup) : (addK ks k).Nodup := by
  unfold addK
  split
  · exact h
  · rename_i hk
    rw [List.nodup_append]
    exact ⟨h, List.nodup_cons.mpr ⟨List.not_mem_nil, List.nodup_nil⟩, fun a ha b hb e => by
      rw [List.mem_singleton] at hb
      subst hb
      subst e
      exact hk ha⟩
theorem addK_new {ks : List Nat} {k : Nat} (h : k ∉ ks) : addK ks k = ks ++ [k] := if_neg h
theorem addK_len (ks : List Nat) (k : Nat) : (addK ks k).length ≤ ks.length + 1 := by
  unfold addK
  split
  · omega
  · rw [List.length_append]
    exact Nat.le_refl _
/-! ### what Apart's own word asks -/
def apartB (L : List Nat) (p q : Nat) (ps : List Int) : Bool := ((decide ((p : Int) ∈ ps) && !decide ((q : Int) ∈ ps)) && ps.all fun x => decide (0 ≤ x) && decide (x < (L.length : Int))) &&
  (List.range L.length).all fun k => decide (decide ((k : Int) ∈ ps) = decide ((st L k : Int) ∈ ps))
theorem mem_castN {ps : List Nat} (i : Nat) : (i : Int) ∈ ps.map (fun (x : Nat) => (x : Int)) ↔ i ∈ ps := by
  rw [List.mem_map]
  refine ⟨fun ⟨j, h1, h2⟩ => ?_, fun h => ⟨i, h, rfl⟩⟩
  have : j = i := by omega
  rw [← this]
  exact h1
theorem apartB_nat {L : List Nat} {p q : Nat} {ps : List Nat} (h1 : p ∈ ps) (h2 : q ∉ ps) (h3 : ∀ y ∈ ps, y < L.length) (h4 : ∀ y, y < L.length → (y ∈ ps ↔ st L y ∈ ps)) : apartB L p q (ps.map fun (x : Nat) => (x : Int)) = true := by
  unfold apartB
  rw [decide_eq_true ((mem_castN p).mpr h1), decide_eq_false fun h => h2 ((mem_castN q).mp h)]
  rw [show (ps.map fun (x : Nat) => (x : Int)).all (fun x => decide (0 ≤ x) && decide (x < (L.length : Int))) = true from List.all_eq_true.mpr fun x hx => by
    obtain ⟨y, hy, rfl⟩ := List.mem_map.mp hx
    have := h3 y hy
    rw [decide_eq_true (by omega), decide_eq_true (by omega)]
    rfl]
  show ((true && !false) && true && _) = true
  rw [Bool.not_false, Bool.and_self, Bool.and_self, Bool.true_and]
  refine List.all_eq_true.mpr fun k hk => ?_
  rw [decide_eq_true_eq]
  exact decide_eq_decide.mpr ((mem_castN k).trans ((h4 k (List.mem_range.mp hk)).trans (mem_castN _).symm))
theorem apartB_no {L : List Nat} {p q : Nat} {ps : List Int} (h : (q : Int) ∈ ps) : apartB L p q ps = false := by
  unfold apartB
  rw [decide_eq_true h, Bool.not_true, Bool.and_false, Bool.false_and, Bool.false_and]
end Ld
/-! Evx: what readings evaluate to: further rules over Evl. -/
namespace Ld
open PySem L2 Evl
/-! ### names of the built-ins -/
theorem bo_len : bootBuiltins "len" = some (.builtin "len") := by decide +kernel
theorem bo_sum : bootBuiltins "sum" = some (.builtin "sum") := by decide +kernel
theorem bo_all : bootBuiltins "all" = some (.builtin "all") := by decide +kernel
theorem bo_any : bootBuiltins "any" = some (.builtin "any") := by decide +kernel
theorem bo_max : bootBuiltins "max" = some (.builtin "max") := by decide +kernel
theorem bo_min : bootBuiltins "min" = some (.builtin "min") := by decide +kernel
theorem bo_sorted : bootBuiltins "sorted" = some (.builtin "sorted") := by decide +kernel
theorem bo_isinstance : bootBuiltins "isinstance" = some (.builtin "isinstance") := by decide +kernel
theorem bo_list : bootBuiltins "list" = some (.type "list") := by decide +kernel
theorem bo_int : bootBuiltins "int" = some (.type "int") := by decide +kernel
theorem bo_bool : bootBuiltins "bool" = some (.type "bool") := by decide +kernel
theorem bo_str : bootBuiltins "str" = some (.type "str") := by decide +kernel
theorem bo_tuple : bootBuiltins "tuple" = some (.type "tuple") := by decide +kernel
/-- no built-in that the texts call is another thing -/
structure Bl (mg : Str → Option Value) : Prop where
  len_ : mg "len" = none
  sum_ : mg "sum" = none
  range_ : mg "range" = none
  list_ : mg "list" = none
  enumerate_ : mg "enumerate" = none
  isinstance_ : mg "isinstance" = none
  int_ : mg "int" = none
  bool_ : mg "bool" = none
  all_ : mg "all" = none
  any_ : mg "any" = none
  max_ : mg "max" = none
  min_ : mg "min" = none
  sorted_ : mg "sorted" = none
  set_ : mg "set" = none
  reversed_ : mg "reversed" = none
  tuple_ : mg "tuple" = none

/-! ### a def that keeps its promise, wherever it stands -/
structure Dk (P : Program) (w : World) (K : PySem.W.Frag) (mg : Str → Option Value) (base : Heap) (CX : CXT) (k : Nat) (x : Str) (ps : List Str) (sp : Sp) : Prop where
  ex : ∃ (f : Addr) (fd : FuncData), FnOk P w K mg base CX k f fd ps sp ∧ mg x = some (.ref f) ∧ PySem.W.keepIn K (.ref f) = true ∧ Binds K fd ps []
theorem pe_callD {X : Cx} {CX : CXT} {k : Nat} {x : Str} {ps : List Str} {sp : Sp} {E : XK} {e : Expr} {es : List Expr} {t : TA} {p pos : Pos} (D : Dk X.prog X.w X.K X.mg X.base CX k x ps sp) (hr : Room k X.A) (hg : Gl X x) (hx : Passes CX X E)
    (ha : PA X (e :: es) t) (hdb : (x == ("__debug__" : Str)) = false := by decide) (he : starEach (e :: es) X.env = (false, eval e X.env) :: starEach es X.env := by rfl) (hpl : (backTo pos (starEach es X.env)).any (·.1) = false := by rfl) :
    PE X (.Call (.Name x p) (e :: es) [] pos) (tCall sp [] E t) := by
  obtain ⟨f, fd, F, m, kp, b⟩ := D.ex
  exact pe_call F hr hg m kp b .nil hx ha hdb he hpl

/-! ### rules with the written part named -/
section
variable {X : Cx} {K : PySem.W.Frag}
def rLen1 (K : PySem.W.Frag) : List V → Hp → VK → Prop := fun xs H Q => ∃ p ys, xs = [V.ref p] ∧ (SqL K H p ys ∨ SqT K H p ys) ∧ Q (.int ys.length) H
def rList1 (K : PySem.W.Frag) : List V → Hp → VK → Prop := fun xs H Q => ∃ p ys, xs = [V.ref p] ∧ (SqL K H p ys ∨ SqT K H p ys) ∧ ∀ l, H l = none → Q (.ref l) (upd H l (.lst ys))
theorem call_lenK (h : X.K = K) : CallR X (.builtin "len") (rLen1 K) := by
  subst h
  exact call_len_seq
theorem call_listK (h : X.K = K) : CallR X (.type "list") (rList1 K) := by
  subst h
  exact call_list_of
theorem cr_sumK (h : X.K = K) (hc : X.calm = true) : CallR X (.builtin "sum") (rSum K) := by
  subst h
  exact cr_sum hc
theorem cr_allK (h : X.K = K) (hc : X.calm = true) : CallR X (.builtin "all") (rAll K) := by
  subst h
  exact cr_all hc
theorem cr_anyK (h : X.K = K) (hc : X.calm = true) : CallR X (.builtin "any") (rAny K) := by
  subst h
  exact cr_any hc
theorem cr_sortedK (h : X.K = K) : CallR X (.builtin "sorted") (rSortedI K) := by
  subst h
  exact cr_sortedI
theorem call_isiK' (h : X.K = K) : CallR X (.builtin "isinstance") (rIsi K) := by
  subst h
  exact call_isi
theorem ix_listK (h : X.K = K) : IxR X (rIxL K) := by
  subst h
  exact ix_list
theorem ix_tupK (h : X.K = K) : IxR X (rIxT K) := by
  subst h
  exact ix_tup
theorem op_inK (h : X.K = K) : OpR X (compareOp .In) (rIn K false) := by
  subst h
  exact op_in_seq
theorem op_notInK (h : X.K = K) : OpR X (compareOp .NotIn) (rIn K true) := by
  subst h
  exact op_notIn_seq
theorem op_eqK (h : X.K = K) (hu : X.A.units + 64 < cLine) : OpR X (compareOp .Eq) (rEqD K) := by
  subst h
  exact op_eqD hu
theorem op_neK (h : X.K = K) (hu : X.A.units + 64 < cLine) : OpR X (compareOp .NotEq) (rNeD K) := by
  subst h
  exact op_neD hu
theorem sl_listK (h : X.K = K) : SlR X (rSlL K) := by
  subst h
  exact sl_list
end

/-! ### lists of numbers -/
def nl (L : List Nat) : List V := L.map fun (x : Nat) => V.int (x : Int)
def il (L : List Int) : List V := L.map V.int
theorem nl_len (L : List Nat) : (nl L).length = L.length := by unfold nl; rw [List.length_map]
theorem il_len (L : List Int) : (il L).length = L.length := by unfold il; rw [List.length_map]
theorem nl_il (L : List Nat) : nl L = il (L.map fun (x : Nat) => (x : Int)) := by
  unfold nl il
  rw [List.map_map]
  rfl
theorem nl_get {L : List Nat} {i : Nat} {x : Nat} (h : L[i]? = some x) : (nl L)[i]? = some (.int (x : Int)) := by
  unfold nl
  rw [List.getElem?_map, h]
  rfl
theorem nl_st {L : List Nat} {p : Nat} (h : p < L.length) : (nl L)[p]? = some (.int (st L p : Int)) := nl_get (st_get h)
theorem at_nl {L : List Nat} {p : Nat} (h : p < L.length) : atI (nl L) (p : Int) = some (.int (st L p : Int)) := atI_nat (nl_st h)
theorem nl_inv {L : List Nat} {i : Nat} {x : V} (h : (nl L)[i]? = some x) : ∃ (y : Nat), L[i]? = some y ∧ x = .int (y : Int) ∧ i < L.length := by
  unfold nl at h
  rw [List.getElem?_map] at h
  cases e : L[i]? with
  | none =>
    rw [e] at h
    cases h
  | some y =>
    rw [e] at h
    exact ⟨y, rfl, (Option.some.inj h).symm, (List.getElem?_eq_some_iff.mp e).1⟩
theorem il_inv {L : List Int} {i : Nat} {x : V} (h : (il L)[i]? = some x) : ∃ (y : Int), L[i]? = some y ∧ x = .int y ∧ i < L.length := by
  unfold il at h
  rw [List.getElem?_map] at h
  cases e : L[i]? with
  | none =>
    rw [e] at h
    cases h
  | some y =>
    rw [e] at h
    exact ⟨y, rfl, (Option.some.inj h).symm, (List.getElem?_eq_some_iff.mp e).1⟩

section
variable {K : PySem.W.Frag} {σ : L2.St} {H H' : Hp} {ta tb tc te tx td ty : TE} {t u : TT} {x y z v : V} {r r' : R2} {p q : Addr}
/-! ### comparisons -/
theorem rv_dec {g : Int → Int → V} {i j : Int} {w : V} (e : g i j = w) : RV (rI0 g) (.int i) (.int j) H w := by
  rw [← e]
  exact rv_I0
theorem rv_IW {C : Int → Int → Prop} {g : Int → Int → V} {i j : Int} {w : V} (hc : C i j) (e : g i j = w) : RV (rI C g) (.int i) (.int j) H w := by
  rw [← e]
  exact rv_I hc
theorem ev_chain {b c : Bool} (ha : Ev ta σ H x) (hb : Ev tb σ H y) (hc : Ev tc σ H z) (h1 : RV r x y H (.bl b)) (h2 : RV r' y z H (.bl c)) : Ev (tChain r r' ta tb tc) σ H (.bl (b && c)) := fun H1 e Q q =>
  ha H1 e _ fun H2 e2 => hb H2 (e.trans e2) _ fun H3 e3 => h1 H3 ((e.trans e2).trans e3) _ fun H4 e4 => ⟨b, rfl, by
    cases b with
    | true =>
      rw [if_pos rfl]
      exact hc H4 (((e.trans e2).trans e3).trans e4) _ fun H5 e5 => h2 H5 ((((e.trans e2).trans e3).trans e4).trans e5) Q fun H6 e6 => q H6 ((((e2.trans e3).trans e4).trans e5).trans e6)
    | false =>
      rw [if_neg Bool.false_ne_true]
      exact q H4 ((e2.trans e3).trans e4)⟩
theorem dpAll_int {K : PySem.W.Frag} {H : Hp} : ∀ L : List Int, DpAll K H (il L) (L.map PyData.int)
  | [] => .nil
  | x :: r => .cons (.int x) (dpAll_int r)
theorem dp_il {L : List Int} (h : SqL K H p (il L)) : Dp K H (.ref p) (.list (L.map PyData.int)) := .lst h (dpAll_int L)
theorem eqvAll_int : ∀ A B : List Int, PyData.eqvAll (A.map PyData.int) (B.map PyData.int) = decide (A = B)
  | [], [] => rfl
  | [], _ :: _ => rfl
  | _ :: _, [] => rfl
  | a :: r, b :: s => by
    show (PyData.eqv (.int a) (.int b) && PyData.eqvAll (r.map PyData.int) (s.map PyData.int)) = _
    rw [eqvAll_int r s]
    show ((a == b) && decide (r = s)) = decide (a :: r = b :: s)
    rw [Bool.eq_iff_iff]
    simp
theorem eqv_int (A B : List Int) : PyData.eqv (.list (A.map PyData.int)) (.list (B.map PyData.int)) = decide (A = B) := eqvAll_int A B
theorem canAll_int : ∀ A : List Int, PyData.canLayAll0 (A.map PyData.int) = true
  | [] => rfl
  | a :: r => by
    show (PyData.canLay0 (.int a) && PyData.canLayAll0 (r.map PyData.int)) = true
    rw [canAll_int r]
    rfl

theorem depthAll_int : ∀ A : List Int, PyData.depthAll (A.map PyData.int) = 0
  | [] => rfl
  | a :: r => by
    show max (PyData.depth (.int a)) (PyData.depthAll (r.map PyData.int)) = 0
    rw [depthAll_int r]
    rfl
theorem shaped_int (A : List Int) : SeqAt.shaped (.list (A.map PyData.int)) = true := by
  unfold SeqAt.shaped
  have h1 : PyData.canLay0 (.list (A.map PyData.int)) = true := canAll_int A
  have h2 : PyData.depth (.list (A.map PyData.int)) = 1 := by
    show PyData.depthAll (A.map PyData.int) + 1 = 1
    rw [depthAll_int]
  rw [h1, h2]
  rfl
theorem rv_eqI {A B : List Int} (h1 : SqL K H p (il A)) (h2 : SqL K H q (il B)) : RV (rEqD K) (.ref p) (.ref q) H (.bl (decide (A = B))) := fun H1 e Q k =>
  ⟨_, _, dp_il (ex_l e h1), dp_il (ex_l e h2), shaped_int A, shaped_int B, by
    rw [eqv_int]
    exact k H1 (Ex.refl H1)⟩
theorem rv_neI {A B : List Int} (h1 : SqL K H p (il A)) (h2 : SqL K H q (il B)) : RV (rNeD K) (.ref p) (.ref q) H (.bl (!decide (A = B))) := fun H1 e Q k =>
  ⟨_, _, dp_il (ex_l e h1), dp_il (ex_l e h2), shaped_int A, shaped_int B, by
    rw [eqv_int]
    exact k H1 (Ex.refl H1)⟩
theorem cast_inj {A B : List Nat} : (A.map fun (x : Nat) => (x : Int)) = (B.map fun (x : Nat) => (x : Int)) ↔ A = B := by
  refine ⟨fun h => ?_, fun h => by rw [h]⟩
  refine List.map_inj_right (fun x y e => ?_) |>.mp h
  omega
theorem rv_eqN {A B : List Nat} (h1 : SqL K H p (nl A)) (h2 : SqL K H q (nl B)) : RV (rEqD K) (.ref p) (.ref q) H (.bl (decide (A = B))) := by
  rw [nl_il] at h1 h2
  have h := rv_eqI h1 h2
  rw [decide_eq_decide.mpr cast_inj] at h
  exact h
theorem rv_neN {A B : List Nat} (h1 : SqL K H p (nl A)) (h2 : SqL K H q (nl B)) : RV (rNeD K) (.ref p) (.ref q) H (.bl (!decide (A = B))) := by
  rw [nl_il] at h1 h2
  have h := rv_neI h1 h2
  rw [decide_eq_decide.mpr cast_inj] at h
  exact h
theorem rv_neN0 {A B : List Nat} (h1 : SqL K H p (nl A)) (h2 : SqL K H q (nl B)) (e : A = B) : RV (rNeD K) (.ref p) (.ref q) H (.bl false) := by
  have h := rv_neN h1 h2
  rw [decide_eq_true e] at h
  exact h
theorem rv_eqN1 {A B : List Nat} (h1 : SqL K H p (nl A)) (h2 : SqL K H q (nl B)) (e : A = B) : RV (rEqD K) (.ref p) (.ref q) H (.bl true) := by
  have h := rv_eqN h1 h2
  rw [decide_eq_true e] at h
  exact h
/-- one number from a list of numbers, by its place -/
theorem rv_ixN {L : List Nat} {j : Nat} (h : SqL K H p (nl L)) (hj : j < L.length) : RV (rIxL K) (.ref p) (.int (j : Int)) H (.int (st L j : Int)) := rv_ixL h (at_nl hj)

/-! ### tests -/
theorem et_yes : EvT tYes σ H true := fun H1 _ _ q => q H1 (Ex.refl H1)
theorem et_orF {tt uu : TT} (h1 : EvT tt σ H false) (h2 : EvT uu σ H false) : EvT (tOr tt uu) σ H false := et_or h1 fun _ => h2
theorem et_notT {tt : TT} (h1 : EvT tt σ H true) : EvT (tNot tt) σ H false := et_not h1
theorem et_notF {tt : TT} (h1 : EvT tt σ H false) : EvT (tNot tt) σ H true := et_not h1
theorem et_andT {tt uu : TT} (h1 : EvT tt σ H true) (h2 : EvT uu σ H true) : EvT (tAnd tt uu) σ H true := et_and h1 fun _ => h2
theorem ev_andT (h1 : Ev ta σ H (.bl true)) (h2 : Ev tb σ H (.bl true)) : Ev (tAndV ta tb) σ H (.bl true) := ev_andV h1 fun _ => h2
theorem ev_notF (h1 : Ev ta σ H (.bl false)) : Ev (tNotV ta) σ H (.bl true) := ev_notV h1

/-! ### calls on values -/
theorem ev_isi {c : V} {t u : Value} {b : Bool} (ha : Ev ta σ H x) (hc : Ev tb σ H c) (hk : ClsV c u) (ht : ∀ H1, Ex H H1 → TyX K H1 x t) (hb : PySem.W.kitOne K t u = some b) : Ev (tCB (rIsi K) (tCons ta (tCons tb tNil))) σ H (.bl b) := fun H1 e Q q =>
  ha H1 e _ fun H2 e2 => hc H2 (e.trans e2) _ fun H3 e3 => ⟨x, c, t, u, b, rfl, hk, ht H3 ((e.trans e2).trans e3), hb, q H3 (e2.trans e3)⟩
theorem ev_isiInt {i : Int} (ha : Ev ta σ H (.int i)) : Ev (tCB (rIsi K) (tCons ta (tCons (tC (.ty "int")) tNil))) σ H (.bl true) := ev_isi ha ev_c (.ty "int") (fun _ _ => .base (.int i)) (kit_ty (by decide +kernel))
theorem ev_isiBool {i : Int} (ha : Ev ta σ H (.int i)) : Ev (tCB (rIsi K) (tCons ta (tCons (tC (.ty "bool")) tNil))) σ H (.bl false) := ev_isi ha ev_c (.ty "bool") (fun _ _ => .base (.int i)) (kit_ty (by decide +kernel))
theorem ty_list {xs : List V} (h : Rd H p (.lst xs)) {H1 : Hp} (e : Ex H H1) : TyX K H1 (.ref p) (.type "list") := by
  rcases h with h | ⟨o, h⟩
  · exact .base (.lst (e _ _ h))
  · exact .base (.frz (e _ _ h))
theorem ev_isiList {xs : List V} (ha : Ev ta σ H (.ref p)) (h : Rd H p (.lst xs)) : Ev (tCB (rIsi K) (tCons ta (tCons (tC (.ty "list")) tNil))) σ H (.bl true) := ev_isi ha ev_c (.ty "list") (fun _ e => ty_list h e) (kit_ty (by decide +kernel))
theorem ev_lenL {xs : List V} (ha : Ev ta σ H (.ref p)) (h : SqL K H p xs) : Ev (tCB (rLen1 K) (tCons ta tNil)) σ H (.int (xs.length : Int)) := ev_len ha h
theorem ev_lenNl {L : List Nat} (ha : Ev ta σ H (.ref p)) (h : SqL K H p (nl L)) : Ev (tCB (rLen1 K) (tCons ta tNil)) σ H (.int (L.length : Int)) := by
  have h1 := ev_lenL ha h
  rw [nl_len] at h1
  exact h1
theorem ev_lenIl {L : List Int} (ha : Ev ta σ H (.ref p)) (h : SqL K H p (il L)) : Ev (tCB (rLen1 K) (tCons ta tNil)) σ H (.int (L.length : Int)) := by
  have h1 := ev_lenL ha h
  rw [il_len] at h1
  exact h1
theorem el_listOf {xs : List V} (ha : Ev ta σ H (.ref p)) (h : SqL K H p xs) : EvL (tCB (rList1 K) (tCons ta tNil)) σ H xs := el_list ha h
theorem ev_sum {ns : List Int} (ha : Ev ta σ H (.ref p)) (h : SqL K H p (il ns)) : Ev (tCB (rSum K) (tCons ta tNil)) σ H (.int ns.sum) := fun H1 e Q q =>
  ha H1 e _ fun H2 e2 => ⟨p, ns, rfl, ex_l (e.trans e2) h, q H2 e2⟩
theorem ev_all {bs : List Bool} (ha : EvL ta σ H (bs.map V.bl)) : Ev (tCB (rAll K) (tCons ta tNil)) σ H (.bl (bs.all id)) := fun H1 e Q q =>
  ha H1 e _ fun p H2 _ e2 h2 => ⟨p, bs, rfl, sq_of h2, q H2 e2⟩
theorem ev_allT {n : Nat} (ha : EvL ta σ H (List.replicate n (V.bl true))) : Ev (tCB (rAll K) (tCons ta tNil)) σ H (.bl true) := by
  have e : List.replicate n (V.bl true) = (List.replicate n true).map V.bl := by rw [List.map_replicate]
  rw [e] at ha
  have h := ev_all (K := K) ha
  rw [show (List.replicate n true).all id = true from List.all_eq_true.mpr fun x hx => (List.mem_replicate.mp hx).2] at h
  exact h
/-- a call of a def: a value, a new list -/
theorem ev_callV {sp : Sp} {vs : List V} {E : XK} {ta : TA} (h : EvA ta σ H vs) (hs : SpV sp vs H z) : Ev (tCall sp [] E ta) σ H z := ev_call h (by rw [List.append_nil]; exact hs)
theorem el_callL {sp : Sp} {vs xs : List V} {E : XK} {ta : TA} (h : EvA ta σ H vs) (hs : SpL sp vs H xs) : EvL (tCall sp [] E ta) σ H xs := el_call h (by rw [List.append_nil]; exact hs)
/-- .. one of whose arguments is a new list -/
theorem ev_callN1 {sp : Sp} {xs : List V} {E : XK} (h : EvL ta σ H xs) (hs : ∀ p H1, Ex H H1 → H1 p = some (.lst xs) → SpV sp [.ref p] H1 z) : Ev (tCall sp [] E (tCons ta tNil)) σ H z := fun H1 e Q q =>
  h H1 e _ fun p H2 _ e2 hp => hs p H2 (e.trans e2) hp H2 (Ex.refl H2) Q (fun H3 e3 => q H3 (e2.trans e3)) E

/-! ### dicts with numbers for keys -/
def valI (kvs : List (Key × V)) (k : Int) : Option V := valV kvs (.inl k)
theorem valI_put (kvs : List (Key × V)) (k j : Int) (y : V) : valI (putK kvs (.inl k) y) j = if j = k then some y else valI kvs j := by
  unfold valI
  rw [valV_put]
  by_cases e : j = k
  · subst e
    rw [if_pos rfl, if_pos rfl]
  · rw [if_neg e, if_neg fun q => e (Sum.inl.inj q)]
theorem putK_len (kvs : List (Key × V)) (k : Key) (v : V) : (putK kvs k v).length ≤ kvs.length + 1 := by
  unfold putK
  split
  · rw [List.length_map]
    omega
  · rw [List.length_append]
    exact Nat.le_refl _
/-- a dict at d: n entries at most, its values by M -/
def DM (H : Hp) (d : Addr) (n : Nat) (M : Int → Option V) : Prop := ∃ kvs : List (Key × V), H d = some (.dK kvs) ∧ kvs.length ≤ n ∧ ∀ k : Int, valI kvs k = M k
theorem DM.ex {n : Nat} {M : Int → Option V} (h : DM H p n M) (e : Ex H H') : DM H' p n M := by
  obtain ⟨kvs, h1, h2, h3⟩ := h
  exact ⟨kvs, e _ _ h1, h2, h3⟩
theorem dm_nil : DM (upd H p (.dK [])) p 0 (fun _ => none) := ⟨[], upd_same, Nat.le_refl 0, fun _ => rfl⟩
theorem DM.get {n : Nat} {M : Int → Option V} {k : Int} (h : DM H p n M) : DGet H p (.int k) (M k) := by
  obtain ⟨kvs, h1, h2, h3⟩ := h
  rw [← h3 k]
  exact DGet.k (k := Sum.inl k) h1
theorem ev_din {n : Nat} {M : Int → Option V} {k : Int} (hk : Ev ty σ H (.int k)) (hd : Ev td σ H (.ref p)) (h : DM H p n M) : Ev (tDIn ty td) σ H (.bl (M k).isSome) := fun H1 e Q q =>
  hk H1 e _ fun H2 e2 => hd H2 (e.trans e2) _ fun H3 e3 => ⟨p, M k, rfl, (h.ex ((e.trans e2).trans e3)).get, q H3 (e2.trans e3)⟩
theorem ev_dnotin {n : Nat} {M : Int → Option V} {k : Int} (hk : Ev ty σ H (.int k)) (hd : Ev td σ H (.ref p)) (h : DM H p n M) : Ev (tDNotIn ty td) σ H (.bl (!(M k).isSome)) := fun H1 e Q q =>
  hk H1 e _ fun H2 e2 => hd H2 (e.trans e2) _ fun H3 e3 => ⟨p, M k, rfl, (h.ex ((e.trans e2).trans e3)).get, q H3 (e2.trans e3)⟩
theorem ev_dget {n : Nat} {M : Int → Option V} {k : Int} (hd : Ev td σ H (.ref p)) (hk : Ev ty σ H (.int k)) (h : DM H p n M) (hm : M k = some v) : Ev (tDGet td ty) σ H v := fun H1 e Q q =>
  hd H1 e _ fun H2 e2 => hk H2 (e.trans e2) _ fun H3 e3 => ⟨p, v, rfl, by
    rw [← hm]
    exact (h.ex ((e.trans e2).trans e3)).get, q H3 (e2.trans e3)⟩
variable {D : Ends} {tu tw tz : TS}
theorem s_dput {n : Nat} {M : Int → Option V} {k : Int} (hv : Ev tx σ H v) (hd : Ev td σ H (.ref p)) (hk : Ev ty σ H (.int k)) (h : DM H p n M) (hn : n < 100000)
    (go : ∀ H1, Ex H H1 → ∀ o, DM (upd H1 p o) p (n + 1) (fun j => if j = k then some v else M j) → D.nx σ (upd H1 p o)) : sDPut td ty tx D σ H :=
  hv H (Ex.refl H) _ fun H1 e1 => hd H1 e1 _ fun H2 e2 => hk H2 (e1.trans e2) _ fun H3 e3 => by
    obtain ⟨kvs, h1, h2, h3⟩ := h
    have h4 := ((e1.trans e2).trans e3) _ _ h1
    refine ⟨p, _, rfl, DPut.k (k := Sum.inl k) h4 (sz_lt (by omega)), ?_⟩
    refine go H3 ((e1.trans e2).trans e3) _ ⟨_, upd_same, Nat.le_trans (putK_len _ _ _) (by omega), fun j => ?_⟩
    rw [valI_put, h3]
theorem q_dput {n : Nat} {M : Int → Option V} {k : Int} (hv : Ev tx σ H v) (hd : Ev td σ H (.ref p)) (hk : Ev ty σ H (.int k)) (h : DM H p n M) (hn : n < 100000)
    (go : ∀ H1, Ex H H1 → ∀ o, DM (upd H1 p o) p (n + 1) (fun j => if j = k then some v else M j) → tz D σ (upd H1 p o)) : tSeq (sDPut td ty tx) tz D σ H := s_dput (D := { D with nx := tz D }) hv hd hk h hn go
theorem q_dnew {i : Nat} (k : ∀ d H1, H d = none → Ex H H1 → DM H1 d 0 (fun _ => none) → tz D (σ.set i (some (.ref d))) H1) : tSeq (tAsg tDNewK (gName i)) tz D σ H := fun d hd => k d _ hd (Ex.new hd) dm_nil

/-! ### statements -/
/-- an if whose test never holds -/
theorem q_skip (h : EvT t σ H false) (k : ∀ H1, Ex H H1 → tz D σ H1) : tSeq (tIfS t tu tNext) tz D σ H := q_when h (fun b => nomatch b) fun _ H1 e => k H1 e
theorem s_skip (h : EvT t σ H false) (k : ∀ H1, Ex H H1 → D.nx σ H1) : tIfS t tu tNext D σ H := s_when h (fun b => nomatch b) fun _ H1 e => k H1 e
/-- a def's end by a list, by a value -/
theorem ret_L {xs : List V} {H0 : Hp} {rt : VK} (q : RetL xs H0 rt) (e : Ex H0 H) (h : EvL te σ H xs) : te σ H rt := h H (Ex.refl H) _ fun p H2 n e2 h2 => q.go e n e2 h2
theorem ret_V {H0 : Hp} {rt : VK} (q : RetV v H0 rt) (e : Ex H0 H) (h : Ev te σ H v) : te σ H rt := h H (Ex.refl H) _ fun H2 e2 => q H2 (e.trans e2)
/-- a name that holds a list made here is given back -/
theorem ret_N {xs : List V} {H0 : Hp} {rt : VK} {i : Nat} (q : RetL xs H0 rt) (e : Ex H0 H) (n : H0 p = none) (h : H p = some (.lst xs)) (hi : σ[i]? = some (some (.ref p))) : tVar i σ H rt := ⟨_, hi, q p H n e h⟩

/-! ### comprehensions -/
theorem wipe1 (σ : L2.St) (j : Nat) (x : V) : wipe ((wipe σ [j]).set j (some x)) [j] = wipe σ [j] := by
  show (((σ.set j none).set j (some x)).set j none) = σ.set j none
  rw [List.set_set, List.set_set]
theorem given_all (n : Nat) (v : Nat → V) : given n (fun _ => true) v = (List.range n).map v := by
  unfold given
  rw [List.filter_eq_self.mpr fun _ _ => rfl]
/-- [e for x in xs], xs a list of numbers -/
theorem el_mapN {L : List Nat} {tl : TE} {j : Nat} (g : Nat → V) (h : Ev tl σ H (.ref p)) (hx : SqL K H p (nl L)) (hz : L.length ≤ 40000)
    (he : ∀ (x : Nat) H1, Ex H H1 → x ∈ L → Ev te ((wipe σ [j]).set j (some (.int (x : Int)))) H1 (g x)) : EvL (tLc (iList K tl) (gName j) tYes te [j]) σ H (L.map g) := by
  have h1 := el_lcL (j := j) (te := te) (vs := [j]) (t := tYes) (fun _ => true) (fun i => g (st L i)) h hx (by rw [nl_len]; exact hz) (fun x => wipe1 σ j x) (fun _ _ _ _ _ => et_yes) (fun i x H1 e hi _ => by
    obtain ⟨y, h2, rfl, h3⟩ := nl_inv hi
    have h4 : st L i = y := by
      rw [st_get h3] at h2
      exact Option.some.inj h2
    rw [h4]
    exact he y H1 e (List.mem_of_getElem? h2))
  rw [given_all, nl_len] at h1
  have e : (List.range L.length).map (fun i => g (st L i)) = L.map g := by
    refine List.ext_getElem? fun i => ?_
    rw [List.getElem?_map, List.getElem?_map]
    by_cases hi : i < L.length
    · rw [List.getElem?_range hi, st_get hi]
      rfl
    · rw [List.getElem?_eq_none (by rw [List.length_range]; omega), List.getElem?_eq_none (by omega)]
      rfl
  rw [e] at h1
  exact h1
/-- .. all items alike -/
theorem el_mapNc {L : List Nat} {tl : TE} {j : Nat} (h : Ev tl σ H (.ref p)) (hx : SqL K H p (nl L)) (hz : L.length ≤ 40000)
    (he : ∀ (x : Nat) H1, Ex H H1 → x ∈ L → Ev te ((wipe σ [j]).set j (some (.int (x : Int)))) H1 v) : EvL (tLc (iList K tl) (gName j) tYes te [j]) σ H (List.replicate L.length v) := by
  have h1 := el_mapN (fun _ => v) h hx hz he
  rw [List.map_const'] at h1
  exact h1
theorem el_mapI {L : List Int} {tl : TE} {j : Nat} (g : Int → V) (h : Ev tl σ H (.ref p)) (hx : SqL K H p (il L)) (hz : L.length ≤ 40000)
    (he : ∀ (x : Int) H1, Ex H H1 → x ∈ L → Ev te ((wipe σ [j]).set j (some (.int x))) H1 (g x)) : EvL (tLc (iList K tl) (gName j) tYes te [j]) σ H (L.map g) := by
  have h1 := el_lcL (j := j) (te := te) (vs := [j]) (t := tYes) (fun _ => true) (fun i => g (L.getD i 0)) h hx (by rw [il_len]; exact hz) (fun x => wipe1 σ j x) (fun _ _ _ _ _ => et_yes) (fun i x H1 e hi _ => by
    obtain ⟨y, h2, rfl, h3⟩ := il_inv hi
    have h4 : L.getD i 0 = y := by
      rw [List.getD_eq_getElem?_getD, h2]
      rfl
    rw [h4]
    exact he y H1 e (List.mem_of_getElem? h2))
  rw [given_all, il_len] at h1
  have e : (List.range L.length).map (fun i => g (L.getD i 0)) = L.map g := by
    refine List.ext_getElem? fun i => ?_
    rw [List.getElem?_map, List.getElem?_map]
    by_cases hi : i < L.length
    · rw [List.getElem?_range hi, List.getElem?_eq_getElem hi]
      show some (g (L.getD i 0)) = some (g L[i])
      rw [List.getD_eq_getElem?_getD, List.getElem?_eq_getElem hi]
      rfl
    · rw [List.getElem?_eq_none (by rw [List.length_range]; omega), List.getElem?_eq_none (by omega)]
      rfl
  rw [e] at h1
  exact h1
theorem el_mapIc {L : List Int} {tl : TE} {j : Nat} (h : Ev tl σ H (.ref p)) (hx : SqL K H p (il L)) (hz : L.length ≤ 40000)
    (he : ∀ (x : Int) H1, Ex H H1 → x ∈ L → Ev te ((wipe σ [j]).set j (some (.int x))) H1 v) : EvL (tLc (iList K tl) (gName j) tYes te [j]) σ H (List.replicate L.length v) := by
  have h1 := el_mapI (fun _ => v) h hx hz he
  rw [List.map_const'] at h1
  exact h1
/-- [e for k in range(n)] -/
theorem el_mapR {ta : TA} {j n : Nat} (g : Nat → V) (h : EvA ta σ H [.int (n : Int)]) (hz : n ≤ 40000)
    (he : ∀ (i : Nat) H1, Ex H H1 → i < n → Ev te ((wipe σ [j]).set j (some (.int (i : Int)))) H1 (g i)) : EvL (tLc (iRng1 ta) (gName j) tYes te [j]) σ H ((List.range n).map g) := by
  have h1 := el_lcR1 (j := j) (te := te) (vs := [j]) (t := tYes) (fun _ => true) g h (by omega) (fun x => wipe1 σ j x) (fun _ _ _ _ => et_yes) (fun i H1 e hi _ => he i H1 e (by omega))
  rw [given_all, Int.toNat_natCast] at h1
  exact h1
/-- [e for k in range(n) if t] -/
theorem el_filR {ta : TA} {j n : Nat} (f : Nat → Bool) (g : Nat → V) (h : EvA ta σ H [.int (n : Int)]) (hz : n ≤ 40000)
    (ht : ∀ (i : Nat) H1, Ex H H1 → i < n → EvT t ((wipe σ [j]).set j (some (.int (i : Int)))) H1 (f i))
    (he : ∀ (i : Nat) H1, Ex H H1 → i < n → Ev te ((wipe σ [j]).set j (some (.int (i : Int)))) H1 (g i)) : EvL (tLc (iRng1 ta) (gName j) t te [j]) σ H (((List.range n).filter f).map g) := by
  have h1 := el_lcR1 (j := j) (te := te) (vs := [j]) (t := t) f g h (by omega) (fun x => wipe1 σ j x) (fun i H1 e hi => ht i H1 e (by omega)) (fun i H1 e hi _ => he i H1 e (by omega))
  rw [Int.toNat_natCast] at h1
  exact h1
theorem ea1 (h : Ev ta σ H x) : EvA (tCons ta tNil) σ H [x] := ea_cons h ea_nil
theorem ea2 (h : Ev ta σ H x) (h2 : Ev tb σ H y) : EvA (tCons ta (tCons tb tNil)) σ H [x, y] := ea_cons h (ea1 h2)
theorem ea3 (h : Ev ta σ H x) (h2 : Ev tb σ H y) (h3 : Ev tc σ H z) : EvA (tCons ta (tCons tb (tCons tc tNil))) σ H [x, y, z] := ea_cons h (ea2 h2 h3)

/-! ### enumerate -/
theorem for_enum {a : Addr} {xs : List V} {g : TG} {tb : TS} {D : Ends} {σ : L2.St} {H : Hp} (Pv : Nat → L2.St → Hp → Prop) (h0 : Pv 0 σ H) (hl : ∀ i σ H, i ≤ xs.length → Pv i σ H → SqL K H a xs)
    (hs : ∀ i x σ H T, xs[i]? = some x → Pv i σ H → H T = none → g (.ref T) σ (upd H T (.tup [.int (i : Nat), x])) fun σ2 H2 => tb { D with nx := Pv (i + 1), ct := Pv (i + 1), bk := D.nx } σ2 H2) (hd : ∀ σ H, Pv xs.length σ H → D.nx σ H) :
    ∃ W : Nat → Nat → L2.St → Hp → Prop, (∃ m, W 0 m σ H) ∧ ∀ i m σ H, W i m σ H →
      ((Ite K a).stop i H ∧ D.nx σ H) ∨ ((Ite K a).go i H ∧ ∃ N : L2.St → Hp → Prop, (∀ σ' H', N σ' H' → ∃ m', m' < m ∧ W (i + 1) m' σ' H') ∧ ∀ x H', (Ite K a).yld i H x H' → g x σ H' fun σ2 H2 => tb { D with nx := N, ct := N, bk := D.nx } σ2 H2) := by
  refine ⟨fun i m σ H => m = xs.length - i ∧ i ≤ xs.length ∧ Pv i σ H, ⟨xs.length, by simp, Nat.zero_le _, h0⟩, ?_⟩
  rintro i m σ H ⟨rfl, hi, p⟩
  have q := hl i σ H hi p
  by_cases hlt : i < xs.length
  · refine .inr ⟨⟨xs, xs[i], q, by simp [hlt]⟩, Pv (i + 1), fun σ' H' p' => ⟨xs.length - (i + 1), by omega, rfl, hlt, p'⟩, fun v H' y => ?_⟩
    obtain ⟨T, x, rfl, nT, rfl, f⟩ := y
    exact hs i x σ H T (f xs q) p nT
  · have e : i = xs.length := by omega
    subst e
    exact .inl ⟨⟨xs, q, Nat.le_refl _⟩, hd σ H p⟩
theorem lc_enum {a : Addr} {xs : List V} {g : TG} {tt : TT} {te : TE} {vs : List Nat} {σ : L2.St} {H1 : Hp} {D : Addr} {Qd : Hp → Prop} (Pv : Nat → Hp → Prop) (h0 : Pv 0 (upd H1 D (.lst []))) (hl : ∀ i H, i ≤ xs.length → Pv i H → SqL K H a xs)
    (hs : ∀ i x H T, xs[i]? = some x → Pv i H → H T = none → g (.ref T) (wipe σ vs) (upd H T (.tup [.int (i : Nat), x])) fun σ2 H2 => wipe σ2 vs = wipe σ vs ∧ tt σ2 H2 fun b H3 =>
      if b = true then te σ2 H3 fun y H4 => ∃ acc, H4 D = some (.lst acc) ∧ acc.length < sizeLine ∧ Pv (i + 1) (upd H4 D (.lst (acc ++ [y]))) else Pv (i + 1) H3) (hd : ∀ H, Pv xs.length H → Qd H) :
    ∃ W : Nat → Nat → Hp → Prop, (∃ m, W 0 m (upd H1 D (.lst []))) ∧ ∀ i m H, W i m H →
      ((Ite K a).stop i H ∧ Qd H) ∨ ((Ite K a).go i H ∧ ∃ Nx : Hp → Prop, (∀ H', Nx H' → ∃ m', m' < m ∧ W (i + 1) m' H') ∧ ∀ x H', (Ite K a).yld i H x H' → g x (wipe σ vs) H' fun σ2 H2 => wipe σ2 vs = wipe σ vs ∧ tt σ2 H2 fun b H3 =>
        if b = true then te σ2 H3 fun y H4 => ∃ acc, H4 D = some (.lst acc) ∧ acc.length < sizeLine ∧ Nx (upd H4 D (.lst (acc ++ [y]))) else Nx H3) := by
  refine ⟨fun i m H => m = xs.length - i ∧ i ≤ xs.length ∧ Pv i H, ⟨xs.length, by simp, Nat.zero_le _, h0⟩, ?_⟩
  rintro i m H ⟨rfl, hi, p⟩
  have q := hl i H hi p
  by_cases hlt : i < xs.length
  · refine .inr ⟨⟨xs, xs[i], q, by simp [hlt]⟩, Pv (i + 1), fun H' p' => ⟨xs.length - (i + 1), by omega, rfl, hlt, p'⟩, fun v H' y => ?_⟩
    obtain ⟨T, x, rfl, nT, rfl, f⟩ := y
    exact hs i x H T (f xs q) p nT
  · have e : i = xs.length := by omega
    subst e
    exact .inl ⟨⟨xs, q, Nat.le_refl _⟩, hd H p⟩
/-- two names from a pair -/
abbrev g2 (K : PySem.W.Frag) (i j : Nat) : TG := gTup K 2 (gCons (gName i) (gCons (gName j) gNil))
theorem g2_go {i j : Nat} {T : Addr} {a b : V} {Q : L2.St → Hp → Prop} (h : SqT K H T [a, b]) (q : Q ((σ.set i (some a)).set j (some b)) H) : g2 K i j (.ref T) σ H Q :=
  ⟨T, [a, b], rfl, h, rfl, a, [b], rfl, b, [], rfl, rfl, q⟩
/-- for i, x in enumerate(xs) -/
theorem s_forE {a : Addr} {xs : List V} {tl : TE} {i j : Nat} (h : Ev tl σ H (.ref a)) (hx : SqL K H a xs) (Pv : Nat → L2.St → Hp → Prop) (h0 : ∀ H1, Ex H H1 → Pv 0 σ H1) (hl : ∀ i σ' H', i ≤ xs.length → Pv i σ' H' → SqL K H' a xs)
    (hs : ∀ k x σ' H' H2, xs[k]? = some x → Pv k σ' H' → Ex H' H2 → (∀ b, H2 b = none → H' b = none) → tu { D with nx := Pv (k + 1), ct := Pv (k + 1), bk := D.nx } ((σ'.set i (some (.int (k : Int)))).set j (some x)) H2) (hd : ∀ σ' H', Pv xs.length σ' H' → D.nx σ' H') :
    tFor (iEnum K (tCons tl tNil)) (g2 K i j) tu D σ H :=
  h H (Ex.refl H) _ fun H1 e => ⟨a, xs, rfl, ex_l e hx, for_enum Pv (h0 H1 e) hl (fun k x σ' H' T hk p nT => g2_go (st_of upd_same) (hs k x σ' H' _ hk p (Ex.new nT) fun b hb => fresh_back (Ex.new nT) hb)) hd⟩
theorem q_forE {a : Addr} {xs : List V} {tl : TE} {i j : Nat} (h : Ev tl σ H (.ref a)) (hx : SqL K H a xs) (Pv : Nat → L2.St → Hp → Prop) (h0 : ∀ H1, Ex H H1 → Pv 0 σ H1) (hl : ∀ i σ' H', i ≤ xs.length → Pv i σ' H' → SqL K H' a xs)
    (hs : ∀ k x σ' H' H2, xs[k]? = some x → Pv k σ' H' → Ex H' H2 → (∀ b, H2 b = none → H' b = none) → tu { D with nx := Pv (k + 1), ct := Pv (k + 1), bk := tz D } ((σ'.set i (some (.int (k : Int)))).set j (some x)) H2) (hd : ∀ σ' H', Pv xs.length σ' H' → tz D σ' H') :
    tSeq (tFor (iEnum K (tCons tl tNil)) (g2 K i j) tu) tz D σ H := s_forE (D := { D with nx := tz D }) h hx Pv h0 hl hs hd
theorem wipe2 (σ : L2.St) (i j : Nat) (hij : i ≠ j) (x y : V) : wipe (((wipe σ [i, j]).set i (some x)).set j (some y)) [i, j] = wipe σ [i, j] := by
  show ((((((σ.set j none).set i none).set i (some x)).set j (some y)).set j none).set i none) = (σ.set j none).set i none
  rw [List.set_set, List.set_set, List.set_comm _ _ hij.symm, List.set_set, List.set_comm _ _ hij.symm, List.set_set]
  first
    | done
    | rw [List.set_comm _ _ hij, List.set_set]
/-- [e for i, x in enumerate(xs) if t] -/
theorem el_lcE {a : Addr} {xs : List V} {tl : TE} {i j : Nat} (hij : i ≠ j) (f : Nat → Bool) (g : Nat → V) (h : Ev tl σ H (.ref a)) (hx : SqL K H a xs) (hz : xs.length ≤ 40000)
    (ht : ∀ (k : Nat) (x : V) H1, Ex H H1 → xs[k]? = some x → EvT t (((wipe σ [i, j]).set i (some (.int (k : Int)))).set j (some x)) H1 (f k))
    (he : ∀ (k : Nat) (x : V) H1, Ex H H1 → xs[k]? = some x → f k = true → Ev te (((wipe σ [i, j]).set i (some (.int (k : Int)))).set j (some x)) H1 (g k)) :
    EvL (tLc (iEnum K (tCons tl tNil)) (g2 K i j) t te [i, j]) σ H (given xs.length f g) := fun H0 e Q q => h H0 e _ fun H1 e1 => ⟨a, xs, rfl, ex_l (e.trans e1) hx, fun Dl hD =>
  lc_enum (xs := xs) (Cw H1 f g Dl) ⟨hD, Ex.new hD, upd_same⟩ (fun i H' _ p => ex_l ((e.trans e1).trans p.2.1) hx) (fun k x H' T hk p nT => g2_go (st_of upd_same) ⟨wipe2 σ i j hij _ _, by
    have hT : Dl ≠ T := ne_of_none p.2.2 nT
    refine cw_turn (p := ⟨p.1, p.2.1.trans (Ex.new nT), by rw [upd_ne hT]; exact p.2.2⟩) (by have := (List.getElem?_eq_some_iff.mp hk).1; omega) (ht k x H1 (e.trans e1) hk) (fun hf => he k x H1 (e.trans e1) hk hf)⟩)
    (fun H' p => q Dl H' (fresh_back e1 p.1) (e1.trans p.2.1) p.2.2)⟩

/-! ### numbers that are not negative -/
theorem vdiv (x m : Nat) : V.int ((x : Int).fdiv (m : Int)) = V.int ((x / m : Nat) : Int) := by
  rw [Int.fdiv_eq_ediv_of_nonneg _ (Int.natCast_nonneg m), Int.natCast_ediv]
theorem vmod (x m : Nat) : V.int ((x : Int).fmod (m : Int)) = V.int ((x % m : Nat) : Int) := by
  rw [Int.fmod_eq_emod_of_nonneg _ (Int.natCast_nonneg m), Int.natCast_emod]
theorem vadd (x m : Nat) : V.int ((x : Int) + (m : Int)) = V.int ((x + m : Nat) : Int) := by rw [Int.natCast_add]
theorem rv_eqB {i j : Int} {b : Bool} (e : decide (i = j) = b) : RV rEq (.int i) (.int j) H (.bl b) := by
  have h := rv_eq (H := H) (x := .int i) (y := .int j) rfl
  rw [show decide (V.int i = V.int j) = b by
    rw [← e]
    exact decide_eq_decide.mpr ⟨fun h => V.int.inj h, fun h => by rw [h]⟩] at h
  exact h
theorem rv_neB {i j : Int} {b : Bool} (e : (!decide (i = j)) = b) : RV rNe (.int i) (.int j) H (.bl b) := by
  have h := rv_ne (H := H) (x := .int i) (y := .int j) rfl
  rw [show decide (V.int i = V.int j) = decide (i = j) from decide_eq_decide.mpr ⟨fun h => V.int.inj h, fun h => by rw [h]⟩, e] at h
  exact h
/-- a number within, by % of any number -/
theorem fmod_lt (x : Int) {m : Nat} (h : 0 < m) : ∃ r : Nat, x.fmod (m : Int) = (r : Int) ∧ r < m := by
  have h1 : (0 : Int) < m := by omega
  have h2 := Int.fmod_nonneg_of_pos x h1
  have h3 := Int.fmod_lt_of_pos x h1
  exact ⟨(x.fmod m).toNat, by omega, by omega⟩

/-- .. enumerate of a new list -/
theorem el_lcNE {xs : List V} {tl : TE} {i j : Nat} (hij : i ≠ j) (f : Nat → Bool) (g : Nat → V) (h : EvL tl σ H xs) (hz : xs.length ≤ 40000)
    (ht : ∀ (k : Nat) (x : V) H1, Ex H H1 → xs[k]? = some x → EvT t (((wipe σ [i, j]).set i (some (.int (k : Int)))).set j (some x)) H1 (f k))
    (he : ∀ (k : Nat) (x : V) H1, Ex H H1 → xs[k]? = some x → f k = true → Ev te (((wipe σ [i, j]).set i (some (.int (k : Int)))).set j (some x)) H1 (g k)) :
    EvL (tLc (iEnum K (tCons tl tNil)) (g2 K i j) t te [i, j]) σ H (given xs.length f g) := fun H0 e Q q => h H0 e _ fun a H1 ha e1 hx => ⟨a, xs, rfl, sq_of hx, fun Dl hD =>
  lc_enum (xs := xs) (Cw H1 f g Dl) ⟨hD, Ex.new hD, upd_same⟩ (fun i H' _ p => sq_of (p.2.1 a _ hx)) (fun k x H' T hk p nT => g2_go (st_of upd_same) ⟨wipe2 σ i j hij _ _, by
    have hT : Dl ≠ T := ne_of_none p.2.2 nT
    refine cw_turn (p := ⟨p.1, p.2.1.trans (Ex.new nT), by rw [upd_ne hT]; exact p.2.2⟩) (by have := (List.getElem?_eq_some_iff.mp hk).1; omega) (ht k x H1 (e.trans e1) hk) (fun hf => he k x H1 (e.trans e1) hk hf)⟩)
    (fun H' p => q Dl H' (fresh_back e1 p.1) (e1.trans p.2.1) p.2.2)⟩
/-- a name is given what a call gives back -/
theorem q_asgX {sp : Sp} {vs : List V} {E : XK} {ta : TA} {i : Nat} (h : EvA ta σ H vs) (hs : ∀ H1, Ex H H1 → sp vs H1 (fun v H2 => tz D (σ.set i (some v)) H2) E) : tSeq (tAsg (tCall sp [] E ta) (gName i)) tz D σ H :=
  h H (Ex.refl H) _ fun H1 e => by
    rw [List.append_nil]
    exact hs H1 e
theorem nl_set {L : List Nat} {j x : Nat} : (nl L).set j (.int (x : Int)) = nl (L.set j x) := by
  unfold nl
  rw [List.map_set]
theorem lead_of {n : Nat} (v : Nat → Int) (h : ∀ k, k < n → 0 ≤ v k ∧ v k < n) : ∃ L, Lead L ∧ L.length = n ∧ (List.range n).map (fun k => V.int (v k)) = nl L := by
  refine ⟨(List.range n).map fun k => (v k).toNat, fun x hx => ?_, by rw [List.length_map, List.length_range], ?_⟩
  · rw [List.length_map, List.length_range]
    obtain ⟨k, hk, rfl⟩ := List.mem_map.mp hx
    have := h k (List.mem_range.mp hk)
    omega
  · unfold nl
    rw [List.map_map]
    refine List.map_congr_left fun k hk => ?_
    have := h k (List.mem_range.mp hk)
    show V.int (v k) = V.int ((v k).toNat : Int)
    rw [Int.toNat_of_nonneg this.1]
theorem Lead.set {L : List Nat} (h : Lead L) {j x : Nat} (hx : x < L.length) : Lead (L.set j x) := fun y hy => by
  rw [List.length_set]
  rcases List.mem_or_eq_of_mem_set hy with h1 | rfl
  · exact h y h1
  · exact hx

theorem ev_ifOr {b : Bool} {i j : Int} (h : EvT t σ H b) (h1 : Ev ta σ H (.int i)) (h2 : Ev tb σ H (.int j)) : Ev (tIf t ta tb) σ H (.int (if b = true then i else j)) := by
  cases b with
  | true => exact ev_if h (fun _ => h1) (fun b => nomatch b)
  | false => exact ev_if h (fun b => nomatch b) (fun _ => h2)
theorem cutV_mem {xs : List V} {lo hi : Option Int} {i : Nat} {x : V} (h : (cutV xs lo hi)[i]? = some x) : x ∈ xs := by
  have h1 := List.mem_of_getElem? h
  unfold cutV at h1
  exact List.mem_of_mem_drop (List.mem_of_mem_take h1)
theorem mem_il {ns : List Int} {x : V} (h : x ∈ il ns) : ∃ z, z ∈ ns ∧ x = .int z := by
  unfold il at h
  obtain ⟨z, h1, h2⟩ := List.mem_map.mp h
  exact ⟨z, h1, h2.symm⟩
theorem nl_tm (L : List Nat) (n : Nat) : (List.range L.length).map (fun i => V.int (it L n i : Int)) = nl (tm L n) := by
  unfold nl tm
  rw [List.map_map]
  rfl
theorem pos_of_mem {ns : List Int} {z : Int} (h : z ∈ ns) : 0 < ns.length := List.length_pos_of_mem h

theorem el_callN2 {sp : Sp} {xs zs : List V} {E : XK} (h : EvL ta σ H xs) (h2 : Ev tb σ H y) (hs : ∀ p H1, Ex H H1 → H1 p = some (.lst xs) → SpL sp [.ref p, y] H1 zs) : EvL (tCall sp [] E (tCons ta (tCons tb tNil))) σ H zs := fun H1 e Q q =>
  h H1 e _ fun p H2 _ e2 hp => h2 H2 (e.trans e2) _ fun H3 e3 => hs p H3 ((e.trans e2).trans e3) (e3 _ _ hp) H3 (Ex.refl H3) Q (fun r H4 n4 e4 h4 => q r H4 (fresh_back (e2.trans e3) n4) ((e2.trans e3).trans e4) h4) E

theorem s_forNLn {xs : List V} {tl : TE} {j : Nat} (h : EvL tl σ H xs) (Pv : Addr → Nat → L2.St → Hp → Prop) (h0 : ∀ p H1, H p = none → Ex H H1 → H1 p = some (.lst xs) → Pv p 0 σ H1) (hl : ∀ p i σ' H', i ≤ xs.length → Pv p i σ' H' → SqL K H' p xs)
    (hs : ∀ p i x σ' H', xs[i]? = some x → Pv p i σ' H' → tu { D with nx := Pv p (i + 1), ct := Pv p (i + 1), bk := D.nx } (σ'.set j (some x)) H') (hd : ∀ p σ' H', Pv p xs.length σ' H' → D.nx σ' H') : tFor (iList K tl) (gName j) tu D σ H :=
  s_forNL h Pv h0 hl hs hd
end
end Ld
/-! Evy: sets' lengths, lists of lists compared, ranges with a step, sorted. -/
namespace Ld
open PySem L2 Evl
section
variable {X : Cx} {K : PySem.W.Frag}
theorem pe_revLK {e : Expr} {te : TE} {k : Nat} {p1 p2 p3 pos : Pos} (h : X.K = K) (he : PE X e te) : PE X (.Subscript e (.Slice none none (some (.UnaryOp .USub (.Constant (.int 1) k p1) p2)) p3) pos) (tRevL K te) := by
  subst h
  exact pe_revL he
theorem pe_lenSetK {a : Expr} {ta : TE} {p p2 q pos : Pos} (h : X.K = K) (hg : Gl X "len") (hm : X.mg "len" = none) (hg2 : Gl X "set") (hm2 : X.mg "set" = none) (ha : PE X a ta) (hc : X.calm = true)
    (na : starEach [a] X.env = (false, eval a X.env) :: starEach [] X.env := by rfl) : PE X (.Call (.Name "len" p) [.Call (.Name "set" p2) [a] [] q] [] pos) (RZ.tLenSetI K ta) := by
  subst h
  exact RZ.pe_lenSetI hg hm hg2 hm2 ha hc na
end
section
variable {K : PySem.W.Frag} {σ : L2.St} {H H' : Hp} {ta tb tc te tx td ty : TE} {t u : TT} {x y z v : V} {r r' : R2} {p q : Addr}
theorem el_rev {xs : List V} (ha : Ev ta σ H (.ref p)) (h : SqL K H p xs) : EvL (tRevL K ta) σ H xs.reverse := fun H1 e Q k =>
  ha H1 e _ fun H2 e2 => ⟨p, xs, rfl, ex_l (e.trans e2) h, fun r hr => k r _ (fresh_back e2 hr) (e2.trans (Ex.new hr)) upd_same⟩
theorem il_rev (L : List Int) : (il L).reverse = il L.reverse := by
  unfold il
  rw [List.map_reverse]
theorem nodup_cast {L : List Nat} (h : L.Nodup) : (L.map fun (x : Nat) => (x : Int)).Nodup := by
  rw [List.Nodup, List.pairwise_map]
  exact List.Pairwise.imp (fun {a b} hab e => hab (by omega)) h
theorem ev_lenSet {L : List Nat} (ha : Ev ta σ H (.ref p)) (h : SqL K H p (nl L)) (nd : L.Nodup) (hz : L.length ≤ 4000) : Ev (RZ.tLenSetI K ta) σ H (.int (L.length : Int)) := fun H1 e Q k =>
  ha H1 e _ fun H2 e2 => ⟨p, L.map fun (x : Nat) => (x : Int), rfl, by
    have h2 := ex_l (e.trans e2) h
    rw [nl_il] at h2
    exact h2, nodup_cast nd, by rw [List.length_map]; exact hz, by
    rw [List.length_map]
    exact k H2 e2⟩
/-- a call of two new lists -/
theorem el_callNN {sp : Sp} {xs ys zs : List V} {E : XK} (h : EvL ta σ H xs) (h2 : EvL tb σ H ys) (hs : ∀ p q H1, Ex H H1 → H1 p = some (.lst xs) → H1 q = some (.lst ys) → SpL sp [.ref p, .ref q] H1 zs) : EvL (tCall sp [] E (tCons ta (tCons tb tNil))) σ H zs := fun H1 e Q k =>
  h H1 e _ fun p H2 _ e2 hp => h2 H2 (e.trans e2) _ fun q H3 _ e3 hq => hs p q H3 ((e.trans e2).trans e3) (e3 _ _ hp) hq H3 (Ex.refl H3) Q (fun r H4 n4 e4 h4 => k r H4 (fresh_back (e2.trans e3) n4) ((e2.trans e3).trans e4) h4) E
theorem el_callN1 {sp : Sp} {xs zs : List V} {E : XK} (h : EvL ta σ H xs) (hs : ∀ p H1, Ex H H1 → H1 p = some (.lst xs) → SpL sp [.ref p] H1 zs) : EvL (tCall sp [] E (tCons ta tNil)) σ H zs := fun H1 e Q k =>
  h H1 e _ fun p H2 _ e2 hp => hs p H2 (e.trans e2) hp H2 (Ex.refl H2) Q (fun r H4 n4 e4 h4 => k r H4 (fresh_back e2 n4) (e2.trans e4) h4) E
/-- [e for x in a new list of numbers] -/
theorem el_mapIN {L : List Int} {tl : TE} {j : Nat} (g : Int → V) (h : EvL tl σ H (il L)) (hz : L.length ≤ 40000)
    (he : ∀ (x : Int) H1, Ex H H1 → x ∈ L → Ev te ((wipe σ [j]).set j (some (.int x))) H1 (g x)) : EvL (tLc (iList K tl) (gName j) tYes te [j]) σ H (L.map g) := by
  have h1 := el_lcNL (K := K) (j := j) (te := te) (vs := [j]) (t := tYes) (fun _ => true) (fun i => g (L.getD i 0)) h (by rw [il_len]; exact hz) (fun x => wipe1 σ j x) (fun _ _ _ _ _ => et_yes) (fun i x H1 e hi _ => by
    obtain ⟨y, h2, rfl, h3⟩ := il_inv hi
    have h4 : L.getD i 0 = y := by
      rw [List.getD_eq_getElem?_getD, h2]
      rfl
    rw [h4]
    exact he y H1 e (List.mem_of_getElem? h2))
  rw [given_all, il_len] at h1
  have e : (List.range L.length).map (fun i => g (L.getD i 0)) = L.map g := by
    refine List.ext_getElem? fun i => ?_
    rw [List.getElem?_map, List.getElem?_map]
    by_cases hi : i < L.length
    · rw [List.getElem?_range hi, List.getElem?_eq_getElem hi]
      show some (g (L.getD i 0)) = some (g L[i])
      rw [List.getD_eq_getElem?_getD, List.getElem?_eq_getElem hi]
      rfl
    · rw [List.getElem?_eq_none (by rw [List.length_range]; omega), List.getElem?_eq_none (by omega)]
      rfl
  rw [e] at h1
  exact h1
/-- sorted(xs): the rising list of the same numbers -/
theorem el_sorted {A ns : List Int} (ha : Ev ta σ H (.ref p)) (h : SqL K H p (il ns)) (hA : A.Perm ns) (hs : A.Pairwise (· ≤ ·)) : EvL (tCB (rSortedI K) (tCons ta tNil)) σ H (il A) := fun H1 e Q k =>
  ha H1 e _ fun H2 e2 => ⟨p, ns, rfl, ex_l (e.trans e2) h, fun B r h1 h2 hr => k r _ (fresh_back e2 hr) (e2.trans (Ex.new hr)) (by
    rw [upd_same, sorted_is (h1.trans hA.symm) h2 hs]
    rfl)⟩
theorem ev_min2 {i j : Int} (ha : Ev ta σ H (.int i)) (hb : Ev tb σ H (.int j)) : Ev (tCB (fun xs H Q => ∃ i j : Int, xs = [V.int i, V.int j] ∧ Q (.int (if j < i then j else i)) H) (tCons ta (tCons tb tNil))) σ H (.int (if j < i then j else i)) := fun H1 e Q q =>
  ha H1 e _ fun H2 e2 => hb H2 (e.trans e2) _ fun H3 e3 => ⟨i, j, rfl, q H3 (e2.trans e3)⟩
theorem ev_max2' {i j : Int} (ha : Ev ta σ H (.int i)) (hb : Ev tb σ H (.int j)) : Ev (tCB (fun xs H Q => ∃ i j : Int, xs = [V.int i, V.int j] ∧ Q (.int (if j > i then j else i)) H) (tCons ta (tCons tb tNil))) σ H (.int (if j > i then j else i)) := fun H1 e Q q =>
  ha H1 e _ fun H2 e2 => hb H2 (e.trans e2) _ fun H3 e3 => ⟨i, j, rfl, q H3 (e2.trans e3)⟩

/-! ### lists of lists -/
def LLs (K : PySem.W.Frag) (H : Hp) : List Addr → List (List Nat) → Prop := Paired fun r l => SqL K H r (nl l)
theorem LLs.ex {rs : List Addr} {Ls : List (List Nat)} (h : LLs K H rs Ls) (e : Ex H H') : LLs K H' rs Ls := Paired.mapP h fun _ _ q => ex_l e q
theorem dp_nl {L : List Nat} (h : SqL K H p (nl L)) : Dp K H (.ref p) (.list (L.map fun (x : Nat) => PyData.int (x : Int))) := by
  rw [nl_il] at h
  have h1 := dp_il h
  rw [List.map_map] at h1
  exact h1
def dl (l : List Nat) : PyData := .list (l.map fun (x : Nat) => PyData.int (x : Int))
theorem dl_eq (l : List Nat) : dl l = .list ((l.map fun (x : Nat) => (x : Int)).map PyData.int) := by
  unfold dl
  rw [List.map_map]
  rfl
theorem dpAll_ll : ∀ {rs : List Addr} {Ls : List (List Nat)}, LLs K H rs Ls → DpAll K H (rs.map V.ref) (Ls.map dl)
  | _, _, .nil => .nil
  | _, _, .cons h t => .cons (dp_nl h) (dpAll_ll t)
theorem eqvAll_ll : ∀ A B : List (List Nat), PyData.eqvAll (A.map dl) (B.map dl) = decide (A = B)
  | [], [] => rfl
  | [], _ :: _ => rfl
  | _ :: _, [] => rfl
  | a :: r, b :: s => by
    show (PyData.eqv (dl a) (dl b) && PyData.eqvAll (r.map dl) (s.map dl)) = _
    rw [eqvAll_ll r s, dl_eq, dl_eq, eqv_int]
    rw [Bool.eq_iff_iff, Bool.and_eq_true, decide_eq_true_eq, decide_eq_true_eq, decide_eq_true_eq, cast_inj, List.cons.injEq]
theorem canAll_ll : ∀ A : List (List Nat), PyData.canLayAll0 (A.map dl) = true
  | [] => rfl
  | a :: r => by
    show (PyData.canLay0 (dl a) && PyData.canLayAll0 (r.map dl)) = true
    rw [canAll_ll r, dl_eq]
    show (PyData.canLayAll0 ((a.map fun (x : Nat) => (x : Int)).map PyData.int) && true) = true
    rw [canAll_int]
    rfl
theorem depthAll_ll : ∀ A : List (List Nat), PyData.depthAll (A.map dl) ≤ 1
  | [] => Nat.zero_le 1
  | a :: r => by
    show max (PyData.depth (dl a)) (PyData.depthAll (r.map dl)) ≤ 1
    have h1 : PyData.depth (dl a) = 1 := by
      rw [dl_eq]
      show PyData.depthAll ((a.map fun (x : Nat) => (x : Int)).map PyData.int) + 1 = 1
      rw [depthAll_int]
    have h2 := depthAll_ll r
    rw [h1]
    omega
theorem shaped_ll (A : List (List Nat)) : SeqAt.shaped (.list (A.map dl)) = true := by
  unfold SeqAt.shaped
  have h1 : PyData.canLay0 (.list (A.map dl)) = true := canAll_ll A
  have h2 : PyData.depth (.list (A.map dl)) ≤ 64 := by
    show PyData.depthAll (A.map dl) + 1 ≤ 64
    have := depthAll_ll A
    omega
  rw [h1, decide_eq_true h2]
  rfl
/-- a list of lists of numbers at p -/
def IsLL (K : PySem.W.Frag) (H : Hp) (p : Addr) (Ls : List (List Nat)) : Prop := ∃ rs : List Addr, SqL K H p (rs.map V.ref) ∧ LLs K H rs Ls
theorem IsLL.ex {Ls : List (List Nat)} (h : IsLL K H p Ls) (e : Ex H H') : IsLL K H' p Ls := by
  obtain ⟨rs, h1, h2⟩ := h
  exact ⟨rs, ex_l e h1, h2.ex e⟩
theorem IsLL.dp {Ls : List (List Nat)} (h : IsLL K H p Ls) : Dp K H (.ref p) (.list (Ls.map dl)) := by
  obtain ⟨rs, h1, h2⟩ := h
  exact .lst h1 (dpAll_ll h2)
theorem rv_eqLL {A B : List (List Nat)} (h1 : IsLL K H p A) (h2 : IsLL K H q B) : RV (rEqD K) (.ref p) (.ref q) H (.bl (decide (A = B))) := fun H1 e Q k =>
  ⟨_, _, (h1.ex e).dp, (h2.ex e).dp, shaped_ll A, shaped_ll B, by
    rw [show PyData.eqv (.list (A.map dl)) (.list (B.map dl)) = decide (A = B) from eqvAll_ll A B]
    exact k H1 (Ex.refl H1)⟩
theorem rv_neLL {A B : List (List Nat)} (h1 : IsLL K H p A) (h2 : IsLL K H q B) : RV (rNeD K) (.ref p) (.ref q) H (.bl (!decide (A = B))) := fun H1 e Q k =>
  ⟨_, _, (h1.ex e).dp, (h2.ex e).dp, shaped_ll A, shaped_ll B, by
    rw [show PyData.eqv (.list (A.map dl)) (.list (B.map dl)) = decide (A = B) from eqvAll_ll A B]
    exact k H1 (Ex.refl H1)⟩
theorem rv_neLL0 {A B : List (List Nat)} (h1 : IsLL K H p A) (h2 : IsLL K H q B) (e : A = B) : RV (rNeD K) (.ref p) (.ref q) H (.bl false) := by
  have h := rv_neLL h1 h2
  rw [decide_eq_true e] at h
  exact h
/-- [a, b] of two new lists -/
theorem tl_two {xs ys : List V} {Q : VK} (h1 : EvL ta σ H xs) (h2 : EvL tb σ H ys) (k : ∀ p q r H2, H r = none → Ex H H2 → H2 p = some (.lst xs) → H2 q = some (.lst ys) → H2 r = some (.lst [.ref p, .ref q]) → Q (.ref r) H2) : tLst (tCons ta (tCons tb tNil)) σ H Q :=
  h1 H (Ex.refl H) _ fun p H1 _ e1 hp => h2 H1 e1 _ fun q H2 _ e2 hq => ⟨by show 2 ≤ sizeLine; decide, fun r hr => k p q r _ (fresh_back (e1.trans e2) hr) ((e1.trans e2).trans (Ex.new hr)) (Ex.new hr _ _ (e2 _ _ hp)) (Ex.new hr _ _ hq) upd_same⟩

/-! ### for i in range(a, b, c) -/
variable {D : Ends} {tu tw tz : TS}
theorem rg_up {n w : Nat} (hw : 0 < w) (hw2 : w < 1000) (hn : n ≤ 1000) : RgC 0 ((n : Int) - (w : Int) + 1) (w : Int) (n / w) := by
  have hsz : Builtin.Range.rangeSize 0 ((n : Int) - (w : Int) + 1) (w : Int) = ((n / w : Nat) : Int) := by
    unfold Builtin.Range.rangeSize
    rw [if_pos (by omega)]
    by_cases h : w ≤ n
    · rw [if_pos (by omega)]
      have e : (n : Int) - (w : Int) + 1 - 0 - 1 = ((n - w : Nat) : Int) := by omega
      rw [e, ← Int.natCast_ediv]
      have h2 : n / w = (n - w) / w + 1 := by
        rw [Nat.div_eq_sub_div hw h]
      rw [h2, Int.natCast_add]
      rfl
    · rw [if_neg (by omega), Nat.div_eq_of_lt (by omega)]
      rfl
  refine ⟨by omega, by omega, ?_, hsz⟩
  unfold Builtin.Range.small
  rw [hsz]
  have h1 : n / w * w ≤ n := Nat.div_mul_le_self n w
  have h2 : n / w ≤ n := Nat.div_le_self n w
  simp only [Builtin.Range.rangeFitsLong, Bool.and_eq_true, Bool.or_eq_true, decide_eq_true_eq, beq_iff_eq]
  rw [if_pos (by omega)]
  generalize n / w = m at h1 h2 ⊢
  refine ⟨by omega, .inr ?_⟩
  rw [Bool.and_eq_true, decide_eq_true_eq, decide_eq_true_eq]
  omega
theorem s_forR3 {ta : TA} {j : Nat} {a b c : Int} {n : Nat} (h : EvA ta σ H [.int a, .int b, .int c]) (hn : RgC a b c n) (Pv : Nat → L2.St → Hp → Prop) (h0 : ∀ H1, Ex H H1 → Pv 0 σ H1)
    (hs : ∀ (i : Nat) σ' H', i < n → Pv i σ' H' → tu { D with nx := Pv (i + 1), ct := Pv (i + 1), bk := D.nx } (σ'.set j (some (.int (a + (i : Nat) * c)))) H') (hd : ∀ σ' H', Pv n σ' H' → D.nx σ' H') : tFor (iRng3 ta) (gName j) tu D σ H :=
  h H (Ex.refl H) _ fun H1 e => ⟨a, b, c, n, rfl, hn, for_rangeC Pv (h0 H1 e) hs hd⟩
theorem q_forR3 {ta : TA} {j : Nat} {a b c : Int} {n : Nat} (h : EvA ta σ H [.int a, .int b, .int c]) (hn : RgC a b c n) (Pv : Nat → L2.St → Hp → Prop) (h0 : ∀ H1, Ex H H1 → Pv 0 σ H1)
    (hs : ∀ (i : Nat) σ' H', i < n → Pv i σ' H' → tu { D with nx := Pv (i + 1), ct := Pv (i + 1), bk := tz D } (σ'.set j (some (.int (a + (i : Nat) * c)))) H') (hd : ∀ σ' H', Pv n σ' H' → tz D σ' H') : tSeq (tFor (iRng3 ta) (gName j) tu) tz D σ H :=
  s_forR3 (D := { D with nx := tz D }) h hn Pv h0 hs hd

theorem nl_map_st (A : List Nat) (f : Nat → Nat) : (List.range A.length).map (fun i => V.int (f (st A i) : Int)) = nl (A.map f) := by
  unfold nl
  rw [List.map_map]
  refine List.ext_getElem? fun i => ?_
  rw [List.getElem?_map, List.getElem?_map]
  by_cases hi : i < A.length
  · rw [List.getElem?_range hi, st_get hi]
    rfl
  · rw [List.getElem?_eq_none (by rw [List.length_range]; omega), List.getElem?_eq_none (by omega)]
    rfl
theorem nl_map (A : List Nat) (f : Nat → Nat) : A.map (fun x => V.int (f x : Int)) = nl (A.map f) := by
  unfold nl
  rw [List.map_map]
  rfl
/-- a name is given what a call of a new list gives back -/
theorem q_asgXN {sp : Sp} {xs : List V} {E : XK} {i : Nat} (h : EvL ta σ H xs) (hs : ∀ p H1, H p = none → Ex H H1 → H1 p = some (.lst xs) → sp [.ref p] H1 (fun v H2 => tz D (σ.set i (some v)) H2) E) : tSeq (tAsg (tCall sp [] E (tCons ta tNil)) (gName i)) tz D σ H :=
  h H (Ex.refl H) _ fun p H1 n e h1 => hs p H1 n e h1
theorem q_two {xs ys : List V} {i : Nat} (h1 : EvL ta σ H xs) (h2 : EvL tb σ H ys) (k : ∀ p q r H2, H r = none → Ex H H2 → H2 p = some (.lst xs) → H2 q = some (.lst ys) → H2 r = some (.lst [.ref p, .ref q]) → tz D (σ.set i (some (.ref r))) H2) : tSeq (tAsg (tLst (tCons ta (tCons tb tNil))) (gName i)) tz D σ H :=
  tl_two (Q := fun x H1 => tz D (σ.set i (some x)) H1) h1 h2 k
end
end Ld
/-! Evz: classes and their instances, slices with a step, places in lists. -/
namespace Ld
open PySem L2 Evl
/-! ### slices with a step -/
def stepV {α : Type} (xs : List α) (lo hi st : Option Int) : List α :=
  (PySem.sliceRange (PySem.sliceBounds lo hi st xs.length).1 (PySem.sliceBounds lo hi st xs.length).2.1 (PySem.sliceBounds lo hi st xs.length).2.2).filterMap (xs[·]?)
theorem stepV_mem {α : Type} {xs : List α} {lo hi st : Option Int} {y : α} (h : y ∈ stepV xs lo hi st) : y ∈ xs := by
  unfold stepV at h
  obtain ⟨i, _, e⟩ := List.mem_filterMap.mp h
  exact List.mem_of_getElem? e
theorem vals_pick {xs : List V} {us : List Value} (r : Vals xs us) : ∀ R : List Nat, Vals (R.filterMap (xs[·]?)) (R.filterMap (us.toArray[·]?))
  | [] => .nil
  | i :: R => by
    have ih := vals_pick r R
    rw [List.filterMap_cons, List.filterMap_cons]
    cases h : xs[i]? with
    | none =>
      have h2 : us.toArray[i]? = none := by
        rw [List.getElem?_toArray]
        exact Vals.none_of r h
      rw [h2]
      exact ih
    | some x =>
      obtain ⟨u, h2, rx⟩ := Vals.get r h
      have h3 : us.toArray[i]? = some u := by
        rw [List.getElem?_toArray]
        exact h2
      rw [h3]
      exact .cons rx ih
theorem vals_step {xs : List V} {us : List Value} {lo hi st : Option Int} (r : Vals xs us) : Vals (stepV xs lo hi st) (PySem.slicePick us.toArray lo hi st).toList := by
  unfold stepV PySem.slicePick
  rw [r.length, List.size_toArray]
  exact vals_pick r _
def tStepL (K : PySem.W.Frag) (te : TE) (l c : Int) : TE := fun σ H Q => te σ H fun x H1 => ∃ a xs, x = .ref a ∧ c ≠ 0 ∧ SqL K H1 a xs ∧ ∀ p, H1 p = none → Q (.ref p) (upd H1 p (.lst (stepV xs (some l) none (some c))))
open PySem.Spec PyProof.Rows in
theorem pe_stepL {X : Cx} {e : Expr} {te : TE} {l c : Int} {k0 k : Nat} {p0 p1 p3 pos : Pos} (he : PE X e te) :
    PE X (.Subscript e (.Slice (some (.Constant (.int l) k0 p0)) none (some (.Constant (.int c) k p1)) p3) pos) (tStepL X.K te l c) := by
  refine ⟨fun pins s σ H Q I h => ?_⟩
  refine Subscript_ (thn (he.run pins s σ H _ I h) fun v s1 ⟨x, H1, I1, r1, q1⟩ => ?_)
  obtain ⟨a, xs, ex, hc, hx, q⟩ := q1
  subst ex
  cases r1
  have hlo : PO X (some (.Constant (.int l) k0 p0)) (tPart (tC (.int l))) := po_some pe_int
  have hst : PO X (some (.Constant (.int c) k p1)) (tPart (tC (.int c))) := po_some pe_int
  refine PySem.wpAny_Slice (thn (hlo.run pins s1 σ H1 (fun o H2 => o = some l ∧ H2 = H1) I1 ⟨l, rfl, rfl, rfl⟩) fun vl s2 ⟨o1, H2, I2, pl, el, e2⟩ => ?_)
  subst el e2
  refine thn (po_none.run pins s2 σ H2 (fun o H3 => o = none ∧ H3 = H2) I2 ⟨rfl, rfl⟩) fun vu s3 ⟨u, H3, I3, pu, eu, e3⟩ => ?_
  subst eu e3
  refine thn (hst.run pins s3 σ H3 (fun o H4 => o = some c ∧ H4 = H3) I3 ⟨c, rfl, rfl, rfl⟩) fun vs s4 ⟨o, H4, I4, ps, eo, e4⟩ => ?_
  subst eo e4
  have I5 : Inv X pins σ H4 { s4 with heap := s4.heap.push { cls := .type "slice", data := .fields #[vl, vu, vs] } } := I4.kept (t' := s4.toks) fun b ob q => Heap.get?_push_of_some _ q
  obtain ⟨its, r, ht, hz⟩ := I5.list hx
  have hlen := r.length
  have hv := vals_step (lo := some l) (hi := none) (st := some c) r
  have hsz := PySem.slicePick_size_le its.toArray (some l) none (some c)
  show wpAny (model X.prog X.w) X.A (subscriptTail e (.Slice (some (.Constant (.int l) k0 p0)) none (some (.Constant (.int c) k p1)) p3) (.ref a) (.ref s4.heap.objs.size)) (EP X pins σ Q) X.xe { s4 with heap := s4.heap.push { cls := .type "slice", data := .fields #[vl, vu, vs] } }
  refine tail_any (ops := [.ref a, .ref s4.heap.objs.size]) ht.isList.typeIs (PySem.slot_list_getitem.lookup) ?_ (by with_unfolding_all rfl)
  refine PySem.wpAny_getItem_list_slice ht.isList (Heap.IsSliceOf.new _ vl vu vs) pl pu ps (fun z => hc (Option.some.inj z)) ?_ (by rw [List.size_toArray]; omega)
  refine ⟨.ref _, _, I5.laid (t' := s4.toks) (o := .lst (stepV xs (some l) none (some c))) (fun b ob q => Heap.get?_push_of_some _ q) (Nat.le_refl _) ?_, rfl, q _ (I5.hok.fresh (Nat.le_refl _))⟩
  refine ⟨?_, (PySem.slicePick its.toArray (some l) none (some c)).toList, 0, hv, ?_⟩
  · have h5 : its.toArray.size = its.length := List.size_toArray
    rw [hv.length, Array.length_toList]
    omega
  · rw [Array.toArray_toList]
    exact Heap.get?_push_size _ rfl
theorem pe_stepLK {X : Cx} {K : PySem.W.Frag} {e : Expr} {te : TE} {l c : Int} {k0 k : Nat} {p0 p1 p3 pos : Pos} (h : X.K = K) (he : PE X e te) :
    PE X (.Subscript e (.Slice (some (.Constant (.int l) k0 p0)) none (some (.Constant (.int c) k p1)) p3) pos) (tStepL K te l c) := by
  subst h
  exact pe_stepL he

/-! ### classes -/
/-- what is asked of a class of the text -/
structure Ck (K : PySem.W.Frag) (mg : Str → Option Value) (x : Str) (C : Addr) : Prop where
  cl : Cls K C
  g : mg x = some (.ref C)
  ha : PySem.W.findIn K (.ref C) "__class__" = some (some (.builtin "object.__class__"))
  hn : PySem.W.specialIn K (.builtin "object.__class__") "__get__" = some (some (.builtin "getset_descriptor.__get__"))
  htk : PySem.W.takesIn K (.builtin "object.__class__") = some true
  hm : PySem.W.mroIn K C (.type "object") = some true
/-- a method that keeps its promise; a class made by an __init__ that keeps its promise -/
structure Mt (P : Program) (w : World) (K : PySem.W.Frag) (mg : Str → Option Value) (base : Heap) (CX : CXT) (k : Nat) (C : Addr) (m : Str) (ps : List Str) (sp : Sp) : Prop where
  ex : ∃ (f : Addr) (fd : FuncData), FnOk P w K mg base CX k f fd ps sp ∧ Meth K C m f ∧ Binds K fd ps []
structure Cn (P : Program) (w : World) (K : PySem.W.Frag) (mg : Str → Option Value) (base : Heap) (CX : CXT) (k : Nat) (x : Str) (C : Addr) (ps : List Str) (sp : Sp) : Prop where
  ex : ∃ (f : Addr) (fd : FuncData), FnOk P w K mg base CX k f fd ps sp ∧ Mk K C f ∧ Binds K fd ps []
  g : mg x = some (.ref C)
section
variable {X : Cx} {K : PySem.W.Frag}
theorem pe_methD {CX : CXT} {k : Nat} {C : Addr} {m : Str} {ps : List Str} {sp : Sp} {E : XK} {o e : Expr} {es : List Expr} {ta : TE} {t : TA} {apos pos : Pos} {pl : Sem Bool} (c : Cls X.K C) (D : Mt X.prog X.w X.K X.mg X.base CX k C m ps sp) (hr : Room k X.A) (hx : Passes CX X E) (he : PE X o ta)
    (ha : PA X (e :: es) t) (hst : starEach (e :: es) X.env = (false, eval e X.env) :: starEach es X.env := by rfl) (hpl : (backTo pos (starEach es X.env)).any (·.1) = false := by rfl)
    (ht : eval (.Call (.Attribute o m apos) (e :: es) [] pos) X.env = (do
      let ov ← eval o X.env
      standAt apos.atName
      let (f, first) ← holding [ov] (getMethod ov m pl)
      callWith pos f first (backTo pos (starEach (e :: es) X.env)) (backToKw pos (keywordEach [] X.env))) := by rfl) : PE X (.Call (.Attribute o m apos) (e :: es) [] pos) (tMeth C m sp [] E ta t) := by
  obtain ⟨f, fd, F, M, b⟩ := D.ex
  exact pe_meth he c M F hr b .nil hx ha hst hpl ht
theorem pe_makeD {CX : CXT} {k : Nat} {x : Str} {C : Addr} {ps : List Str} {sp : Sp} {E : XK} {e : Expr} {es : List Expr} {t : TA} {p pos : Pos} (D : Cn X.prog X.w X.K X.mg X.base CX k x C ps sp) (hr : Room (k + 1) X.A) (hg : Gl X x) (hx : Passes CX X E)
    (ha : PA X (e :: es) t) (hdb : (x == ("__debug__" : Str)) = false := by decide) (he : starEach (e :: es) X.env = (false, eval e X.env) :: starEach es X.env := by rfl) (hpl : (backTo pos (starEach es X.env)).any (·.1) = false := by rfl) :
    PE X (.Call (.Name x p) (e :: es) [] pos) (tMake C sp [] E t) := by
  obtain ⟨f, fd, F, M, b⟩ := D.ex
  exact pe_make M F hr hg D.g b .nil hx ha hdb he hpl
/-- one of two readings -/
def tOr2 (t1 t2 : TE) : TE := fun σ H Q => t1 σ H Q ∨ t2 σ H Q
theorem pe_or2 {e : Expr} {t1 t2 : TE} (h1 : PE X e t1) (h2 : PE X e t2) : PE X e (tOr2 t1 t2) := ⟨fun pins s σ H Q I h => by
  rcases h with h | h
  · exact h1.run pins s σ H Q I h
  · exact h2.run pins s σ H Q I h⟩
theorem pe_fldK {e : Expr} {ta : TE} {f : Str} {pos : Pos} (h : X.K = K) (he : PE X e ta) (hb : attributeBase e f X.env (eval e X.env) = eval e X.env) : PE X (.Attribute e f pos) (tFld K ta f) := by
  subst h
  exact pe_fld he hb
theorem ps_fldK {o value : Expr} {ta tv : TE} {f : Str} {pos pos' : Pos} (h : X.K = K) (ha : PE X o ta) (hv : PE X value tv) (hs : swapsWith value (some (.Attribute o f pos')) pos.line X.env = pure false) : PS X (.Assign [.Attribute o f pos'] value pos) (sFld K ta tv f) := by
  subst h
  exact ps_fld ha hv hs
theorem mt_indexK (h : X.K = K) : MtR X "list.index" (rIndex K) := by
  subst h
  exact mt_index
end
/-- all but x as it was -/
def ExB (x : Addr) (H H' : Hp) : Prop := ∀ b o, b ≠ x → H b = some o → H' b = some o
theorem ex_made {H H' : Hp} {x dx : Addr} {o o' : HO} (nx : H x = none) (nd : H dx = none) (h : ExB x (upd (upd H dx o') x o) H') : Ex H H' := fun b u e => by
  have h1 : b ≠ x := ne_of_none e nx
  exact h b u h1 (by rw [upd_ne h1, upd_ne (ne_of_none e nd)]; exact e)
theorem look1 {f : Str} {v : V} : List.lookup f [(f, v)] = some v := by
  unfold List.lookup
  rw [beq_self_eq_true]
theorem lookA {f : Str} {v : V} {r : List (Str × V)} : List.lookup f ((f, v) :: r) = some v := by
  unfold List.lookup
  rw [beq_self_eq_true]
theorem lookB {f g : Str} {v w : V} (h : (f == g) = false) : List.lookup f [(g, v), (f, w)] = some w := by
  unfold List.lookup
  rw [h]
  exact lookA
theorem putB {f g : Str} {v w : V} (h : ¬ g = f) : putF f w [(g, v)] = [(g, v), (f, w)] := by
  show (if g = f then [(g, w)] else (g, v) :: putF f w []) = _
  rw [if_neg h]
  rfl
section
variable {K : PySem.W.Frag} {mg : Str → Option Value} {σ : L2.St} {H H' : Hp} {ta tb tc te tx td ty : TE} {t u : TT} {x y z v : V} {r r' : R2} {p q : Addr} {D : Ends} {tu tw tz : TS}
theorem el_step {xs : List V} {l c : Int} (ha : Ev ta σ H (.ref p)) (h : SqL K H p xs) (hc : c ≠ 0) : EvL (tStepL K ta l c) σ H (stepV xs (some l) none (some c)) := fun H1 e Q k =>
  ha H1 e _ fun H2 e2 => ⟨p, xs, rfl, hc, ex_l (e.trans e2) h, fun r hr => k r _ (fresh_back e2 hr) (e2.trans (Ex.new hr)) upd_same⟩
/-- xs + ys of two new lists -/
theorem el_cat {xs ys : List V} (ha : EvL ta σ H xs) (hb : EvL tb σ H ys) (hz : xs.length + ys.length ≤ 100000) : EvL (tOp rCat ta tb) σ H (xs ++ ys) := fun H1 e Q k =>
  ha H1 e _ fun p H2 _ e2 hp => hb H2 (e.trans e2) _ fun q H3 _ e3 hq => ⟨p, q, xs, ys, rfl, rfl, e3 _ _ hp, hq, sz_of hz, fun r hr => k r _ (fresh_back (e2.trans e3) hr) ((e2.trans e3).trans (Ex.new hr)) upd_same⟩
theorem inV_il (i : Int) : ∀ L : List Int, inV (.int i) (il L) = decide (i ∈ L)
  | [] => rfl
  | a :: r => by
    have ih := inV_il i r
    unfold inV at ih ⊢
    show (eqV (.int a) (.int i) || (il r).any fun y => eqV y (.int i)) = _
    rw [ih]
    show ((a == i) || decide (i ∈ r)) = _
    rw [Bool.eq_iff_iff, Bool.or_eq_true, decide_eq_true_eq, decide_eq_true_eq, List.mem_cons, beq_iff_eq]
    exact ⟨fun h => h.imp Eq.symm id, fun h => h.imp Eq.symm id⟩
theorem flat_il : ∀ L : List Int, (il L).all flatV = true
  | [] => rfl
  | a :: r => by
    show (flatV (.int a) && (il r).all flatV) = true
    rw [flat_il r]
    rfl
theorem mem_cast {i : Nat} {L : List Nat} : (i : Int) ∈ L.map (fun (x : Nat) => (x : Int)) ↔ i ∈ L := by
  rw [List.mem_map]
  refine ⟨fun ⟨j, h1, h2⟩ => ?_, fun h => ⟨i, h, rfl⟩⟩
  have : j = i := by omega
  rw [← this]
  exact h1
theorem rv_inI {i : Int} {L : List Int} {b : Bool} (h : SqL K H p (il L)) (e : decide (i ∈ L) = b) : RV (rIn K false) (.int i) (.ref p) H (.bl b) := by
  have h1 := rv_isL (x := .int i) h rfl (flat_il L)
  rw [inV_il, e] at h1
  exact h1
theorem rv_ninI {i : Int} {L : List Int} {b : Bool} (h : SqL K H p (il L)) (e : (!decide (i ∈ L)) = b) : RV (rIn K true) (.int i) (.ref p) H (.bl b) := by
  have h1 := rv_niL (x := .int i) h rfl (flat_il L)
  rw [inV_il, e] at h1
  exact h1
theorem rv_inN {i : Nat} {L : List Nat} {b : Bool} (h : SqL K H p (nl L)) (e : decide (i ∈ L) = b) : RV (rIn K false) (.int (i : Int)) (.ref p) H (.bl b) := by
  rw [nl_il] at h
  exact rv_inI h (by rw [← e]; exact decide_eq_decide.mpr mem_cast)
theorem rv_ninN {i : Nat} {L : List Nat} {b : Bool} (h : SqL K H p (nl L)) (e : (!decide (i ∈ L)) = b) : RV (rIn K true) (.int (i : Int)) (.ref p) H (.bl b) := by
  rw [nl_il] at h
  exact rv_ninI h (by rw [← e]; rw [decide_eq_decide.mpr mem_cast])
/-- xs.index(x), x in xs -/
theorem ev_index {i : Nat} {L : List Nat} (ha : Ev ta σ H (.ref p)) (hL : Rd H p (.lst (nl L))) (hb : Ev tb σ H (.int (i : Int))) (hi : i ∈ L) : Ev (tBM K "list" (rIndex K) ta (tCons tb tNil)) σ H (.int (L.idxOf i : Int)) := fun H1 e Q k =>
  ha H1 e _ fun H2 e2 => ⟨.inl ⟨rfl, _, .inl (ex_rd (e.trans e2) hL)⟩, hb H2 (e.trans e2) _ fun H3 e3 => by
    have h1 : L.idxOf i < L.length := List.idxOf_lt_length_iff.mpr hi
    refine ⟨p, nl L, .int (i : Int), L.idxOf i, .int (i : Int), rfl, rfl, .inl (ex_rd ((e.trans e2).trans e3) hL), rfl, by rw [nl_il]; exact flat_il _, ?_, ?_, ?_, k H3 (e2.trans e3)⟩
    · have h2 := nl_st h1
      rw [st_idx hi] at h2
      exact h2
    · show ((i : Int) == (i : Int)) = true
      exact beq_self_eq_true _
    · intro m z hm hz
      obtain ⟨y, hy, rfl, hl⟩ := nl_inv hz
      show ((y : Int) == (i : Int)) = false
      refine beq_eq_false_iff_ne.mpr fun e => ?_
      have e2 : y = i := by omega
      subst e2
      have h3 := List.not_of_lt_findIdx (p := (· == y)) (xs := L) (i := m) (by exact hm)
      have h4 : L[m] = y := by
        rw [List.getElem?_eq_getElem hl] at hy
        exact Option.some.inj hy
      rw [h4] at h3
      simp at h3⟩
/-! ### instances -/
theorem ty_ins {C dx : Addr} {x : Str} {fs : List (Str × V)} (c : Ck K mg x C) (h : H p = some (.ins C dx fs)) {H1 : Hp} (e : Ex H H1) : TyX K H1 (.ref p) (.ref C) := .base (.ins (e _ _ h) c.cl c.ha c.hn c.htk c.hm)
theorem ev_isiC {C C2 dx : Addr} {x : Str} {fs : List (Str × V)} {b : Bool} (c : Ck K mg x C) (ha : Ev ta σ H (.ref p)) (h : H p = some (.ins C dx fs)) (hb : PySem.W.kitOne K (.ref C) (.ref C2) = some b) : Ev (tCB (rIsi K) (tCons ta (tCons (tC (.ref C2)) tNil))) σ H (.bl b) :=
  ev_isi ha ev_c (.own C2) (fun _ e => ty_ins c h e) hb
theorem ev_fld {C dx : Addr} {f : Str} {fs : List (Str × V)} (c : Cls K C) (n : NoAttr K C f) (ha : Ev ta σ H (.ref p)) (h : H p = some (.ins C dx fs)) (hl : fs.lookup f = some v) : Ev (tFld K ta f) σ H v := fun H1 e Q k =>
  ha H1 e _ fun H2 e2 => ⟨p, C, dx, fs, v, rfl, (e.trans e2) _ _ h, c, n, hl, k H2 e2⟩
theorem ev_meth {C dx : Addr} {m : Str} {fs : List (Str × V)} {sp : Sp} {E : XK} {ta' : TA} {vs : List V} (ha : Ev ta σ H (.ref p)) (h : H p = some (.ins C dx fs)) (hl : fs.lookup m = none) (hv : EvA ta' σ H vs) (hs : SpV sp (.ref p :: vs) H z) : Ev (tMeth C m sp [] E ta ta') σ H z := fun H1 e Q k =>
  ha H1 e _ fun H2 e2 => ⟨p, dx, fs, rfl, (e.trans e2) _ _ h, hl, hv H2 (e.trans e2) _ fun H3 e3 => by
    rw [List.append_nil]
    exact hs H3 ((e.trans e2).trans e3) Q (fun H4 e4 => k H4 ((e2.trans e3).trans e4)) E⟩
theorem ev_or2l (h : Ev ta σ H v) : Ev (tOr2 ta tb) σ H v := fun H1 e Q k => .inl (h H1 e Q k)
theorem ev_or2r (h : Ev tb σ H v) : Ev (tOr2 ta tb) σ H v := fun H1 e Q k => .inr (h H1 e Q k)
/-- o.f = e in an __init__ -/
theorem s_fld {C dx : Addr} {f : Str} {fs : List (Str × V)} (c : Cls K C) (n : NoAttr K C f) (hv : Ev tx σ H v) (ha : Ev ta σ H (.ref p)) (h : H p = some (.ins C dx fs)) (hz : fs.length < 1000) (k : ∀ H1, Ex H H1 → D.nx σ (upd H1 p (.ins C dx (putF f v fs)))) : sFld K ta tx f D σ H :=
  hv H (Ex.refl H) _ fun H1 e1 => ha H1 e1 _ fun H2 e2 => ⟨p, C, dx, fs, rfl, (e1.trans e2) _ _ h, c, n, hz, k H2 (e1.trans e2)⟩
theorem s_fldL {C dx : Addr} {f : Str} {fs : List (Str × V)} {xs : List V} (c : Cls K C) (n : NoAttr K C f) (hv : EvL tx σ H xs) (ha : Ev ta σ H (.ref p)) (h : H p = some (.ins C dx fs)) (hz : fs.length < 1000)
    (k : ∀ l H1, H l = none → Ex H H1 → H1 l = some (.lst xs) → D.nx σ (upd H1 p (.ins C dx (putF f (.ref l) fs)))) : sFld K ta tx f D σ H :=
  hv H (Ex.refl H) _ fun l H1 nl e1 hl => ha H1 e1 _ fun H2 e2 => ⟨p, C, dx, fs, rfl, (e1.trans e2) _ _ h, c, n, hz, k l H2 nl (e1.trans e2) (e2 _ _ hl)⟩
theorem q_fld {C dx : Addr} {f : Str} {fs : List (Str × V)} (c : Cls K C) (n : NoAttr K C f) (hv : Ev tx σ H v) (ha : Ev ta σ H (.ref p)) (h : H p = some (.ins C dx fs)) (hz : fs.length < 1000) (k : ∀ H1, Ex H H1 → tz D σ (upd H1 p (.ins C dx (putF f v fs)))) : tSeq (sFld K ta tx f) tz D σ H :=
  s_fld (D := { D with nx := tz D }) c n hv ha h hz k
theorem DM.upd {n : Nat} {M : Int → Option V} {o : HO} (h : DM H p n M) (hne : p ≠ q) : DM (upd H q o) p n M := by
  obtain ⟨kvs, h1, h2, h3⟩ := h
  exact ⟨kvs, by rw [upd_ne hne]; exact h1, h2, h3⟩
/-- for i, x in enumerate(a new list) -/
theorem s_forNE {xs : List V} {tl : TE} {i j : Nat} (h : EvL tl σ H xs) (Pv : Addr → Nat → L2.St → Hp → Prop) (h0 : ∀ p H1, H p = none → Ex H H1 → H1 p = some (.lst xs) → Pv p 0 σ H1) (hl : ∀ p i σ' H', i ≤ xs.length → Pv p i σ' H' → SqL K H' p xs)
    (hs : ∀ p k x σ' H' H2, xs[k]? = some x → Pv p k σ' H' → Ex H' H2 → (∀ b, H2 b = none → H' b = none) → tu { D with nx := Pv p (k + 1), ct := Pv p (k + 1), bk := D.nx } ((σ'.set i (some (.int (k : Int)))).set j (some x)) H2) (hd : ∀ p σ' H', Pv p xs.length σ' H' → D.nx σ' H') :
    tFor (iEnum K (tCons tl tNil)) (g2 K i j) tu D σ H :=
  h H (Ex.refl H) _ fun p H1 n e hp => ⟨p, xs, rfl, sq_of hp, for_enum (Pv p) (h0 p H1 n e hp) (hl p) (fun k x σ' H' T hk pv nT => g2_go (st_of upd_same) (hs p k x σ' H' _ hk pv (Ex.new nT) fun b hb => fresh_back (Ex.new nT) hb)) (hd p)⟩
theorem q_forNE {xs : List V} {tl : TE} {i j : Nat} (h : EvL tl σ H xs) (Pv : Addr → Nat → L2.St → Hp → Prop) (h0 : ∀ p H1, H p = none → Ex H H1 → H1 p = some (.lst xs) → Pv p 0 σ H1) (hl : ∀ p i σ' H', i ≤ xs.length → Pv p i σ' H' → SqL K H' p xs)
    (hs : ∀ p k x σ' H' H2, xs[k]? = some x → Pv p k σ' H' → Ex H' H2 → (∀ b, H2 b = none → H' b = none) → tu { D with nx := Pv p (k + 1), ct := Pv p (k + 1), bk := tz D } ((σ'.set i (some (.int (k : Int)))).set j (some x)) H2) (hd : ∀ p σ' H', Pv p xs.length σ' H' → tz D σ' H') :
    tSeq (tFor (iEnum K (tCons tl tNil)) (g2 K i j) tu) tz D σ H := s_forNE (D := { D with nx := tz D }) h Pv h0 hl hs hd
/-- some cells of the script: the first ones, then each some places on -/
def cells (ns : List Int) (k l c : Int) : List V := cutV (il ns) none (some k) ++ stepV (il ns) (some l) none (some c)
theorem mem_cells {ns : List Int} {k l c : Int} {i : Nat} {x : V} (h : (cells ns k l c)[i]? = some x) : ∃ z, z ∈ ns ∧ x = .int z := by
  have h1 := List.mem_of_getElem? h
  unfold cells at h1
  rcases List.mem_append.mp h1 with h1 | h1
  · unfold cutV at h1
    exact mem_il (List.mem_of_mem_drop (List.mem_of_mem_take h1))
  · exact mem_il (stepV_mem h1)
theorem stepV_len (xs : List V) (l c : Int) (hc : 0 < c) : (stepV xs (some l) none (some c)).length ≤ xs.length := by
  have hb : PySem.sliceBounds (some l) none (some c) xs.length = (max 0 (min (if l < 0 then l + xs.length else l) xs.length), (xs.length : Int), c) := by
    unfold PySem.sliceBounds
    dsimp only [Option.getD]
    rw [if_pos (show c > 0 from hc), if_pos (show c > 0 from hc)]
  unfold stepV
  rw [hb]
  refine Nat.le_trans (List.length_filterMap_le _ _) (PySem.sliceRange_length_le _ _ _ xs.length (fun _ => ⟨?_, Int.le_refl _⟩) fun h => absurd hc h)
  show (0 : Int) ≤ max 0 (min (if l < 0 then l + xs.length else l) xs.length)
  omega
theorem cells_len (ns : List Int) (k l c : Int) (hc : 0 < c) : (cells ns k l c).length ≤ 2 * ns.length := by
  unfold cells
  rw [List.length_append]
  have h1 := cutV_length (il ns) none (some k)
  have h2 := stepV_len (il ns) l c hc
  rw [il_len] at h1 h2
  omega
theorem el_cells {ns : List Int} {k l c : Int} {tk : TE} (ha : Ev ta σ H (.ref p)) (ha2 : Ev tb σ H (.ref p)) (h : SqL K H p (il ns)) (hk : Ev tk σ H (.int k)) (hc : 0 < c) (h63 : ns.length ≤ 63) : EvL (tOp rCat (tSl (rSlL K) ta tNoPart (tPart tk)) (tStepL K tb l c)) σ H (cells ns k l c) :=
  el_cat (el_sl ha eo_none (eo_some hk) h) (el_step ha2 h (by omega)) (by
    have h1 := cutV_length (il ns) none (some k)
    have h2 := stepV_len (il ns) l c hc
    rw [il_len] at h1 h2
    omega)
/-- a method of what a call gives back -/
theorem ev_methC {C : Addr} {m : Str} {sp sp1 : Sp} {E E1 : XK} {t1 t2 : TA} {vs ws : List V} (h : EvA t1 σ H vs) (h2 : EvA t2 σ H ws)
    (hs : ∀ H1, Ex H H1 → ∀ R : VK, (∀ x dx fs H2, Ex H1 H2 → H2 x = some (.ins C dx fs) → fs.lookup m = none → SpV sp (.ref x :: ws) H2 z → R (.ref x) H2) → sp1 vs H1 R E1) : Ev (tMeth C m sp [] E (tCall sp1 [] E1 t1) t2) σ H z := fun H1 e Q k =>
  h H1 e _ fun H2 e2 => by
    rw [List.append_nil]
    exact hs H2 (e.trans e2) _ fun x dx fs H3 e3 hx hl hsp => ⟨x, dx, fs, rfl, hx, hl, h2 H3 ((e.trans e2).trans e3) _ fun H4 e4 => by
      rw [List.append_nil]
      exact hsp H4 e4 Q (fun H5 e5 => k H5 (((e2.trans e3).trans e4).trans e5)) E⟩
/-! ### is True, any -/
theorem rv_isB {a b c : Bool} (e : decide (a = b) = c) : RV rIsB (.bl a) (.bl b) H (.bl c) := fun H1 _ _ q => ⟨a, b, rfl, rfl, by
  rw [e]
  exact q H1 (Ex.refl H1)⟩
theorem rv_isnB {a b c : Bool} (e : (!decide (a = b)) = c) : RV rNotB (.bl a) (.bl b) H (.bl c) := fun H1 _ _ q => ⟨a, b, rfl, rfl, by
  rw [e]
  exact q H1 (Ex.refl H1)⟩
theorem rv_eqBl {a b c : Bool} (e : decide (a = b) = c) : RV rEq (.bl a) (.bl b) H (.bl c) := by
  have h := rv_eq (H := H) (x := .bl a) (y := .bl b) rfl
  rw [show decide (V.bl a = V.bl b) = c by
    rw [← e]
    exact decide_eq_decide.mpr ⟨fun h => V.bl.inj h, fun h => by rw [h]⟩] at h
  exact h
theorem ev_any {bs : List Bool} (ha : Ev ta σ H (.ref p)) (h : SqL K H p (bs.map V.bl)) : Ev (tCB (rAny K) (tCons ta tNil)) σ H (.bl (bs.any id)) := fun H1 e Q q =>
  ha H1 e _ fun H2 e2 => ⟨p, bs, rfl, ex_l (e.trans e2) h, q H2 e2⟩
theorem ev_allB {α : Type} {L : List α} {f : α → Bool} (ha : EvL ta σ H (L.map fun x => V.bl (f x))) : Ev (tCB (rAll K) (tCons ta tNil)) σ H (.bl (L.all f)) := by
  have e : (L.map fun x => V.bl (f x)) = (L.map f).map V.bl := by
    rw [List.map_map]
    rfl
  rw [e] at ha
  have h := ev_all (K := K) ha
  rw [List.all_map] at h
  exact h
end
end Ld
/-! Evd: dicts by their keys, pairs walked, what a call gives back asked for its class. -/
namespace Ld
open PySem L2 Evl
section
variable {K : PySem.W.Frag} {mg : Str → Option Value} {σ : L2.St} {H H' : Hp} {ta tb tc te tx td ty : TE} {t u : TT} {x y z v : V} {r r' : R2} {p q : Addr} {D : Ends} {tu tw tz : TS}
/-- a dict whose keys are ks, in their turn -/
def DKs (H : Hp) (d : Addr) (ks : List Nat) : Prop := ∃ kvs : List (Key × V), H d = some (.dK kvs) ∧ kvs.map (·.1) = ks.map fun (k : Nat) => (Sum.inl (k : Int) : Key)
theorem DKs.ex {ks : List Nat} (h : DKs H p ks) (e : Ex H H') : DKs H' p ks := by
  obtain ⟨kvs, h1, h2⟩ := h
  exact ⟨kvs, e _ _ h1, h2⟩
theorem DKs.upd {ks : List Nat} {o : HO} (h : DKs H p ks) (hne : p ≠ q) : DKs (upd H q o) p ks := by
  obtain ⟨kvs, h1, h2⟩ := h
  exact ⟨kvs, by rw [upd_ne hne]; exact h1, h2⟩
theorem DKs.some {ks : List Nat} (h : DKs H p ks) : ∃ kvs, H p = some (.dK kvs) := by
  obtain ⟨kvs, h1, h2⟩ := h
  exact ⟨kvs, h1⟩
theorem keyMem {kvs : List (Key × V)} {ks : List Nat} (h : kvs.map (·.1) = ks.map fun (k : Nat) => (Sum.inl (k : Int) : Key)) (k : Nat) : (valV kvs (Sum.inl (k : Int) : Key)).isSome = decide (k ∈ ks) := by
  rw [← valV_any, Bool.eq_iff_iff, List.any_eq_true, decide_eq_true_eq]
  refine ⟨fun ⟨kv, h1, h2⟩ => ?_, fun hk => ?_⟩
  · have h3 : kv.1 ∈ kvs.map (·.1) := List.mem_map.mpr ⟨kv, h1, rfl⟩
    rw [h] at h3
    obtain ⟨j, hj, e⟩ := List.mem_map.mp h3
    have h4 : (Sum.inl (j : Int) : Key) = Sum.inl (k : Int) := e.trans (of_decide_eq_true h2)
    have h5 : j = k := by
      have := Sum.inl.inj h4
      omega
    rw [← h5]
    exact hj
  · have h3 : (Sum.inl (k : Int) : Key) ∈ kvs.map (·.1) := by
      rw [h]
      exact List.mem_map.mpr ⟨k, hk, rfl⟩
    obtain ⟨kv, h4, h5⟩ := List.mem_map.mp h3
    exact ⟨kv, h4, decide_eq_true h5⟩
theorem keyPut {kvs : List (Key × V)} {ks : List Nat} (h : kvs.map (·.1) = ks.map fun (k : Nat) => (Sum.inl (k : Int) : Key)) (k : Nat) (v : V) : (putK kvs (Sum.inl (k : Int)) v).map (·.1) = (addK ks k).map fun (k : Nat) => (Sum.inl (k : Int) : Key) := by
  have hm := keyMem h k
  unfold putK addK
  rw [valV_any, hm]
  by_cases hk : k ∈ ks
  · rw [decide_eq_true hk, if_pos rfl, if_pos hk, List.map_map, ← h]
    refine List.map_congr_left fun kv _ => ?_
    show (if kv.1 = (Sum.inl (k : Int) : Key) then (kv.1, v) else kv).1 = kv.1
    split <;> rfl
  · rw [decide_eq_false hk, if_neg Bool.false_ne_true, if_neg hk, List.map_append, List.map_append, h]
    rfl
theorem DKs.getI {ks : List Nat} {k : Nat} (h : DKs H p ks) : ∃ o : Option V, DGet H p (.int (k : Int)) o ∧ o.isSome = decide (k ∈ ks) := by
  obtain ⟨kvs, h1, h2⟩ := h
  exact ⟨_, DGet.k (k := Sum.inl (k : Int)) h1, keyMem h2 k⟩
theorem ev_dinK {ks : List Nat} {k : Nat} {b : Bool} (hk : Ev ty σ H (.int (k : Int))) (hd : Ev td σ H (.ref p)) (h : DKs H p ks) (e : decide (k ∈ ks) = b) : Ev (tDIn ty td) σ H (.bl b) := fun H1 e1 Q q =>
  hk H1 e1 _ fun H2 e2 => hd H2 (e1.trans e2) _ fun H3 e3 => by
    obtain ⟨o, h1, h2⟩ := (h.ex ((e1.trans e2).trans e3)).getI (k := k)
    refine ⟨p, o, rfl, h1, ?_⟩
    rw [h2, e]
    exact q H3 (e2.trans e3)
theorem ev_dnotinK {ks : List Nat} {k : Nat} {b : Bool} (hk : Ev ty σ H (.int (k : Int))) (hd : Ev td σ H (.ref p)) (h : DKs H p ks) (e : (!decide (k ∈ ks)) = b) : Ev (tDNotIn ty td) σ H (.bl b) := fun H1 e1 Q q =>
  hk H1 e1 _ fun H2 e2 => hd H2 (e1.trans e2) _ fun H3 e3 => by
    obtain ⟨o, h1, h2⟩ := (h.ex ((e1.trans e2).trans e3)).getI (k := k)
    refine ⟨p, o, rfl, h1, ?_⟩
    rw [h2, e]
    exact q H3 (e2.trans e3)
theorem s_dputK {ks : List Nat} {k : Nat} (hv : Ev tx σ H v) (hd : Ev td σ H (.ref p)) (hk : Ev ty σ H (.int (k : Int))) (h : DKs H p ks) (hn : ks.length < 100000)
    (go : ∀ H1, Ex H H1 → ∀ o, DKs (L2.upd H1 p o) p (addK ks k) → D.nx σ (L2.upd H1 p o)) : sDPut td ty tx D σ H :=
  hv H (Ex.refl H) _ fun H1 e1 => hd H1 e1 _ fun H2 e2 => hk H2 (e1.trans e2) _ fun H3 e3 => by
    obtain ⟨kvs, h1, h2⟩ := h
    have h4 := ((e1.trans e2).trans e3) _ _ h1
    have h5 : kvs.length = ks.length := by
      have := congrArg List.length h2
      rw [List.length_map, List.length_map] at this
      exact this
    refine ⟨p, _, rfl, DPut.k (k := Sum.inl (k : Int)) h4 (sz_lt (by omega)), ?_⟩
    exact go H3 ((e1.trans e2).trans e3) _ ⟨_, upd_same, keyPut h2 k v⟩
theorem q_dputK {ks : List Nat} {k : Nat} (hv : Ev tx σ H v) (hd : Ev td σ H (.ref p)) (hk : Ev ty σ H (.int (k : Int))) (h : DKs H p ks) (hn : ks.length < 100000)
    (go : ∀ H1, Ex H H1 → ∀ o, DKs (L2.upd H1 p o) p (addK ks k) → tz D σ (L2.upd H1 p o)) : tSeq (sDPut td ty tx) tz D σ H := s_dputK (D := { D with nx := tz D }) hv hd hk h hn go
theorem q_dnewK {i : Nat} (k : ∀ d H1, H d = none → Ex H H1 → DKs H1 d [] → tz D (σ.set i (some (.ref d))) H1) : tSeq (tAsg tDNewK (gName i)) tz D σ H := fun d hd => k d _ hd (Ex.new hd) ⟨[], upd_same, rfl⟩
/-- sorted(d) -/
theorem el_sortedD {ks : List Nat} (ha : Ev ta σ H (.ref p)) (h : DKs H p ks) (hz : ks.length < 64) : EvL (tCB (fun xs H Q => ∃ (a : Addr) (kvs : List (Key × V)) (ks : List Int), xs = [V.ref a] ∧ Rd H a (.dK kvs) ∧ kvs.map (·.1) = ks.map Sum.inl ∧ ks.length < 64 ∧
    ∀ (ys : List Int) (p : Addr), ys.Perm ks → ys.Pairwise (· ≤ ·) → H p = none → Q (.ref p) (L2.upd H p (.lst (ys.map V.int)))) (tCons ta tNil)) σ H (nl (srt ks)) := fun H1 e Q k =>
  ha H1 e _ fun H2 e2 => by
    obtain ⟨kvs, h1, h2⟩ := h.ex (e.trans e2)
    refine ⟨p, kvs, ks.map fun (k : Nat) => (k : Int), rfl, .inl h1, by rw [h2, List.map_map]; rfl, by rw [List.length_map]; exact hz, fun ys r h3 h4 hr => ?_⟩
    refine k r _ (fresh_back e2 hr) (e2.trans (Ex.new hr)) ?_
    rw [upd_same, nl_il, sorted_is (h3.trans ((srt_perm ks).map _).symm) h4 (srt_cast ks)]
    rfl
/-- for a, b in [(..), (..)] -/
theorem s_forTT {a b c d : V} {i j : Nat} (h1 : EvU ta σ H [a, b]) (h2 : EvU tb σ H [c, d]) (Pv : Hp → Nat → L2.St → Hp → Prop) (hex : ∀ G k σ' H', Pv G k σ' H' → Ex G H') (h0 : ∀ G, Ex H G → Pv G 0 σ G)
    (hs0 : ∀ G σ' H', Ex H G → Pv G 0 σ' H' → tu { D with nx := Pv G 1, ct := Pv G 1, bk := D.nx } ((σ'.set i (some a)).set j (some b)) H')
    (hs1 : ∀ G σ' H', Ex H G → Pv G 1 σ' H' → tu { D with nx := Pv G 2, ct := Pv G 2, bk := D.nx } ((σ'.set i (some c)).set j (some d)) H') (hd : ∀ G σ' H', Ex H G → Pv G 2 σ' H' → D.nx σ' H') :
    tFor (iList K (tLst (tCons ta (tCons tb tNil)))) (g2 K i j) tu D σ H :=
  h1 H (Ex.refl H) _ fun p H1 _ e1 hp => h2 H1 e1 _ fun q H2 _ e2 hq => ⟨by show 2 ≤ sizeLine; decide, fun r hr => by
    have eG : Ex H (L2.upd H2 r (.lst [.ref p, .ref q])) := (e1.trans e2).trans (Ex.new hr)
    have hpG : L2.upd H2 r (.lst [.ref p, .ref q]) p = some (.tup [a, b]) := Ex.new hr _ _ (e2 _ _ hp)
    have hqG : L2.upd H2 r (.lst [.ref p, .ref q]) q = some (.tup [c, d]) := Ex.new hr _ _ hq
    refine ⟨r, rfl, ⟨_, sq_of upd_same⟩, for_list (xs := [.ref p, .ref q]) (Pv (L2.upd H2 r (.lst [.ref p, .ref q]))) (h0 _ eG) (fun k σ' H' _ hP => sq_of (hex _ _ _ _ hP _ _ upd_same)) (fun k x σ' H' hx hP => ?_) (fun σ' H' hP => hd _ σ' H' eG hP)⟩
    match k, hx with
    | 0, hx =>
      obtain rfl : V.ref p = x := Option.some.inj hx
      exact g2_go (st_of (hex _ _ _ _ hP _ _ hpG)) (hs0 _ σ' H' eG hP)
    | 1, hx =>
      obtain rfl : V.ref q = x := Option.some.inj hx
      exact g2_go (st_of (hex _ _ _ _ hP _ _ hqG)) (hs1 _ σ' H' eG hP)
    | k + 2, hx => cases hx⟩
theorem q_forTT {a b c d : V} {i j : Nat} (h1 : EvU ta σ H [a, b]) (h2 : EvU tb σ H [c, d]) (Pv : Hp → Nat → L2.St → Hp → Prop) (hex : ∀ G k σ' H', Pv G k σ' H' → Ex G H') (h0 : ∀ G, Ex H G → Pv G 0 σ G)
    (hs0 : ∀ G σ' H', Ex H G → Pv G 0 σ' H' → tu { D with nx := Pv G 1, ct := Pv G 1, bk := tz D } ((σ'.set i (some a)).set j (some b)) H')
    (hs1 : ∀ G σ' H', Ex H G → Pv G 1 σ' H' → tu { D with nx := Pv G 2, ct := Pv G 2, bk := tz D } ((σ'.set i (some c)).set j (some d)) H') (hd : ∀ G σ' H', Ex H G → Pv G 2 σ' H' → tz D σ' H') :
    tSeq (tFor (iList K (tLst (tCons ta (tCons tb tNil)))) (g2 K i j) tu) tz D σ H := s_forTT (D := { D with nx := tz D }) h1 h2 Pv hex h0 hs0 hs1 hd
/-- isinstance(a call, C) -/
theorem ev_isiR {C2 : Addr} {sp1 : Sp} {E1 : XK} {t1 : TA} {vs : List V} {b : Bool} (h : EvA t1 σ H vs)
    (hs : ∀ H1, Ex H H1 → ∀ R : VK, (∀ x dx fs C nm H2, Ex H1 H2 → H2 x = some (.ins C dx fs) → Ck K mg nm C → PySem.W.kitOne K (.ref C) (.ref C2) = some b → R (.ref x) H2) → sp1 vs H1 R E1) : Ev (tCB (rIsi K) (tCons (tCall sp1 [] E1 t1) (tCons (tC (.ref C2)) tNil))) σ H (.bl b) := fun H1 e Q k =>
  h H1 e _ fun H2 e2 => by
    rw [List.append_nil]
    exact hs H2 (e.trans e2) _ fun x dx fs C nm H3 e3 hx hc hb => ⟨.ref x, .ref C2, .ref C, .ref C2, b, rfl, .own C2, ty_ins hc hx (Ex.refl _), hb, k H3 (e2.trans e3)⟩
end
end Ld
namespace Ld
open PySem L2 Evl
def topS (i : Nat) : Stmt := PySem.Challenge.pw_leadson_k05_whole_comes.main.body.getD i (.Pass ⟨0, 0, 0, 0⟩)
structure Cs where
  Answer : Addr
  Steps : Addr
  Shut : Addr
  Met : Addr
  Apart : Addr
  Root : Addr
  Odd : Addr
structure Cl (K : PySem.W.Frag) (mg : Str → Option Value) (c : Cs) : Prop where
  Answer : Ck K mg "Answer" c.Answer
  Steps : Ck K mg "Steps" c.Steps
  Shut : Ck K mg "Shut" c.Shut
  Met : Ck K mg "Met" c.Met
  Apart : Ck K mg "Apart" c.Apart
  Root : Ck K mg "Root" c.Root
  Odd : Ck K mg "Odd" c.Odd
  na_Steps_many : NoAttr K c.Steps "many"
  k_Steps_Answer : PySem.W.kitOne K (.ref c.Steps) (.ref c.Answer) = some true
  k_Steps_Steps : PySem.W.kitOne K (.ref c.Steps) (.ref c.Steps) = some true
  k_Steps_Shut : PySem.W.kitOne K (.ref c.Steps) (.ref c.Shut) = some false
  k_Steps_Met : PySem.W.kitOne K (.ref c.Steps) (.ref c.Met) = some false
  k_Steps_Apart : PySem.W.kitOne K (.ref c.Steps) (.ref c.Apart) = some false
  k_Steps_Root : PySem.W.kitOne K (.ref c.Steps) (.ref c.Root) = some false
  k_Steps_Odd : PySem.W.kitOne K (.ref c.Steps) (.ref c.Odd) = some false
  na_Shut_places : NoAttr K c.Shut "places"
  k_Shut_Answer : PySem.W.kitOne K (.ref c.Shut) (.ref c.Answer) = some true
  k_Shut_Steps : PySem.W.kitOne K (.ref c.Shut) (.ref c.Steps) = some false
  k_Shut_Shut : PySem.W.kitOne K (.ref c.Shut) (.ref c.Shut) = some true
  k_Shut_Met : PySem.W.kitOne K (.ref c.Shut) (.ref c.Met) = some false
  k_Shut_Apart : PySem.W.kitOne K (.ref c.Shut) (.ref c.Apart) = some false
  k_Shut_Root : PySem.W.kitOne K (.ref c.Shut) (.ref c.Root) = some false
  k_Shut_Odd : PySem.W.kitOne K (.ref c.Shut) (.ref c.Odd) = some false
  na_Met_mine : NoAttr K c.Met "mine"
  na_Met_theirs : NoAttr K c.Met "theirs"
  k_Met_Answer : PySem.W.kitOne K (.ref c.Met) (.ref c.Answer) = some true
  k_Met_Steps : PySem.W.kitOne K (.ref c.Met) (.ref c.Steps) = some false
  k_Met_Shut : PySem.W.kitOne K (.ref c.Met) (.ref c.Shut) = some false
  k_Met_Met : PySem.W.kitOne K (.ref c.Met) (.ref c.Met) = some true
  k_Met_Apart : PySem.W.kitOne K (.ref c.Met) (.ref c.Apart) = some false
  k_Met_Root : PySem.W.kitOne K (.ref c.Met) (.ref c.Root) = some false
  k_Met_Odd : PySem.W.kitOne K (.ref c.Met) (.ref c.Odd) = some false
  na_Apart_places : NoAttr K c.Apart "places"
  k_Apart_Answer : PySem.W.kitOne K (.ref c.Apart) (.ref c.Answer) = some true
  k_Apart_Steps : PySem.W.kitOne K (.ref c.Apart) (.ref c.Steps) = some false
  k_Apart_Shut : PySem.W.kitOne K (.ref c.Apart) (.ref c.Shut) = some false
  k_Apart_Met : PySem.W.kitOne K (.ref c.Apart) (.ref c.Met) = some false
  k_Apart_Apart : PySem.W.kitOne K (.ref c.Apart) (.ref c.Apart) = some true
  k_Apart_Root : PySem.W.kitOne K (.ref c.Apart) (.ref c.Root) = some false
  k_Apart_Odd : PySem.W.kitOne K (.ref c.Apart) (.ref c.Odd) = some false
  na_Root_leading : NoAttr K c.Root "leading"
  k_Root_Answer : PySem.W.kitOne K (.ref c.Root) (.ref c.Answer) = some true
  k_Root_Steps : PySem.W.kitOne K (.ref c.Root) (.ref c.Steps) = some false
  k_Root_Shut : PySem.W.kitOne K (.ref c.Root) (.ref c.Shut) = some false
  k_Root_Met : PySem.W.kitOne K (.ref c.Root) (.ref c.Met) = some false
  k_Root_Apart : PySem.W.kitOne K (.ref c.Root) (.ref c.Apart) = some false
  k_Root_Root : PySem.W.kitOne K (.ref c.Root) (.ref c.Root) = some true
  k_Root_Odd : PySem.W.kitOne K (.ref c.Root) (.ref c.Odd) = some false
  na_Odd_length : NoAttr K c.Odd "length"
  na_Odd_rings : NoAttr K c.Odd "rings"
  k_Odd_Answer : PySem.W.kitOne K (.ref c.Odd) (.ref c.Answer) = some true
  k_Odd_Steps : PySem.W.kitOne K (.ref c.Odd) (.ref c.Steps) = some false
  k_Odd_Shut : PySem.W.kitOne K (.ref c.Odd) (.ref c.Shut) = some false
  k_Odd_Met : PySem.W.kitOne K (.ref c.Odd) (.ref c.Met) = some false
  k_Odd_Apart : PySem.W.kitOne K (.ref c.Odd) (.ref c.Apart) = some false
  k_Odd_Root : PySem.W.kitOne K (.ref c.Odd) (.ref c.Root) = some false
  k_Odd_Odd : PySem.W.kitOne K (.ref c.Odd) (.ref c.Odd) = some true
section
variable {P : Program} {w : World} {K : PySem.W.Frag} {mg : Str → Option Value} {base : Heap} {c : Cs}
def IsLd (H : Hp) (a : Addr) (L : List Nat) : Prop := Rd H a (.lst (nl L)) ∧ Lead L ∧ L.length ≤ 63
theorem IsLd.ex {H H' : Hp} {a : Addr} {L : List Nat} (h : IsLd H a L) (e : Ex H H') : IsLd H' a L := ⟨ex_rd e h.1, h.2⟩
theorem IsLd.sq {K : PySem.W.Frag} {H : Hp} {a : Addr} {L : List Nat} (h : IsLd H a L) : SqL K H a (nl L) := .inl h.1

/-! ### answers -/
/-- an __init__ that keeps its argument; one that keeps a copy of a list -/
def spInit1 (C : Addr) (f : Str) : Sp := fun vs H Q _ => ∃ (x dx : Addr) (v : V), vs = [.ref x, v] ∧ H x = some (.ins C dx []) ∧ ∀ H', ExB x H H' → H' x = some (.ins C dx [(f, v)]) → Q .non H'
def spInitL (K : PySem.W.Frag) (C : Addr) (f : Str) : Sp := fun vs H Q _ => ∃ (x dx b : Addr) (xs : List V), vs = [.ref x, .ref b] ∧ H x = some (.ins C dx []) ∧ SqL K H b xs ∧ ∀ H' l, ExB x H H' → H l = none → H' x = some (.ins C dx [(f, .ref l)]) → H' l = some (.lst xs) → Q .non H'
/-- C(v), C(a list) -/
theorem tmk1 {σ : L2.St} {H : Hp} {C : Addr} {f : Str} {E : XK} {ta : TE} {v : V} {Q : VK} (h : Ev ta σ H v) (k : ∀ x dx H2, H x = none → Ex H H2 → H2 x = some (.ins C dx [(f, v)]) → Q (.ref x) H2) : tMake C (spInit1 C f) [] E (tCons ta tNil) σ H Q :=
  h H (Ex.refl H) _ fun H1 e1 x dx nx ndx ne => ⟨x, dx, v, rfl, upd_same, fun H' eB hx => ⟨rfl, k x dx H' (fresh_back e1 nx) (e1.trans (ex_made nx ndx eB)) hx⟩⟩
theorem tmkL {K : PySem.W.Frag} {σ : L2.St} {H : Hp} {C : Addr} {f : Str} {E : XK} {ta : TE} {xs : List V} {Q : VK} (h : EvL ta σ H xs) (k : ∀ x dx l H2, H x = none → H l = none → Ex H H2 → H2 x = some (.ins C dx [(f, .ref l)]) → H2 l = some (.lst xs) → Q (.ref x) H2) : tMake C (spInitL K C f) [] E (tCons ta tNil) σ H Q :=
  h H (Ex.refl H) _ fun b H1 nb e1 hb x dx nx ndx ne => ⟨x, dx, b, xs, rfl, upd_same, sq_of (by
    rw [upd_ne (ne_of_none hb nx), upd_ne (ne_of_none hb ndx)]
    exact hb), fun H' l eB hl hx hl2 => ⟨rfl, k x dx l H' (fresh_back e1 nx) (fresh_back e1 (by
      have h1 : l ≠ x := fun e => by
        rw [e, upd_same] at hl
        cases hl
      rw [upd_ne h1] at hl
      by_cases h2 : l = dx
      · rw [h2, upd_same] at hl
        cases hl
      · rw [upd_ne h2] at hl
        exact hl)) (e1.trans (ex_made nx ndx eB)) hx hl2⟩⟩
/-- C(a list that stands) -/
theorem tmkR {K : PySem.W.Frag} {σ : L2.St} {H : Hp} {C b : Addr} {f : Str} {E : XK} {ta : TE} {xs : List V} {Q : VK} (h : Ev ta σ H (.ref b)) (hb : SqL K H b xs) (k : ∀ x dx l H2, H x = none → H l = none → Ex H H2 → H2 x = some (.ins C dx [(f, .ref l)]) → H2 l = some (.lst xs) → Q (.ref x) H2) : tMake C (spInitL K C f) [] E (tCons ta tNil) σ H Q :=
  h H (Ex.refl H) _ fun H1 e1 x dx nx ndx ne => ⟨x, dx, b, xs, rfl, upd_same, ex_l (fun c o e => by rw [upd_ne (ne_of_none e nx), upd_ne (ne_of_none e ndx)]; exact e) (ex_l e1 hb), fun H' l eB hl hx hl2 => ⟨rfl, k x dx l H' (fresh_back e1 nx) (fresh_back e1 (by
      have h1 : l ≠ x := fun e => by
        rw [e, upd_same] at hl
        cases hl
      rw [upd_ne h1] at hl
      by_cases h2 : l = dx
      · rw [h2, upd_same] at hl
        cases hl
      · rw [upd_ne h2] at hl
        exact hl)) (e1.trans (ex_made nx ndx eB)) hx hl2⟩⟩
/-- C(a call that gives back some new list) -/
theorem tmkC {K : PySem.W.Frag} {σ : L2.St} {H : Hp} {C : Addr} {f : Str} {E E1 : XK} {sp1 : Sp} {t1 : TA} {vs : List V} {Q : VK} (Good : List Nat → Prop) (h : EvA t1 σ H vs)
    (hs : ∀ H1, Ex H H1 → ∀ R : VK, (∀ ps, Good ps → RetL (nl ps) H1 R) → sp1 vs H1 R E1) (k : ∀ ps x dx l H2, Good ps → H x = none → H l = none → Ex H H2 → H2 x = some (.ins C dx [(f, .ref l)]) → H2 l = some (.lst (nl ps)) → Q (.ref x) H2) :
    tMake C (spInitL K C f) [] E (tCons (tCall sp1 [] E1 t1) tNil) σ H Q :=
  h H (Ex.refl H) _ fun H0 e0 => by
    rw [List.append_nil]
    exact hs H0 e0 _ fun ps hg b H1 nb e1 hb x dx nx ndx ne => ⟨x, dx, b, nl ps, rfl, upd_same, sq_of (by
      rw [upd_ne (ne_of_none hb nx), upd_ne (ne_of_none hb ndx)]
      exact hb), fun H' l eB hl hx hl2 => ⟨rfl, k ps x dx l H' hg (fresh_back (e0.trans e1) nx) (fresh_back (e0.trans e1) (by
        have h1 : l ≠ x := fun e => by
          rw [e, upd_same] at hl
          cases hl
        rw [upd_ne h1] at hl
        by_cases h2 : l = dx
        · rw [h2, upd_same] at hl
          cases hl
        · rw [upd_ne h2] at hl
          exact hl)) ((e0.trans e1).trans (ex_made nx ndx eB)) hx hl2⟩⟩

abbrev s_is_number : Stmt := topS 5
abbrev N_is_number : List Str := ["thing", "least", "most"]
theorem sc_is_number : FnScope N_is_number ["thing", "least", "most"] (defScope s_is_number) := ⟨rfl, rfl, rfl, by decide +kernel, rfl, by decide +kernel, by decide +kernel⟩
def spIsNum : Sp := fun vs H Q _ => ∃ i lo hi : Int, vs = [.int i, .int lo, .int hi] ∧ RetV (.bl (decide (lo ≤ i) && decide (i ≤ hi))) H Q
theorem sv_is_number {H : Hp} {i lo hi : Int} {b : Bool} (e : (decide (lo ≤ i) && decide (i ≤ hi)) = b) : SpV spIsNum [.int i, .int lo, .int hi] H (.bl b) := fun H1 _ Q q E => ⟨i, lo, hi, rfl, by
  rw [e]
  exact q⟩
theorem ok_is_number {f : Addr} {fd : FuncData} (F : Fun K "is_number" "is_number" s_is_number f fd) (B : Bl mg) : FnOk P w K mg base CX0 1 f fd ["thing", "least", "most"] spIsNum := by
  refine F.ok sc_is_number (fun vs H Q E h => ?_) (fun cdv A outer s H vs Q E hr h => ?_)
  · obtain ⟨i, lo, hi, rfl, _⟩ := h
    rfl
  · obtain ⟨i, lo, hi, rfl, q⟩ := h
    refine ⟨_, (pss_one (ps_ret (pe_and (pe_callB (call_isiK' (K := K) rfl) (by rfl) B.isinstance_ bo_isinstance (pa_cons (pv 0) (pa_cons (pe_bltn (v := .ty "int") (by rfl) B.int_ bo_int rfl) pa_nil))) (pe_and (pe_not (pe_callB (call_isiK' (K := K) rfl) (by rfl) B.isinstance_ bo_isinstance (pa_cons (pv 0) (pa_cons (pe_bltn (v := .ty "bool") (by rfl) B.bool_ bo_bool rfl) pa_nil)))) (pe_one (pe_chain op_le op_le (pv 1) (pv 0) (pv 2))))))), ?_⟩
    exact ret_V q (Ex.refl H) (ev_andV (a := true) (ev_isiInt (ev_var rfl)) fun _ => ev_andV (a := true) (ev_notF (ev_isiBool (ev_var rfl))) fun _ => ev_chain (ev_var rfl) (ev_var rfl) (ev_var rfl) rv_I0 rv_I0)
abbrev s_asked_leading : Stmt := topS 6
abbrev N_asked_leading : List Str := ["leading", "place"]
theorem sc_asked_leading : FnScope N_asked_leading ["leading"] (defScope s_asked_leading) := ⟨rfl, rfl, rfl, by decide +kernel, rfl, by decide +kernel, by decide +kernel⟩
def spAskedL : Sp := fun vs H Q _ => ∃ (a : Addr) (L : List Nat), vs = [.ref a] ∧ IsLd H a L ∧ RetV .non H Q
theorem sv_asked_leading {H : Hp} {a : Addr} {L : List Nat} (h : IsLd H a L) : SpV spAskedL [.ref a] H .non := fun _ e _ q _ => ⟨a, L, rfl, h.ex e, q⟩
theorem ok_asked_leading {f : Addr} {fd : FuncData} (F : Fun K "asked_leading" "asked_leading" s_asked_leading f fd) (B : Bl mg) (D_is_number : Dk P w K mg base CX0 1 "is_number" ["thing", "least", "most"] spIsNum) :
    FnOk P w K mg base CX0 2 f fd ["leading"] spAskedL := by
  refine F.ok sc_asked_leading (fun vs H Q E h => ?_) (fun cdv A outer s H vs Q E hr h => ?_)
  · obtain ⟨a, L, rfl, _⟩ := h
    rfl
  · obtain ⟨a, L, rfl, hL, q⟩ := h
    refine ⟨_, (pss_one (ps_if (PW.pt (pw_or (pt_not (pt_val (pe_callB (call_isiK' (K := K) rfl) (by rfl) B.isinstance_ bo_isinstance (pa_cons (pv 0) (pa_cons (pe_bltn (v := .ty "list") (by rfl) B.list_ bo_list rfl) pa_nil))))) (pw_or1 (pt_not (pt_val (pe_callB (cr_allK (K := K) rfl rfl) (by rfl) B.all_ bo_all (pa_cons (pe_lc (own := [("place", 1)]) (g := gName 1) (tt := tYes) rfl sc_asked_leading.nd (pi_list (pv 0)) (blkOk_by (N := N_asked_leading) (sc := defScope s_asked_leading) (by decide +kernel)) (fun _ _ _ _ _ => (pg_name (i := 1) sc_asked_leading.nd rfl (Or.inl rfl))) (fun _ _ _ _ _ => pts_nil) (fun _ _ _ _ _ => (pe_callD D_is_number (hr.mono (by decide)) (by rfl) pass0 (pa_cons (pv 1) (pa_cons pe_int (pa_cons (pe_op op_sub (pe_callB (call_lenK (K := K) rfl) (by rfl) B.len_ bo_len (pa_cons (pv 0) pa_nil)) pe_int) pa_nil)))))) pa_nil)))))))
    (pss_one ps_never)
    pss_nil)), ?_⟩
    refine s_skip (et_orF (et_notT (et_B (ev_isiList (ev_var rfl) hL.1))) (et_notT (et_B (ev_allT (el_mapNc (ev_var rfl) hL.sq (by have := hL.2.2; omega) fun x H1 e hx => ev_callV (ea3 (ev_var rfl) ev_c (ev_op (ev_lenNl (ev_var rfl) (hL.ex e).sq) ev_c rv_I0)) (sv_is_number ?_)))))) fun H1 e => q H1 e
    have h1 := hL.2.1 x hx
    rw [Bool.and_eq_true, decide_eq_true_eq, decide_eq_true_eq]
    omega
abbrev s_asked_place : Stmt := topS 7
abbrev N_asked_place : List Str := ["leading", "place"]
theorem sc_asked_place : FnScope N_asked_place ["leading", "place"] (defScope s_asked_place) := ⟨rfl, rfl, rfl, by decide +kernel, rfl, by decide +kernel, by decide +kernel⟩
def spAskedP : Sp := fun vs H Q _ => ∃ (a : Addr) (L : List Nat) (p : Nat), vs = [.ref a, .int (p : Int)] ∧ IsLd H a L ∧ p < L.length ∧ RetV .non H Q
theorem sv_asked_place {H : Hp} {a : Addr} {L : List Nat} {p : Nat} (h : IsLd H a L) (hp : p < L.length) : SpV spAskedP [.ref a, .int (p : Int)] H .non := fun _ e _ q _ => ⟨a, L, p, rfl, h.ex e, hp, q⟩
theorem ok_asked_place {f : Addr} {fd : FuncData} (F : Fun K "asked_place" "asked_place" s_asked_place f fd) (B : Bl mg) (D_is_number : Dk P w K mg base CX0 1 "is_number" ["thing", "least", "most"] spIsNum) :
    FnOk P w K mg base CX0 2 f fd ["leading", "place"] spAskedP := by
  refine F.ok sc_asked_place (fun vs H Q E h => ?_) (fun cdv A outer s H vs Q E hr h => ?_)
  · obtain ⟨a, L, p, rfl, _⟩ := h
    rfl
  · obtain ⟨a, L, p, rfl, hL, hp, q⟩ := h
    refine ⟨_, (pss_one (ps_if (pt_not (pt_val (pe_callD D_is_number (hr.mono (by decide)) (by rfl) pass0 (pa_cons (pv 1) (pa_cons pe_int (pa_cons (pe_op op_sub (pe_callB (call_lenK (K := K) rfl) (by rfl) B.len_ bo_len (pa_cons (pv 0) pa_nil)) pe_int) pa_nil))))))
    (pss_one ps_never)
    pss_nil)), ?_⟩
    refine s_skip (et_notT (et_B (ev_callV (ea3 (ev_var rfl) ev_c (ev_op (ev_lenNl (ev_var rfl) hL.sq) ev_c rv_I0)) (sv_is_number ?_)))) fun H1 e => q H1 e
    rw [Bool.and_eq_true, decide_eq_true_eq, decide_eq_true_eq]
    omega
abbrev s_done : Stmt := topS 8
abbrev N_done : List Str := ["leading", "steps", "found", "twice", "left", "place"]
theorem sc_done : FnScope N_done ["leading", "steps"] (defScope s_done) := ⟨rfl, rfl, rfl, by decide +kernel, rfl, by decide +kernel, by decide +kernel⟩
def spDone : Sp := fun vs H Q _ => ∃ (a : Addr) (L : List Nat) (n : Nat), vs = [.ref a, .int (n : Int)] ∧ IsLd H a L ∧ RetL (nl (tm L n)) H Q
theorem sl_done {H : Hp} {a : Addr} {L : List Nat} {n : Nat} (h : IsLd H a L) : SpL spDone [.ref a, .int (n : Int)] H (nl (tm L n)) := fun _ e _ q _ => ⟨a, L, n, rfl, h.ex e, q⟩
theorem ok_done {f : Addr} {fd : FuncData} (F : Fun K "done" "done" s_done f fd) (B : Bl mg) : FnOk P w K mg base CX0 1 f fd ["leading", "steps"] spDone := by
  refine F.ok sc_done (fun vs H Q E h => ?_) (fun cdv A outer s H vs Q E hr h => ?_)
  · obtain ⟨a, L, n, rfl, _⟩ := h
    rfl
  · obtain ⟨a, L, n, rfl, hL, q⟩ := h
    refine ⟨_, (pss_cons (ps_setLc (i := 2) (own := [("place", 5)]) (g := gName 5) (tt := tYes) rfl sc_done.nd rfl rfl (sw_true rfl rfl rfl (by decide +kernel)) (pi_range1 (by rfl) B.range_ (pa_cons (pe_callB (call_lenK (K := K) rfl) (by rfl) B.len_ bo_len (pa_cons (pv 0) pa_nil)) pa_nil)) (blkOk_by (N := N_done) (sc := defScope s_done) (by decide +kernel)) (fun _ _ _ _ _ => (pg_name (i := 5) sc_done.nd rfl (Or.inl rfl))) (fun _ _ _ _ _ => pts_nil) (fun _ _ _ _ _ => (pv 5)))
    (pss_cons (ps_set (i := 3) sc_done.nd rfl (Or.inr rfl) (pe_callTy (call_listK (K := K) rfl) (by rfl) B.list_ bo_list (pa_cons (pv 0) pa_nil)))
    (pss_cons (ps_set (i := 4) sc_done.nd rfl (Or.inl rfl) (pv 1))
    (pss_cons (ps_while PassesOwn.never (pt_cmpR op_gt (pv 4) pe_int (nomark _))
    (pss_cut (ps_if (pt_cmpR op_eq (pe_op op_modN (pv 4) pe_int) pe_int (nomark _))
    (pss_one (ps_setLc (i := 2) (own := [("place", 5)]) (g := gName 5) (tt := tYes) rfl sc_done.nd rfl rfl (sw_true rfl rfl rfl (by decide +kernel)) (pi_list (pv 2)) (blkOk_by (N := N_done) (sc := defScope s_done) (by decide +kernel)) (fun _ _ _ _ _ => (pg_name (i := 5) sc_done.nd rfl (Or.inl rfl))) (fun _ _ _ _ _ => pts_nil) (fun _ _ _ _ _ => (pe_ix (ix_listK (K := K) rfl) (pv 3) (pv 5) (fun _ _ => rfl)))))
    pss_nil)
    (pss_cons (ps_set (i := 3) sc_done.nd rfl (Or.inr rfl) (pe_lc (own := [("place", 5)]) (g := gName 5) (tt := tYes) rfl sc_done.nd (pi_list (pv 3)) (blkOk_by (N := N_done) (sc := defScope s_done) (by decide +kernel)) (fun _ _ _ _ _ => (pg_name (i := 5) sc_done.nd rfl (Or.inl rfl))) (fun _ _ _ _ _ => pts_nil) (fun _ _ _ _ _ => (pe_ix (ix_listK (K := K) rfl) (pv 3) (pv 5) (fun _ _ => rfl)))))
    (pss_one (ps_set (i := 4) sc_done.nd rfl (Or.inl rfl) (pe_op op_fdivN (pv 4) pe_int))))))
    (pss_one (ps_ret (pv 2))))))), ?_⟩
    have h64 := hL.2.2
    -- found = [place for place in range(len(leading))]
    refine q_asgL (el_mapR (fun i => V.int i) (ea1 (ev_lenNl (ev_var rfl) hL.sq)) (by omega) fun i H1 e hi => ev_var rfl) fun pf H1 nf e1 h1 => ?_
    -- twice = list(leading)
    refine q_asgL (el_listOf (ev_var rfl) (hL.ex e1).sq) fun pt H2 nt e2 h2 => ?_
    refine q_asg (ev_var rfl) fun H3 e3 => ?_
    refine q_while (fun m σ' H' => ∃ (x y : Nat) (pf pt : Addr) (z : Option V), σ' = [some (.ref a), some (.int (n : Int)), some (.ref pf), some (.ref pt), some (.int (m : Int)), z] ∧ x + y * m = n ∧ Ex H H' ∧ H pf = none ∧ H' pf = some (.lst (nl (tm L x))) ∧ H' pt = some (.lst (nl (tm L y)))) n
      ⟨0, 1, pf, pt, none, rfl, by omega, (e1.trans e2).trans e3, nf, ?_, ?_⟩ fun m σ' H' hw => ?_
    · rw [tm_zero]
      exact e3 _ _ (e2 _ _ h1)
    · rw [tm_one]
      exact e3 _ _ h2
    obtain ⟨x, y, pf, pt, z, rfl, exy, eH, nf, hf, ht⟩ := hw
    refine ⟨decide ((0 : Int) < m), et_test (ev_op (ev_var rfl) ev_c rv_I0), fun hb H4 e4 => ?_, fun hb H4 e4 => ?_⟩
    · have hm : (0 : Int) < m := of_decide_eq_true hb
      refine ⟨_, fun σ2 H2 h => h, ?_⟩
      -- if left % 2 == 1: found = [twice[place] for place in found]
      refine q_cut (M := fun σ' H' => ∃ (x' : Nat) (pf : Addr) (z : Option V), σ' = [some (.ref a), some (.int (n : Int)), some (.ref pf), some (.ref pt), some (.int (m : Int)), z] ∧ x' = x + (if m % 2 = 1 then y else 0) ∧ Ex H H' ∧ H pf = none ∧ H' pf = some (.lst (nl (tm L x'))) ∧ H' pt = some (.lst (nl (tm L y)))) ?_ fun σ' H' hM => ?_
      · refine s_if (et_test (ev_op (ev_op (ev_var rfl) ev_c (rv_IW (by decide) (vmod m 2))) ev_c (rv_eqB rfl))) (fun hb H5 e5 => ?_) (fun hb H5 e5 => ?_)
        · have h2 : m % 2 = 1 := by
            have := of_decide_eq_true hb
            omega
          refine s_asgL (el_mapN (L := tm L x) (fun v => V.int (st (tm L y) v : Int)) (ev_var rfl) (sq_of (e5 _ _ (e4 _ _ hf))) (by rw [tm_length]; omega) fun v H6 e6 hv => ev_op (ev_var rfl) (ev_var rfl) (rv_ixN (sq_of (e6 _ _ (e5 _ _ (e4 _ _ ht)))) ?_)) fun pn H6 nn e6 h6 => ?_
          · rw [tm_length, ← tm_length L x]
            exact lead_tm hL.2.1 x v hv
          · refine ⟨x + y, pn, z, rfl, by rw [if_pos h2], ((eH.trans e4).trans e5).trans e6, fresh_back ((eH.trans e4).trans e5) nn, ?_, e6 _ _ (e5 _ _ (e4 _ _ ht))⟩
            rw [h6, ← tm_then hL.2.1]
            unfold nl
            rw [List.map_map]
            rfl
        · have h2 : ¬ m % 2 = 1 := by
            have := of_decide_eq_false hb
            omega
          exact ⟨x, pf, z, rfl, by rw [if_neg h2, Nat.add_zero], (eH.trans e4).trans e5, nf, e5 _ _ (e4 _ _ hf), e5 _ _ (e4 _ _ ht)⟩
      · obtain ⟨x', pf, z, rfl, ex', eH, nf, hf, ht⟩ := hM
        -- twice = [twice[place] for place in twice]
        refine q_asgL (el_mapN (L := tm L y) (fun v => V.int (st (tm L y) v : Int)) (ev_var rfl) (sq_of ht) (by rw [tm_length]; omega) fun v H6 e6 hv => ev_op (ev_var rfl) (ev_var rfl) (rv_ixN (sq_of (e6 _ _ ht)) ?_)) fun pn H6 nn e6 h6 => ?_
        · exact lead_tm hL.2.1 y v hv
        refine s_asg (ev_op (ev_var rfl) ev_c (rv_IW ⟨by decide, by decide⟩ (vdiv m 2))) fun H7 e7 => ?_
        refine ⟨m / 2, by omega, x', y + y, pf, pn, z, rfl, ?_, (eH.trans e6).trans e7, nf, e7 _ _ (e6 _ _ hf), ?_⟩
        · have h3 := Nat.mod_add_div m 2
          have h4 : y * m = y * (m % 2) + y * (2 * (m / 2)) := by rw [← Nat.mul_add, h3]
          have h5 : y * (2 * (m / 2)) = (y + y) * (m / 2) := by
            rw [← Nat.mul_assoc, Nat.mul_two]
          split at ex'
          · rename_i h6
            rw [h6, Nat.mul_one] at h4
            omega
          · have h6 : m % 2 = 0 := by omega
            rw [h6, Nat.mul_zero] at h4
            omega
        · rw [e7 _ _ h6, ← tm_then hL.2.1]
          unfold nl
          rw [List.map_map]
          rfl
    · have hm : m = 0 := by
        have := of_decide_eq_false hb
        omega
      subst hm
      rw [Nat.mul_zero, Nat.add_zero] at exy
      subst exy
      exact ret_N q (eH.trans e4) nf (e4 _ _ hf) rfl
abbrev s_is_place : Stmt := topS 11
abbrev N_is_place : List Str := ["leading", "place"]
theorem sc_is_place : FnScope N_is_place ["leading", "place"] (defScope s_is_place) := ⟨rfl, rfl, rfl, by decide +kernel, rfl, by decide +kernel, by decide +kernel⟩
def spIsPlace : Sp := fun vs H Q _ => ∃ (a : Addr) (L : List Nat) (i : Int), vs = [.ref a, .int i] ∧ IsLd H a L ∧ RetV (.bl (decide (0 ≤ i) && decide (i < (L.length : Int)))) H Q
theorem sv_is_place {H : Hp} {a : Addr} {L : List Nat} {i : Int} (h : IsLd H a L) : SpV spIsPlace [.ref a, .int i] H (.bl (decide (0 ≤ i) && decide (i < (L.length : Int)))) := fun _ e _ q _ => ⟨a, L, i, rfl, h.ex e, q⟩
theorem ok_is_place {f : Addr} {fd : FuncData} (F : Fun K "is_place" "is_place" s_is_place f fd) (B : Bl mg) : FnOk P w K mg base CX0 1 f fd ["leading", "place"] spIsPlace := by
  refine F.ok sc_is_place (fun vs H Q E h => ?_) (fun cdv A outer s H vs Q E hr h => ?_)
  · obtain ⟨a, L, i, rfl, _⟩ := h
    rfl
  · obtain ⟨a, L, i, rfl, hL, q⟩ := h
    refine ⟨_, (pss_one (ps_ret (pe_chain op_le op_lt pe_int (pv 1) (pe_callB (call_lenK (K := K) rfl) (by rfl) B.len_ bo_len (pa_cons (pv 0) pa_nil))))), ?_⟩
    exact ret_V q (Ex.refl H) (ev_chain ev_c (ev_var rfl) (ev_lenNl (ev_var rfl) hL.sq) rv_I0 rv_I0)
abbrev s_Steps___init__ : Stmt := inClass (topS 12) 0
abbrev N_Steps___init__ : List Str := ["self", "many"]
theorem sc_Steps___init__ : FnScope N_Steps___init__ ["self", "many"] (defScope s_Steps___init__) := ⟨rfl, rfl, rfl, by decide +kernel, rfl, by decide +kernel, by decide +kernel⟩
theorem ok_Steps___init__ {f : Addr} {fd : FuncData} (F : Fun K "__init__" "Steps.__init__" s_Steps___init__ f fd) (C : Cl K mg c) : FnOk P w K mg base CX0 1 f fd ["self", "many"] (spInit1 c.Steps "many") := by
  refine F.ok sc_Steps___init__ (fun vs H Q E h => ?_) (fun cdv A outer s H vs Q E hr h => ?_)
  · obtain ⟨x, dx, v, rfl, _⟩ := h
    rfl
  · obtain ⟨x, dx, v, rfl, hx, q⟩ := h
    refine ⟨_, (pss_one (ps_fldK (K := K) rfl (pv 0) (pv 1) rfl)), ?_⟩
    exact s_fld C.Steps.cl C.na_Steps_many (ev_var rfl) (ev_var rfl) hx (by decide) fun H1 e => q _ (fun b o hb h => by rw [upd_ne hb]; exact e _ _ h) upd_same
abbrev s_Steps_shows : Stmt := inClass (topS 12) 1
abbrev N_Steps_shows : List Str := ["self", "leading", "one", "other"]
theorem sc_Steps_shows : FnScope N_Steps_shows ["self", "leading", "one", "other"] (defScope s_Steps_shows) := ⟨rfl, rfl, rfl, by decide +kernel, rfl, by decide +kernel, by decide +kernel⟩
def spStepsShows (C : Addr) : Sp := fun vs H Q _ => ∃ (x dx a : Addr) (L : List Nat) (p q : Nat) (m : Int), vs = [.ref x, .ref a, .int (p : Int), .int (q : Int)] ∧ H x = some (.ins C dx [("many", .int m)]) ∧ IsLd H a L ∧ p < L.length ∧ RetV (.bl (decide (0 ≤ m) && decide (it L m.toNat p = q))) H Q
theorem sv_Steps_shows {H : Hp} {C x dx a : Addr} {L : List Nat} {p q : Nat} {m : Int} {b : Bool} (h : H x = some (.ins C dx [("many", .int m)])) (hL : IsLd H a L) (hp : p < L.length) (e : (decide (0 ≤ m) && decide (it L m.toNat p = q)) = b) : SpV (spStepsShows C) [.ref x, .ref a, .int (p : Int), .int (q : Int)] H (.bl b) :=
  fun _ e1 _ k _ => ⟨x, dx, a, L, p, q, m, rfl, e1 _ _ h, hL.ex e1, hp, by rw [e]; exact k⟩
theorem ok_Steps_shows {f : Addr} {fd : FuncData} (F : Fun K "shows" "Steps.shows" s_Steps_shows f fd) (C : Cl K mg c) (D_done : Dk P w K mg base CX0 1 "done" ["leading", "steps"] spDone) : FnOk P w K mg base CX0 2 f fd ["self", "leading", "one", "other"] (spStepsShows c.Steps) := by
  refine F.ok sc_Steps_shows (fun vs H Q E h => ?_) (fun cdv A outer s H vs Q E hr h => ?_)
  · obtain ⟨x, dx, a, L, p, q, m, rfl, _⟩ := h
    rfl
  · obtain ⟨x, dx, a, L, p, q, m, rfl, hx, hL, hp, k⟩ := h
    refine ⟨_, (pss_one (ps_ret (pe_and (pe_cmpR op_ge (pe_fldK (K := K) rfl (pv 0) rfl) pe_int (nomark _)) (pe_one (pe_cmpR op_eq (pe_ix (ix_listK (K := K) rfl) (pe_callD D_done (hr.mono (by decide)) (by rfl) pass0 (pa_cons (pv 1) (pa_cons (pe_fldK (K := K) rfl (pv 0) rfl) pa_nil))) (pv 2) (fun _ _ => rfl)) (pv 3) (nomark _)))))), ?_⟩
    refine ret_V k (Ex.refl H) (ev_andV (ev_op (ev_fld C.Steps.cl C.na_Steps_many (ev_var rfl) hx look1) ev_c rv_I0) fun hm => ?_)
    have hm := of_decide_eq_true hm
    obtain ⟨n, rfl⟩ := Int.eq_ofNat_of_zero_le hm
    refine ev_op (ev_opL1 (el_callL (ea2 (ev_var rfl) (ev_fld C.Steps.cl C.na_Steps_many (ev_var rfl) hx look1)) (sl_done (n := n) hL)) (fun H1 e1 => ev_var rfl) fun r H1 h1 e1 => rv_ixN (j := p) (sq_of h1) (by rw [tm_length]; exact hp)) (ev_var rfl) (rv_eqB (by
      rw [st_tm hp]
      exact decide_eq_decide.mpr ⟨fun h => by show it L (n : Int).toNat p = q; rw [Int.toNat_natCast]; omega, fun h => by have h : it L (n : Int).toNat p = q := h; rw [Int.toNat_natCast] at h; omega⟩))
abbrev s_Shut___init__ : Stmt := inClass (topS 13) 0
abbrev N_Shut___init__ : List Str := ["self", "places"]
theorem sc_Shut___init__ : FnScope N_Shut___init__ ["self", "places"] (defScope s_Shut___init__) := ⟨rfl, rfl, rfl, by decide +kernel, rfl, by decide +kernel, by decide +kernel⟩
theorem ok_Shut___init__ {f : Addr} {fd : FuncData} (F : Fun K "__init__" "Shut.__init__" s_Shut___init__ f fd) (B : Bl mg) (C : Cl K mg c) : FnOk P w K mg base CX0 1 f fd ["self", "places"] (spInitL K c.Shut "places") := by
  refine F.ok sc_Shut___init__ (fun vs H Q E h => ?_) (fun cdv A outer s H vs Q E hr h => ?_)
  · obtain ⟨x, dx, b, xs, rfl, _⟩ := h
    rfl
  · obtain ⟨x, dx, b, xs, rfl, hx, hb, q⟩ := h
    refine ⟨_, (pss_one (ps_fldK (K := K) rfl (pv 0) (pe_callTy (call_listK (K := K) rfl) (by rfl) B.list_ bo_list (pa_cons (pv 1) pa_nil)) rfl)), ?_⟩
    exact s_fldL C.Shut.cl C.na_Shut_places (el_listOf (ev_var rfl) hb) (ev_var rfl) hx (by decide) fun l H1 nl e hl => q _ l (fun b o hb h => by rw [upd_ne hb]; exact e _ _ h) nl upd_same (by rw [upd_ne (fun z => by rw [z, hx] at nl; cases nl)]; exact hl)
abbrev s_Shut_shows : Stmt := inClass (topS 13) 1
abbrev N_Shut_shows : List Str := ["self", "leading", "one", "other", "place"]
theorem sc_Shut_shows : FnScope N_Shut_shows ["self", "leading", "one", "other"] (defScope s_Shut_shows) := ⟨rfl, rfl, rfl, by decide +kernel, rfl, by decide +kernel, by decide +kernel⟩
def spShutShows (K : PySem.W.Frag) (C : Addr) : Sp := fun vs H Q _ => ∃ (x dx a l : Addr) (L : List Nat) (p q : Nat) (ps : List Int), vs = [.ref x, .ref a, .int (p : Int), .int (q : Int)] ∧ H x = some (.ins C dx [("places", .ref l)]) ∧ SqL K H l (il ps) ∧ ps.length ≤ 40000 ∧ IsLd H a L ∧ RetV (.bl (shutB L p q ps)) H Q
theorem sv_Shut_shows {K : PySem.W.Frag} {H : Hp} {C x dx a l : Addr} {L : List Nat} {p q : Nat} {ps : List Int} {b : Bool} (h : H x = some (.ins C dx [("places", .ref l)])) (hl : SqL K H l (il ps)) (hz : ps.length ≤ 40000) (hL : IsLd H a L) (e : shutB L p q ps = b) : SpV (spShutShows K C) [.ref x, .ref a, .int (p : Int), .int (q : Int)] H (.bl b) :=
  fun _ e1 _ k _ => ⟨x, dx, a, l, L, p, q, ps, rfl, e1 _ _ h, ex_l e1 hl, hz, hL.ex e1, by rw [e]; exact k⟩
theorem ok_Shut_shows {f : Addr} {fd : FuncData} (F : Fun K "shows" "Shut.shows" s_Shut_shows f fd) (B : Bl mg) (C : Cl K mg c) (D_is_place : Dk P w K mg base CX0 1 "is_place" ["leading", "place"] spIsPlace) : FnOk P w K mg base CX0 2 f fd ["self", "leading", "one", "other"] (spShutShows K c.Shut) := by
  refine F.ok sc_Shut_shows (fun vs H Q E h => ?_) (fun cdv A outer s H vs Q E hr h => ?_)
  · obtain ⟨x, dx, a, l, L, p, q, ps, rfl, _⟩ := h
    rfl
  · obtain ⟨x, dx, a, l, L, p, q, ps, rfl, hx, hl, hz, hL, k⟩ := h
    refine ⟨_, (pss_cons (ps_if (PW.pt (pw_or (pt_cmpR (op_notInK (K := K) rfl) (pv 2) (pe_fldK (K := K) rfl (pv 0) rfl) (by rfl)) (pw_or1 (pt_cmpR (op_inK (K := K) rfl) (pv 3) (pe_fldK (K := K) rfl (pv 0) rfl) (by rfl)))))
    (pss_one (ps_ret pe_bl))
    pss_nil)
    (pss_one (ps_ret (pe_callB (cr_allK (K := K) rfl rfl) (by rfl) B.all_ bo_all (pa_cons (pe_lc (own := [("place", 4)]) (g := gName 4) (tt := tYes) rfl sc_Shut_shows.nd (pi_list (pe_fldK (K := K) rfl (pv 0) rfl)) (blkOk_by (N := N_Shut_shows) (sc := defScope s_Shut_shows) (by decide +kernel)) (fun _ _ _ _ _ => (pg_name (i := 4) sc_Shut_shows.nd rfl (Or.inl rfl))) (fun _ _ _ _ _ => pts_nil) (fun _ _ _ _ _ => (pe_and (pe_callD D_is_place (hr.mono (by decide)) (by rfl) pass0 (pa_cons (pv 1) (pa_cons (pv 4) pa_nil))) (pe_one (pe_cmpR (op_inK (K := K) rfl) (pe_ix (ix_listK (K := K) rfl) (pv 1) (pv 4) (fun _ _ => rfl)) (pe_fldK (K := K) rfl (pv 0) rfl) (by rfl)))))) pa_nil))))), ?_⟩
    have hf : ∀ {σ : L2.St} {H' : Hp}, Ex H H' → σ[0]? = some (some (.ref x)) → Ev (tFld K (tVar 0) "places") σ H' (.ref l) := fun e h0 => ev_fld C.Shut.cl C.na_Shut_places (ev_var h0) (e _ _ hx) look1
    refine q_when (et_or (et_test (ev_op (ev_var rfl) (hf (Ex.refl H) rfl) (rv_ninI hl rfl))) fun _ => et_test (ev_op (ev_var rfl) (hf (Ex.refl H) rfl) (rv_inI hl rfl))) (fun hb H1 e1 => ?_) (fun hb H1 e1 => ?_)
    · have e : shutB L p q ps = false := by
        unfold shutB
        rw [show (decide ((p : Int) ∈ ps) && !decide ((q : Int) ∈ ps)) = false by
          revert hb
          cases decide ((p : Int) ∈ ps) <;> cases decide ((q : Int) ∈ ps) <;> simp, Bool.false_and]
      rw [e] at k
      exact s_ret ev_c fun H2 e2 => k H2 (e1.trans e2)
    · have e : shutB L p q ps = ps.all fun x => (decide (0 ≤ x) && decide (x < (L.length : Int))) && decide ((st L x.toNat : Int) ∈ ps) := by
        unfold shutB
        rw [show (decide ((p : Int) ∈ ps) && !decide ((q : Int) ∈ ps)) = true by
          revert hb
          cases decide ((p : Int) ∈ ps) <;> cases decide ((q : Int) ∈ ps) <;> simp, Bool.true_and]
      rw [e] at k
      refine ret_V k e1 (ev_allB (el_mapI (fun x => V.bl ((decide (0 ≤ x) && decide (x < (L.length : Int))) && decide ((st L x.toNat : Int) ∈ ps))) (hf e1 rfl) (ex_l e1 hl) hz fun y H2 e2 hy => ?_))
      refine ev_andV (ev_callV (ea2 (ev_var rfl) (ev_var rfl)) (sv_is_place (hL.ex (e1.trans e2)))) fun hb2 => ?_
      rw [Bool.and_eq_true, decide_eq_true_eq, decide_eq_true_eq] at hb2
      obtain ⟨n, rfl⟩ := Int.eq_ofNat_of_zero_le hb2.1
      exact ev_op (ev_op (ev_var rfl) (ev_var rfl) (rv_ixN (j := n) (hL.ex (e1.trans e2)).sq (by omega))) (hf (e1.trans e2) rfl) (rv_inI (ex_l (e1.trans e2) hl) rfl)
abbrev s_Met___init__ : Stmt := inClass (topS 14) 0
abbrev N_Met___init__ : List Str := ["self", "mine", "theirs"]
theorem sc_Met___init__ : FnScope N_Met___init__ ["self", "mine", "theirs"] (defScope s_Met___init__) := ⟨rfl, rfl, rfl, by decide +kernel, rfl, by decide +kernel, by decide +kernel⟩
theorem met_look (i j : V) : List.lookup ("theirs" : Str) ([("mine", i), ("theirs", j)] : List (Str × V)) = some j := lookB (by decide +kernel)
theorem met_put (i j : V) : putF "theirs" j ([("mine", i)] : List (Str × V)) = ([("mine", i), ("theirs", j)] : List (Str × V)) := putB (f := ("theirs" : Str)) (g := ("mine" : Str)) (by decide +kernel)
def spInitM (C : Addr) : Sp := fun vs H Q _ => ∃ (x dx : Addr) (v u : V), vs = [.ref x, v, u] ∧ H x = some (.ins C dx []) ∧ ∀ H', ExB x H H' → H' x = some (.ins C dx [("mine", v), ("theirs", u)]) → Q .non H'
theorem tmkM {σ : L2.St} {H : Hp} {C : Addr} {E : XK} {ta tb : TE} {v u : V} {Q : VK} (h : Ev ta σ H v) (h2 : Ev tb σ H u) (k : ∀ x dx H2, H x = none → Ex H H2 → H2 x = some (.ins C dx [("mine", v), ("theirs", u)]) → Q (.ref x) H2) : tMake C (spInitM C) [] E (tCons ta (tCons tb tNil)) σ H Q :=
  h H (Ex.refl H) _ fun H0 e0 => h2 H0 e0 _ fun H1 e1 x dx nx ndx ne => ⟨x, dx, v, u, rfl, upd_same, fun H' eB hx => ⟨rfl, k x dx H' (fresh_back (e0.trans e1) nx) ((e0.trans e1).trans (ex_made nx ndx eB)) hx⟩⟩
theorem ok_Met___init__ {f : Addr} {fd : FuncData} (F : Fun K "__init__" "Met.__init__" s_Met___init__ f fd) (C : Cl K mg c) : FnOk P w K mg base CX0 1 f fd ["self", "mine", "theirs"] (spInitM c.Met) := by
  refine F.ok sc_Met___init__ (fun vs H Q E h => ?_) (fun cdv A outer s H vs Q E hr h => ?_)
  · obtain ⟨x, dx, v, u, rfl, _⟩ := h
    rfl
  · obtain ⟨x, dx, v, u, rfl, hx, q⟩ := h
    refine ⟨_, (pss_cons (ps_fldK (K := K) rfl (pv 0) (pv 1) rfl)
    (pss_one (ps_fldK (K := K) rfl (pv 0) (pv 2) rfl))), ?_⟩
    refine q_fld C.Met.cl C.na_Met_mine (ev_var rfl) (ev_var rfl) hx (by decide) fun H1 e1 => ?_
    refine s_fld C.Met.cl C.na_Met_theirs (ev_var rfl) (ev_var rfl) upd_same (by show 1 < 1000; decide) fun H2 e2 => ?_
    refine q _ (fun b o hb h => ?_) ?_
    · rw [upd_ne hb]
      exact e2 _ _ (by rw [upd_ne hb]; exact e1 _ _ h)
    · rw [upd_same]
      exact congrArg (fun z => some (HO.ins c.Met dx z)) (met_put v u)
abbrev s_Met_shows : Stmt := inClass (topS 14) 1
abbrev N_Met_shows : List Str := ["self", "leading", "one", "other"]
theorem sc_Met_shows : FnScope N_Met_shows ["self", "leading", "one", "other"] (defScope s_Met_shows) := ⟨rfl, rfl, rfl, by decide +kernel, rfl, by decide +kernel, by decide +kernel⟩
def spMetShows (C : Addr) : Sp := fun vs H Q _ => ∃ (x dx a : Addr) (L : List Nat) (p q : Nat) (m t : Int), vs = [.ref x, .ref a, .int (p : Int), .int (q : Int)] ∧ H x = some (.ins C dx [("mine", .int m), ("theirs", .int t)]) ∧ IsLd H a L ∧ p < L.length ∧ q < L.length ∧
  RetV (.bl ((decide (0 ≤ m) && decide (0 ≤ t)) && decide (it L m.toNat p = it L t.toNat q))) H Q
theorem sv_Met_shows {H : Hp} {C x dx a : Addr} {L : List Nat} {p q : Nat} {m t : Int} {b : Bool} (h : H x = some (.ins C dx [("mine", .int m), ("theirs", .int t)])) (hL : IsLd H a L) (hp : p < L.length) (hq : q < L.length)
    (e : ((decide (0 ≤ m) && decide (0 ≤ t)) && decide (it L m.toNat p = it L t.toNat q)) = b) : SpV (spMetShows C) [.ref x, .ref a, .int (p : Int), .int (q : Int)] H (.bl b) :=
  fun _ e1 _ k _ => ⟨x, dx, a, L, p, q, m, t, rfl, e1 _ _ h, hL.ex e1, hp, hq, by rw [e]; exact k⟩
theorem ok_Met_shows {f : Addr} {fd : FuncData} (F : Fun K "shows" "Met.shows" s_Met_shows f fd) (C : Cl K mg c) (D_done : Dk P w K mg base CX0 1 "done" ["leading", "steps"] spDone) : FnOk P w K mg base CX0 2 f fd ["self", "leading", "one", "other"] (spMetShows c.Met) := by
  refine F.ok sc_Met_shows (fun vs H Q E h => ?_) (fun cdv A outer s H vs Q E hr h => ?_)
  · obtain ⟨x, dx, a, L, p, q, m, t, rfl, _⟩ := h
    rfl
  · obtain ⟨x, dx, a, L, p, q, m, t, rfl, hx, hL, hp, hq, k⟩ := h
    refine ⟨_, (pss_cons (ps_if (PW.pt (pw_or (pt_cmpR op_lt (pe_fldK (K := K) rfl (pv 0) rfl) pe_int (nomark _)) (pw_or1 (pt_cmpR op_lt (pe_fldK (K := K) rfl (pv 0) rfl) pe_int (nomark _)))))
    (pss_one (ps_ret pe_bl))
    pss_nil)
    (pss_one (ps_ret (pe_cmpR op_eq (pe_ix (ix_listK (K := K) rfl) (pe_callD D_done (hr.mono (by decide)) (by rfl) pass0 (pa_cons (pv 1) (pa_cons (pe_fldK (K := K) rfl (pv 0) rfl) pa_nil))) (pv 2) (fun _ _ => rfl)) (pe_ix (ix_listK (K := K) rfl) (pe_callD D_done (hr.mono (by decide)) (by rfl) pass0 (pa_cons (pv 1) (pa_cons (pe_fldK (K := K) rfl (pv 0) rfl) pa_nil))) (pv 3) (fun _ _ => rfl)) (nomark _))))), ?_⟩
    have hm : ∀ {σ : L2.St} {H' : Hp}, Ex H H' → σ[0]? = some (some (.ref x)) → Ev (tFld K (tVar 0) "mine") σ H' (.int m) := fun e h0 => ev_fld C.Met.cl C.na_Met_mine (ev_var h0) (e _ _ hx) lookA
    have ht : ∀ {σ : L2.St} {H' : Hp}, Ex H H' → σ[0]? = some (some (.ref x)) → Ev (tFld K (tVar 0) "theirs") σ H' (.int t) := fun e h0 => ev_fld C.Met.cl C.na_Met_theirs (ev_var h0) (e _ _ hx) (met_look _ _)
    refine q_when (et_or (et_test (ev_op (hm (Ex.refl H) rfl) ev_c rv_I0)) fun _ => et_test (ev_op (ht (Ex.refl H) rfl) ev_c rv_I0)) (fun hb H1 e1 => ?_) (fun hb H1 e1 => ?_)
    · have e : ((decide (0 ≤ m) && decide (0 ≤ t)) && decide (it L m.toNat p = it L t.toNat q)) = false := by
        rw [Bool.or_eq_true, decide_eq_true_eq, decide_eq_true_eq] at hb
        rcases hb with hb | hb
        · rw [decide_eq_false (show ¬ 0 ≤ m by omega)]
          rfl
        · rw [decide_eq_false (show ¬ 0 ≤ t by omega), Bool.and_false]
          rfl
      rw [e] at k
      exact s_ret ev_c fun H2 e2 => k H2 (e1.trans e2)
    · rw [Bool.or_eq_false_iff, decide_eq_false_iff_not, decide_eq_false_iff_not] at hb
      obtain ⟨n, rfl⟩ := Int.eq_ofNat_of_zero_le (show 0 ≤ m by omega)
      obtain ⟨j, rfl⟩ := Int.eq_ofNat_of_zero_le (show 0 ≤ t by omega)
      refine ret_V k e1 (ev_op (ev_opL1 (el_callL (ea2 (ev_var rfl) (hm e1 rfl)) (sl_done (n := n) (hL.ex e1))) (fun H2 e2 => ev_var rfl) fun r H2 h2 e2 => rv_ixN (j := p) (sq_of h2) (by rw [tm_length]; exact hp))
        (ev_opL1 (el_callL (ea2 (ev_var rfl) (ht e1 rfl)) (sl_done (n := j) (hL.ex e1))) (fun H2 e2 => ev_var rfl) fun r H2 h2 e2 => rv_ixN (j := q) (sq_of h2) (by rw [tm_length]; exact hq)) (rv_eqB ?_))
      rw [st_tm hp, st_tm hq, decide_eq_true (show (0 : Int) ≤ (n : Int) by omega), decide_eq_true (show (0 : Int) ≤ (j : Int) by omega)]
      show _ = decide (it L (n : Int).toNat p = it L (j : Int).toNat q)
      rw [Int.toNat_natCast, Int.toNat_natCast]
      exact decide_eq_decide.mpr ⟨fun h => by omega, fun h => by omega⟩
abbrev s_Apart___init__ : Stmt := inClass (topS 15) 0
abbrev N_Apart___init__ : List Str := ["self", "places"]
theorem sc_Apart___init__ : FnScope N_Apart___init__ ["self", "places"] (defScope s_Apart___init__) := ⟨rfl, rfl, rfl, by decide +kernel, rfl, by decide +kernel, by decide +kernel⟩
theorem ok_Apart___init__ {f : Addr} {fd : FuncData} (F : Fun K "__init__" "Apart.__init__" s_Apart___init__ f fd) (B : Bl mg) (C : Cl K mg c) : FnOk P w K mg base CX0 1 f fd ["self", "places"] (spInitL K c.Apart "places") := by
  refine F.ok sc_Apart___init__ (fun vs H Q E h => ?_) (fun cdv A outer s H vs Q E hr h => ?_)
  · obtain ⟨x, dx, b, xs, rfl, _⟩ := h
    rfl
  · obtain ⟨x, dx, b, xs, rfl, hx, hb, q⟩ := h
    refine ⟨_, (pss_one (ps_fldK (K := K) rfl (pv 0) (pe_callTy (call_listK (K := K) rfl) (by rfl) B.list_ bo_list (pa_cons (pv 1) pa_nil)) rfl)), ?_⟩
    exact s_fldL C.Apart.cl C.na_Apart_places (el_listOf (ev_var rfl) hb) (ev_var rfl) hx (by decide) fun l H1 nl e hl => q _ l (fun b o hb h => by rw [upd_ne hb]; exact e _ _ h) nl upd_same (by rw [upd_ne (fun z => by rw [z, hx] at nl; cases nl)]; exact hl)
abbrev s_Apart_shows : Stmt := inClass (topS 15) 1
abbrev N_Apart_shows : List Str := ["self", "leading", "one", "other", "place", "there"]
theorem sc_Apart_shows : FnScope N_Apart_shows ["self", "leading", "one", "other"] (defScope s_Apart_shows) := ⟨rfl, rfl, rfl, by decide +kernel, rfl, by decide +kernel, by decide +kernel⟩
def spApartShows (K : PySem.W.Frag) (C : Addr) : Sp := fun vs H Q _ => ∃ (x dx a l : Addr) (L : List Nat) (p q : Nat) (ps : List Int), vs = [.ref x, .ref a, .int (p : Int), .int (q : Int)] ∧ H x = some (.ins C dx [("places", .ref l)]) ∧ SqL K H l (il ps) ∧ ps.length ≤ 40000 ∧ IsLd H a L ∧ RetV (.bl (apartB L p q ps)) H Q
theorem sv_Apart_shows {K : PySem.W.Frag} {H : Hp} {C x dx a l : Addr} {L : List Nat} {p q : Nat} {ps : List Int} {b : Bool} (h : H x = some (.ins C dx [("places", .ref l)])) (hl : SqL K H l (il ps)) (hz : ps.length ≤ 40000) (hL : IsLd H a L) (e : apartB L p q ps = b) : SpV (spApartShows K C) [.ref x, .ref a, .int (p : Int), .int (q : Int)] H (.bl b) :=
  fun _ e1 _ k _ => ⟨x, dx, a, l, L, p, q, ps, rfl, e1 _ _ h, ex_l e1 hl, hz, hL.ex e1, by rw [e]; exact k⟩
theorem ok_Apart_shows {f : Addr} {fd : FuncData} (F : Fun K "shows" "Apart.shows" s_Apart_shows f fd) (B : Bl mg) (C : Cl K mg c) (D_is_place : Dk P w K mg base CX0 1 "is_place" ["leading", "place"] spIsPlace) : FnOk P w K mg base CX0 2 f fd ["self", "leading", "one", "other"] (spApartShows K c.Apart) := by
  refine F.ok sc_Apart_shows (fun vs H Q E h => ?_) (fun cdv A outer s H vs Q E hr h => ?_)
  · obtain ⟨x, dx, a, l, L, p, q, ps, rfl, _⟩ := h
    rfl
  · obtain ⟨x, dx, a, l, L, p, q, ps, rfl, hx, hl, hz, hL, k⟩ := h
    refine ⟨_, (pss_cons (ps_if (PW.pt (pw_or (pt_cmpR (op_notInK (K := K) rfl) (pv 2) (pe_fldK (K := K) rfl (pv 0) rfl) (by rfl)) (pw_or1 (pt_cmpR (op_inK (K := K) rfl) (pv 3) (pe_fldK (K := K) rfl (pv 0) rfl) (by rfl)))))
    (pss_one (ps_ret pe_bl))
    pss_nil)
    (pss_cons (ps_if (pt_not (pt_val (pe_callB (cr_allK (K := K) rfl rfl) (by rfl) B.all_ bo_all (pa_cons (pe_lc (own := [("place", 4)]) (g := gName 4) (tt := tYes) rfl sc_Apart_shows.nd (pi_list (pe_fldK (K := K) rfl (pv 0) rfl)) (blkOk_by (N := N_Apart_shows) (sc := defScope s_Apart_shows) (by decide +kernel)) (fun _ _ _ _ _ => (pg_name (i := 4) sc_Apart_shows.nd rfl (Or.inl rfl))) (fun _ _ _ _ _ => pts_nil) (fun _ _ _ _ _ => (pe_callD D_is_place (hr.mono (by decide)) (by rfl) pass0 (pa_cons (pv 1) (pa_cons (pv 4) pa_nil))))) pa_nil))))
    (pss_one (ps_ret pe_bl))
    pss_nil)
    (pss_one (ps_ret (pe_callB (cr_allK (K := K) rfl rfl) (by rfl) B.all_ bo_all (pa_cons (pe_lc (own := [("place", 4), ("there", 5)]) (g := gTup K 2 (gCons (gName 4) (gCons (gName 5) gNil))) (tt := tYes) rfl sc_Apart_shows.nd (pi_enum (by rfl) B.enumerate_ (pa_cons (pv 1) pa_nil)) (blkOk_by (N := N_Apart_shows) (sc := defScope s_Apart_shows) (by decide +kernel)) (fun _ _ _ _ _ => (pg_tup (by rfl) (pgs_cons (pg_name (i := 4) sc_Apart_shows.nd rfl (Or.inl rfl)) (pgs_cons (pg_name (i := 5) sc_Apart_shows.nd rfl (Or.inl rfl)) pgs_nil)))) (fun _ _ _ _ _ => pts_nil) (fun _ _ _ _ _ => (pe_cmpR op_eq (pe_cmpR (op_inK (K := K) rfl) (pv 4) (pe_fldK (K := K) rfl (pv 0) rfl) (by rfl)) (pe_cmpR (op_inK (K := K) rfl) (pv 5) (pe_fldK (K := K) rfl (pv 0) rfl) (by rfl)) (nomark _)))) pa_nil)))))), ?_⟩
    have hf : ∀ {σ : L2.St} {H' : Hp}, Ex H H' → σ[0]? = some (some (.ref x)) → Ev (tFld K (tVar 0) "places") σ H' (.ref l) := fun e h0 => ev_fld C.Apart.cl C.na_Apart_places (ev_var h0) (e _ _ hx) look1
    refine q_when (et_or (et_test (ev_op (ev_var rfl) (hf (Ex.refl H) rfl) (rv_ninI hl rfl))) fun _ => et_test (ev_op (ev_var rfl) (hf (Ex.refl H) rfl) (rv_inI hl rfl))) (fun hb H1 e1 => ?_) (fun hb H1 e1 => ?_)
    · have e : apartB L p q ps = false := by
        unfold apartB
        rw [show (decide ((p : Int) ∈ ps) && !decide ((q : Int) ∈ ps)) = false by
          revert hb
          cases decide ((p : Int) ∈ ps) <;> cases decide ((q : Int) ∈ ps) <;> simp, Bool.false_and, Bool.false_and]
      rw [e] at k
      exact s_ret ev_c fun H2 e2 => k H2 (e1.trans e2)
    · have e : apartB L p q ps = ((ps.all fun x => decide (0 ≤ x) && decide (x < (L.length : Int))) && (List.range L.length).all fun k => decide (decide ((k : Int) ∈ ps) = decide ((st L k : Int) ∈ ps))) := by
        unfold apartB
        rw [show (decide ((p : Int) ∈ ps) && !decide ((q : Int) ∈ ps)) = true by
          revert hb
          cases decide ((p : Int) ∈ ps) <;> cases decide ((q : Int) ∈ ps) <;> simp, Bool.true_and]
      rw [e] at k
      refine q_when (et_not (et_B (ev_allB (el_mapI (fun x => V.bl (decide (0 ≤ x) && decide (x < (L.length : Int)))) (hf e1 rfl) (ex_l e1 hl) hz fun y H2 e2 hy => ev_callV (ea2 (ev_var rfl) (ev_var rfl)) (sv_is_place (hL.ex (e1.trans e2))))))) (fun hb2 H2 e2 => ?_) (fun hb2 H2 e2 => ?_)
      · rw [Bool.not_eq_true'] at hb2
        rw [hb2, Bool.false_and] at k
        exact s_ret ev_c fun H3 e3 => k H3 ((e1.trans e2).trans e3)
      · rw [Bool.not_eq_false'] at hb2
        rw [hb2, Bool.true_and] at k
        have e12 := e1.trans e2
        have h64 := hL.2.2
        refine ret_V k e12 (ev_allB (L := List.range L.length) (f := fun k => decide (decide ((k : Int) ∈ ps) = decide ((st L k : Int) ∈ ps))) ?_)
        rw [← nl_len L, ← given_all]
        refine el_lcE (by decide) (fun _ => true) _ (ev_var rfl) (hL.ex e12).sq (by rw [nl_len]; omega) (fun _ _ _ _ _ => et_yes) fun k x H3 e3 hk _ => ?_
        obtain ⟨y, hy, rfl, hl2⟩ := nl_inv hk
        have ey : y = st L k := by
          rw [st_get hl2] at hy
          exact (Option.some.inj hy).symm
        subst ey
        exact ev_op (ev_op (ev_var rfl) (hf (e12.trans e3) rfl) (rv_inI (ex_l (e12.trans e3) hl) rfl)) (ev_op (ev_var rfl) (hf (e12.trans e3) rfl) (rv_inI (ex_l (e12.trans e3) hl) rfl)) (rv_eqBl rfl)
abbrev s_Root___init__ : Stmt := inClass (topS 16) 0
abbrev N_Root___init__ : List Str := ["self", "leading"]
theorem sc_Root___init__ : FnScope N_Root___init__ ["self", "leading"] (defScope s_Root___init__) := ⟨rfl, rfl, rfl, by decide +kernel, rfl, by decide +kernel, by decide +kernel⟩
theorem ok_Root___init__ {f : Addr} {fd : FuncData} (F : Fun K "__init__" "Root.__init__" s_Root___init__ f fd) (B : Bl mg) (C : Cl K mg c) : FnOk P w K mg base CX0 1 f fd ["self", "leading"] (spInitL K c.Root "leading") := by
  refine F.ok sc_Root___init__ (fun vs H Q E h => ?_) (fun cdv A outer s H vs Q E hr h => ?_)
  · obtain ⟨x, dx, b, xs, rfl, _⟩ := h
    rfl
  · obtain ⟨x, dx, b, xs, rfl, hx, hb, q⟩ := h
    refine ⟨_, (pss_one (ps_fldK (K := K) rfl (pv 0) (pe_callTy (call_listK (K := K) rfl) (by rfl) B.list_ bo_list (pa_cons (pv 1) pa_nil)) rfl)), ?_⟩
    exact s_fldL C.Root.cl C.na_Root_leading (el_listOf (ev_var rfl) hb) (ev_var rfl) hx (by decide) fun l H1 nl e hl => q _ l (fun b o hb h => by rw [upd_ne hb]; exact e _ _ h) nl upd_same (by rw [upd_ne (fun z => by rw [z, hx] at nl; cases nl)]; exact hl)
abbrev s_walked : Stmt := topS 19
abbrev N_walked : List Str := ["leading", "place", "found", "seen"]
theorem sc_walked : FnScope N_walked ["leading", "place"] (defScope s_walked) := ⟨rfl, rfl, rfl, by decide +kernel, rfl, by decide +kernel, by decide +kernel⟩
def spWalked : Sp := fun vs H Q _ => ∃ (a : Addr) (L : List Nat) (p : Nat), vs = [.ref a, .int (p : Int)] ∧ IsLd H a L ∧ p < L.length ∧ ∀ m, Orb L p m → RetL (nl (path L p m)) H Q
theorem sl_walked {H : Hp} {a : Addr} {L : List Nat} {p m : Nat} (h : IsLd H a L) (hp : p < L.length) (hm : Orb L p m) : SpL spWalked [.ref a, .int (p : Int)] H (nl (path L p m)) := fun _ e _ q _ => ⟨a, L, p, rfl, h.ex e, hp, fun n hn => by rw [← hm.uniq hn]; exact q⟩
theorem ok_walked {f : Addr} {fd : FuncData} (F : Fun K "walked" "walked" s_walked f fd) : FnOk P w K mg base CX0 1 f fd ["leading", "place"] spWalked := by
  refine F.ok sc_walked (fun vs H Q E h => ?_) (fun cdv A outer s H vs Q E hr h => ?_)
  · obtain ⟨a, L, p, rfl, _⟩ := h
    rfl
  · obtain ⟨a, L, p, rfl, hL, hp, q⟩ := h
    have hu := hu_of hr
    refine ⟨_, (pss_cons (ps_set (i := 2) sc_walked.nd rfl (Or.inl rfl) (pe_lst pa_nil))
    (pss_cons (ps_set (i := 3) sc_walked.nd rfl (Or.inl rfl) pe_dnewK)
    (pss_cons (ps_while PassesOwn.never (pt_cmp (pc_dnotin hu (pv 1) (pv 3)))
    (pss_cons (ps_dput hu (pv 3) (pv 1) pe_bl rfl)
    (pss_cons (ps_expr (pe_bm PySem.F.plainAttrs_list PySem.F.slot_list_append PySem.F.type_list_append mt_append (pv 2) (pa_cons (pv 1) pa_nil)))
    (pss_one (ps_set (i := 1) sc_walked.nd rfl (Or.inl rfl) (pe_ix (ix_listK (K := K) rfl) (pv 0) (pv 1) (fun _ _ => rfl)))))))
    (pss_one (ps_ret (pv 2)))))), ?_⟩
    have h64 := hL.2.2
    refine q_asgL (el_lst ea_nil (Nat.zero_le _)) fun pf H1 nf e1 hf => ?_
    refine q_dnew fun d H2 nd e2 hd => ?_
    have nd0 : H d = none := fresh_back e1 nd
    refine q_while (fun m σ' H' => ∃ (k : Nat) (M : Int → Option V), m = L.length - k ∧ σ' = [some (.ref a), some (.int (it L k p : Int)), some (.ref pf), some (.ref d)] ∧ (∀ i j, i < j → j < k → it L i p ≠ it L j p) ∧ Ex H H' ∧ H' pf = some (.lst (nl (path L p k))) ∧ DM H' d k M ∧
        (∀ i, i < k → (M (it L i p : Int)).isSome = true) ∧ (∀ z, (M z).isSome = true → ∃ i, i < k ∧ z = (it L i p : Int))) (L.length - 0)
      ⟨0, _, rfl, rfl, fun i j _ h => absurd h (Nat.not_lt_zero j), e1.trans e2, e2 _ _ hf, hd, fun i h => absurd h (Nat.not_lt_zero i), fun z h => by cases h⟩ fun m σ' H' hw => ?_
    obtain ⟨k, M, rfl, rfl, hinj, eH, hpf, hD, hM1, hM2⟩ := hw
    have hpk : it L k p < L.length := it_lt hL.2.1 k hp
    refine ⟨_, et_B (ev_dnotin (ev_var rfl) (ev_var rfl) hD), fun hb H3 e3 => ?_, fun hb H3 e3 => ?_⟩
    · have hnew : ∀ i, i < k → it L i p ≠ it L k p := fun i hi e => by
        have h1 := hM1 i hi
        rw [e] at h1
        rw [h1] at hb
        cases hb
      have hinj2 : ∀ i j, i < j → j < k + 1 → it L i p ≠ it L j p := fun i j hij hj => by
        by_cases e : j = k
        · subst e
          exact hnew i hij
        · exact hinj i j hij (by omega)
      have hkn := inj_le hL.2.1 hp hinj2
      have hne : pf ≠ d := by
        obtain ⟨kvs, h1, _⟩ := hD
        exact ne_of hpf h1 (fun z => by cases z)
      refine ⟨_, fun σ2 H2 h => h, ?_⟩
      refine q_dput ev_c (ev_var rfl) (ev_var rfl) (hD.ex e3) (by omega) fun H4 e4 o hD4 => ?_
      have eH4 : Ex H (upd H4 d o) := Ex.mut ((eH.trans e3).trans e4) nd0
      have hpf4 : upd H4 d o pf = some (.lst (nl (path L p k))) := by
        rw [upd_ne hne]
        exact e4 _ _ (e3 _ _ hpf)
      refine q_app hpf4 (ev_var rfl) (ev_var rfl) (by rw [nl_len, path_len]; omega) fun H5 e5 => ?_
      have eH5 : Ex H (upd H5 pf (.lst (nl (path L p k) ++ [V.int (it L k p : Int)]))) := Ex.mut (eH4.trans e5) nf
      have hD5 := (hD4.ex e5).upd (q := pf) (o := .lst (nl (path L p k) ++ [V.int (it L k p : Int)])) hne.symm
      refine s_asg (ev_op (ev_var rfl) (ev_var rfl) (rv_ixN (hL.ex eH5).sq hpk)) fun H6 e6 => ?_
      refine ⟨_, ?_, k + 1, _, rfl, by rw [it_succ]; rfl, hinj2, eH5.trans e6, ?_, hD5.ex e6, fun i hi => ?_, fun z hz => ?_⟩
      · omega
      · rw [e6 _ _ upd_same, path_succ]
        unfold nl
        rw [List.map_append]
        rfl
      · by_cases e : i = k
        · subst e
          rw [if_pos rfl]
          rfl
        · rw [if_neg fun q => hnew i (by omega) (by omega)]
          exact hM1 i (by omega)
      · by_cases e : z = (it L k p : Int)
        · exact ⟨k, by omega, e⟩
        · rw [if_neg e] at hz
          obtain ⟨i, h1, h2⟩ := hM2 z hz
          exact ⟨i, by omega, h2⟩
    · have hs : (M (it L k p : Int)).isSome = true := by
        cases h : (M (it L k p : Int)).isSome with
        | true => rfl
        | false =>
          rw [h] at hb
          cases hb
      obtain ⟨i, hi, hi2⟩ := hM2 _ hs
      exact ret_N (q k ⟨by omega, hinj, i, hi, by omega⟩) (eH.trans e3) nf (e3 _ _ hpf) rfl
abbrev s_herd_of : Stmt := topS 20
abbrev N_herd_of : List Str := ["leading", "place", "kept", "one", "way", "there", "seen", "some"]
theorem sc_herd_of : FnScope N_herd_of ["leading", "place"] (defScope s_herd_of) := ⟨rfl, rfl, rfl, by decide +kernel, rfl, by decide +kernel, by decide +kernel⟩
def spHerd : Sp := fun vs H Q _ => ∃ (a : Addr) (L : List Nat) (p : Nat), vs = [.ref a, .int (p : Int)] ∧ IsLd H a L ∧ p < L.length ∧ ∀ ps : List Nat, ps.length ≤ 63 → (∀ x, x ∈ ps ↔ x < L.length ∧ Meets L x p) → RetL (nl ps) H Q
theorem ok_herd_of {f : Addr} {fd : FuncData} (F : Fun K "herd_of" "herd_of" s_herd_of f fd) (B : Bl mg) (D_walked : Dk P w K mg base CX0 1 "walked" ["leading", "place"] spWalked) : FnOk P w K mg base CX0 2 f fd ["leading", "place"] spHerd := by
  refine F.ok sc_herd_of (fun vs H Q E h => ?_) (fun cdv A outer s H vs Q E hr h => ?_)
  · obtain ⟨a, L, p, rfl, _⟩ := h
    rfl
  · obtain ⟨a, L, p, rfl, hL, hp, q⟩ := h
    have hu := hu_of hr
    refine ⟨_, (pss_cons (ps_set (i := 2) sc_herd_of.nd rfl (Or.inl rfl) pe_dnewK)
    (pss_cons (ps_for PassesOwn.never rfl (pi_list (pe_callD D_walked (hr.mono (by decide)) (by rfl) pass0 (pa_cons (pv 0) (pa_cons (pv 1) pa_nil)))) (pg_name (i := 3) sc_herd_of.nd rfl (Or.inl rfl))
    (pss_one (ps_dput hu (pv 2) (pv 3) pe_bl rfl)))
    (pss_cons (ps_for PassesOwn.never rfl (pi_range1 (by rfl) B.range_ (pa_cons (pe_callB (call_lenK (K := K) rfl) (by rfl) B.len_ bo_len (pa_cons (pv 0) pa_nil)) pa_nil)) (pg_name (i := 3) sc_herd_of.nd rfl (Or.inl rfl))
    (pss_cons (ps_set (i := 4) sc_herd_of.nd rfl (Or.inl rfl) (pe_lst pa_nil))
    (pss_cons (ps_set (i := 5) sc_herd_of.nd rfl (Or.inl rfl) (pv 3))
    (pss_cons (ps_set (i := 6) sc_herd_of.nd rfl (Or.inl rfl) pe_dnewK)
    (pss_cons (ps_while PassesOwn.never (PW.pt (pw_and (pt_cmp (pc_dnotin hu (pv 5) (pv 2))) (pw_and1 (pt_cmp (pc_dnotin hu (pv 5) (pv 6))))))
    (pss_cons (ps_dput hu (pv 6) (pv 5) pe_bl rfl)
    (pss_cons (ps_expr (pe_bm PySem.F.plainAttrs_list PySem.F.slot_list_append PySem.F.type_list_append mt_append (pv 4) (pa_cons (pv 5) pa_nil)))
    (pss_one (ps_set (i := 5) sc_herd_of.nd rfl (Or.inl rfl) (pe_ix (ix_listK (K := K) rfl) (pv 0) (pv 5) (fun _ _ => rfl)))))))
    (pss_one (ps_if (pt_cmp (pc_din hu (pv 5) (pv 2)))
    (pss_one (ps_for PassesOwn.never rfl (pi_list (pv 4)) (pg_name (i := 7) sc_herd_of.nd rfl (Or.inl rfl))
    (pss_one (ps_dput hu (pv 2) (pv 7) pe_bl rfl))))
    pss_nil)))))))
    (pss_one (ps_ret (pe_callB (call_sortedDI rfl) (by rfl) B.sorted_ bo_sorted (pa_cons (pv 2) pa_nil))))))), ?_⟩
    have h63 := hL.2.2
    have hLd := hL.2.1
    obtain ⟨m, hm⟩ := orb_ex hLd hp
    have hml := hm.le hLd hp
    refine q_dnewK fun d H1 nd e1 hd => ?_
    -- for one in walked(leading, place): kept[one] = True
    refine q_forNLn (el_callL (ea2 (ev_var rfl) (ev_var rfl)) (sl_walked (hL.ex e1) hp hm)) (fun r k σ' H' => ∃ (ks : List Nat) (y3 : Option V), σ' = [some (.ref a), some (.int (p : Int)), some (.ref d), y3, none, none, none, none] ∧ Ex H H' ∧ H' r = some (.lst (nl (path L p m))) ∧ DKs H' d ks ∧ ks.Nodup ∧ (∀ x, x ∈ ks ↔ x ∈ path L p k) ∧ r ≠ d)
      (fun r H2 nr e2 h2 => ⟨[], _, rfl, e1.trans e2, h2, hd.ex e2, List.nodup_nil, fun x => ⟨fun h => (nomatch h), fun h => by obtain ⟨i, hi, _⟩ := mem_path.mp h; omega⟩, fun z => by
        obtain ⟨kvs, h3⟩ := hd.some
        rw [z, h3] at nr
        cases nr⟩)
      (fun r k σ' H' _ ⟨ks, y3, _, _, h, _⟩ => sq_of h) (fun r k x σ' H' hx hP => ?_) (fun r σ' H' hP => ?_)
    · obtain ⟨ks, y3, rfl, eH, hr', hD, nk, hk, hne⟩ := hP
      obtain ⟨y, hy, rfl, hlt⟩ := nl_inv hx
      rw [path_len] at hlt
      rw [path_get hlt] at hy
      obtain rfl := Option.some.inj hy
      have hkl : ks.length ≤ L.length := nodup_len nk fun z hz => path_lt hLd hp k ((hk z).mp hz)
      refine s_dputK ev_c (ev_var rfl) (ev_var rfl) hD (by omega) fun H3 e3 o hD3 => ?_
      refine ⟨_, _, rfl, Ex.mut (eH.trans e3) nd, by rw [upd_ne hne]; exact e3 _ _ hr', hD3, nodup_addK nk, fun z => ?_, hne⟩
      rw [mem_addK, hk z, path_succ, List.mem_append, List.mem_singleton]
    · obtain ⟨ks, y3, rfl, eH, _, hD, nk, hk, hne⟩ := hP
      rw [nl_len, path_len] at hk
      -- for one in range(len(leading)): ..
      refine q_forR1 (n := (L.length : Int)) (ea1 (ev_lenNl (ev_var rfl) (hL.ex eH).sq)) (by omega) (fun i σ' H' => ∃ (ks : List Nat) (y3 y4 y5 y6 y7 : Option V), σ' = [some (.ref a), some (.int (p : Int)), some (.ref d), y3, y4, y5, y6, y7] ∧ Ex H H' ∧ DKs H' d ks ∧ ks.Nodup ∧ (∀ x ∈ ks, x < L.length ∧ Meets L x p) ∧ (∀ x ∈ path L p m, x ∈ ks) ∧ ∀ y, y < i → Meets L y p → y ∈ ks)
        (fun H2 e2 => ⟨ks, _, _, _, _, _, rfl, eH.trans e2, hD.ex e2, nk, fun x hx => ⟨path_lt hLd hp m ((hk x).mp hx), path_meets ((hk x).mp hx)⟩, fun x hx => (hk x).mpr hx, fun y h => absurd h (Nat.not_lt_zero y)⟩) (fun i σ' H' hi hP => ?_) (fun σ' H' hP => ?_)
      · obtain ⟨ks, y3, y4, y5, y6, y7, rfl, eH, hD, nk, hk1, hk2, hk3⟩ := hP
        have hil : i < L.length := by omega
        have hkl : ks.length ≤ L.length := nodup_len nk fun z hz => (hk1 z hz).1
        refine q_asgL (el_lst ea_nil (Nat.zero_le _)) fun wy H2 nw e2 hw => ?_
        refine q_asg (ev_var rfl) fun H3 e3 => ?_
        refine q_dnewK fun s' H4 ns e4 hs => ?_
        have e24 := (e2.trans e3).trans e4
        have nw0 : H wy = none := fresh_back eH nw
        have ns0 : H s' = none := fresh_back (eH.trans (e2.trans e3)) ns
        obtain ⟨kvs0, hkv0⟩ := hD.some
        have hsd : s' ≠ d := (ne_of_none ((e2.trans e3) _ _ hkv0) ns).symm
        have hwd : wy ≠ d := (ne_of_none hkv0 nw).symm
        have hsw : s' ≠ wy := (ne_of_none (e3 _ _ hw) ns).symm
        refine q_while (fun t σ' H' => ∃ (k : Nat), t = L.length - k ∧ σ' = [some (.ref a), some (.int (p : Int)), some (.ref d), some (.int (i : Int)), some (.ref wy), some (.int (it L k i : Int)), some (.ref s'), y7] ∧ Ex H H' ∧ DKs H' d ks ∧ H' wy = some (.lst (nl (path L i k))) ∧ DKs H' s' (path L i k) ∧ (∀ x y, x < y → y < k → it L x i ≠ it L y i) ∧ ∀ x, x < k → it L x i ∉ ks) (L.length - 0)
          ⟨0, rfl, rfl, eH.trans e24, hD.ex e24, e4 _ _ (e3 _ _ hw), hs, fun _ y _ h => absurd h (Nat.not_lt_zero y), fun x h => absurd h (Nat.not_lt_zero x)⟩ fun t σ' H' hW => ?_
        obtain ⟨k, rfl, rfl, eH', hD', hw', hs', hinj, hno⟩ := hW
        have hik : it L k i < L.length := it_lt hLd k hil
        refine ⟨_, et_and (et_B (ev_dnotinK (ev_var rfl) (ev_var rfl) hD' rfl)) (fun _ => et_B (ev_dnotinK (ev_var rfl) (ev_var rfl) hs' rfl)), fun hb H5 e5 => ?_, fun hb H5 e5 => ?_⟩
        · rw [Bool.and_eq_true, Bool.not_eq_true', Bool.not_eq_true', decide_eq_false_iff_not, decide_eq_false_iff_not] at hb
          obtain ⟨hb1, hb2⟩ := hb
          have hinj2 : ∀ x y, x < y → y < k + 1 → it L x i ≠ it L y i := fun x y hxy hy e => by
            by_cases ey : y = k
            · subst ey
              exact hb2 (mem_path.mpr ⟨x, hxy, e.symm⟩)
            · exact hinj x y hxy (by omega) e
          have hkn := inj_le hLd hil hinj2
          refine ⟨_, fun σ2 H2 h => h, ?_⟩
          refine q_dputK ev_c (ev_var rfl) (ev_var rfl) (hs'.ex e5) (by rw [path_len]; omega) fun H6 e6 o hs6 => ?_
          rw [addK_new hb2, ← path_succ] at hs6
          have eH6 : Ex H (L2.upd H6 s' o) := Ex.mut ((eH'.trans e5).trans e6) ns0
          have hD6 : DKs (L2.upd H6 s' o) d ks := ((hD'.ex e5).ex e6).upd hsd.symm
          have hw6 : L2.upd H6 s' o wy = some (.lst (nl (path L i k))) := by
            rw [upd_ne hsw.symm]
            exact e6 _ _ (e5 _ _ hw')
          refine q_app hw6 (ev_var rfl) (ev_var rfl) (by rw [nl_len, path_len]; omega) fun H7 e7 => ?_
          have eH7 : Ex H (L2.upd H7 wy (.lst (nl (path L i k) ++ [V.int (it L k i : Int)]))) := Ex.mut (eH6.trans e7) nw0
          refine s_asg (ev_op (ev_var rfl) (ev_var rfl) (rv_ixN (hL.ex eH7).sq hik)) fun H8 e8 => ?_
          refine ⟨_, ?_, k + 1, rfl, by rw [it_succ]; rfl, eH7.trans e8, ((hD6.ex e7).upd hwd.symm).ex e8, ?_, ((hs6.ex e7).upd hsw).ex e8, hinj2, fun x hx => ?_⟩
          · omega
          · rw [e8 _ _ upd_same, path_succ]
            unfold nl
            rw [List.map_append]
            rfl
          · by_cases ex : x = k
            · subst ex
              exact hb1
            · exact hno x (by omega)
        · have eH5 := eH'.trans e5
          have hD5 := hD'.ex e5
          have hw5 := e5 _ _ hw'
          refine s_when (et_B (ev_dinK (ev_var rfl) (ev_var rfl) hD5 rfl)) (fun hb2 H6 e6 => ?_) (fun hb2 H6 e6 => ?_)
          · -- the way meets what is kept
            have hin := of_decide_eq_true hb2
            have hmi : Meets L i p := (meets_it k).mp (hk1 _ hin).2
            refine s_forLn (ev_var rfl) (sq_of (e6 _ _ hw5)) (fun j σ' H' => ∃ (ks' : List Nat) (y7 : Option V), σ' = [some (.ref a), some (.int (p : Int)), some (.ref d), some (.int (i : Int)), some (.ref wy), some (.int (it L k i : Int)), some (.ref s'), y7] ∧ Ex H H' ∧ H' wy = some (.lst (nl (path L i k))) ∧ DKs H' d ks' ∧ ks'.Nodup ∧ ∀ x, x ∈ ks' ↔ x ∈ ks ∨ x ∈ path L i j)
              (fun H7 e7 => ⟨ks, _, rfl, (eH5.trans e6).trans e7, e7 _ _ (e6 _ _ hw5), (hD5.ex e6).ex e7, nk, fun x => ⟨.inl, fun h => h.elim id fun h => by obtain ⟨_, hx, _⟩ := mem_path.mp h; omega⟩⟩) (fun j σ' H' _ ⟨_, _, _, _, h, _⟩ => sq_of h) (fun j x σ' H' hx hP => ?_) (fun σ' H' hP => ?_)
            · obtain ⟨ks', y7, rfl, eH7, hw7, hD7, nk', hk'⟩ := hP
              obtain ⟨y, hy, rfl, hlt⟩ := nl_inv hx
              rw [path_len] at hlt
              rw [path_get hlt] at hy
              obtain rfl := Option.some.inj hy
              have hkl' : ks'.length ≤ L.length := nodup_len nk' fun z hz => ((hk' z).mp hz).elim (fun h => (hk1 z h).1) fun h => path_lt hLd hil j h
              refine s_dputK ev_c (ev_var rfl) (ev_var rfl) hD7 (by omega) fun H8 e8 o hD8 => ?_
              refine ⟨_, _, rfl, Ex.mut (eH7.trans e8) nd, by rw [upd_ne hwd]; exact e8 _ _ hw7, hD8, nodup_addK nk', fun z => ?_⟩
              rw [mem_addK, hk' z, path_succ, List.mem_append, List.mem_singleton, or_assoc]
            · obtain ⟨ks', y7, rfl, eH7, hw7, hD7, nk', hk'⟩ := hP
              rw [nl_len, path_len] at hk'
              refine ⟨ks', _, _, _, _, _, rfl, eH7, hD7, nk', fun x hx => ?_, fun x hx => (hk' x).mpr (.inl (hk2 x hx)), fun y hy hmy => ?_⟩
              · rcases (hk' x).mp hx with h | h
                · exact hk1 x h
                · obtain ⟨j, _, rfl⟩ := mem_path.mp h
                  exact ⟨it_lt hLd j hil, (meets_it j).mpr hmi⟩
              · by_cases ey : y = i
                · subst ey
                  refine (hk' y).mpr ?_
                  cases k with
                  | zero => exact .inl hin
                  | succ k => exact .inr (mem_path.mpr ⟨0, Nat.zero_lt_succ k, rfl⟩)
                · exact (hk' y).mpr (.inl (hk3 y (by omega) hmy))
          · -- it comes round without
            have hin := of_decide_eq_false hb2
            have hback : it L k i ∈ path L i k := by
              rw [decide_eq_false hin, Bool.not_false, Bool.true_and, Bool.not_eq_false', decide_eq_true_eq] at hb
              exact hb
            refine ⟨ks, _, _, _, _, _, rfl, eH5.trans e6, hD5.ex e6, nk, hk1, hk2, fun y hy hmy => ?_⟩
            by_cases ey : y = i
            · subst ey
              obtain ⟨z, hz, ez⟩ := mem_path.mp hback
              have ho : Orb L y k := ⟨by omega, hinj, z, hz, ez⟩
              obtain ⟨u, v, e⟩ := hmy
              obtain ⟨z2, hz2, ez2⟩ := mem_path.mp (ho.all u)
              exact absurd (hk2 _ (hm.all v)) (by rw [← e, ez2]; exact hno z2 hz2)
            · exact hk3 y (by omega) hmy
      · obtain ⟨ks, y3, y4, y5, y6, y7, rfl, eH, hD, nk, hk1, hk2, hk3⟩ := hP
        have hkl : ks.length ≤ L.length := nodup_len nk fun z hz => (hk1 z hz).1
        rw [Int.toNat_natCast] at hk3
        exact ret_L (q (srt ks) (by rw [srt_len]; omega) fun x => by
          rw [mem_srt]
          exact ⟨hk1 x, fun ⟨h1, h2⟩ => hk3 x h1 h2⟩) eH (el_sortedD (ev_var rfl) hD (by omega))
abbrev s_comes : Stmt := topS 21
abbrev N_comes : List Str := ["leading", "one", "other", "mine", "at", "many", "place"]
theorem sc_comes : FnScope N_comes ["leading", "one", "other"] (defScope s_comes) := ⟨rfl, rfl, rfl, by decide +kernel, rfl, by decide +kernel, by decide +kernel⟩
def spComes (c : Cs) : Sp := fun vs H Q _ => ∃ (a : Addr) (L : List Nat) (p q : Nat), vs = [.ref a, .int (p : Int), .int (q : Int)] ∧ IsLd H a L ∧ p < L.length ∧ q < L.length ∧
  (∀ x dx (i j : Nat) H2, H x = none → Ex H H2 → H2 x = some (.ins c.Met dx [("mine", .int (i : Int)), ("theirs", .int (j : Int))]) → it L i p = it L j q → Q (.ref x) H2) ∧
  (∀ x dx l (ps : List Nat) H2, H x = none → H l = none → Ex H H2 → H2 x = some (.ins c.Apart dx [("places", .ref l)]) → H2 l = some (.lst (nl ps)) → ps.length ≤ 63 → (∀ y, y ∈ ps ↔ y < L.length ∧ Meets L y p) → ¬ Meets L q p → Q (.ref x) H2)
theorem ok_comes {f : Addr} {fd : FuncData} (F : Fun K "comes" "comes" s_comes f fd) (B : Bl mg) (D_asked_leading : Dk P w K mg base CX0 2 "asked_leading" ["leading"] spAskedL) (D_asked_place : Dk P w K mg base CX0 2 "asked_place" ["leading", "place"] spAskedP)
    (D_walked : Dk P w K mg base CX0 1 "walked" ["leading", "place"] spWalked) (D_herd_of : Dk P w K mg base CX0 2 "herd_of" ["leading", "place"] spHerd) (I_Met : Cn P w K mg base CX0 1 "Met" c.Met ["self", "mine", "theirs"] (spInitM c.Met)) (I_Apart : Cn P w K mg base CX0 1 "Apart" c.Apart ["self", "places"] (spInitL K c.Apart "places")) :
    FnOk P w K mg base CX0 3 f fd ["leading", "one", "other"] (spComes c) := by
  refine F.ok sc_comes (fun vs H Q E h => ?_) (fun cdv A outer s H vs Q E hr h => ?_)
  · obtain ⟨a, L, p, q, rfl, _⟩ := h
    rfl
  · obtain ⟨a, L, p, q, rfl, hL, hp, hq, k1, k2⟩ := h
    have hu := hu_of hr
    refine ⟨_, (pss_cons (ps_expr (pe_callD D_asked_leading (hr.mono (by decide)) (by rfl) pass0 (pa_cons (pv 0) pa_nil)))
    (pss_cons (ps_expr (pe_callD D_asked_place (hr.mono (by decide)) (by rfl) pass0 (pa_cons (pv 0) (pa_cons (pv 1) pa_nil))))
    (pss_cons (ps_expr (pe_callD D_asked_place (hr.mono (by decide)) (by rfl) pass0 (pa_cons (pv 0) (pa_cons (pv 2) pa_nil))))
    (pss_cons (ps_set (i := 3) sc_comes.nd rfl (Or.inl rfl) (pe_callD D_walked (hr.mono (by decide)) (by rfl) pass0 (pa_cons (pv 0) (pa_cons (pv 1) pa_nil))))
    (pss_cons (ps_set (i := 4) sc_comes.nd rfl (Or.inl rfl) pe_dnewK)
    (pss_cons (ps_for PassesOwn.never rfl (pi_enum (by rfl) B.enumerate_ (pa_cons (pv 3) pa_nil)) (pg_tup (by rfl) (pgs_cons (pg_name (i := 5) sc_comes.nd rfl (Or.inl rfl)) (pgs_cons (pg_name (i := 6) sc_comes.nd rfl (Or.inl rfl)) pgs_nil)))
    (pss_one (ps_dput hu (pv 4) (pv 6) (pv 5) rfl)))
    (pss_cons (ps_for PassesOwn.never rfl (pi_enum (by rfl) B.enumerate_ (pa_cons (pe_callD D_walked (hr.mono (by decide)) (by rfl) pass0 (pa_cons (pv 0) (pa_cons (pv 2) pa_nil))) pa_nil)) (pg_tup (by rfl) (pgs_cons (pg_name (i := 5) sc_comes.nd rfl (Or.inl rfl)) (pgs_cons (pg_name (i := 6) sc_comes.nd rfl (Or.inl rfl)) pgs_nil)))
    (pss_one (ps_if (pt_cmp (pc_din hu (pv 6) (pv 4)))
    (pss_one (ps_ret (pe_makeD I_Met (hr.mono (by decide)) (by rfl) pass0 (pa_cons (pe_dget hu (pv 4) (pv 6) (fun _ _ => rfl)) (pa_cons (pv 5) pa_nil)))))
    pss_nil)))
    (pss_one (ps_ret (pe_makeD I_Apart (hr.mono (by decide)) (by rfl) pass0 (pa_cons (pe_callD D_herd_of (hr.mono (by decide)) (by rfl) pass0 (pa_cons (pv 0) (pa_cons (pv 1) pa_nil))) pa_nil))))))))))), ?_⟩
    have h63 := hL.2.2
    have hLd := hL.2.1
    obtain ⟨m, hm⟩ := orb_ex hLd hp
    have hml := hm.le hLd hp
    obtain ⟨n, hn⟩ := orb_ex hLd hq
    refine q_drop (ev_callV (ea1 (ev_var rfl)) (sv_asked_leading hL)) fun H1 e1 => ?_
    refine q_drop (ev_callV (ea2 (ev_var rfl) (ev_var rfl)) (sv_asked_place (hL.ex e1) hp)) fun H2 e2 => ?_
    refine q_drop (ev_callV (ea2 (ev_var rfl) (ev_var rfl)) (sv_asked_place (hL.ex (e1.trans e2)) hq)) fun H3 e3 => ?_
    have e := (e1.trans e2).trans e3
    refine q_asgL (el_callL (ea2 (ev_var rfl) (ev_var rfl)) (sl_walked (hL.ex e) hp hm)) fun pm H4 nm e4 hpm => ?_
    refine q_dnew fun d H5 nd e5 hd => ?_
    have e' := (e.trans e4).trans e5
    have hpm5 := e5 _ _ hpm
    have nd0 : H d = none := fresh_back (e.trans e4) nd
    have hne : pm ≠ d := ne_of_none hpm nd
    refine q_forE (ev_var rfl) (sq_of hpm5) (fun i σ' H' => ∃ (M : Int → Option V) (y5 y6 : Option V), σ' = [some (.ref a), some (.int (p : Int)), some (.int (q : Int)), some (.ref pm), some (.ref d), y5, y6] ∧ Ex H H' ∧ H' pm = some (.lst (nl (path L p m))) ∧ DM H' d i M ∧ (∀ j, j < i → M (it L j p : Int) = some (.int (j : Int))) ∧ ∀ z, (M z).isSome = true → ∃ j, j < i ∧ z = (it L j p : Int))
      (fun H6 e6 => ⟨_, _, _, rfl, e'.trans e6, e6 _ _ hpm5, hd.ex e6, fun j h => absurd h (Nat.not_lt_zero j), fun z h => by cases h⟩) (fun i σ' H' _ ⟨M, _, _, _, _, h, _⟩ => sq_of h) (fun i x σ' H' H6 hx hP e6 _ => ?_) (fun σ' H' hP => ?_)
    · obtain ⟨M, y5, y6, rfl, eH, hpm', hD, hM1, hM2⟩ := hP
      obtain ⟨y, hy, rfl, hlt⟩ := nl_inv hx
      rw [path_len] at hlt
      rw [path_get hlt] at hy
      obtain rfl := Option.some.inj hy
      refine s_dput (ev_var rfl) (ev_var rfl) (ev_var rfl) (hD.ex e6) (by omega) fun H7 e7 o hD7 => ?_
      refine ⟨_, _, _, rfl, Ex.mut ((eH.trans e6).trans e7) nd0, by rw [upd_ne hne]; exact e7 _ _ (e6 _ _ hpm'), hD7, fun j hj => ?_, fun z hz => ?_⟩
      · by_cases ej : j = i
        · subst ej
          rw [if_pos rfl]
        · rw [if_neg fun z => hm.inj j i (by omega) hlt (by omega)]
          exact hM1 j (by omega)
      · by_cases ez : z = (it L i p : Int)
        · exact ⟨i, by omega, ez⟩
        · rw [if_neg ez] at hz
          obtain ⟨j, h1, h2⟩ := hM2 z hz
          exact ⟨j, by omega, h2⟩
    · obtain ⟨M, y5, y6, rfl, eH, hpm', hD, hM1, hM2⟩ := hP
      rw [nl_len, path_len] at hM1 hM2 hD
      refine q_forNE (el_callL (ea2 (ev_var rfl) (ev_var rfl)) (sl_walked (hL.ex eH) hq hn)) (fun r i σ' H' => ∃ (y5 y6 : Option V), σ' = [some (.ref a), some (.int (p : Int)), some (.int (q : Int)), some (.ref pm), some (.ref d), y5, y6] ∧ Ex H H' ∧ H' r = some (.lst (nl (path L q n))) ∧ DM H' d m M ∧ ∀ j, j < i → it L j q ∉ path L p m)
        (fun r H6 nr e6 h6 => ⟨_, _, rfl, eH.trans e6, h6, hD.ex e6, fun j h => absurd h (Nat.not_lt_zero j)⟩) (fun r i σ' H' _ ⟨_, _, _, _, h, _⟩ => sq_of h) (fun r i x σ' H' H6 hx hP e6 _ => ?_) (fun r σ' H' hP => ?_)
      · obtain ⟨y5, y6, rfl, eH', hr', hD', hno⟩ := hP
        obtain ⟨y, hy, rfl, hlt⟩ := nl_inv hx
        rw [path_len] at hlt
        rw [path_get hlt] at hy
        obtain rfl := Option.some.inj hy
        have hD6 := hD'.ex e6
        refine s_when (et_B (ev_din (ev_var rfl) (ev_var rfl) hD6)) (fun hb H7 e7 => ?_) (fun hb H7 e7 => ?_)
        · obtain ⟨j, hj, ej⟩ := hM2 _ hb
          have ej' : it L i q = it L j p := by omega
          have hMj : M (it L i q : Int) = some (.int (j : Int)) := by
            rw [ej]
            exact hM1 j hj
          exact tmkM (ev_dget (ev_var rfl) (ev_var rfl) (hD6.ex e7) hMj) (ev_var rfl) fun x dx H8 nx e8 hx8 => k1 x dx j i H8 (fresh_back ((eH'.trans e6).trans e7) nx) (((eH'.trans e6).trans e7).trans e8) hx8 ej'.symm
        · refine ⟨_, _, rfl, (eH'.trans e6).trans e7, e7 _ _ (e6 _ _ hr'), hD6.ex e7, fun j hj hin => ?_⟩
          by_cases ej : j = i
          · subst ej
            obtain ⟨z, hz, ez⟩ := mem_path.mp hin
            rw [ez, hM1 z hz] at hb
            cases hb
          · exact hno j (by omega) hin
      · obtain ⟨y5, y6, rfl, eH', hr', hD', hno⟩ := hP
        rw [nl_len, path_len] at hno
        have hnm : ¬ Meets L q p := no_meet hm hn fun x hx => by
          obtain ⟨j, hj, rfl⟩ := mem_path.mp hx
          exact hno j hj
        exact tmkC (fun ps => ps.length ≤ 63 ∧ ∀ y, y ∈ ps ↔ y < L.length ∧ Meets L y p) (ea2 (ev_var rfl) (ev_var rfl)) (fun H6 e6 R hR => ⟨a, L, p, rfl, hL.ex (eH'.trans e6), hp, fun ps h1 h2 => hR ps ⟨h1, h2⟩⟩) fun ps x dx l H6 hg nx nl' e6 hx hl => k2 x dx l ps H6 (fresh_back eH' nx) (fresh_back eH' nl') (eH'.trans e6) hx hl hg.1 hg.2 hnm
abbrev s_law_leading : Stmt := topS 23
abbrev N_law_leading : List Str := ["_law_script", "_law_many", "_law_kind", "_law_place", "_law_cell", "_law_found", "_law_other", "_law_kept"]
theorem sc_law_leading : FnScope N_law_leading ["_law_script"] (defScope s_law_leading) := ⟨rfl, rfl, rfl, by decide +kernel, rfl, by decide +kernel, by decide +kernel⟩
def spLLead (K : PySem.W.Frag) : Sp := fun vs H Q _ => ∃ (a : Addr) (ns : List Int), vs = [.ref a] ∧ SqL K H a (il ns) ∧ ns.length ≤ 63 ∧ ∀ L, Lead L → L.length = ns.length → RetL (nl L) H Q
theorem ok_law_leading {f : Addr} {fd : FuncData} (F : Fun K "_law_leading" "_law_leading" s_law_leading f fd) (B : Bl mg) : FnOk P w K mg base CX0 1 f fd ["_law_script"] (spLLead K) := by
  refine F.ok sc_law_leading (fun vs H Q E h => ?_) (fun cdv A outer s H vs Q E hr h => ?_)
  · obtain ⟨a, ns, rfl, _⟩ := h
    rfl
  · obtain ⟨a, ns, rfl, hS, h63, q⟩ := h
    refine ⟨_, (pss_cons (ps_set (i := 1) sc_law_leading.nd rfl (Or.inr rfl) (pe_callB (call_lenK (K := K) rfl) (by rfl) B.len_ bo_len (pa_cons (pv 0) pa_nil)))
    (pss_cons (ps_set (i := 2) sc_law_leading.nd rfl (Or.inl rfl) (pe_op op_modN (pe_callB (cr_sumK (K := K) rfl rfl) (by rfl) B.sum_ bo_sum (pa_cons (pv 0) pa_nil)) pe_int))
    (pss_cons (ps_if (pt_cmpR op_eq (pv 2) pe_int (nomark _))
    (pss_one (ps_ret (pe_lc (own := [("_law_place", 3), ("_law_cell", 4)]) (g := gTup K 2 (gCons (gName 3) (gCons (gName 4) gNil))) (tt := tYes) rfl sc_law_leading.nd (pi_enum (by rfl) B.enumerate_ (pa_cons (pv 0) pa_nil)) (blkOk_by (N := N_law_leading) (sc := defScope s_law_leading) (by decide +kernel)) (fun _ _ _ _ _ => (pg_tup (by rfl) (pgs_cons (pg_name (i := 3) sc_law_leading.nd rfl (Or.inl rfl)) (pgs_cons (pg_name (i := 4) sc_law_leading.nd rfl (Or.inl rfl)) pgs_nil)))) (fun _ _ _ _ _ => pts_nil) (fun _ _ _ _ _ => (pe_op op_modN (pv 4) (pe_op op_add (pv 3) pe_int))))))
    pss_nil)
    (pss_cons (ps_setLc (i := 5) (own := [("_law_place", 3)]) (g := gName 3) (tt := tYes) rfl sc_law_leading.nd rfl rfl (sw_true rfl rfl rfl (by decide +kernel)) (pi_range1 (by rfl) B.range_ (pa_cons (pv 1) pa_nil)) (blkOk_by (N := N_law_leading) (sc := defScope s_law_leading) (by decide +kernel)) (fun _ _ _ _ _ => (pg_name (i := 3) sc_law_leading.nd rfl (Or.inl rfl))) (fun _ _ _ _ _ => pts_nil) (fun _ _ _ _ _ => (pv 3)))
    (pss_cons (ps_if (pt_cmpR (op_inK (K := K) rfl) (pv 2) (pe_lst (pa_cons pe_int (pa_cons pe_int pa_nil))) (by rfl))
    (pss_cons (ps_for PassesOwn.never rfl (pi_enum (by rfl) B.enumerate_ (pa_cons (pv 0) pa_nil)) (pg_tup (by rfl) (pgs_cons (pg_name (i := 3) sc_law_leading.nd rfl (Or.inl rfl)) (pgs_cons (pg_name (i := 4) sc_law_leading.nd rfl (Or.inl rfl)) pgs_nil)))
    (pss_cons (ps_set (i := 6) sc_law_leading.nd rfl (Or.inl rfl) (pe_op op_modN (pv 4) (pv 1)))
    (pss_cons (ps_set (i := 7) sc_law_leading.nd rfl (Or.inl rfl) (pe_ix (ix_listK (K := K) rfl) (pv 5) (pv 3) (fun _ _ => rfl)))
    (pss_cons (ps_asg (pe_ix (ix_listK (K := K) rfl) (pv 5) (pv 6) (fun _ _ => rfl)) (pg_sub (pv 5) (pv 3) set_list))
    (pss_one (ps_asg (pv 7) (pg_sub (pv 5) (pv 6) set_list)))))))
    (pss_one (ps_ret (pv 5))))
    pss_nil)
    (pss_cons (ps_if (pt_cmpR op_eq (pv 2) pe_int (nomark _))
    (pss_one (ps_ret (pe_lc (own := [("_law_place", 3), ("_law_cell", 4)]) (g := gTup K 2 (gCons (gName 3) (gCons (gName 4) gNil))) (tt := tYes) rfl sc_law_leading.nd (pi_enum (by rfl) B.enumerate_ (pa_cons (pv 0) pa_nil)) (blkOk_by (N := N_law_leading) (sc := defScope s_law_leading) (by decide +kernel)) (fun _ _ _ _ _ => (pg_tup (by rfl) (pgs_cons (pg_name (i := 3) sc_law_leading.nd rfl (Or.inl rfl)) (pgs_cons (pg_name (i := 4) sc_law_leading.nd rfl (Or.inl rfl)) pgs_nil)))) (fun _ _ _ _ _ => pts_nil) (fun _ _ _ _ _ => (pe_op op_modN (pe_op op_add (pe_op op_add (pv 3) pe_int) (pe_op op_modN (pv 4) pe_int)) (pv 1))))))
    pss_nil)
    (pss_one (ps_ret (pe_lc (own := [("_law_cell", 4)]) (g := gName 4) (tt := tYes) rfl sc_law_leading.nd (pi_list (pv 0)) (blkOk_by (N := N_law_leading) (sc := defScope s_law_leading) (by decide +kernel)) (fun _ _ _ _ _ => (pg_name (i := 4) sc_law_leading.nd rfl (Or.inl rfl))) (fun _ _ _ _ _ => pts_nil) (fun _ _ _ _ _ => (pe_op op_modN (pv 4) (pv 1)))))))))))), ?_⟩
    refine q_asg (ev_lenIl (ev_var rfl) hS) fun H1 e1 => ?_
    refine q_asg (ev_op (ev_sum (ev_var rfl) (ex_l e1 hS)) ev_c (rv_I (by decide))) fun H2 e2 => ?_
    have hS2 := ex_l (e1.trans e2) hS
    refine q_when (et_test (ev_op (ev_var rfl) ev_c (rv_eqB rfl))) (fun _ H3 e3 => ?_) (fun _ H3 e3 => ?_)
    · -- return [cell % (place + 1) for place, cell in enumerate(script)]
      obtain ⟨L, h1, h2, h3⟩ := lead_of (n := ns.length) (fun k => (ns.getD k 0).fmod ((k : Int) + 1)) fun k hk => by
        obtain ⟨r, hr, hr2⟩ := fmod_lt (ns.getD k 0) (m := k + 1) (by omega)
        rw [show ((k : Int) + 1) = ((k + 1 : Nat) : Int) by omega, hr]
        omega
      refine ret_L (q L h1 h2) ((e1.trans e2).trans e3) ?_
      rw [← h3, ← given_all, ← il_len ns]
      refine el_lcE (by decide) (fun _ => true) _ (ev_var rfl) (ex_l e3 hS2) (by rw [il_len]; omega) (fun _ _ _ _ _ => et_yes) fun k x H4 e4 hk _ => ?_
      obtain ⟨y, hy, rfl, hl⟩ := il_inv hk
      refine ev_op (ev_var rfl) (ev_op (ev_var rfl) ev_c rv_I0) (rv_IW (by omega) ?_)
      rw [List.getD_eq_getElem?_getD, hy]
      rfl
    · -- found = [place for place in range(many)]
      refine q_asgL (el_mapR (fun i => V.int i) (ea1 (ev_var rfl)) (by omega) fun i H4 e4 hi => ev_var rfl) fun pf H4 nf e4 h4 => ?_
      have eb := ((e1.trans e2).trans e3).trans e4
      have nf0 : H pf = none := fresh_back ((e1.trans e2).trans e3) nf
      refine q_when (et_test (ev_opL (ev_var rfl) (el_lst (ea2 ev_c ev_c) (by decide)) fun p H5 h5 e5 => rv_isL (sq_of h5) rfl rfl)) (fun _ H5 e5 => ?_) (fun _ H5 e5 => ?_)
      · -- places exchanged
        refine q_forE (ev_var rfl) (ex_l ((e3.trans e4).trans e5) hS2) (fun i σ' H' => ∃ (L : List Nat) (k : Int) (y3 y4 y6 y7 : Option V), σ' = [some (.ref a), some (.int (ns.length : Int)), some (.int k), y3, y4, some (.ref pf), y6, y7] ∧ Ex H H' ∧ H' pf = some (.lst (nl L)) ∧ Lead L ∧ L.length = ns.length)
          (fun H6 e6 => ⟨List.range ns.length, _, _, _, _, _, rfl, (eb.trans e5).trans e6, e6 _ _ (e5 _ _ h4), fun x hx => by rw [List.length_range]; exact List.mem_range.mp hx, List.length_range⟩)
          (fun i σ' H' _ ⟨L, k, y3, y4, y6, y7, _, e, _⟩ => ex_l e hS) (fun i x σ' H' H6 hx hp e6 _ => ?_) (fun σ' H' hp => ?_)
        · obtain ⟨L, k, y3, y4, y6, y7, rfl, eH, hf, hL, hlen⟩ := hp
          obtain ⟨z, hz, rfl, hi⟩ := il_inv hx
          obtain ⟨r, hr, hr2⟩ := fmod_lt z (m := ns.length) (by omega)
          refine q_asg (ev_op (ev_var rfl) (ev_var rfl) (rv_IW (by omega) (w := .int (r : Int)) (by rw [hr]))) fun H7 e7 => ?_
          have hf7 := e7 _ _ (e6 _ _ hf)
          refine q_asg (ev_op (ev_var rfl) (ev_var rfl) (rv_ixN (j := i) (sq_of hf7) (by omega))) fun H8 e8 => ?_
          have hf8 := e8 _ _ hf7
          refine q_setL hf8 (ev_op (ev_var rfl) (ev_var rfl) (rv_ixN (j := r) (sq_of hf8) (by omega))) (ev_var rfl) (ev_var rfl) (j := i) (by rw [nl_len]; omega) fun H9 e9 => ?_
          rw [nl_set]
          refine s_setL (j := r) upd_same (ev_var rfl) (ev_var rfl) (ev_var rfl) (by rw [nl_len, List.length_set]; omega) fun H10 e10 => ?_
          rw [nl_set]
          refine ⟨(L.set i (st L r)).set r (st L i), k, _, _, _, _, rfl, ?_, upd_same, ?_, ?_⟩
          · exact Ex.mut ((Ex.mut ((((eH.trans e6).trans e7).trans e8).trans e9) nf0).trans e10) nf0
          · exact (hL.set (st_lt hL (by omega))).set (by rw [List.length_set]; exact st_lt hL (by omega))
          · rw [List.length_set, List.length_set, hlen]
        · obtain ⟨L, k, y3, y4, y6, y7, rfl, eH, hf, hL, hlen⟩ := hp
          exact ret_N (q L hL hlen) eH nf0 hf rfl
      · refine q_when (et_test (ev_op (ev_var rfl) ev_c (rv_eqB rfl))) (fun _ H6 e6 => ?_) (fun _ H6 e6 => ?_)
        · -- return [(place + 1 + cell % 3) % many for place, cell in enumerate(script)]
          obtain ⟨L, h1, h2, h3⟩ := lead_of (n := ns.length) (fun k => ((k : Int) + 1 + (ns.getD k 0).fmod 3).fmod (ns.length : Int)) fun k hk => by
            obtain ⟨r, hr, hr2⟩ := fmod_lt ((k : Int) + 1 + (ns.getD k 0).fmod 3) (m := ns.length) (by omega)
            rw [hr]
            omega
          refine ret_L (q L h1 h2) ((eb.trans e5).trans e6) ?_
          rw [← h3, ← given_all, ← il_len ns]
          refine el_lcE (by decide) (fun _ => true) _ (ev_var rfl) (ex_l ((eb.trans e5).trans e6) hS) (by rw [il_len]; omega) (fun _ _ _ _ _ => et_yes) fun k x H7 e7 hk _ => ?_
          obtain ⟨y, hy, rfl, hl⟩ := il_inv hk
          refine ev_op (ev_op (ev_op (ev_var rfl) ev_c rv_I0) (ev_op (ev_var rfl) ev_c (rv_I (by decide))) rv_I0) (ev_var rfl) (rv_IW (show ((il ns).length : Int) ≠ 0 by rw [il_len]; omega) ?_)
          rw [List.getD_eq_getElem?_getD, hy]
          rfl
        · -- return [cell % many for cell in script]
          obtain ⟨L, h1, h2, h3⟩ := lead_of (n := ns.length) (fun k => (ns.getD k 0).fmod (ns.length : Int)) fun k hk => by
            obtain ⟨r, hr, hr2⟩ := fmod_lt (ns.getD k 0) (m := ns.length) (by omega)
            rw [hr]
            omega
          refine ret_L (q L h1 h2) ((eb.trans e5).trans e6) ?_
          rw [← h3]
          have ee : (List.range ns.length).map (fun k => V.int ((ns.getD k 0).fmod (ns.length : Int))) = ns.map (fun x => V.int (x.fmod (ns.length : Int))) := by
            refine List.ext_getElem? fun i => ?_
            rw [List.getElem?_map, List.getElem?_map]
            by_cases hi : i < ns.length
            · rw [List.getElem?_range hi, List.getElem?_eq_getElem hi]
              show some (V.int ((ns.getD i 0).fmod _)) = some (V.int (ns[i].fmod _))
              rw [List.getD_eq_getElem?_getD, List.getElem?_eq_getElem hi]
              rfl
            · rw [List.getElem?_eq_none (by rw [List.length_range]; omega), List.getElem?_eq_none (by omega)]
              rfl
          rw [ee]
          refine el_mapI (fun x => V.int (x.fmod (ns.length : Int))) (ev_var rfl) (ex_l ((eb.trans e5).trans e6) hS) (by omega) fun x H7 e7 hx => ?_
          have : ns.length ≠ 0 := fun e => by
            rw [List.length_eq_zero_iff.mp e] at hx
            cases hx
          exact ev_op (ev_var rfl) (ev_var rfl) (rv_I (show (ns.length : Int) ≠ 0 by omega))
abbrev s_law_after : Stmt := topS 24
abbrev N_law_after : List Str := ["_law_leading_here", "_law_place", "_law_steps", "_law_seen", "_law_at", "_law_more"]
theorem sc_law_after : FnScope N_law_after ["_law_leading_here", "_law_place", "_law_steps"] (defScope s_law_after) := ⟨rfl, rfl, rfl, by decide +kernel, rfl, by decide +kernel, by decide +kernel⟩
def spLAfter : Sp := fun vs H Q _ => ∃ (a : Addr) (L : List Nat) (p n : Nat), vs = [.ref a, .int (p : Int), .int (n : Int)] ∧ IsLd H a L ∧ p < L.length ∧ RetV (.int (it L n p : Int)) H Q
theorem sv_lafter {H : Hp} {a : Addr} {L : List Nat} {p n : Nat} (h : IsLd H a L) (hp : p < L.length) : SpV spLAfter [.ref a, .int (p : Int), .int (n : Int)] H (.int (it L n p : Int)) := fun _ e _ q _ => ⟨a, L, p, n, rfl, h.ex e, hp, q⟩
theorem ok_law_after {f : Addr} {fd : FuncData} (F : Fun K "_law_after" "_law_after" s_law_after f fd) (B : Bl mg) : FnOk P w K mg base CX0 1 f fd ["_law_leading_here", "_law_place", "_law_steps"] spLAfter := by
  refine F.ok sc_law_after (fun vs H Q E h => ?_) (fun cdv A outer s H vs Q E hr h => ?_)
  · obtain ⟨a, L, p, n, rfl, _⟩ := h
    rfl
  · obtain ⟨a, L, p, n, rfl, hL, hp, q⟩ := h
    have hu := hu_of hr
    refine ⟨_, (pss_cons (ps_set (i := 3) sc_law_after.nd rfl (Or.inl rfl) pe_dnewK)
    (pss_cons (ps_set (i := 4) sc_law_after.nd rfl (Or.inl rfl) pe_int)
    (pss_cons (ps_while PassesOwn.never (PW.pt (pw_and (pt_cmpR op_lt (pv 4) (pv 2) (nomark _)) (pw_and1 (pt_cmp (pc_dnotin hu (pv 1) (pv 3))))))
    (pss_cons (ps_dput hu (pv 3) (pv 1) (pv 4) rfl)
    (pss_cons (ps_set (i := 1) sc_law_after.nd rfl (Or.inl rfl) (pe_ix (ix_listK (K := K) rfl) (pv 0) (pv 1) (fun _ _ => rfl)))
    (pss_one (ps_set (i := 4) sc_law_after.nd rfl (Or.inl rfl) (pe_op op_add (pv 4) pe_int))))))
    (pss_cons (ps_if (pt_cmpR op_eq (pv 4) (pv 2) (nomark _))
    (pss_one (ps_ret (pv 1)))
    pss_nil)
    (pss_cons (ps_for PassesOwn.never rfl (pi_range1 (by rfl) B.range_ (pa_cons (pe_op op_modN (pe_op op_sub (pv 2) (pv 4)) (pe_op op_sub (pv 4) (pe_dget hu (pv 3) (pv 1) (fun _ _ => rfl)))) pa_nil)) (pg_name (i := 5) sc_law_after.nd rfl (Or.inl rfl))
    (pss_one (ps_set (i := 1) sc_law_after.nd rfl (Or.inl rfl) (pe_ix (ix_listK (K := K) rfl) (pv 0) (pv 1) (fun _ _ => rfl)))))
    (pss_one (ps_ret (pv 1)))))))), ?_⟩
    have h64 := hL.2.2
    refine q_dnew fun d H1 nd e1 hd => ?_
    refine q_asg ev_c fun H2 e2 => ?_
    refine q_while (fun m σ' H' => ∃ (k : Nat) (M : Int → Option V) (y : Option V), m = L.length - k ∧ σ' = [some (.ref a), some (.int (it L k p : Int)), some (.int (n : Int)), some (.ref d), some (.int (k : Int)), y] ∧ k ≤ n ∧ (∀ i j, i < j → j < k → it L i p ≠ it L j p) ∧ Ex H H' ∧ DM H' d k M ∧
        (∀ i, i < k → M (it L i p : Int) = some (.int (i : Int))) ∧ (∀ z, (M z).isSome = true → ∃ i, i < k ∧ z = (it L i p : Int))) (L.length - 0)
      ⟨0, _, none, rfl, rfl, Nat.zero_le n, fun i j _ h => absurd h (Nat.not_lt_zero j), e1.trans e2, hd.ex e2, fun i h => absurd h (Nat.not_lt_zero i), fun z h => by cases h⟩ fun m σ' H' hw => ?_
    obtain ⟨k, M, y, rfl, rfl, hk, hinj, eH, hD, hM1, hM2⟩ := hw
    have hpk : it L k p < L.length := it_lt hL.2.1 k hp
    refine ⟨_, et_and (et_test (ev_op (ev_var rfl) (ev_var rfl) rv_I0)) (fun _ => et_B (ev_dnotin (ev_var rfl) (ev_var rfl) hD)), fun hb H3 e3 => ?_, fun hb H3 e3 => ?_⟩
    · rw [Bool.and_eq_true, decide_eq_true_eq] at hb
      obtain ⟨hb1, hb2⟩ := hb
      have hnew : ∀ i, i < k → it L i p ≠ it L k p := fun i hi e => by
        have h1 := hM1 i hi
        rw [e] at h1
        rw [h1] at hb2
        cases hb2
      have hinj2 : ∀ i j, i < j → j < k + 1 → it L i p ≠ it L j p := fun i j hij hj => by
        by_cases e : j = k
        · subst e
          exact hnew i hij
        · exact hinj i j hij (by omega)
      have hkn : k + 1 ≤ L.length := by
        have h1 := nodup_len (nodup_of_inj hinj2) (n := L.length) fun x hx => by
          obtain ⟨i, _, rfl⟩ := List.mem_map.mp hx
          exact it_lt hL.2.1 i hp
        rw [List.length_map, List.length_range] at h1
        exact h1
      refine ⟨_, fun σ2 H2 h => h, ?_⟩
      refine q_dput (ev_var rfl) (ev_var rfl) (ev_var rfl) (hD.ex e3) (by omega) fun H4 e4 o hD4 => ?_
      have eH4 : Ex H (upd H4 d o) := Ex.mut ((eH.trans e3).trans e4) nd
      refine q_asg (ev_op (ev_var rfl) (ev_var rfl) (rv_ixN (hL.ex eH4).sq hpk)) fun H5 e5 => ?_
      refine s_asg (ev_op (ev_var rfl) ev_c (rv_dec (vadd k 1))) fun H6 e6 => ?_
      refine ⟨_, ?_, k + 1, _, y, rfl, by rw [it_succ]; rfl, by omega, hinj2, (eH4.trans e5).trans e6, (hD4.ex e5).ex e6, fun i hi => ?_, fun z hz => ?_⟩
      · omega
      · by_cases e : i = k
        · subst e
          rw [if_pos rfl]
        · rw [if_neg fun q => hnew i (by omega) (by omega)]
          exact hM1 i (by omega)
      · by_cases e : z = (it L k p : Int)
        · exact ⟨k, by omega, e⟩
        · rw [if_neg e] at hz
          obtain ⟨i, h1, h2⟩ := hM2 z hz
          exact ⟨i, by omega, h2⟩
    · refine q_when (et_test (ev_op (ev_var rfl) (ev_var rfl) (rv_eqB rfl))) (fun he H4 e4 => ?_) (fun he H4 e4 => ?_)
      · have hkn : k = n := by
          have := of_decide_eq_true he
          omega
        subst hkn
        exact ret_V q ((eH.trans e3).trans e4) (ev_var rfl)
      · have hkn : k < n := by
          have := of_decide_eq_false he
          omega
        have hs : (M (it L k p : Int)).isSome = true := by
          rw [decide_eq_true (by omega), Bool.true_and] at hb
          cases h : (M (it L k p : Int)).isSome with
          | true => rfl
          | false =>
            rw [h] at hb
            cases hb
        obtain ⟨i, hik, hi⟩ := hM2 _ hs
        have hi' : it L k p = it L i p := by omega
        have eH4 := (eH.trans e3).trans e4
        have hD4 := (hD.ex e3).ex e4
        have hm : M (it L k p : Int) = some (.int (i : Int)) := by
          rw [hi]
          exact hM1 i hik
        have hsub : V.int ((n : Int) - (k : Int)) = V.int ((n - k : Nat) : Int) := by
          congr 1
          omega
        have hsub2 : V.int ((k : Int) - (i : Int)) = V.int ((k - i : Nat) : Int) := by
          congr 1
          omega
        have hlt : (n - k) % (k - i) < L.length := by
          have h1 := Nat.mod_lt (n - k) (show k - i > 0 by omega)
          have h2 := nodup_len (nodup_of_inj hinj) (n := L.length) fun x hx => by
            obtain ⟨i, _, rfl⟩ := List.mem_map.mp hx
            exact it_lt hL.2.1 i hp
          rw [List.length_map, List.length_range] at h2
          omega
        refine q_forR1 (n := (((n - k) % (k - i) : Nat) : Int)) (ea1 (ev_op (ev_op (ev_var rfl) (ev_var rfl) (rv_dec hsub)) (ev_op (ev_var rfl) (ev_dget (ev_var rfl) (ev_var rfl) hD4 hm) (rv_dec hsub2)) (rv_IW (by omega) (vmod (n - k) (k - i))))) (by omega)
          (fun j σ' H' => ∃ (y : Option V), σ' = [some (.ref a), some (.int (it L (k + j) p : Int)), some (.int (n : Int)), some (.ref d), some (.int (k : Int)), y] ∧ Ex H H') (fun H5 e5 => ⟨_, rfl, eH4.trans e5⟩) (fun j σ' H' hj hP => ?_) (fun σ' H' hP => ?_)
        · obtain ⟨y, rfl, e5⟩ := hP
          refine s_asg (ev_op (ev_var rfl) (ev_var rfl) (rv_ixN (hL.ex e5).sq (it_lt hL.2.1 _ hp))) fun H6 e6 => ?_
          exact ⟨_, by rw [← it_succ]; rfl, e5.trans e6⟩
        · obtain ⟨y, rfl, e5⟩ := hP
          have h1 := it_round (L := L) (p := p) (a := i) (d := k - i) (by rw [show i + (k - i) = k by omega]; exact hi') (n - k)
          rw [show i + (k - i) + (n - k) = n by omega, show i + (k - i) = k by omega] at h1
          rw [Int.toNat_natCast, h1]
          exact ret_V q e5 (ev_var rfl)
abbrev s_law_numbers : Stmt := topS 25
abbrev N_law_numbers : List Str := ["_law_found", "_law_one"]
theorem sc_law_numbers : FnScope N_law_numbers ["_law_found"] (defScope s_law_numbers) := ⟨rfl, rfl, rfl, by decide +kernel, rfl, by decide +kernel, by decide +kernel⟩
def spNums : Sp := fun vs H Q _ => ∃ (a : Addr) (ns : List Int), vs = [.ref a] ∧ Rd H a (.lst (il ns)) ∧ ns.length ≤ 40000 ∧ RetV (.bl true) H Q
theorem sv_nums {H : Hp} {a : Addr} {ns : List Int} (h : Rd H a (.lst (il ns))) (hz : ns.length ≤ 40000) : SpV spNums [.ref a] H (.bl true) := fun _ e _ q _ => ⟨a, ns, rfl, ex_rd e h, hz, q⟩
theorem sv_numsN {H : Hp} {a : Addr} {L : List Nat} (h : Rd H a (.lst (nl L))) (hz : L.length ≤ 40000) : SpV spNums [.ref a] H (.bl true) := by
  rw [nl_il] at h
  exact sv_nums h (by rw [List.length_map]; exact hz)
theorem ok_law_numbers {f : Addr} {fd : FuncData} (F : Fun K "_law_numbers" "_law_numbers" s_law_numbers f fd) (B : Bl mg) : FnOk P w K mg base CX0 1 f fd ["_law_found"] spNums := by
  refine F.ok sc_law_numbers (fun vs H Q E h => ?_) (fun cdv A outer s H vs Q E hr h => ?_)
  · obtain ⟨a, ns, rfl, _⟩ := h
    rfl
  · obtain ⟨a, ns, rfl, hL, hz, q⟩ := h
    refine ⟨_, (pss_cons (ps_if (pt_not (pt_val (pe_callB (call_isiK' (K := K) rfl) (by rfl) B.isinstance_ bo_isinstance (pa_cons (pv 0) (pa_cons (pe_bltn (v := .ty "list") (by rfl) B.list_ bo_list rfl) pa_nil)))))
    (pss_one (ps_ret pe_bl))
    pss_nil)
    (pss_one (ps_ret (pe_callB (cr_allK (K := K) rfl rfl) (by rfl) B.all_ bo_all (pa_cons (pe_lc (own := [("_law_one", 1)]) (g := gName 1) (tt := tYes) rfl sc_law_numbers.nd (pi_list (pv 0)) (blkOk_by (N := N_law_numbers) (sc := defScope s_law_numbers) (by decide +kernel)) (fun _ _ _ _ _ => (pg_name (i := 1) sc_law_numbers.nd rfl (Or.inl rfl))) (fun _ _ _ _ _ => pts_nil) (fun _ _ _ _ _ => (pe_and (pe_callB (call_isiK' (K := K) rfl) (by rfl) B.isinstance_ bo_isinstance (pa_cons (pv 1) (pa_cons (pe_bltn (v := .ty "int") (by rfl) B.int_ bo_int rfl) pa_nil))) (pe_one (pe_not (pe_callB (call_isiK' (K := K) rfl) (by rfl) B.isinstance_ bo_isinstance (pa_cons (pv 1) (pa_cons (pe_bltn (v := .ty "bool") (by rfl) B.bool_ bo_bool rfl) pa_nil)))))))) pa_nil))))), ?_⟩
    refine q_skip (et_notT (et_B (ev_isiList (ev_var rfl) hL))) fun H1 e1 => ?_
    exact ret_V q e1 (ev_allT (el_mapIc (ev_var rfl) (.inl (ex_rd e1 hL)) hz fun x H2 e2 _ => ev_andT (ev_isiInt (ev_var rfl)) (ev_notF (ev_isiBool (ev_var rfl)))))
end
end Ld

namespace Ld
open PySem L2 Evl
section
variable {P : Program} {w : World} {K : PySem.W.Frag} {mg : Str → Option Value} {base : Heap} {c : Cs}
/-! ### the law -/
abbrev s_law_right : Stmt := topS 26
abbrev N_law_right : List Str := ["_law_leading_here", "_law_one", "_law_other", "_law_found", "_law_others", "_law_inside", "_law_place"]
theorem sc_law_right : FnScope N_law_right ["_law_leading_here", "_law_one", "_law_other", "_law_found"] (defScope s_law_right) := ⟨rfl, rfl, rfl, by decide +kernel, rfl, by decide +kernel, by decide +kernel⟩
abbrev s_law : Stmt := topS 27
abbrev N_law : List Str := ["_law_script", "_law_leading_here", "_law_handed", "_law_cell", "_law_one", "_law_other", "_law_first", "_law_second", "_law_found"]
theorem sc_law : FnScope N_law ["_law_script"] (defScope s_law) := ⟨rfl, rfl, rfl, by decide +kernel, rfl, by decide +kernel, by decide +kernel⟩
def RightM (c : Cs) (H : Hp) (x : Addr) (L : List Nat) (p q : Nat) : Prop := (∃ dx, ∃ i j : Nat, H x = some (.ins c.Met dx [("mine", .int (i : Int)), ("theirs", .int (j : Int))]) ∧ it L i p = it L j q) ∨
  ∃ dx l, ∃ ps : List Nat, H x = some (.ins c.Apart dx [("places", .ref l)]) ∧ H l = some (.lst (nl ps)) ∧ ps.length ≤ 63 ∧ p ∈ ps ∧ q ∉ ps ∧ (∀ y ∈ ps, y < L.length) ∧ ∀ y, y < L.length → (y ∈ ps ↔ st L y ∈ ps)
theorem RightM.ex {c : Cs} {H H' : Hp} {x : Addr} {L : List Nat} {p q : Nat} (h : RightM c H x L p q) (e : Ex H H') : RightM c H' x L p q := by
  rcases h with ⟨dx, i, j, h1, h2⟩ | ⟨dx, l, ps, h1, h2, h3⟩
  · exact .inl ⟨dx, i, j, e _ _ h1, h2⟩
  · exact .inr ⟨dx, l, ps, e _ _ h1, e _ _ h2, h3⟩
def spLRight (c : Cs) : Sp := fun vs H Q _ => ∃ (a x : Addr) (L : List Nat) (p q : Nat), vs = [.ref a, .int (p : Int), .int (q : Int), .ref x] ∧ IsLd H a L ∧ p < L.length ∧ q < L.length ∧ RightM c H x L p q ∧ RetV (.bl true) H Q
theorem sv_lright {c : Cs} {H : Hp} {a x : Addr} {L : List Nat} {p q : Nat} (hL : IsLd H a L) (hp : p < L.length) (hq : q < L.length) (h : RightM c H x L p q) : SpV (spLRight c) [.ref a, .int (p : Int), .int (q : Int), .ref x] H (.bl true) := fun _ e _ k _ => ⟨a, x, L, p, q, rfl, hL.ex e, hp, hq, h.ex e, k⟩
theorem at_map {n k : Nat} {g : Nat → V} (h : k < n) : atI ((List.range n).map g) (k : Int) = some (g k) := atI_nat (by rw [List.getElem?_map, List.getElem?_range h]; rfl)
def spLaw (K : PySem.W.Frag) : Sp := fun vs H Q _ => ∃ (a : Addr) (ns : List Int), vs = [.ref a] ∧ SqL K H a (ns.map V.int) ∧ ns.length ≤ 63 ∧ ∀ H', Q (.bl true) H'
theorem ok_law_right {f : Addr} {fd : FuncData} (F : Fun K "_law_right" "_law_right" s_law_right f fd) (B : Bl mg) (C : Cl K mg c) (D_law_numbers : Dk P w K mg base CX0 1 "_law_numbers" ["_law_found"] spNums) (D_law_after : Dk P w K mg base CX0 1 "_law_after" ["_law_leading_here", "_law_place", "_law_steps"] spLAfter)
    (M_Met_shows : Mt P w K mg base CX0 2 c.Met "shows" ["self", "leading", "one", "other"] (spMetShows c.Met)) (M_Apart_shows : Mt P w K mg base CX0 2 c.Apart "shows" ["self", "leading", "one", "other"] (spApartShows K c.Apart)) : FnOk P w K mg base CX0 3 f fd ["_law_leading_here", "_law_one", "_law_other", "_law_found"] (spLRight c) := by
  refine F.ok sc_law_right (fun vs H Q E h => ?_) (fun cdv A outer s H vs Q E hr h => ?_)
  · obtain ⟨a, x, L, p, q, rfl, _⟩ := h
    rfl
  · obtain ⟨a, x, L, p, q, rfl, hL, hp, hq, hR, k⟩ := h
    refine ⟨_, (pss_cons (ps_if (PW.pt (pw_or (pt_not (pt_val (pe_callB (call_isiK' (K := K) rfl) (by rfl) B.isinstance_ bo_isinstance (pa_cons (pv 3) (pa_cons (pe_glob (v := .ref c.Answer) (by rfl) C.Answer.g rfl) pa_nil))))) (pw_or1 (pt_cmpR op_eq (pe_callB (call_isiK' (K := K) rfl) (by rfl) B.isinstance_ bo_isinstance (pa_cons (pv 3) (pa_cons (pe_glob (v := .ref c.Met) (by rfl) C.Met.g rfl) pa_nil))) (pe_callB (call_isiK' (K := K) rfl) (by rfl) B.isinstance_ bo_isinstance (pa_cons (pv 3) (pa_cons (pe_glob (v := .ref c.Apart) (by rfl) C.Apart.g rfl) pa_nil))) (nomark _)))))
    (pss_one (ps_ret pe_bl))
    pss_nil)
    (pss_cons (ps_set (i := 4) sc_law_right.nd rfl (Or.inl rfl) (pe_lst (pa_cons (pe_callB (call_isiK' (K := K) rfl) (by rfl) B.isinstance_ bo_isinstance (pa_cons (pv 3) (pa_cons (pe_glob (v := .ref c.Steps) (by rfl) C.Steps.g rfl) pa_nil))) (pa_cons (pe_callB (call_isiK' (K := K) rfl) (by rfl) B.isinstance_ bo_isinstance (pa_cons (pv 3) (pa_cons (pe_glob (v := .ref c.Shut) (by rfl) C.Shut.g rfl) pa_nil))) (pa_cons (pe_callB (call_isiK' (K := K) rfl) (by rfl) B.isinstance_ bo_isinstance (pa_cons (pv 3) (pa_cons (pe_glob (v := .ref c.Odd) (by rfl) C.Odd.g rfl) pa_nil))) (pa_cons (pe_callB (call_isiK' (K := K) rfl) (by rfl) B.isinstance_ bo_isinstance (pa_cons (pv 3) (pa_cons (pe_glob (v := .ref c.Root) (by rfl) C.Root.g rfl) pa_nil))) pa_nil))))))
    (pss_cons (ps_if (PW.pt (pw_or (pt_val (pe_callB (cr_anyK (K := K) rfl rfl) (by rfl) B.any_ bo_any (pa_cons (pv 4) pa_nil))) (pw_or1 (pt_cmpR op_notBl (pe_or2 (pe_methD C.Met.cl M_Met_shows (hr.mono (by decide)) pass0 (pv 3) (pa_cons (pv 0) (pa_cons (pv 1) (pa_cons (pv 2) pa_nil)))) (pe_methD C.Apart.cl M_Apart_shows (hr.mono (by decide)) pass0 (pv 3) (pa_cons (pv 0) (pa_cons (pv 1) (pa_cons (pv 2) pa_nil))))) pe_bl (nomark _)))))
    (pss_one (ps_ret pe_bl))
    pss_nil)
    (pss_cons (ps_if (pt_val (pe_callB (call_isiK' (K := K) rfl) (by rfl) B.isinstance_ bo_isinstance (pa_cons (pv 3) (pa_cons (pe_glob (v := .ref c.Met) (by rfl) C.Met.g rfl) pa_nil))))
    (pss_cons (ps_if (PW.pt (pw_or (pt_not (pt_val (pe_callD D_law_numbers (hr.mono (by decide)) (by rfl) pass0 (pa_cons (pe_lst (pa_cons (pe_fldK (K := K) rfl (pv 3) rfl) (pa_cons (pe_fldK (K := K) rfl (pv 3) rfl) pa_nil))) pa_nil)))) (pw_or1 (pt_cmpR op_lt (pe_callB (call_min2 rfl) (by rfl) B.min_ bo_min (pa_cons (pe_fldK (K := K) rfl (pv 3) rfl) (pa_cons (pe_fldK (K := K) rfl (pv 3) rfl) pa_nil))) pe_int (nomark _)))))
    (pss_one (ps_ret pe_bl))
    pss_nil)
    (pss_one (ps_ret (pe_cmpR op_eq (pe_callD D_law_after (hr.mono (by decide)) (by rfl) pass0 (pa_cons (pv 0) (pa_cons (pv 1) (pa_cons (pe_fldK (K := K) rfl (pv 3) rfl) pa_nil)))) (pe_callD D_law_after (hr.mono (by decide)) (by rfl) pass0 (pa_cons (pv 0) (pa_cons (pv 2) (pa_cons (pe_fldK (K := K) rfl (pv 3) rfl) pa_nil)))) (nomark _)))))
    pss_nil)
    (pss_cons (ps_if (PW.pt (pw_or (pt_not (pt_val (pe_callD D_law_numbers (hr.mono (by decide)) (by rfl) pass0 (pa_cons (pe_fldK (K := K) rfl (pv 3) rfl) pa_nil)))) (pw_or (pt_cmpR (op_notInK (K := K) rfl) (pv 1) (pe_fldK (K := K) rfl (pv 3) rfl) (by rfl)) (pw_or1 (pt_cmpR (op_inK (K := K) rfl) (pv 2) (pe_fldK (K := K) rfl (pv 3) rfl) (by rfl))))))
    (pss_one (ps_ret pe_bl))
    pss_nil)
    (pss_cons (ps_if (pt_not (pt_val (pe_callB (cr_allK (K := K) rfl rfl) (by rfl) B.all_ bo_all (pa_cons (pe_lc (own := [("_law_place", 6)]) (g := gName 6) (tt := tYes) rfl sc_law_right.nd (pi_list (pe_fldK (K := K) rfl (pv 3) rfl)) (blkOk_by (N := N_law_right) (sc := defScope s_law_right) (by decide +kernel)) (fun _ _ _ _ _ => (pg_name (i := 6) sc_law_right.nd rfl (Or.inl rfl))) (fun _ _ _ _ _ => pts_nil) (fun _ _ _ _ _ => (pe_chain op_le op_lt pe_int (pv 6) (pe_callB (call_lenK (K := K) rfl) (by rfl) B.len_ bo_len (pa_cons (pv 0) pa_nil))))) pa_nil))))
    (pss_one (ps_ret pe_bl))
    pss_nil)
    (pss_cons (ps_set (i := 5) sc_law_right.nd rfl (Or.inr rfl) (pe_lc (own := [("_law_place", 6)]) (g := gName 6) (tt := tYes) rfl sc_law_right.nd (pi_range1 (by rfl) B.range_ (pa_cons (pe_callB (call_lenK (K := K) rfl) (by rfl) B.len_ bo_len (pa_cons (pv 0) pa_nil)) pa_nil)) (blkOk_by (N := N_law_right) (sc := defScope s_law_right) (by decide +kernel)) (fun _ _ _ _ _ => (pg_name (i := 6) sc_law_right.nd rfl (Or.inl rfl))) (fun _ _ _ _ _ => pts_nil) (fun _ _ _ _ _ => (pe_cmpR (op_inK (K := K) rfl) (pv 6) (pe_fldK (K := K) rfl (pv 3) rfl) (by rfl)))))
    (pss_one (ps_ret (pe_callB (cr_allK (K := K) rfl rfl) (by rfl) B.all_ bo_all (pa_cons (pe_lc (own := [("_law_place", 6)]) (g := gName 6) (tt := tYes) rfl sc_law_right.nd (pi_range1 (by rfl) B.range_ (pa_cons (pe_callB (call_lenK (K := K) rfl) (by rfl) B.len_ bo_len (pa_cons (pv 0) pa_nil)) pa_nil)) (blkOk_by (N := N_law_right) (sc := defScope s_law_right) (by decide +kernel)) (fun _ _ _ _ _ => (pg_name (i := 6) sc_law_right.nd rfl (Or.inl rfl))) (fun _ _ _ _ _ => pts_nil) (fun _ _ _ _ _ => (pe_cmpR op_eq (pe_ix (ix_listK (K := K) rfl) (pv 5) (pv 6) (fun _ _ => rfl)) (pe_ix (ix_listK (K := K) rfl) (pv 5) (pe_ix (ix_listK (K := K) rfl) (pv 0) (pv 6) (fun _ _ => rfl)) (fun _ _ => rfl)) (nomark _)))) pa_nil))))))))))), ?_⟩
    have h63 := hL.2.2
    rcases hR with ⟨dx, i, j, hx, hij⟩ | ⟨dx, l, ps, hx, hl, hz, h1, h2, h3, h4⟩
    · refine q_skip (et_orF (et_notT (et_B (ev_isiC C.Met (ev_var rfl) hx C.k_Met_Answer))) (et_test (ev_op (ev_isiC C.Met (ev_var rfl) hx C.k_Met_Met) (ev_isiC C.Met (ev_var rfl) hx C.k_Met_Apart) (rv_eqBl rfl)))) fun H1 e1 => ?_
      have hx1 := e1 _ _ hx
      refine q_asgL (el_lst (ea_cons (ev_isiC C.Met (ev_var rfl) hx1 C.k_Met_Steps) (ea_cons (ev_isiC C.Met (ev_var rfl) hx1 C.k_Met_Shut) (ea2 (ev_isiC C.Met (ev_var rfl) hx1 C.k_Met_Odd) (ev_isiC C.Met (ev_var rfl) hx1 C.k_Met_Root)))) (by decide)) fun r H2 nr e2 hr2 => ?_
      have hx2 := e2 _ _ hx1
      have e := e1.trans e2
      refine q_skip (et_orF (et_B (ev_any (bs := [false, false, false, false]) (ev_var rfl) (sq_of hr2))) (et_test (ev_op (ev_or2l (ev_meth (ev_var rfl) hx2 rfl (ea3 (ev_var rfl) (ev_var rfl) (ev_var rfl)) (sv_Met_shows hx2 (hL.ex e) hp hq (by
        rw [Int.toNat_natCast, Int.toNat_natCast, decide_eq_true (show (0 : Int) ≤ i by omega), decide_eq_true (show (0 : Int) ≤ j by omega), decide_eq_true hij, Bool.and_true, Bool.and_true])))) ev_c (rv_isnB rfl)))) fun H3 e3 => ?_
      have hx3 := e3 _ _ hx2
      have e' := e.trans e3
      refine q_when (et_B (ev_isiC C.Met (ev_var rfl) hx3 C.k_Met_Met)) (fun _ H4 e4 => ?_) (fun hb => nomatch hb)
      have hx4 := e4 _ _ hx3
      have hm : ∀ {σ : L2.St} {H' : Hp}, Ex H4 H' → σ[3]? = some (some (.ref x)) → Ev (tFld K (tVar 3) "mine") σ H' (.int (i : Int)) := fun e h0 => ev_fld C.Met.cl C.na_Met_mine (ev_var h0) (e _ _ hx4) lookA
      have ht : ∀ {σ : L2.St} {H' : Hp}, Ex H4 H' → σ[3]? = some (some (.ref x)) → Ev (tFld K (tVar 3) "theirs") σ H' (.int (j : Int)) := fun e h0 => ev_fld C.Met.cl C.na_Met_theirs (ev_var h0) (e _ _ hx4) (met_look _ _)
      refine q_skip (et_orF (et_notT (et_B (ev_callN1 (el_lst (ea2 (hm (Ex.refl H4) rfl) (ht (Ex.refl H4) rfl)) (by show 2 ≤ 100000; decide)) fun p H1 e h => sv_nums (ns := [(i : Int), (j : Int)]) (.inl h) (by show 2 ≤ 40000; decide)))) (et_test (ev_op (ev_min2 (hm (Ex.refl H4) rfl) (ht (Ex.refl H4) rfl)) ev_c (rv_dec (by
        rw [decide_eq_false]
        split <;> omega))))) fun H5 e5 => ?_
      exact ret_V k ((e'.trans e4).trans e5) (ev_op (ev_callV (ea3 (ev_var rfl) (ev_var rfl) (hm e5 rfl)) (sv_lafter (hL.ex ((e'.trans e4).trans e5)) hp)) (ev_callV (ea3 (ev_var rfl) (ev_var rfl) (ht e5 rfl)) (sv_lafter (hL.ex ((e'.trans e4).trans e5)) hq)) (rv_eqB (by rw [hij, decide_eq_true rfl])))
    · refine q_skip (et_orF (et_notT (et_B (ev_isiC C.Apart (ev_var rfl) hx C.k_Apart_Answer))) (et_test (ev_op (ev_isiC C.Apart (ev_var rfl) hx C.k_Apart_Met) (ev_isiC C.Apart (ev_var rfl) hx C.k_Apart_Apart) (rv_eqBl rfl)))) fun H1 e1 => ?_
      have hx1 := e1 _ _ hx
      refine q_asgL (el_lst (ea_cons (ev_isiC C.Apart (ev_var rfl) hx1 C.k_Apart_Steps) (ea_cons (ev_isiC C.Apart (ev_var rfl) hx1 C.k_Apart_Shut) (ea2 (ev_isiC C.Apart (ev_var rfl) hx1 C.k_Apart_Odd) (ev_isiC C.Apart (ev_var rfl) hx1 C.k_Apart_Root)))) (by decide)) fun r H2 nr e2 hr2 => ?_
      have hx2 := e2 _ _ hx1
      have e := e1.trans e2
      have hl2 := e _ _ hl
      have hs2 : SqL K H2 l (il (ps.map fun (x : Nat) => (x : Int))) := by
        rw [← nl_il]
        exact sq_of hl2
      refine q_skip (et_orF (et_B (ev_any (bs := [false, false, false, false]) (ev_var rfl) (sq_of hr2))) (et_test (ev_op (ev_or2r (ev_meth (ev_var rfl) hx2 rfl (ea3 (ev_var rfl) (ev_var rfl) (ev_var rfl)) (sv_Apart_shows hx2 hs2 (by rw [List.length_map]; omega) (hL.ex e) (apartB_nat h1 h2 h3 h4)))) ev_c (rv_isnB rfl)))) fun H3 e3 => ?_
      have hx3 := e3 _ _ hx2
      have e' := e.trans e3
      refine q_when (et_B (ev_isiC C.Apart (ev_var rfl) hx3 C.k_Apart_Met)) (fun hb => nomatch hb) (fun _ H4 e4 => ?_)
      have hx4 := e4 _ _ hx3
      have e4' := e'.trans e4
      have hl4 := e4' _ _ hl
      have hm : ∀ {σ : L2.St} {H' : Hp}, Ex H4 H' → σ[3]? = some (some (.ref x)) → Ev (tFld K (tVar 3) "places") σ H' (.ref l) := fun e h0 => ev_fld C.Apart.cl C.na_Apart_places (ev_var h0) (e _ _ hx4) look1
      refine q_skip (et_orF (et_notT (et_B (ev_callV (ea1 (hm (Ex.refl H4) rfl)) (sv_numsN (.inl hl4) (by omega))))) (et_orF (et_test (ev_op (ev_var rfl) (hm (Ex.refl H4) rfl) (rv_ninN (sq_of hl4) (by rw [decide_eq_true h1]; rfl)))) (et_test (ev_op (ev_var rfl) (hm (Ex.refl H4) rfl) (rv_inN (sq_of hl4) (decide_eq_false h2)))))) fun H5 e5 => ?_
      have hl5 := e5 _ _ hl4
      have eL5 := hL.ex (e4'.trans e5)
      refine q_skip (et_notT (et_B (ev_allT (el_mapNc (hm e5 rfl) (sq_of hl5) (by omega) fun y H6 e6 hy => ev_is (ev_chain ev_c (ev_var rfl) (ev_lenNl (ev_var rfl) (eL5.ex e6).sq) rv_I0 rv_I0) (by
        have := h3 y hy
        rw [decide_eq_true (by omega), decide_eq_true (by omega)]
        rfl))))) fun H6 e6 => ?_
      have hl6 := e6 _ _ hl5
      have e56 := e5.trans e6
      have eL6 := eL5.ex e6
      refine q_asgL (el_mapR (fun y => V.bl (decide (y ∈ ps))) (ea1 (ev_lenNl (ev_var rfl) eL6.sq)) (by omega) fun y H7 e7 hy => ev_op (ev_var rfl) (hm (e56.trans e7) rfl) (rv_inN (sq_of (e7 _ _ hl6)) rfl)) fun g H7 ng e7 hg => ?_
      have eL7 := eL6.ex e7
      have hal := ev_allT (K := K) (σ := [some (.ref a), some (.int (p : Int)), some (.int (q : Int)), some (.ref x), some (.ref r), some (.ref g), none]) (H := H7) (n := (List.range L.length).length) (ta := tLc (iRng1 (tCons (tCB (rLen1 K) (tCons (tVar 0) tNil)) tNil)) (gName 6) tYes (tOp rEq (tOp (rIxL K) (tVar 5) (tVar 6)) (tOp (rIxL K) (tVar 5) (tOp (rIxL K) (tVar 0) (tVar 6)))) [6]) (by
        rw [← List.map_const']
        refine el_mapR (fun _ => V.bl true) (ea1 (ev_lenNl (ev_var rfl) eL7.sq)) (by omega) fun y H8 e8 hy => ?_
        have hgS : SqL K H8 g _ := sq_of (e8 _ _ hg)
        have hLd := hL.2.1
        exact ev_op (ev_op (ev_var rfl) (ev_var rfl) (rv_ixL hgS (at_map hy))) (ev_op (ev_var rfl) (ev_op (ev_var rfl) (ev_var rfl) (rv_ixN (eL7.ex e8).sq hy)) (rv_ixL hgS (at_map (st_lt hLd hy)))) (rv_eqBl (decide_eq_true (decide_eq_decide.mpr (h4 y hy)))))
      exact ret_V k ((e4'.trans e56).trans e7) hal
theorem ok_law {f : Addr} {fd : FuncData} (F : Fun K "law" "law" s_law f fd) (B : Bl mg) (C : Cl K mg c) (D_law_leading : Dk P w K mg base CX0 1 "_law_leading" ["_law_script"] (spLLead K)) (D_law_after : Dk P w K mg base CX0 1 "_law_after" ["_law_leading_here", "_law_place", "_law_steps"] spLAfter)
    (D_comes : Dk P w K mg base CX0 3 "comes" ["leading", "one", "other"] (spComes c)) (D_law_right : Dk P w K mg base CX0 3 "_law_right" ["_law_leading_here", "_law_one", "_law_other", "_law_found"] (spLRight c))
    (M_Met_shows : Mt P w K mg base CX0 2 c.Met "shows" ["self", "leading", "one", "other"] (spMetShows c.Met)) (M_Apart_shows : Mt P w K mg base CX0 2 c.Apart "shows" ["self", "leading", "one", "other"] (spApartShows K c.Apart)) : FnOk P w K mg base CX0 4 f fd ["_law_script"] (spLaw K) := by
  refine F.ok sc_law (fun vs H Q E h => ?_) (fun cdv A outer s H vs Q E hr h => ?_)
  · obtain ⟨a, ns, rfl, _⟩ := h
    rfl
  · obtain ⟨a, ns, rfl, hS, h63, q⟩ := h
    have hS : SqL K H a (il ns) := hS
    refine ⟨_, (pss_cons (ps_set (i := 1) sc_law.nd rfl (Or.inl rfl) (pe_callD D_law_leading (hr.mono (by decide)) (by rfl) pass0 (pa_cons (pv 0) pa_nil)))
    (pss_cons (ps_set (i := 2) sc_law.nd rfl (Or.inl rfl) (pe_callTy (call_listK (K := K) rfl) (by rfl) B.list_ bo_list (pa_cons (pv 1) pa_nil)))
    (pss_cons (ps_for PassesOwn.never rfl (pi_list (pe_op op_cat (pe_slice (sl_listK (K := K) rfl) (pv 0) po_none (po_some pe_int)) (pe_stepLK (K := K) rfl (pv 0)))) (pg_name (i := 3) sc_law.nd rfl (Or.inl rfl))
    (pss_cons (ps_set (i := 4) sc_law.nd rfl (Or.inl rfl) (pe_op op_modN (pe_op op_fdivN (pv 3) pe_int) (pe_callB (call_lenK (K := K) rfl) (by rfl) B.len_ bo_len (pa_cons (pv 1) pa_nil))))
    (pss_cons (ps_set (i := 5) sc_law.nd rfl (Or.inl rfl) (pe_op op_modN (pe_op op_fdivN (pv 3) pe_int) (pe_callB (call_lenK (K := K) rfl) (by rfl) B.len_ bo_len (pa_cons (pv 1) pa_nil))))
    (pss_cons (ps_for PassesOwn.never rfl (pi_list (pe_lst (pa_cons (pe_tup (pa_cons (pv 4) (pa_cons (pv 5) pa_nil))) (pa_cons (pe_tup (pa_cons (pv 5) (pa_cons (pv 4) pa_nil))) pa_nil)))) (pg_tup (by rfl) (pgs_cons (pg_name (i := 6) sc_law.nd rfl (Or.inl rfl)) (pgs_cons (pg_name (i := 7) sc_law.nd rfl (Or.inl rfl)) pgs_nil)))
    (pss_cons (ps_set (i := 8) sc_law.nd rfl (Or.inl rfl) (pe_callD D_comes (hr.mono (by decide)) (by rfl) pass0 (pa_cons (pv 2) (pa_cons (pv 6) (pa_cons (pv 7) pa_nil)))))
    (pss_cons (ps_if (PW.pt (pw_or (pt_not (pt_val (pe_callD D_law_right (hr.mono (by decide)) (by rfl) pass0 (pa_cons (pv 1) (pa_cons (pv 6) (pa_cons (pv 7) (pa_cons (pv 8) pa_nil))))))) (pw_or1 (pt_cmpR (op_neK (K := K) rfl hr.units) (pv 2) (pv 1) (nomark _)))))
    (pss_one (ps_ret pe_bl))
    pss_nil)
    (pss_one (ps_if (pt_val (pe_callB (call_isiK' (K := K) rfl) (by rfl) B.isinstance_ bo_isinstance (pa_cons (pv 8) (pa_cons (pe_glob (v := .ref c.Apart) (by rfl) C.Apart.g rfl) pa_nil))))
    (pss_cons (ps_expr (pe_bm PySem.F.plainAttrs_list PySem.F.slot_list_append PySem.F.type_list_append mt_append (pe_fldK (K := K) rfl (pv 8) rfl) (pa_cons (pv 7) pa_nil)))
    (pss_one (ps_if (pt_cmpR op_notBl (pe_or2 (pe_methD C.Met.cl M_Met_shows (hr.mono (by decide)) pass0 (pv 8) (pa_cons (pv 1) (pa_cons (pv 6) (pa_cons (pv 7) pa_nil)))) (pe_methD C.Apart.cl M_Apart_shows (hr.mono (by decide)) pass0 (pv 8) (pa_cons (pv 1) (pa_cons (pv 6) (pa_cons (pv 7) pa_nil))))) pe_bl (nomark _))
    (pss_one (ps_ret pe_bl))
    pss_nil)))
    pss_nil)))))
    (pss_one (ps_if (pt_not (pt_val (pe_callB (call_isiK' (K := K) rfl) (by rfl) B.isinstance_ bo_isinstance (pa_cons (pe_callD D_comes (hr.mono (by decide)) (by rfl) pass0 (pa_cons (pv 2) (pa_cons (pv 4) (pa_cons (pe_callD D_law_after (hr.mono (by decide)) (by rfl) pass0 (pa_cons (pv 1) (pa_cons (pv 4) (pa_cons (pe_op op_modN (pe_op op_fdivN (pv 3) pe_int) pe_int) pa_nil)))) pa_nil)))) (pa_cons (pe_glob (v := .ref c.Met) (by rfl) C.Met.g rfl) pa_nil)))))
    (pss_one (ps_ret pe_bl))
    pss_nil))))))
    (pss_one (ps_ret pe_bl))))), ?_⟩
    refine q_asgX (ea1 (ev_var rfl)) fun H1 e1 => ⟨a, ns, rfl, ex_l e1 hS, h63, fun L hL hlL p1 H2 n2 e2 h2 => ?_⟩
    have hA2 : IsLd H2 p1 L := ⟨.inl h2, hL, by omega⟩
    refine q_asgL (el_listOf (ev_var rfl) hA2.sq) fun p2 H3 n3 e3 h3 => ?_
    have hA := hA2.ex e3
    have hB : IsLd H3 p2 L := ⟨.inl h3, hL, by omega⟩
    have hS3 := ex_l ((e1.trans e2).trans e3) hS
    refine q_forNLn (el_cells (ev_var rfl) (ev_var rfl) hS3 ev_c (by decide) h63) (fun p i σ' H' => ∃ (D : Hp) (y3 y4 y5 y6 y7 y8 : Option V), σ' = [some (.ref a), some (.ref p1), some (.ref p2), y3, y4, y5, y6, y7, y8] ∧ Ex H3 D ∧ D p = some (.lst (cells ns 6 6 9)) ∧ Ex D H')
      (fun p H4 n4 e4 h4 => ⟨H4, _, _, _, _, _, _, rfl, e4, h4, Ex.refl _⟩) (fun p i σ' H' _ ⟨D, _, _, _, _, _, _, _, _, h4, e4⟩ => sq_of (e4 _ _ h4)) (fun p i x σ' H' hx hP => ?_) (fun p σ' H' hP => ?_)
    · obtain ⟨G, y3, y4, y5, y6, y7, y8, rfl, eG, hG, eH⟩ := hP
      obtain ⟨z, hz, rfl⟩ := mem_cells hx
      have hpos : 0 < L.length := by
        have := pos_of_mem hz
        omega
      have e := eG.trans eH
      obtain ⟨o, ho, hol⟩ := fmod_lt (z.fdiv 3) hpos
      obtain ⟨t, ht, htl⟩ := fmod_lt (z.fdiv 7) hpos
      obtain ⟨n, hn, _⟩ := fmod_lt (z.fdiv 11) (m := 30) (by decide)
      refine q_asg (ev_op (ev_op (ev_var rfl) ev_c (rv_I ⟨by decide, by decide⟩)) (ev_lenNl (ev_var rfl) (hA.ex e).sq) (rv_IW (w := .int (o : Int)) (by omega) (by rw [ho]))) fun H6 e6 => ?_
      refine q_asg (ev_op (ev_op (ev_var rfl) ev_c (rv_I ⟨by decide, by decide⟩)) (ev_lenNl (ev_var rfl) (hA.ex (e.trans e6)).sq) (rv_IW (w := .int (t : Int)) (by omega) (by rw [ht]))) fun H7 e7 => ?_
      have e' := (e.trans e6).trans e7
      refine q_forTT (eu_tup (ea2 (ev_var rfl) (ev_var rfl)) (by show 2 ≤ 100000; decide)) (eu_tup (ea2 (ev_var rfl) (ev_var rfl)) (by show 2 ≤ 100000; decide)) (fun G k σ' H' => ∃ (y6 y7 y8 : Option V), σ' = [some (.ref a), some (.ref p1), some (.ref p2), some (.int z), some (.int (o : Int)), some (.int (t : Int)), y6, y7, y8] ∧ Ex G H')
        (fun G k σ' H' ⟨_, _, _, _, e⟩ => e) (fun G eG => ⟨_, _, _, rfl, Ex.refl G⟩) (fun G8 σ' H' e8 hP => ?_) (fun G8 σ' H' e8 hP => ?_) (fun G8 σ' H' e8 hP => ?_)
      rotate_left 2
      · obtain ⟨y6, y7, y8, rfl, e9⟩ := hP
        have e89 := e8.trans e9
        have hA9 := hA.ex (e'.trans e89)
        have hB9 := hB.ex (e'.trans e89)
        refine s_skip (et_notT (et_B (ev_isiR (mg := mg) (b := true) (ea3 (ev_var rfl) (ev_var rfl) (ev_callV (ea3 (ev_var rfl) (ev_var rfl) (ev_op (ev_op (ev_var rfl) ev_c (rv_I ⟨by decide, by decide⟩)) ev_c (rv_IW (w := .int (n : Int)) (by decide) (by show V.int ((z.fdiv 11).fmod ((30 : Nat) : Int)) = _; rw [hn])))) (sv_lafter hA9 hol)))
          fun H10 e10 R k' => ⟨p2, L, o, it L n o, rfl, hB9.ex e10, hol, it_lt hL n hol, fun x dx i j H11 nx e11 hx _ => k' x dx _ _ _ H11 e11 hx C.Met C.k_Met_Met, fun x dx l ps H11 nx nl' e11 hx hl hz hps hno => absurd ((meets_it n).mpr (meets_self L o)) hno⟩))) fun H11 e11 => ⟨G, _, _, _, _, _, _, rfl, eG, hG, ((eH.trans (e6.trans e7)).trans e89).trans e11⟩
      all_goals
        obtain ⟨y6, y7, y8, rfl, e9⟩ := hP
        have e89 := e8.trans e9
        have hA9 := hA.ex (e'.trans e89)
        have hB9 := hB.ex (e'.trans e89)
        refine q_asgX (ea3 (ev_var rfl) (ev_var rfl) (ev_var rfl)) fun H10 e10 => ⟨p2, L, _, _, rfl, hB9.ex e10, by assumption, by assumption, fun x dx i j H11 nx e11 hx hij => ?_, fun x dx l ps H11 nx nl' e11 hx hl hz hps hno => ?_⟩
        · have e911 := e10.trans e11
          refine q_skip (et_orF (et_notT (et_B (ev_callV (ea_cons (ev_var rfl) (ea3 (ev_var rfl) (ev_var rfl) (ev_var rfl))) (sv_lright (hA9.ex e911) (by assumption) (by assumption) (.inl ⟨dx, i, j, hx, hij⟩))))) (et_test (ev_op (ev_var rfl) (ev_var rfl) (rv_neN0 (hB9.ex e911).sq (hA9.ex e911).sq rfl)))) fun H12 e12 => ?_
          exact s_skip (et_B (ev_isiC C.Met (ev_var rfl) (e12 _ _ hx) C.k_Met_Apart)) fun H13 e13 => ⟨_, _, _, rfl, ((e9.trans e911).trans e12).trans e13⟩
        · have e911 := e10.trans e11
          refine q_skip (et_orF (et_notT (et_B (ev_callV (ea_cons (ev_var rfl) (ea3 (ev_var rfl) (ev_var rfl) (ev_var rfl))) (sv_lright (hA9.ex e911) (by assumption) (by assumption) (.inr ⟨dx, l, ps, hx, hl, hz, (hps _).mpr ⟨by assumption, meets_self L _⟩, fun h => hno ((hps _).mp h).2, fun y hy => ((hps y).mp hy).1, fun y hy =>
            ⟨fun h => (hps _).mpr ⟨st_lt hL hy, meets_st.mpr ((hps y).mp h).2⟩, fun h => (hps y).mpr ⟨hy, meets_st.mp ((hps _).mp h).2⟩⟩⟩))))) (et_test (ev_op (ev_var rfl) (ev_var rfl) (rv_neN0 (hB9.ex e911).sq (hA9.ex e911).sq rfl)))) fun H12 e12 => ?_
          refine s_when (et_B (ev_isiC C.Apart (ev_var rfl) (e12 _ _ hx) C.k_Apart_Apart)) (fun _ H13 e13 => ?_) (fun hb => nomatch hb)
          have e13' := e12.trans e13
          have nl8 : G8 l = none := fresh_back (e9.trans e10) nl'
          refine q_app (e13' _ _ hl) (ev_fld C.Apart.cl C.na_Apart_places (ev_var rfl) (e13' _ _ hx) look1) (ev_var rfl) (by rw [nl_len]; omega) fun H14 e14 => ?_
          have e14' := e13'.trans e14
          have hne : x ≠ l := ne_of hx hl (fun z => by cases z)
          have e8' := ((e9.trans e911).trans e14')
          refine s_skip (et_test (ev_op (ev_or2r (ev_meth (ev_var rfl) (by rw [upd_ne hne]; exact e14' _ _ hx) rfl (ea3 (ev_var rfl) (ev_var rfl) (ev_var rfl)) (sv_Apart_shows (ps := ps.map (fun (x : Nat) => (x : Int)) ++ [_]) (by rw [upd_ne hne]; exact e14' _ _ hx) ?_ (by rw [List.length_append, List.length_map, List.length_singleton]; omega) (hA9.ex ?_) (apartB_no (List.mem_append_right _ (List.mem_singleton.mpr rfl)))))) ev_c (rv_isnB rfl))) fun H15 e15 => ⟨_, _, _, rfl, (Ex.mut e8' nl8).trans e15⟩
          · rw [show ∀ r : Int, il (ps.map (fun (x : Nat) => (x : Int)) ++ [r]) = nl ps ++ [V.int r] from fun r => by
              rw [nl_il]
              unfold il
              rw [List.map_append]
              rfl]
            exact sq_of upd_same
          · exact Ex.mut (e911.trans e14') (fresh_back e10 nl')
    · obtain ⟨G, y3, y4, y5, y6, y7, y8, rfl, _⟩ := hP
      exact s_ret ev_c fun H15 _ => q H15

end
end Ld
namespace Ld
open PySem L2 Evl
/-! ### what the top has written -/
theorem all_mk {l : PySem.W.OpenLaw} {w : World} {K : PySem.W.Frag} {h : Heap} {mg : Str → Option Value} {fa f0 f1 f2 f3 f4 f5 f6 f7 f8 f9 f10 f11 f12 f13 f14 f15 f16 f17 f18 f19 f20 f21 : Addr} {qAnswer qSteps qShut qMet qApart qRoot qOdd : Addr} (X : K.In h) (G : h.Ns mainGlobals mg) (hfa : mg "law" = some (.ref fa))
    {od0 od1 od2 od3 od4 od5 od6 od7 od8 od9 od10 od11 od12 od13 od14 od15 od16 od17 od18 od19 od20 od21 an0 an1 an2 an3 an4 an5 an6 an7 an8 an9 an10 an11 an12 an13 an14 an15 an16 an17 an18 an19 an20 an21 : Option Addr} {sl0 sl1 sl2 sl3 sl4 sl5 sl6 sl7 sl8 sl9 sl10 sl11 sl12 sl13 sl14 sl15 sl16 sl17 sl18 sl19 sl20 sl21 : Array (Option Value)} {oc0 oc1 oc2 oc3 oc4 oc5 oc6 oc7 oc8 oc9 oc10 oc11 oc12 oc13 oc14 oc15 oc16 oc17 oc18 oc19 oc20 oc21 kV0 kV1 kV2 kV3 kV4 kV5 kV6 kV7 kV8 kV9 kV10 kV11 kV12 kV13 kV14 kV15 kV16 kV17 kV18 kV19 kV20 kV21 dc0 dc1 dc2 dc3 dc4 dc5 dc6 dc7 dc8 dc9 dc10 dc11 dc12 dc13 dc14 dc15 dc16 dc17 dc18 dc19 dc20 dc21 pm0 pm1 pm2 pm3 pm4 pm5 pm6 pm7 pm8 pm9 pm10 pm11 pm12 pm13 pm14 pm15 pm16 pm17 pm18 pm19 pm20 pm21 cd0 cd1 cd2 cd3 cd4 cd5 cd6 cd7 cd8 cd9 cd10 cd11 cd12 cd13 cd14 cd15 cd16 cd17 cd18 cd19 cd20 cd21 ct0 ct1 ct2 ct3 ct4 ct5 ct6 ct7 ct8 ct9 ct10 ct11 ct12 ct13 ct14 ct15 ct16 ct17 ct18 ct19 ct20 ct21 : Value}
    (g_Answer : PySem.W.nsIn K mainGlobals "Answer" = some (some (.ref qAnswer))) (pg_Answer : PySem.W.plainGet K qAnswer Str.empty = true) (hd_Answer : PySem.W.hasDictIn K qAnswer = true) (po_Answer : PySem.W.plainOver K qAnswer = true) (sa_Answer : PySem.W.findIn K (.ref qAnswer) "__setattr__" = some (some (.builtin "object.__setattr__")))
    (ha_Answer : PySem.W.findIn K (.ref qAnswer) "__class__" = some (some (.builtin "object.__class__"))) (hm_Answer : PySem.W.mroIn K qAnswer (.type "object") = some true) (mk_Answer : PySem.W.makesIn K qAnswer = true) (kp_Answer : PySem.W.keepIn K (.ref qAnswer) = true)
    (g_Steps : PySem.W.nsIn K mainGlobals "Steps" = some (some (.ref qSteps))) (pg_Steps : PySem.W.plainGet K qSteps Str.empty = true) (hd_Steps : PySem.W.hasDictIn K qSteps = true) (po_Steps : PySem.W.plainOver K qSteps = true) (sa_Steps : PySem.W.findIn K (.ref qSteps) "__setattr__" = some (some (.builtin "object.__setattr__")))
    (ha_Steps : PySem.W.findIn K (.ref qSteps) "__class__" = some (some (.builtin "object.__class__"))) (hm_Steps : PySem.W.mroIn K qSteps (.type "object") = some true) (mk_Steps : PySem.W.makesIn K qSteps = true) (kp_Steps : PySem.W.keepIn K (.ref qSteps) = true)
    (g_Shut : PySem.W.nsIn K mainGlobals "Shut" = some (some (.ref qShut))) (pg_Shut : PySem.W.plainGet K qShut Str.empty = true) (hd_Shut : PySem.W.hasDictIn K qShut = true) (po_Shut : PySem.W.plainOver K qShut = true) (sa_Shut : PySem.W.findIn K (.ref qShut) "__setattr__" = some (some (.builtin "object.__setattr__")))
    (ha_Shut : PySem.W.findIn K (.ref qShut) "__class__" = some (some (.builtin "object.__class__"))) (hm_Shut : PySem.W.mroIn K qShut (.type "object") = some true) (mk_Shut : PySem.W.makesIn K qShut = true) (kp_Shut : PySem.W.keepIn K (.ref qShut) = true)
    (g_Met : PySem.W.nsIn K mainGlobals "Met" = some (some (.ref qMet))) (pg_Met : PySem.W.plainGet K qMet Str.empty = true) (hd_Met : PySem.W.hasDictIn K qMet = true) (po_Met : PySem.W.plainOver K qMet = true) (sa_Met : PySem.W.findIn K (.ref qMet) "__setattr__" = some (some (.builtin "object.__setattr__")))
    (ha_Met : PySem.W.findIn K (.ref qMet) "__class__" = some (some (.builtin "object.__class__"))) (hm_Met : PySem.W.mroIn K qMet (.type "object") = some true) (mk_Met : PySem.W.makesIn K qMet = true) (kp_Met : PySem.W.keepIn K (.ref qMet) = true)
    (g_Apart : PySem.W.nsIn K mainGlobals "Apart" = some (some (.ref qApart))) (pg_Apart : PySem.W.plainGet K qApart Str.empty = true) (hd_Apart : PySem.W.hasDictIn K qApart = true) (po_Apart : PySem.W.plainOver K qApart = true) (sa_Apart : PySem.W.findIn K (.ref qApart) "__setattr__" = some (some (.builtin "object.__setattr__")))
    (ha_Apart : PySem.W.findIn K (.ref qApart) "__class__" = some (some (.builtin "object.__class__"))) (hm_Apart : PySem.W.mroIn K qApart (.type "object") = some true) (mk_Apart : PySem.W.makesIn K qApart = true) (kp_Apart : PySem.W.keepIn K (.ref qApart) = true)
    (g_Root : PySem.W.nsIn K mainGlobals "Root" = some (some (.ref qRoot))) (pg_Root : PySem.W.plainGet K qRoot Str.empty = true) (hd_Root : PySem.W.hasDictIn K qRoot = true) (po_Root : PySem.W.plainOver K qRoot = true) (sa_Root : PySem.W.findIn K (.ref qRoot) "__setattr__" = some (some (.builtin "object.__setattr__")))
    (ha_Root : PySem.W.findIn K (.ref qRoot) "__class__" = some (some (.builtin "object.__class__"))) (hm_Root : PySem.W.mroIn K qRoot (.type "object") = some true) (mk_Root : PySem.W.makesIn K qRoot = true) (kp_Root : PySem.W.keepIn K (.ref qRoot) = true)
    (g_Odd : PySem.W.nsIn K mainGlobals "Odd" = some (some (.ref qOdd))) (pg_Odd : PySem.W.plainGet K qOdd Str.empty = true) (hd_Odd : PySem.W.hasDictIn K qOdd = true) (po_Odd : PySem.W.plainOver K qOdd = true) (sa_Odd : PySem.W.findIn K (.ref qOdd) "__setattr__" = some (some (.builtin "object.__setattr__")))
    (ha_Odd : PySem.W.findIn K (.ref qOdd) "__class__" = some (some (.builtin "object.__class__"))) (hm_Odd : PySem.W.mroIn K qOdd (.type "object") = some true) (mk_Odd : PySem.W.makesIn K qOdd = true) (kp_Odd : PySem.W.keepIn K (.ref qOdd) = true)
    (hn_ : PySem.W.specialIn K (.builtin "object.__class__") "__get__" = some (some (.builtin "getset_descriptor.__get__"))) (htk_ : PySem.W.takesIn K (.builtin "object.__class__") = some true)
    (na_Steps_many : PySem.W.findIn K (.ref qSteps) "many" = some none)
    (k_Steps_Answer : PySem.W.kitOne K (.ref qSteps) (.ref qAnswer) = some true)
    (k_Steps_Steps : PySem.W.kitOne K (.ref qSteps) (.ref qSteps) = some true)
    (k_Steps_Shut : PySem.W.kitOne K (.ref qSteps) (.ref qShut) = some false)
    (k_Steps_Met : PySem.W.kitOne K (.ref qSteps) (.ref qMet) = some false)
    (k_Steps_Apart : PySem.W.kitOne K (.ref qSteps) (.ref qApart) = some false)
    (k_Steps_Root : PySem.W.kitOne K (.ref qSteps) (.ref qRoot) = some false)
    (k_Steps_Odd : PySem.W.kitOne K (.ref qSteps) (.ref qOdd) = some false)
    (na_Shut_places : PySem.W.findIn K (.ref qShut) "places" = some none)
    (k_Shut_Answer : PySem.W.kitOne K (.ref qShut) (.ref qAnswer) = some true)
    (k_Shut_Steps : PySem.W.kitOne K (.ref qShut) (.ref qSteps) = some false)
    (k_Shut_Shut : PySem.W.kitOne K (.ref qShut) (.ref qShut) = some true)
    (k_Shut_Met : PySem.W.kitOne K (.ref qShut) (.ref qMet) = some false)
    (k_Shut_Apart : PySem.W.kitOne K (.ref qShut) (.ref qApart) = some false)
    (k_Shut_Root : PySem.W.kitOne K (.ref qShut) (.ref qRoot) = some false)
    (k_Shut_Odd : PySem.W.kitOne K (.ref qShut) (.ref qOdd) = some false)
    (na_Met_mine : PySem.W.findIn K (.ref qMet) "mine" = some none)
    (na_Met_theirs : PySem.W.findIn K (.ref qMet) "theirs" = some none)
    (k_Met_Answer : PySem.W.kitOne K (.ref qMet) (.ref qAnswer) = some true)
    (k_Met_Steps : PySem.W.kitOne K (.ref qMet) (.ref qSteps) = some false)
    (k_Met_Shut : PySem.W.kitOne K (.ref qMet) (.ref qShut) = some false)
    (k_Met_Met : PySem.W.kitOne K (.ref qMet) (.ref qMet) = some true)
    (k_Met_Apart : PySem.W.kitOne K (.ref qMet) (.ref qApart) = some false)
    (k_Met_Root : PySem.W.kitOne K (.ref qMet) (.ref qRoot) = some false)
    (k_Met_Odd : PySem.W.kitOne K (.ref qMet) (.ref qOdd) = some false)
    (na_Apart_places : PySem.W.findIn K (.ref qApart) "places" = some none)
    (k_Apart_Answer : PySem.W.kitOne K (.ref qApart) (.ref qAnswer) = some true)
    (k_Apart_Steps : PySem.W.kitOne K (.ref qApart) (.ref qSteps) = some false)
    (k_Apart_Shut : PySem.W.kitOne K (.ref qApart) (.ref qShut) = some false)
    (k_Apart_Met : PySem.W.kitOne K (.ref qApart) (.ref qMet) = some false)
    (k_Apart_Apart : PySem.W.kitOne K (.ref qApart) (.ref qApart) = some true)
    (k_Apart_Root : PySem.W.kitOne K (.ref qApart) (.ref qRoot) = some false)
    (k_Apart_Odd : PySem.W.kitOne K (.ref qApart) (.ref qOdd) = some false)
    (na_Root_leading : PySem.W.findIn K (.ref qRoot) "leading" = some none)
    (k_Root_Answer : PySem.W.kitOne K (.ref qRoot) (.ref qAnswer) = some true)
    (k_Root_Steps : PySem.W.kitOne K (.ref qRoot) (.ref qSteps) = some false)
    (k_Root_Shut : PySem.W.kitOne K (.ref qRoot) (.ref qShut) = some false)
    (k_Root_Met : PySem.W.kitOne K (.ref qRoot) (.ref qMet) = some false)
    (k_Root_Apart : PySem.W.kitOne K (.ref qRoot) (.ref qApart) = some false)
    (k_Root_Root : PySem.W.kitOne K (.ref qRoot) (.ref qRoot) = some true)
    (k_Root_Odd : PySem.W.kitOne K (.ref qRoot) (.ref qOdd) = some false)
    (na_Odd_length : PySem.W.findIn K (.ref qOdd) "length" = some none)
    (na_Odd_rings : PySem.W.findIn K (.ref qOdd) "rings" = some none)
    (k_Odd_Answer : PySem.W.kitOne K (.ref qOdd) (.ref qAnswer) = some true)
    (k_Odd_Steps : PySem.W.kitOne K (.ref qOdd) (.ref qSteps) = some false)
    (k_Odd_Shut : PySem.W.kitOne K (.ref qOdd) (.ref qShut) = some false)
    (k_Odd_Met : PySem.W.kitOne K (.ref qOdd) (.ref qMet) = some false)
    (k_Odd_Apart : PySem.W.kitOne K (.ref qOdd) (.ref qApart) = some false)
    (k_Odd_Root : PySem.W.kitOne K (.ref qOdd) (.ref qRoot) = some false)
    (k_Odd_Odd : PySem.W.kitOne K (.ref qOdd) (.ref qOdd) = some true)
    (a0 : PySem.W.nsIn K mainGlobals "is_number" = some (some (.ref f0)))
    (l0 : K.lookup f0 = some ⟨oc0, od0, .func (PySem.W.fnOf "is_number" "is_number" (defArgs s_is_number) (defBody s_is_number) (defScope s_is_number) .none kV0 dc0 pm0 an0 cd0 ct0), sl0⟩) (c0 : PySem.W.codeIn K cd0 "is_number" = true) (k0 : PySem.W.keepIn K (.ref f0) = true)
    (a1 : PySem.W.nsIn K mainGlobals "done" = some (some (.ref f1)))
    (l1 : K.lookup f1 = some ⟨oc1, od1, .func (PySem.W.fnOf "done" "done" (defArgs s_done) (defBody s_done) (defScope s_done) .none kV1 dc1 pm1 an1 cd1 ct1), sl1⟩) (c1 : PySem.W.codeIn K cd1 "done" = true) (k1 : PySem.W.keepIn K (.ref f1) = true)
    (a2 : PySem.W.nsIn K mainGlobals "is_place" = some (some (.ref f2)))
    (l2 : K.lookup f2 = some ⟨oc2, od2, .func (PySem.W.fnOf "is_place" "is_place" (defArgs s_is_place) (defBody s_is_place) (defScope s_is_place) .none kV2 dc2 pm2 an2 cd2 ct2), sl2⟩) (c2 : PySem.W.codeIn K cd2 "is_place" = true) (k2 : PySem.W.keepIn K (.ref f2) = true)
    (a3 : PySem.W.findIn K (.ref qSteps) "__init__" = some (some (.ref f3))) (i3 : PySem.W.isFn K (.ref f3) = true)
    (l3 : K.lookup f3 = some ⟨oc3, od3, .func (PySem.W.fnOf "__init__" "Steps.__init__" (defArgs s_Steps___init__) (defBody s_Steps___init__) (defScope s_Steps___init__) .none kV3 dc3 pm3 an3 cd3 ct3), sl3⟩) (c3 : PySem.W.codeIn K cd3 "Steps.__init__" = true) (k3 : PySem.W.keepIn K (.ref f3) = true)
    (a4 : PySem.W.findIn K (.ref qShut) "__init__" = some (some (.ref f4))) (i4 : PySem.W.isFn K (.ref f4) = true)
    (l4 : K.lookup f4 = some ⟨oc4, od4, .func (PySem.W.fnOf "__init__" "Shut.__init__" (defArgs s_Shut___init__) (defBody s_Shut___init__) (defScope s_Shut___init__) .none kV4 dc4 pm4 an4 cd4 ct4), sl4⟩) (c4 : PySem.W.codeIn K cd4 "Shut.__init__" = true) (k4 : PySem.W.keepIn K (.ref f4) = true)
    (a5 : PySem.W.findIn K (.ref qMet) "__init__" = some (some (.ref f5))) (i5 : PySem.W.isFn K (.ref f5) = true)
    (l5 : K.lookup f5 = some ⟨oc5, od5, .func (PySem.W.fnOf "__init__" "Met.__init__" (defArgs s_Met___init__) (defBody s_Met___init__) (defScope s_Met___init__) .none kV5 dc5 pm5 an5 cd5 ct5), sl5⟩) (c5 : PySem.W.codeIn K cd5 "Met.__init__" = true) (k5 : PySem.W.keepIn K (.ref f5) = true)
    (a6 : PySem.W.findIn K (.ref qApart) "__init__" = some (some (.ref f6))) (i6 : PySem.W.isFn K (.ref f6) = true)
    (l6 : K.lookup f6 = some ⟨oc6, od6, .func (PySem.W.fnOf "__init__" "Apart.__init__" (defArgs s_Apart___init__) (defBody s_Apart___init__) (defScope s_Apart___init__) .none kV6 dc6 pm6 an6 cd6 ct6), sl6⟩) (c6 : PySem.W.codeIn K cd6 "Apart.__init__" = true) (k6 : PySem.W.keepIn K (.ref f6) = true)
    (a7 : PySem.W.findIn K (.ref qRoot) "__init__" = some (some (.ref f7))) (i7 : PySem.W.isFn K (.ref f7) = true)
    (l7 : K.lookup f7 = some ⟨oc7, od7, .func (PySem.W.fnOf "__init__" "Root.__init__" (defArgs s_Root___init__) (defBody s_Root___init__) (defScope s_Root___init__) .none kV7 dc7 pm7 an7 cd7 ct7), sl7⟩) (c7 : PySem.W.codeIn K cd7 "Root.__init__" = true) (k7 : PySem.W.keepIn K (.ref f7) = true)
    (a8 : PySem.W.nsIn K mainGlobals "walked" = some (some (.ref f8)))
    (l8 : K.lookup f8 = some ⟨oc8, od8, .func (PySem.W.fnOf "walked" "walked" (defArgs s_walked) (defBody s_walked) (defScope s_walked) .none kV8 dc8 pm8 an8 cd8 ct8), sl8⟩) (c8 : PySem.W.codeIn K cd8 "walked" = true) (k8 : PySem.W.keepIn K (.ref f8) = true)
    (a9 : PySem.W.nsIn K mainGlobals "_law_leading" = some (some (.ref f9)))
    (l9 : K.lookup f9 = some ⟨oc9, od9, .func (PySem.W.fnOf "_law_leading" "_law_leading" (defArgs s_law_leading) (defBody s_law_leading) (defScope s_law_leading) .none kV9 dc9 pm9 an9 cd9 ct9), sl9⟩) (c9 : PySem.W.codeIn K cd9 "_law_leading" = true) (k9 : PySem.W.keepIn K (.ref f9) = true)
    (a10 : PySem.W.nsIn K mainGlobals "_law_after" = some (some (.ref f10)))
    (l10 : K.lookup f10 = some ⟨oc10, od10, .func (PySem.W.fnOf "_law_after" "_law_after" (defArgs s_law_after) (defBody s_law_after) (defScope s_law_after) .none kV10 dc10 pm10 an10 cd10 ct10), sl10⟩) (c10 : PySem.W.codeIn K cd10 "_law_after" = true) (k10 : PySem.W.keepIn K (.ref f10) = true)
    (a11 : PySem.W.nsIn K mainGlobals "_law_numbers" = some (some (.ref f11)))
    (l11 : K.lookup f11 = some ⟨oc11, od11, .func (PySem.W.fnOf "_law_numbers" "_law_numbers" (defArgs s_law_numbers) (defBody s_law_numbers) (defScope s_law_numbers) .none kV11 dc11 pm11 an11 cd11 ct11), sl11⟩) (c11 : PySem.W.codeIn K cd11 "_law_numbers" = true) (k11 : PySem.W.keepIn K (.ref f11) = true)
    (a12 : PySem.W.nsIn K mainGlobals "asked_leading" = some (some (.ref f12)))
    (l12 : K.lookup f12 = some ⟨oc12, od12, .func (PySem.W.fnOf "asked_leading" "asked_leading" (defArgs s_asked_leading) (defBody s_asked_leading) (defScope s_asked_leading) .none kV12 dc12 pm12 an12 cd12 ct12), sl12⟩) (c12 : PySem.W.codeIn K cd12 "asked_leading" = true) (k12 : PySem.W.keepIn K (.ref f12) = true)
    (a13 : PySem.W.nsIn K mainGlobals "asked_place" = some (some (.ref f13)))
    (l13 : K.lookup f13 = some ⟨oc13, od13, .func (PySem.W.fnOf "asked_place" "asked_place" (defArgs s_asked_place) (defBody s_asked_place) (defScope s_asked_place) .none kV13 dc13 pm13 an13 cd13 ct13), sl13⟩) (c13 : PySem.W.codeIn K cd13 "asked_place" = true) (k13 : PySem.W.keepIn K (.ref f13) = true)
    (a14 : PySem.W.findIn K (.ref qSteps) "shows" = some (some (.ref f14))) (i14 : PySem.W.isFn K (.ref f14) = true)
    (l14 : K.lookup f14 = some ⟨oc14, od14, .func (PySem.W.fnOf "shows" "Steps.shows" (defArgs s_Steps_shows) (defBody s_Steps_shows) (defScope s_Steps_shows) .none kV14 dc14 pm14 an14 cd14 ct14), sl14⟩) (c14 : PySem.W.codeIn K cd14 "Steps.shows" = true) (k14 : PySem.W.keepIn K (.ref f14) = true)
    (a15 : PySem.W.findIn K (.ref qShut) "shows" = some (some (.ref f15))) (i15 : PySem.W.isFn K (.ref f15) = true)
    (l15 : K.lookup f15 = some ⟨oc15, od15, .func (PySem.W.fnOf "shows" "Shut.shows" (defArgs s_Shut_shows) (defBody s_Shut_shows) (defScope s_Shut_shows) .none kV15 dc15 pm15 an15 cd15 ct15), sl15⟩) (c15 : PySem.W.codeIn K cd15 "Shut.shows" = true) (k15 : PySem.W.keepIn K (.ref f15) = true)
    (a16 : PySem.W.findIn K (.ref qMet) "shows" = some (some (.ref f16))) (i16 : PySem.W.isFn K (.ref f16) = true)
    (l16 : K.lookup f16 = some ⟨oc16, od16, .func (PySem.W.fnOf "shows" "Met.shows" (defArgs s_Met_shows) (defBody s_Met_shows) (defScope s_Met_shows) .none kV16 dc16 pm16 an16 cd16 ct16), sl16⟩) (c16 : PySem.W.codeIn K cd16 "Met.shows" = true) (k16 : PySem.W.keepIn K (.ref f16) = true)
    (a17 : PySem.W.findIn K (.ref qApart) "shows" = some (some (.ref f17))) (i17 : PySem.W.isFn K (.ref f17) = true)
    (l17 : K.lookup f17 = some ⟨oc17, od17, .func (PySem.W.fnOf "shows" "Apart.shows" (defArgs s_Apart_shows) (defBody s_Apart_shows) (defScope s_Apart_shows) .none kV17 dc17 pm17 an17 cd17 ct17), sl17⟩) (c17 : PySem.W.codeIn K cd17 "Apart.shows" = true) (k17 : PySem.W.keepIn K (.ref f17) = true)
    (a18 : PySem.W.nsIn K mainGlobals "herd_of" = some (some (.ref f18)))
    (l18 : K.lookup f18 = some ⟨oc18, od18, .func (PySem.W.fnOf "herd_of" "herd_of" (defArgs s_herd_of) (defBody s_herd_of) (defScope s_herd_of) .none kV18 dc18 pm18 an18 cd18 ct18), sl18⟩) (c18 : PySem.W.codeIn K cd18 "herd_of" = true) (k18 : PySem.W.keepIn K (.ref f18) = true)
    (a19 : PySem.W.nsIn K mainGlobals "comes" = some (some (.ref f19)))
    (l19 : K.lookup f19 = some ⟨oc19, od19, .func (PySem.W.fnOf "comes" "comes" (defArgs s_comes) (defBody s_comes) (defScope s_comes) .none kV19 dc19 pm19 an19 cd19 ct19), sl19⟩) (c19 : PySem.W.codeIn K cd19 "comes" = true) (k19 : PySem.W.keepIn K (.ref f19) = true)
    (a20 : PySem.W.nsIn K mainGlobals "_law_right" = some (some (.ref f20)))
    (l20 : K.lookup f20 = some ⟨oc20, od20, .func (PySem.W.fnOf "_law_right" "_law_right" (defArgs s_law_right) (defBody s_law_right) (defScope s_law_right) .none kV20 dc20 pm20 an20 cd20 ct20), sl20⟩) (c20 : PySem.W.codeIn K cd20 "_law_right" = true) (k20 : PySem.W.keepIn K (.ref f20) = true)
    (a21 : PySem.W.nsIn K mainGlobals "law" = some (some (.ref f21)))
    (l21 : K.lookup f21 = some ⟨oc21, od21, .func (PySem.W.fnOf "law" "law" (defArgs s_law) (defBody s_law) (defScope s_law) .none kV21 dc21 pm21 an21 cd21 ct21), sl21⟩) (c21 : PySem.W.codeIn K cd21 "law" = true) (k21 : PySem.W.keepIn K (.ref f21) = true)
    (z_len : PySem.W.nsIn K mainGlobals "len" = some none)
    (z_sum : PySem.W.nsIn K mainGlobals "sum" = some none)
    (z_range : PySem.W.nsIn K mainGlobals "range" = some none)
    (z_list : PySem.W.nsIn K mainGlobals "list" = some none)
    (z_enumerate : PySem.W.nsIn K mainGlobals "enumerate" = some none)
    (z_isinstance : PySem.W.nsIn K mainGlobals "isinstance" = some none)
    (z_int : PySem.W.nsIn K mainGlobals "int" = some none)
    (z_bool : PySem.W.nsIn K mainGlobals "bool" = some none)
    (z_all : PySem.W.nsIn K mainGlobals "all" = some none)
    (z_any : PySem.W.nsIn K mainGlobals "any" = some none)
    (z_max : PySem.W.nsIn K mainGlobals "max" = some none)
    (z_min : PySem.W.nsIn K mainGlobals "min" = some none)
    (z_sorted : PySem.W.nsIn K mainGlobals "sorted" = some none)
    (z_set : PySem.W.nsIn K mainGlobals "set" = some none)
    (z_reversed : PySem.W.nsIn K mainGlobals "reversed" = some none)
    (z_tuple : PySem.W.nsIn K mainGlobals "tuple" = some none)
    : ∃ fd : FuncData, (∀ (s : Shared) (v : Value), BindsTo s fd ⟨[v], []⟩ [("_law_script", v)]) ∧ ∀ base : Heap, K.In base → base.Ns mainGlobals mg → FnOk l.prog w K mg base CX0 4 fa fd ["_law_script"] (spLaw K) := by
  have e := hfa.symm.trans (PySem.W.mg_of X G a21)
  cases e
  have B : Bl mg := ⟨PySem.W.mg_none_of X G z_len, PySem.W.mg_none_of X G z_sum, PySem.W.mg_none_of X G z_range, PySem.W.mg_none_of X G z_list, PySem.W.mg_none_of X G z_enumerate, PySem.W.mg_none_of X G z_isinstance, PySem.W.mg_none_of X G z_int, PySem.W.mg_none_of X G z_bool, PySem.W.mg_none_of X G z_all, PySem.W.mg_none_of X G z_any, PySem.W.mg_none_of X G z_max, PySem.W.mg_none_of X G z_min, PySem.W.mg_none_of X G z_sorted, PySem.W.mg_none_of X G z_set, PySem.W.mg_none_of X G z_reversed, PySem.W.mg_none_of X G z_tuple⟩
  have C : Cl K mg (⟨qAnswer, qSteps, qShut, qMet, qApart, qRoot, qOdd⟩ : Cs) := ⟨⟨⟨pg_Answer, hd_Answer, po_Answer, sa_Answer⟩, PySem.W.mg_of X G g_Answer, ha_Answer, hn_, htk_, hm_Answer⟩, ⟨⟨pg_Steps, hd_Steps, po_Steps, sa_Steps⟩, PySem.W.mg_of X G g_Steps, ha_Steps, hn_, htk_, hm_Steps⟩, ⟨⟨pg_Shut, hd_Shut, po_Shut, sa_Shut⟩, PySem.W.mg_of X G g_Shut, ha_Shut, hn_, htk_, hm_Shut⟩, ⟨⟨pg_Met, hd_Met, po_Met, sa_Met⟩, PySem.W.mg_of X G g_Met, ha_Met, hn_, htk_, hm_Met⟩, ⟨⟨pg_Apart, hd_Apart, po_Apart, sa_Apart⟩, PySem.W.mg_of X G g_Apart, ha_Apart, hn_, htk_, hm_Apart⟩, ⟨⟨pg_Root, hd_Root, po_Root, sa_Root⟩, PySem.W.mg_of X G g_Root, ha_Root, hn_, htk_, hm_Root⟩, ⟨⟨pg_Odd, hd_Odd, po_Odd, sa_Odd⟩, PySem.W.mg_of X G g_Odd, ha_Odd, hn_, htk_, hm_Odd⟩, na_Steps_many, k_Steps_Answer, k_Steps_Steps, k_Steps_Shut, k_Steps_Met, k_Steps_Apart, k_Steps_Root, k_Steps_Odd, na_Shut_places, k_Shut_Answer, k_Shut_Steps, k_Shut_Shut, k_Shut_Met, k_Shut_Apart, k_Shut_Root, k_Shut_Odd, na_Met_mine, na_Met_theirs, k_Met_Answer, k_Met_Steps, k_Met_Shut, k_Met_Met, k_Met_Apart, k_Met_Root, k_Met_Odd, na_Apart_places, k_Apart_Answer, k_Apart_Steps, k_Apart_Shut, k_Apart_Met, k_Apart_Apart, k_Apart_Root, k_Apart_Odd, na_Root_leading, k_Root_Answer, k_Root_Steps, k_Root_Shut, k_Root_Met, k_Root_Apart, k_Root_Root, k_Root_Odd, na_Odd_length, na_Odd_rings, k_Odd_Answer, k_Odd_Steps, k_Odd_Shut, k_Odd_Met, k_Odd_Apart, k_Odd_Root, k_Odd_Odd⟩
  have F0 := fun_mk (st := s_is_number) l0 c0 k0
  have F1 := fun_mk (st := s_done) l1 c1 k1
  have F2 := fun_mk (st := s_is_place) l2 c2 k2
  have F3 := fun_mk (st := s_Steps___init__) l3 c3 k3
  have F4 := fun_mk (st := s_Shut___init__) l4 c4 k4
  have F5 := fun_mk (st := s_Met___init__) l5 c5 k5
  have F6 := fun_mk (st := s_Apart___init__) l6 c6 k6
  have F7 := fun_mk (st := s_Root___init__) l7 c7 k7
  have F8 := fun_mk (st := s_walked) l8 c8 k8
  have F9 := fun_mk (st := s_law_leading) l9 c9 k9
  have F10 := fun_mk (st := s_law_after) l10 c10 k10
  have F11 := fun_mk (st := s_law_numbers) l11 c11 k11
  have F12 := fun_mk (st := s_asked_leading) l12 c12 k12
  have F13 := fun_mk (st := s_asked_place) l13 c13 k13
  have F14 := fun_mk (st := s_Steps_shows) l14 c14 k14
  have F15 := fun_mk (st := s_Shut_shows) l15 c15 k15
  have F16 := fun_mk (st := s_Met_shows) l16 c16 k16
  have F17 := fun_mk (st := s_Apart_shows) l17 c17 k17
  have F18 := fun_mk (st := s_herd_of) l18 c18 k18
  have F19 := fun_mk (st := s_comes) l19 c19 k19
  have F20 := fun_mk (st := s_law_right) l20 c20 k20
  have F21 := fun_mk (st := s_law) l21 c21 k21
  refine ⟨PySem.W.fnOf "law" "law" (defArgs s_law) (defBody s_law) (defScope s_law) .none kV21 dc21 pm21 an21 cd21 ct21, fun s v => .of_eq rfl, fun base _ _ => ?_⟩
  have D_is_number : Dk l.prog w K mg base CX0 1 "is_number" ["thing", "least", "most"] spIsNum := ⟨_, _, ok_is_number F0 B, PySem.W.mg_of X G a0, k0, F0.binds fun _ _ _ _ _ _ us hl => match us, hl with | [_, _, _], _ => rfl⟩
  have D_done : Dk l.prog w K mg base CX0 1 "done" ["leading", "steps"] spDone := ⟨_, _, ok_done F1 B, PySem.W.mg_of X G a1, k1, F1.binds fun _ _ _ _ _ _ us hl => match us, hl with | [_, _], _ => rfl⟩
  have D_is_place : Dk l.prog w K mg base CX0 1 "is_place" ["leading", "place"] spIsPlace := ⟨_, _, ok_is_place F2 B, PySem.W.mg_of X G a2, k2, F2.binds fun _ _ _ _ _ _ us hl => match us, hl with | [_, _], _ => rfl⟩
  have I_Steps : Cn l.prog w K mg base CX0 1 "Steps" qSteps ["self", "many"] (spInit1 qSteps "many") := ⟨⟨_, _, ok_Steps___init__ F3 C, ⟨mk_Steps, a3, i3, kp_Steps⟩, F3.binds fun _ _ _ _ _ _ us hl => match us, hl with | [_, _], _ => rfl⟩, PySem.W.mg_of X G g_Steps⟩
  have I_Shut : Cn l.prog w K mg base CX0 1 "Shut" qShut ["self", "places"] (spInitL K qShut "places") := ⟨⟨_, _, ok_Shut___init__ F4 B C, ⟨mk_Shut, a4, i4, kp_Shut⟩, F4.binds fun _ _ _ _ _ _ us hl => match us, hl with | [_, _], _ => rfl⟩, PySem.W.mg_of X G g_Shut⟩
  have I_Met : Cn l.prog w K mg base CX0 1 "Met" qMet ["self", "mine", "theirs"] (spInitM qMet) := ⟨⟨_, _, ok_Met___init__ F5 C, ⟨mk_Met, a5, i5, kp_Met⟩, F5.binds fun _ _ _ _ _ _ us hl => match us, hl with | [_, _, _], _ => rfl⟩, PySem.W.mg_of X G g_Met⟩
  have I_Apart : Cn l.prog w K mg base CX0 1 "Apart" qApart ["self", "places"] (spInitL K qApart "places") := ⟨⟨_, _, ok_Apart___init__ F6 B C, ⟨mk_Apart, a6, i6, kp_Apart⟩, F6.binds fun _ _ _ _ _ _ us hl => match us, hl with | [_, _], _ => rfl⟩, PySem.W.mg_of X G g_Apart⟩
  have I_Root : Cn l.prog w K mg base CX0 1 "Root" qRoot ["self", "leading"] (spInitL K qRoot "leading") := ⟨⟨_, _, ok_Root___init__ F7 B C, ⟨mk_Root, a7, i7, kp_Root⟩, F7.binds fun _ _ _ _ _ _ us hl => match us, hl with | [_, _], _ => rfl⟩, PySem.W.mg_of X G g_Root⟩
  have D_walked : Dk l.prog w K mg base CX0 1 "walked" ["leading", "place"] spWalked := ⟨_, _, ok_walked F8, PySem.W.mg_of X G a8, k8, F8.binds fun _ _ _ _ _ _ us hl => match us, hl with | [_, _], _ => rfl⟩
  have D_law_leading : Dk l.prog w K mg base CX0 1 "_law_leading" ["_law_script"] (spLLead K) := ⟨_, _, ok_law_leading F9 B, PySem.W.mg_of X G a9, k9, F9.binds fun _ _ _ _ _ _ us hl => match us, hl with | [_], _ => rfl⟩
  have D_law_after : Dk l.prog w K mg base CX0 1 "_law_after" ["_law_leading_here", "_law_place", "_law_steps"] spLAfter := ⟨_, _, ok_law_after F10 B, PySem.W.mg_of X G a10, k10, F10.binds fun _ _ _ _ _ _ us hl => match us, hl with | [_, _, _], _ => rfl⟩
  have D_law_numbers : Dk l.prog w K mg base CX0 1 "_law_numbers" ["_law_found"] spNums := ⟨_, _, ok_law_numbers F11 B, PySem.W.mg_of X G a11, k11, F11.binds fun _ _ _ _ _ _ us hl => match us, hl with | [_], _ => rfl⟩
  have D_asked_leading : Dk l.prog w K mg base CX0 2 "asked_leading" ["leading"] spAskedL := ⟨_, _, ok_asked_leading F12 B D_is_number, PySem.W.mg_of X G a12, k12, F12.binds fun _ _ _ _ _ _ us hl => match us, hl with | [_], _ => rfl⟩
  have D_asked_place : Dk l.prog w K mg base CX0 2 "asked_place" ["leading", "place"] spAskedP := ⟨_, _, ok_asked_place F13 B D_is_number, PySem.W.mg_of X G a13, k13, F13.binds fun _ _ _ _ _ _ us hl => match us, hl with | [_, _], _ => rfl⟩
  have M_Steps_shows : Mt l.prog w K mg base CX0 2 qSteps "shows" ["self", "leading", "one", "other"] (spStepsShows qSteps) := ⟨_, _, ok_Steps_shows F14 C D_done, ⟨a14, i14, k14⟩, F14.binds fun _ _ _ _ _ _ us hl => match us, hl with | [_, _, _, _], _ => rfl⟩
  have M_Shut_shows : Mt l.prog w K mg base CX0 2 qShut "shows" ["self", "leading", "one", "other"] (spShutShows K qShut) := ⟨_, _, ok_Shut_shows F15 B C D_is_place, ⟨a15, i15, k15⟩, F15.binds fun _ _ _ _ _ _ us hl => match us, hl with | [_, _, _, _], _ => rfl⟩
  have M_Met_shows : Mt l.prog w K mg base CX0 2 qMet "shows" ["self", "leading", "one", "other"] (spMetShows qMet) := ⟨_, _, ok_Met_shows F16 C D_done, ⟨a16, i16, k16⟩, F16.binds fun _ _ _ _ _ _ us hl => match us, hl with | [_, _, _, _], _ => rfl⟩
  have M_Apart_shows : Mt l.prog w K mg base CX0 2 qApart "shows" ["self", "leading", "one", "other"] (spApartShows K qApart) := ⟨_, _, ok_Apart_shows F17 B C D_is_place, ⟨a17, i17, k17⟩, F17.binds fun _ _ _ _ _ _ us hl => match us, hl with | [_, _, _, _], _ => rfl⟩
  have D_herd_of : Dk l.prog w K mg base CX0 2 "herd_of" ["leading", "place"] spHerd := ⟨_, _, ok_herd_of F18 B D_walked, PySem.W.mg_of X G a18, k18, F18.binds fun _ _ _ _ _ _ us hl => match us, hl with | [_, _], _ => rfl⟩
  have D_comes : Dk l.prog w K mg base CX0 3 "comes" ["leading", "one", "other"] (spComes (⟨qAnswer, qSteps, qShut, qMet, qApart, qRoot, qOdd⟩ : Cs)) := ⟨_, _, ok_comes F19 B D_asked_leading D_asked_place D_walked D_herd_of I_Met I_Apart, PySem.W.mg_of X G a19, k19, F19.binds fun _ _ _ _ _ _ us hl => match us, hl with | [_, _, _], _ => rfl⟩
  have D_law_right : Dk l.prog w K mg base CX0 3 "_law_right" ["_law_leading_here", "_law_one", "_law_other", "_law_found"] (spLRight (⟨qAnswer, qSteps, qShut, qMet, qApart, qRoot, qOdd⟩ : Cs)) := ⟨_, _, ok_law_right F20 B C D_law_numbers D_law_after M_Met_shows M_Apart_shows, PySem.W.mg_of X G a20, k20, F20.binds fun _ _ _ _ _ _ us hl => match us, hl with | [_, _, _, _], _ => rfl⟩
  exact ok_law F21 B C D_law_leading D_law_after D_comes D_law_right M_Met_shows M_Apart_shows
end Ld
open PySem PySem.W PyProof.Rows
set_option maxRecDepth 100000 in
set_option maxHeartbeats 0 in
theorem PySem.Challenge.cw_leadson_k05_whole_comes_holds : PySem.Challenge.rw_leadson_k05_whole_comes.Holds := by
  w_on; o_law; k_head; (case hw => w_witness2)
  k_fill
  refine L2.walk_of (l := PySem.Challenge.rw_leadson_k05_whole_comes) (n := 63) (k := 4) (x := "_law_script") (CX := fun _ => L2.CX0) (sp := fun w => Ld.spLaw _) rfl (by decide) rfl ⟨rfl, by decide, by decide⟩ (fun w h Y => PySem.W.kIn_of Y) ?F (fun _ _ a ns hl _ hS => ⟨a, ns, rfl, hS, hl, fun _ => rfl⟩) (fun _ _ _ _ _ h => h)
  case F =>
    intro w mg fa h KX G hmg
    refine' Ld.all_mk KX G hmg ?g_Answer ?pg_Answer ?hd_Answer ?po_Answer ?sa_Answer ?ha_Answer ?hm_Answer ?mk_Answer ?kp_Answer ?g_Steps ?pg_Steps ?hd_Steps ?po_Steps ?sa_Steps ?ha_Steps ?hm_Steps ?mk_Steps ?kp_Steps ?g_Shut ?pg_Shut ?hd_Shut ?po_Shut ?sa_Shut ?ha_Shut ?hm_Shut ?mk_Shut ?kp_Shut ?g_Met ?pg_Met ?hd_Met ?po_Met ?sa_Met ?ha_Met ?hm_Met ?mk_Met ?kp_Met ?g_Apart ?pg_Apart ?hd_Apart ?po_Apart ?sa_Apart ?ha_Apart ?hm_Apart ?mk_Apart ?kp_Apart ?g_Root ?pg_Root ?hd_Root ?po_Root ?sa_Root ?ha_Root ?hm_Root ?mk_Root ?kp_Root ?g_Odd ?pg_Odd ?hd_Odd ?po_Odd ?sa_Odd ?ha_Odd ?hm_Odd ?mk_Odd ?kp_Odd ?hn_ ?htk_ ?na_Steps_many ?k_Steps_Answer ?k_Steps_Steps ?k_Steps_Shut ?k_Steps_Met ?k_Steps_Apart ?k_Steps_Root ?k_Steps_Odd ?na_Shut_places ?k_Shut_Answer ?k_Shut_Steps ?k_Shut_Shut ?k_Shut_Met ?k_Shut_Apart ?k_Shut_Root ?k_Shut_Odd ?na_Met_mine ?na_Met_theirs ?k_Met_Answer ?k_Met_Steps ?k_Met_Shut ?k_Met_Met ?k_Met_Apart ?k_Met_Root ?k_Met_Odd ?na_Apart_places ?k_Apart_Answer ?k_Apart_Steps ?k_Apart_Shut ?k_Apart_Met ?k_Apart_Apart ?k_Apart_Root ?k_Apart_Odd ?na_Root_leading ?k_Root_Answer ?k_Root_Steps ?k_Root_Shut ?k_Root_Met ?k_Root_Apart ?k_Root_Root ?k_Root_Odd ?na_Odd_length ?na_Odd_rings ?k_Odd_Answer ?k_Odd_Steps ?k_Odd_Shut ?k_Odd_Met ?k_Odd_Apart ?k_Odd_Root ?k_Odd_Odd ?a0 ?l0 ?c0 ?k0 ?a1 ?l1 ?c1 ?k1 ?a2 ?l2 ?c2 ?k2 ?a3 ?i3 ?l3 ?c3 ?k3 ?a4 ?i4 ?l4 ?c4 ?k4 ?a5 ?i5 ?l5 ?c5 ?k5 ?a6 ?i6 ?l6 ?c6 ?k6 ?a7 ?i7 ?l7 ?c7 ?k7 ?a8 ?l8 ?c8 ?k8 ?a9 ?l9 ?c9 ?k9 ?a10 ?l10 ?c10 ?k10 ?a11 ?l11 ?c11 ?k11 ?a12 ?l12 ?c12 ?k12 ?a13 ?l13 ?c13 ?k13 ?a14 ?i14 ?l14 ?c14 ?k14 ?a15 ?i15 ?l15 ?c15 ?k15 ?a16 ?i16 ?l16 ?c16 ?k16 ?a17 ?i17 ?l17 ?c17 ?k17 ?a18 ?l18 ?c18 ?k18 ?a19 ?l19 ?c19 ?k19 ?a20 ?l20 ?c20 ?k20 ?a21 ?l21 ?c21 ?k21 ?z_len ?z_sum ?z_range ?z_list ?z_enumerate ?z_isinstance ?z_int ?z_bool ?z_all ?z_any ?z_max ?z_min ?z_sorted ?z_set ?z_reversed ?z_tuple
    (case g_Answer => k_is)
    (case pg_Answer => k_is)
    (case hd_Answer => k_is)
    (case po_Answer => k_is)
    (case sa_Answer => k_is)
    (case ha_Answer => k_is)
    (case hm_Answer => k_is)
    (case mk_Answer => k_is)
    (case kp_Answer => k_is)
    (case g_Steps => k_is)
    (case pg_Steps => k_is)
    (case hd_Steps => k_is)
    (case po_Steps => k_is)
    (case sa_Steps => k_is)
    (case ha_Steps => k_is)
    (case hm_Steps => k_is)
    (case mk_Steps => k_is)
    (case kp_Steps => k_is)
    (case g_Shut => k_is)
    (case pg_Shut => k_is)
    (case hd_Shut => k_is)
    (case po_Shut => k_is)
    (case sa_Shut => k_is)
    (case ha_Shut => k_is)
    (case hm_Shut => k_is)
    (case mk_Shut => k_is)
    (case kp_Shut => k_is)
    (case g_Met => k_is)
    (case pg_Met => k_is)
    (case hd_Met => k_is)
    (case po_Met => k_is)
    (case sa_Met => k_is)
    (case ha_Met => k_is)
    (case hm_Met => k_is)
    (case mk_Met => k_is)
    (case kp_Met => k_is)
    (case g_Apart => k_is)
    (case pg_Apart => k_is)
    (case hd_Apart => k_is)
    (case po_Apart => k_is)
    (case sa_Apart => k_is)
    (case ha_Apart => k_is)
    (case hm_Apart => k_is)
    (case mk_Apart => k_is)
    (case kp_Apart => k_is)
    (case g_Root => k_is)
    (case pg_Root => k_is)
    (case hd_Root => k_is)
    (case po_Root => k_is)
    (case sa_Root => k_is)
    (case ha_Root => k_is)
    (case hm_Root => k_is)
    (case mk_Root => k_is)
    (case kp_Root => k_is)
    (case g_Odd => k_is)
    (case pg_Odd => k_is)
    (case hd_Odd => k_is)
    (case po_Odd => k_is)
    (case sa_Odd => k_is)
    (case ha_Odd => k_is)
    (case hm_Odd => k_is)
    (case mk_Odd => k_is)
    (case kp_Odd => k_is)
    (case hn_ => k_is)
    (case htk_ => k_is)
    (case na_Steps_many => k_is)
    (case k_Steps_Answer => kit_is)
    (case k_Steps_Steps => kit_is)
    (case k_Steps_Shut => kit_is)
    (case k_Steps_Met => kit_is)
    (case k_Steps_Apart => kit_is)
    (case k_Steps_Root => kit_is)
    (case k_Steps_Odd => kit_is)
    (case na_Shut_places => k_is)
    (case k_Shut_Answer => kit_is)
    (case k_Shut_Steps => kit_is)
    (case k_Shut_Shut => kit_is)
    (case k_Shut_Met => kit_is)
    (case k_Shut_Apart => kit_is)
    (case k_Shut_Root => kit_is)
    (case k_Shut_Odd => kit_is)
    (case na_Met_mine => k_is)
    (case na_Met_theirs => k_is)
    (case k_Met_Answer => kit_is)
    (case k_Met_Steps => kit_is)
    (case k_Met_Shut => kit_is)
    (case k_Met_Met => kit_is)
    (case k_Met_Apart => kit_is)
    (case k_Met_Root => kit_is)
    (case k_Met_Odd => kit_is)
    (case na_Apart_places => k_is)
    (case k_Apart_Answer => kit_is)
    (case k_Apart_Steps => kit_is)
    (case k_Apart_Shut => kit_is)
    (case k_Apart_Met => kit_is)
    (case k_Apart_Apart => kit_is)
    (case k_Apart_Root => kit_is)
    (case k_Apart_Odd => kit_is)
    (case na_Root_leading => k_is)
    (case k_Root_Answer => kit_is)
    (case k_Root_Steps => kit_is)
    (case k_Root_Shut => kit_is)
    (case k_Root_Met => kit_is)
    (case k_Root_Apart => kit_is)
    (case k_Root_Root => kit_is)
    (case k_Root_Odd => kit_is)
    (case na_Odd_length => k_is)
    (case na_Odd_rings => k_is)
    (case k_Odd_Answer => kit_is)
    (case k_Odd_Steps => kit_is)
    (case k_Odd_Shut => kit_is)
    (case k_Odd_Met => kit_is)
    (case k_Odd_Apart => kit_is)
    (case k_Odd_Root => kit_is)
    (case k_Odd_Odd => kit_is)
    (case a0 => k_is)
    (case l0 => k_is)
    (case c0 => k_is)
    (case k0 => k_is)
    (case a1 => k_is)
    (case l1 => k_is)
    (case c1 => k_is)
    (case k1 => k_is)
    (case a2 => k_is)
    (case l2 => k_is)
    (case c2 => k_is)
    (case k2 => k_is)
    (case a3 => k_is)
    (case i3 => k_is)
    (case l3 => k_is)
    (case c3 => k_is)
    (case k3 => k_is)
    (case a4 => k_is)
    (case i4 => k_is)
    (case l4 => k_is)
    (case c4 => k_is)
    (case k4 => k_is)
    (case a5 => k_is)
    (case i5 => k_is)
    (case l5 => k_is)
    (case c5 => k_is)
    (case k5 => k_is)
    (case a6 => k_is)
    (case i6 => k_is)
    (case l6 => k_is)
    (case c6 => k_is)
    (case k6 => k_is)
    (case a7 => k_is)
    (case i7 => k_is)
    (case l7 => k_is)
    (case c7 => k_is)
    (case k7 => k_is)
    (case a8 => k_is)
    (case l8 => k_is)
    (case c8 => k_is)
    (case k8 => k_is)
    (case a9 => k_is)
    (case l9 => k_is)
    (case c9 => k_is)
    (case k9 => k_is)
    (case a10 => k_is)
    (case l10 => k_is)
    (case c10 => k_is)
    (case k10 => k_is)
    (case a11 => k_is)
    (case l11 => k_is)
    (case c11 => k_is)
    (case k11 => k_is)
    (case a12 => k_is)
    (case l12 => k_is)
    (case c12 => k_is)
    (case k12 => k_is)
    (case a13 => k_is)
    (case l13 => k_is)
    (case c13 => k_is)
    (case k13 => k_is)
    (case a14 => k_is)
    (case i14 => k_is)
    (case l14 => k_is)
    (case c14 => k_is)
    (case k14 => k_is)
    (case a15 => k_is)
    (case i15 => k_is)
    (case l15 => k_is)
    (case c15 => k_is)
    (case k15 => k_is)
    (case a16 => k_is)
    (case i16 => k_is)
    (case l16 => k_is)
    (case c16 => k_is)
    (case k16 => k_is)
    (case a17 => k_is)
    (case i17 => k_is)
    (case l17 => k_is)
    (case c17 => k_is)
    (case k17 => k_is)
    (case a18 => k_is)
    (case l18 => k_is)
    (case c18 => k_is)
    (case k18 => k_is)
    (case a19 => k_is)
    (case l19 => k_is)
    (case c19 => k_is)
    (case k19 => k_is)
    (case a20 => k_is)
    (case l20 => k_is)
    (case c20 => k_is)
    (case k20 => k_is)
    (case a21 => k_is)
    (case l21 => k_is)
    (case c21 => k_is)
    (case k21 => k_is)
    (case z_len => k_is)
    (case z_sum => k_is)
    (case z_range => k_is)
    (case z_list => k_is)
    (case z_enumerate => k_is)
    (case z_isinstance => k_is)
    (case z_int => k_is)
    (case z_bool => k_is)
    (case z_all => k_is)
    (case z_any => k_is)
    (case z_max => k_is)
    (case z_min => k_is)
    (case z_sorted => k_is)
    (case z_set => k_is)
    (case z_reversed => k_is)
    (case z_tuple => k_is)
