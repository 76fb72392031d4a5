import PyProof.Rows.All
import Wide.All
import OpenK.AllK
import Wide.FinOn
import HandS.ForMost
import HandS.Evl
import HandS.IsInst
import HandS.SortInts
import PySem.Challenge.RW_leadson_k01_whole_after
set_option Elab.async false
set_option linter.all false
set_option maxRecDepth 100000
set_option maxHeartbeats 4000000
/-! Ma: leadings as lists of numbers: a step, many steps, done so often. Plain Lean. -/
namespace Ld
/-- one step -/
def st (L : List Nat) (p : Nat) : Nat := L.getD p 0
/-- so many steps -/
def it (L : List Nat) : Nat → Nat → Nat
  | 0, p => p
  | k + 1, p => it L k (st L p)
def Lead (L : List Nat) : Prop := ∀ x ∈ L, x < L.length
/-- done so often -/
def tm (L : List Nat) (k : Nat) : List Nat := (List.range L.length).map fun p => it L k p

theorem st_get {L : List Nat} {p : Nat} (h : p < L.length) : L[p]? = some (st L p) := by
  unfold st
  rw [List.getD_eq_getElem?_getD, List.getElem?_eq_getElem h]
  rfl
theorem st_eq {L : List Nat} {p : Nat} (h : p < L.length) : st L p = L[p] := by
  have e := st_get h
  rw [List.getElem?_eq_getElem h] at e
  exact (Option.some.inj e).symm
theorem st_mem {L : List Nat} {p : Nat} (h : p < L.length) : st L p ∈ L := by
  rw [st_eq h]
  exact List.getElem_mem h
theorem st_lt {L : List Nat} {p : Nat} (hL : Lead L) (h : p < L.length) : st L p < L.length := hL _ (st_mem h)
theorem it_lt {L : List Nat} (hL : Lead L) : ∀ (k : Nat) {p : Nat}, p < L.length → it L k p < L.length
  | 0, _, h => h
  | k + 1, _, h => it_lt hL k (st_lt hL h)
theorem it_add (L : List Nat) : ∀ (a b p : Nat), it L (a + b) p = it L b (it L a p)
  | 0, b, p => by rw [Nat.zero_add]; rfl
  | a + 1, b, p => by
    rw [show a + 1 + b = (a + b) + 1 by omega]
    show it L (a + b) (st L p) = it L b (it L a (st L p))
    exact it_add L a b _
theorem it_succ (L : List Nat) (k p : Nat) : it L (k + 1) p = st L (it L k p) := it_add L k 1 p
theorem tm_length (L : List Nat) (k : Nat) : (tm L k).length = L.length := by
  unfold tm
  rw [List.length_map, List.length_range]
theorem tm_get {L : List Nat} {k p : Nat} (h : p < L.length) : (tm L k)[p]? = some (it L k p) := by
  unfold tm
  rw [List.getElem?_map, List.getElem?_range h]
  rfl
theorem st_tm {L : List Nat} {k p : Nat} (h : p < L.length) : st (tm L k) p = it L k p := by
  have e := st_get (L := tm L k) (p := p) (by rw [tm_length]; exact h)
  rw [tm_get h] at e
  exact (Option.some.inj e).symm
theorem lead_tm {L : List Nat} (hL : Lead L) (k : Nat) : Lead (tm L k) := fun x hx => by
  rw [tm_length]
  unfold tm at hx
  obtain ⟨p, hp, rfl⟩ := List.mem_map.mp hx
  exact it_lt hL k (List.mem_range.mp hp)
theorem tm_zero (L : List Nat) : tm L 0 = List.range L.length := by
  unfold tm
  show List.map (fun p => p) _ = _
  rw [List.map_id']
theorem tm_one (L : List Nat) : tm L 1 = L := by
  refine List.ext_getElem? fun i => ?_
  by_cases h : i < L.length
  · rw [tm_get h, st_get h]
    rfl
  · rw [List.getElem?_eq_none (by rw [tm_length]; omega), List.getElem?_eq_none (by omega)]
/-- the one, then the other -/
theorem tm_then {L : List Nat} (hL : Lead L) (a b : Nat) : (tm L a).map (fun x => st (tm L b) x) = tm L (a + b) := by
  unfold tm
  rw [List.map_map]
  refine List.map_congr_left fun p hp => ?_
  have hp' := List.mem_range.mp hp
  show st (tm L b) (it L a p) = it L (a + b) p
  rw [st_tm (it_lt hL a hp'), it_add]
theorem it_tm {L : List Nat} (hL : Lead L) (a : Nat) : ∀ (b : Nat) {p : Nat}, p < L.length → it (tm L a) b p = it L (a * b) p
  | 0, _, _ => rfl
  | b + 1, p, h => by
    show it (tm L a) b (st (tm L a) p) = _
    rw [st_tm h, it_tm hL a b (it_lt hL a h), ← it_add, Nat.mul_succ, Nat.add_comm]
theorem tm_tm {L : List Nat} (hL : Lead L) (a b : Nat) : tm (tm L a) b = tm L (a * b) := by
  refine List.ext_getElem? fun i => ?_
  by_cases h : i < L.length
  · rw [tm_get (by rw [tm_length]; exact h), tm_get h, it_tm hL a b h]
  · rw [List.getElem?_eq_none (by rw [tm_length, tm_length]; omega), List.getElem?_eq_none (by rw [tm_length]; omega)]

/-! ### no more than n different numbers below n -/
theorem nodup_erase_len {n : Nat} : ∀ {l : List Nat}, l.Nodup → (∀ x ∈ l, x < n) → l.length ≤ n := by
  induction n with
  | zero =>
    intro l _ h
    cases l with
    | nil => exact Nat.le_refl 0
    | cons x r => exact absurd (h x (List.mem_cons_self ..)) (Nat.not_lt_zero x)
  | succ n ih =>
    intro l nd h
    have h1 : (l.erase n).length ≤ n := ih (nd.erase n) fun x hx => by
      have h2 := h x (List.mem_of_mem_erase hx)
      have h3 : x ≠ n := fun e => by
        subst e
        exact (nd.not_mem_erase) hx
      omega
    have h4 : l.length ≤ (l.erase n).length + 1 := by
      by_cases hm : n ∈ l
      · rw [List.length_erase_of_mem hm]
        omega
      · rw [List.erase_of_not_mem hm]
        omega
    omega
theorem nodup_len {n : Nat} {l : List Nat} (nd : l.Nodup) (h : ∀ x ∈ l, x < n) : l.length ≤ n := nodup_erase_len nd h
/-- injective by numbers: a list by a function -/
theorem nodup_of_inj {m : Nat} {f : Nat → Nat} (h : ∀ i j, i < j → j < m → f i ≠ f j) : ((List.range m).map f).Nodup := by
  rw [List.Nodup, List.pairwise_map]
  refine List.Pairwise.imp_of_mem (fun {a b} ha hb hab => ?_) List.pairwise_lt_range
  exact h a b hab (List.mem_range.mp hb)
theorem inj_of_nodup {m : Nat} {f : Nat → Nat} (h : ((List.range m).map f).Nodup) {i j : Nat} (hi : i < m) (hj : j < m) (e : f i = f j) : i = j := by
  have h1 : ((List.range m).map f)[i]? = some (f i) := by rw [List.getElem?_map, List.getElem?_range hi]; rfl
  have h2 : ((List.range m).map f)[j]? = some (f j) := by rw [List.getElem?_map, List.getElem?_range hj]; rfl
  obtain ⟨l1, e1⟩ := List.getElem?_eq_some_iff.mp h1
  obtain ⟨l2, e2⟩ := List.getElem?_eq_some_iff.mp h2
  exact (List.getElem_inj h).mp (e1.trans (e.trans e2.symm))

/-! ### once round: behind a first meeting all comes again -/
theorem it_period {L : List Nat} {p a d : Nat} (h : it L (a + d) p = it L a p) : ∀ k, it L (a + k * d) p = it L a p
  | 0 => by rw [Nat.zero_mul]; rfl
  | k + 1 => by
    rw [Nat.succ_mul, ← Nat.add_assoc, Nat.add_right_comm, it_add, h, ← it_add]
    exact it_period h k
theorem it_round {L : List Nat} {p a d : Nat} (h : it L (a + d) p = it L a p) (r : Nat) : it L (a + d + r % d) p = it L (a + d + r) p := by
  have e1 : r % d + d * (r / d) = r := Nat.mod_add_div r d
  have e2 : it L (a + d + r) p = it L (r % d) (it L (a + (1 + r / d) * d) p) := by
    rw [← it_add]
    congr 1
    rw [Nat.add_mul, Nat.one_mul, Nat.mul_comm (r / d) d]
    omega
  rw [e2, it_period h, it_add, h]
end Ld
/-! Evx: what readings evaluate to: further rules over Evl. -/
namespace Ld
open PySem L2 Evl
/-! ### names of the built-ins -/
theorem bo_len : bootBuiltins "len" = some (.builtin "len") := by decide +kernel
theorem bo_sum : bootBuiltins "sum" = some (.builtin "sum") := by decide +kernel
theorem bo_all : bootBuiltins "all" = some (.builtin "all") := by decide +kernel
theorem bo_any : bootBuiltins "any" = some (.builtin "any") := by decide +kernel
theorem bo_max : bootBuiltins "max" = some (.builtin "max") := by decide +kernel
theorem bo_min : bootBuiltins "min" = some (.builtin "min") := by decide +kernel
theorem bo_sorted : bootBuiltins "sorted" = some (.builtin "sorted") := by decide +kernel
theorem bo_isinstance : bootBuiltins "isinstance" = some (.builtin "isinstance") := by decide +kernel
theorem bo_list : bootBuiltins "list" = some (.type "list") := by decide +kernel
theorem bo_int : bootBuiltins "int" = some (.type "int") := by decide +kernel
theorem bo_bool : bootBuiltins "bool" = some (.type "bool") := by decide +kernel
theorem bo_str : bootBuiltins "str" = some (.type "str") := by decide +kernel
theorem bo_tuple : bootBuiltins "tuple" = some (.type "tuple") := by decide +kernel
/-- no built-in that the texts call is another thing -/
structure Bl (mg : Str → Option Value) : Prop where
  len_ : mg "len" = none
  sum_ : mg "sum" = none
  range_ : mg "range" = none
  list_ : mg "list" = none
  enumerate_ : mg "enumerate" = none
  isinstance_ : mg "isinstance" = none
  int_ : mg "int" = none
  bool_ : mg "bool" = none
  all_ : mg "all" = none
  any_ : mg "any" = none
  max_ : mg "max" = none
  min_ : mg "min" = none
  sorted_ : mg "sorted" = none
  set_ : mg "set" = none
  reversed_ : mg "reversed" = none
  tuple_ : mg "tuple" = none

/-! ### a def that keeps its promise, wherever it stands -/
structure Dk (P : Program) (w : World) (K : PySem.W.Frag) (mg : Str → Option Value) (base : Heap) (CX : CXT) (k : Nat) (x : Str) (ps : List Str) (sp : Sp) : Prop where
  ex : ∃ (f : Addr) (fd : FuncData), FnOk P w K mg base CX k f fd ps sp ∧ mg x = some (.ref f) ∧ PySem.W.keepIn K (.ref f) = true ∧ Binds K fd ps []
theorem pe_callD {X : Cx} {CX : CXT} {k : Nat} {x : Str} {ps : List Str} {sp : Sp} {E : XK} {e : Expr} {es : List Expr} {t : TA} {p pos : Pos} (D : Dk X.prog X.w X.K X.mg X.base CX k x ps sp) (hr : Room k X.A) (hg : Gl X x) (hx : Passes CX X E)
    (ha : PA X (e :: es) t) (hdb : (x == ("__debug__" : Str)) = false := by decide) (he : starEach (e :: es) X.env = (false, eval e X.env) :: starEach es X.env := by rfl) (hpl : (backTo pos (starEach es X.env)).any (·.1) = false := by rfl) :
    PE X (.Call (.Name x p) (e :: es) [] pos) (tCall sp [] E t) := by
  obtain ⟨f, fd, F, m, kp, b⟩ := D.ex
  exact pe_call F hr hg m kp b .nil hx ha hdb he hpl

/-! ### rules with the written part named -/
section
variable {X : Cx} {K : PySem.W.Frag}
def rLen1 (K : PySem.W.Frag) : List V → Hp → VK → Prop := fun xs H Q => ∃ p ys, xs = [V.ref p] ∧ (SqL K H p ys ∨ SqT K H p ys) ∧ Q (.int ys.length) H
def rList1 (K : PySem.W.Frag) : List V → Hp → VK → Prop := fun xs H Q => ∃ p ys, xs = [V.ref p] ∧ (SqL K H p ys ∨ SqT K H p ys) ∧ ∀ l, H l = none → Q (.ref l) (upd H l (.lst ys))
theorem call_lenK (h : X.K = K) : CallR X (.builtin "len") (rLen1 K) := by
  subst h
  exact call_len_seq
theorem call_listK (h : X.K = K) : CallR X (.type "list") (rList1 K) := by
  subst h
  exact call_list_of
theorem cr_sumK (h : X.K = K) (hc : X.calm = true) : CallR X (.builtin "sum") (rSum K) := by
  subst h
  exact cr_sum hc
theorem cr_allK (h : X.K = K) (hc : X.calm = true) : CallR X (.builtin "all") (rAll K) := by
  subst h
  exact cr_all hc
theorem cr_anyK (h : X.K = K) (hc : X.calm = true) : CallR X (.builtin "any") (rAny K) := by
  subst h
  exact cr_any hc
theorem cr_sortedK (h : X.K = K) : CallR X (.builtin "sorted") (rSortedI K) := by
  subst h
  exact cr_sortedI
theorem call_isiK' (h : X.K = K) : CallR X (.builtin "isinstance") (rIsi K) := by
  subst h
  exact call_isi
theorem ix_listK (h : X.K = K) : IxR X (rIxL K) := by
  subst h
  exact ix_list
theorem ix_tupK (h : X.K = K) : IxR X (rIxT K) := by
  subst h
  exact ix_tup
theorem op_inK (h : X.K = K) : OpR X (compareOp .In) (rIn K false) := by
  subst h
  exact op_in_seq
theorem op_notInK (h : X.K = K) : OpR X (compareOp .NotIn) (rIn K true) := by
  subst h
  exact op_notIn_seq
theorem op_eqK (h : X.K = K) (hu : X.A.units + 64 < cLine) : OpR X (compareOp .Eq) (rEqD K) := by
  subst h
  exact op_eqD hu
theorem op_neK (h : X.K = K) (hu : X.A.units + 64 < cLine) : OpR X (compareOp .NotEq) (rNeD K) := by
  subst h
  exact op_neD hu
theorem sl_listK (h : X.K = K) : SlR X (rSlL K) := by
  subst h
  exact sl_list
end

/-! ### lists of numbers -/
def nl (L : List Nat) : List V := L.map fun (x : Nat) => V.int (x : Int)
def il (L : List Int) : List V := L.map V.int
theorem nl_len (L : List Nat) : (nl L).length = L.length := by unfold nl; rw [List.length_map]
theorem il_len (L : List Int) : (il L).length = L.length := by unfold il; rw [List.length_map]
theorem nl_il (L : List Nat) : nl L = il (L.map fun (x : Nat) => (x : Int)) := by
  unfold nl il
  rw [List.map_map]
  rfl
theorem nl_get {L : List Nat} {i : Nat} {x : Nat} (h : L[i]? = some x) : (nl L)[i]? = some (.int (x : Int)) := by
  unfold nl
  rw [List.getElem?_map, h]
  rfl
theorem nl_st {L : List Nat} {p : Nat} (h : p < L.length) : (nl L)[p]? = some (.int (st L p : Int)) := nl_get (st_get h)
theorem at_nl {L : List Nat} {p : Nat} (h : p < L.length) : atI (nl L) (p : Int) = some (.int (st L p : Int)) := atI_nat (nl_st h)
theorem nl_inv {L : List Nat} {i : Nat} {x : V} (h : (nl L)[i]? = some x) : ∃ (y : Nat), L[i]? = some y ∧ x = .int (y : Int) ∧ i < L.length := by
  unfold nl at h
  rw [List.getElem?_map] at h
  cases e : L[i]? with
  | none =>
    rw [e] at h
    cases h
  | some y =>
    rw [e] at h
    exact ⟨y, rfl, (Option.some.inj h).symm, (List.getElem?_eq_some_iff.mp e).1⟩
theorem il_inv {L : List Int} {i : Nat} {x : V} (h : (il L)[i]? = some x) : ∃ (y : Int), L[i]? = some y ∧ x = .int y ∧ i < L.length := by
  unfold il at h
  rw [List.getElem?_map] at h
  cases e : L[i]? with
  | none =>
    rw [e] at h
    cases h
  | some y =>
    rw [e] at h
    exact ⟨y, rfl, (Option.some.inj h).symm, (List.getElem?_eq_some_iff.mp e).1⟩

section
variable {K : PySem.W.Frag} {σ : L2.St} {H H' : Hp} {ta tb tc te tx td ty : TE} {t u : TT} {x y z v : V} {r r' : R2} {p q : Addr}
/-! ### comparisons -/
theorem rv_dec {g : Int → Int → V} {i j : Int} {w : V} (e : g i j = w) : RV (rI0 g) (.int i) (.int j) H w := by
  rw [← e]
  exact rv_I0
theorem rv_IW {C : Int → Int → Prop} {g : Int → Int → V} {i j : Int} {w : V} (hc : C i j) (e : g i j = w) : RV (rI C g) (.int i) (.int j) H w := by
  rw [← e]
  exact rv_I hc
theorem ev_chain {b c : Bool} (ha : Ev ta σ H x) (hb : Ev tb σ H y) (hc : Ev tc σ H z) (h1 : RV r x y H (.bl b)) (h2 : RV r' y z H (.bl c)) : Ev (tChain r r' ta tb tc) σ H (.bl (b && c)) := fun H1 e Q q =>
  ha H1 e _ fun H2 e2 => hb H2 (e.trans e2) _ fun H3 e3 => h1 H3 ((e.trans e2).trans e3) _ fun H4 e4 => ⟨b, rfl, by
    cases b with
    | true =>
      rw [if_pos rfl]
      exact hc H4 (((e.trans e2).trans e3).trans e4) _ fun H5 e5 => h2 H5 ((((e.trans e2).trans e3).trans e4).trans e5) Q fun H6 e6 => q H6 ((((e2.trans e3).trans e4).trans e5).trans e6)
    | false =>
      rw [if_neg Bool.false_ne_true]
      exact q H4 ((e2.trans e3).trans e4)⟩
theorem dpAll_int {K : PySem.W.Frag} {H : Hp} : ∀ L : List Int, DpAll K H (il L) (L.map PyData.int)
  | [] => .nil
  | x :: r => .cons (.int x) (dpAll_int r)
theorem dp_il {L : List Int} (h : SqL K H p (il L)) : Dp K H (.ref p) (.list (L.map PyData.int)) := .lst h (dpAll_int L)
theorem eqvAll_int : ∀ A B : List Int, PyData.eqvAll (A.map PyData.int) (B.map PyData.int) = decide (A = B)
  | [], [] => rfl
  | [], _ :: _ => rfl
  | _ :: _, [] => rfl
  | a :: r, b :: s => by
    show (PyData.eqv (.int a) (.int b) && PyData.eqvAll (r.map PyData.int) (s.map PyData.int)) = _
    rw [eqvAll_int r s]
    show ((a == b) && decide (r = s)) = decide (a :: r = b :: s)
    rw [Bool.eq_iff_iff]
    simp
theorem eqv_int (A B : List Int) : PyData.eqv (.list (A.map PyData.int)) (.list (B.map PyData.int)) = decide (A = B) := eqvAll_int A B
theorem canAll_int : ∀ A : List Int, PyData.canLayAll0 (A.map PyData.int) = true
  | [] => rfl
  | a :: r => by
    show (PyData.canLay0 (.int a) && PyData.canLayAll0 (r.map PyData.int)) = true
    rw [canAll_int r]
    rfl

theorem depthAll_int : ∀ A : List Int, PyData.depthAll (A.map PyData.int) = 0
  | [] => rfl
  | a :: r => by
    show max (PyData.depth (.int a)) (PyData.depthAll (r.map PyData.int)) = 0
    rw [depthAll_int r]
    rfl
theorem shaped_int (A : List Int) : SeqAt.shaped (.list (A.map PyData.int)) = true := by
  unfold SeqAt.shaped
  have h1 : PyData.canLay0 (.list (A.map PyData.int)) = true := canAll_int A
  have h2 : PyData.depth (.list (A.map PyData.int)) = 1 := by
    show PyData.depthAll (A.map PyData.int) + 1 = 1
    rw [depthAll_int]
  rw [h1, h2]
  rfl
theorem rv_eqI {A B : List Int} (h1 : SqL K H p (il A)) (h2 : SqL K H q (il B)) : RV (rEqD K) (.ref p) (.ref q) H (.bl (decide (A = B))) := fun H1 e Q k =>
  ⟨_, _, dp_il (ex_l e h1), dp_il (ex_l e h2), shaped_int A, shaped_int B, by
    rw [eqv_int]
    exact k H1 (Ex.refl H1)⟩
theorem rv_neI {A B : List Int} (h1 : SqL K H p (il A)) (h2 : SqL K H q (il B)) : RV (rNeD K) (.ref p) (.ref q) H (.bl (!decide (A = B))) := fun H1 e Q k =>
  ⟨_, _, dp_il (ex_l e h1), dp_il (ex_l e h2), shaped_int A, shaped_int B, by
    rw [eqv_int]
    exact k H1 (Ex.refl H1)⟩
theorem cast_inj {A B : List Nat} : (A.map fun (x : Nat) => (x : Int)) = (B.map fun (x : Nat) => (x : Int)) ↔ A = B := by
  refine ⟨fun h => ?_, fun h => by rw [h]⟩
  refine List.map_inj_right (fun x y e => ?_) |>.mp h
  omega
theorem rv_eqN {A B : List Nat} (h1 : SqL K H p (nl A)) (h2 : SqL K H q (nl B)) : RV (rEqD K) (.ref p) (.ref q) H (.bl (decide (A = B))) := by
  rw [nl_il] at h1 h2
  have h := rv_eqI h1 h2
  rw [decide_eq_decide.mpr cast_inj] at h
  exact h
theorem rv_neN {A B : List Nat} (h1 : SqL K H p (nl A)) (h2 : SqL K H q (nl B)) : RV (rNeD K) (.ref p) (.ref q) H (.bl (!decide (A = B))) := by
  rw [nl_il] at h1 h2
  have h := rv_neI h1 h2
  rw [decide_eq_decide.mpr cast_inj] at h
  exact h
theorem rv_neN0 {A B : List Nat} (h1 : SqL K H p (nl A)) (h2 : SqL K H q (nl B)) (e : A = B) : RV (rNeD K) (.ref p) (.ref q) H (.bl false) := by
  have h := rv_neN h1 h2
  rw [decide_eq_true e] at h
  exact h
theorem rv_eqN1 {A B : List Nat} (h1 : SqL K H p (nl A)) (h2 : SqL K H q (nl B)) (e : A = B) : RV (rEqD K) (.ref p) (.ref q) H (.bl true) := by
  have h := rv_eqN h1 h2
  rw [decide_eq_true e] at h
  exact h
/-- one number from a list of numbers, by its place -/
theorem rv_ixN {L : List Nat} {j : Nat} (h : SqL K H p (nl L)) (hj : j < L.length) : RV (rIxL K) (.ref p) (.int (j : Int)) H (.int (st L j : Int)) := rv_ixL h (at_nl hj)

/-! ### tests -/
theorem et_yes : EvT tYes σ H true := fun H1 _ _ q => q H1 (Ex.refl H1)
theorem et_orF {tt uu : TT} (h1 : EvT tt σ H false) (h2 : EvT uu σ H false) : EvT (tOr tt uu) σ H false := et_or h1 fun _ => h2
theorem et_notT {tt : TT} (h1 : EvT tt σ H true) : EvT (tNot tt) σ H false := et_not h1
theorem et_notF {tt : TT} (h1 : EvT tt σ H false) : EvT (tNot tt) σ H true := et_not h1
theorem et_andT {tt uu : TT} (h1 : EvT tt σ H true) (h2 : EvT uu σ H true) : EvT (tAnd tt uu) σ H true := et_and h1 fun _ => h2
theorem ev_andT (h1 : Ev ta σ H (.bl true)) (h2 : Ev tb σ H (.bl true)) : Ev (tAndV ta tb) σ H (.bl true) := ev_andV h1 fun _ => h2
theorem ev_notF (h1 : Ev ta σ H (.bl false)) : Ev (tNotV ta) σ H (.bl true) := ev_notV h1

/-! ### calls on values -/
theorem ev_isi {c : V} {t u : Value} {b : Bool} (ha : Ev ta σ H x) (hc : Ev tb σ H c) (hk : ClsV c u) (ht : ∀ H1, Ex H H1 → TyX K H1 x t) (hb : PySem.W.kitOne K t u = some b) : Ev (tCB (rIsi K) (tCons ta (tCons tb tNil))) σ H (.bl b) := fun H1 e Q q =>
  ha H1 e _ fun H2 e2 => hc H2 (e.trans e2) _ fun H3 e3 => ⟨x, c, t, u, b, rfl, hk, ht H3 ((e.trans e2).trans e3), hb, q H3 (e2.trans e3)⟩
theorem ev_isiInt {i : Int} (ha : Ev ta σ H (.int i)) : Ev (tCB (rIsi K) (tCons ta (tCons (tC (.ty "int")) tNil))) σ H (.bl true) := ev_isi ha ev_c (.ty "int") (fun _ _ => .base (.int i)) (kit_ty (by decide +kernel))
theorem ev_isiBool {i : Int} (ha : Ev ta σ H (.int i)) : Ev (tCB (rIsi K) (tCons ta (tCons (tC (.ty "bool")) tNil))) σ H (.bl false) := ev_isi ha ev_c (.ty "bool") (fun _ _ => .base (.int i)) (kit_ty (by decide +kernel))
theorem ty_list {xs : List V} (h : Rd H p (.lst xs)) {H1 : Hp} (e : Ex H H1) : TyX K H1 (.ref p) (.type "list") := by
  rcases h with h | ⟨o, h⟩
  · exact .base (.lst (e _ _ h))
  · exact .base (.frz (e _ _ h))
theorem ev_isiList {xs : List V} (ha : Ev ta σ H (.ref p)) (h : Rd H p (.lst xs)) : Ev (tCB (rIsi K) (tCons ta (tCons (tC (.ty "list")) tNil))) σ H (.bl true) := ev_isi ha ev_c (.ty "list") (fun _ e => ty_list h e) (kit_ty (by decide +kernel))
theorem ev_lenL {xs : List V} (ha : Ev ta σ H (.ref p)) (h : SqL K H p xs) : Ev (tCB (rLen1 K) (tCons ta tNil)) σ H (.int (xs.length : Int)) := ev_len ha h
theorem ev_lenNl {L : List Nat} (ha : Ev ta σ H (.ref p)) (h : SqL K H p (nl L)) : Ev (tCB (rLen1 K) (tCons ta tNil)) σ H (.int (L.length : Int)) := by
  have h1 := ev_lenL ha h
  rw [nl_len] at h1
  exact h1
theorem ev_lenIl {L : List Int} (ha : Ev ta σ H (.ref p)) (h : SqL K H p (il L)) : Ev (tCB (rLen1 K) (tCons ta tNil)) σ H (.int (L.length : Int)) := by
  have h1 := ev_lenL ha h
  rw [il_len] at h1
  exact h1
theorem el_listOf {xs : List V} (ha : Ev ta σ H (.ref p)) (h : SqL K H p xs) : EvL (tCB (rList1 K) (tCons ta tNil)) σ H xs := el_list ha h
theorem ev_sum {ns : List Int} (ha : Ev ta σ H (.ref p)) (h : SqL K H p (il ns)) : Ev (tCB (rSum K) (tCons ta tNil)) σ H (.int ns.sum) := fun H1 e Q q =>
  ha H1 e _ fun H2 e2 => ⟨p, ns, rfl, ex_l (e.trans e2) h, q H2 e2⟩
theorem ev_all {bs : List Bool} (ha : EvL ta σ H (bs.map V.bl)) : Ev (tCB (rAll K) (tCons ta tNil)) σ H (.bl (bs.all id)) := fun H1 e Q q =>
  ha H1 e _ fun p H2 _ e2 h2 => ⟨p, bs, rfl, sq_of h2, q H2 e2⟩
theorem ev_allT {n : Nat} (ha : EvL ta σ H (List.replicate n (V.bl true))) : Ev (tCB (rAll K) (tCons ta tNil)) σ H (.bl true) := by
  have e : List.replicate n (V.bl true) = (List.replicate n true).map V.bl := by rw [List.map_replicate]
  rw [e] at ha
  have h := ev_all (K := K) ha
  rw [show (List.replicate n true).all id = true from List.all_eq_true.mpr fun x hx => (List.mem_replicate.mp hx).2] at h
  exact h
/-- a call of a def: a value, a new list -/
theorem ev_callV {sp : Sp} {vs : List V} {E : XK} {ta : TA} (h : EvA ta σ H vs) (hs : SpV sp vs H z) : Ev (tCall sp [] E ta) σ H z := ev_call h (by rw [List.append_nil]; exact hs)
theorem el_callL {sp : Sp} {vs xs : List V} {E : XK} {ta : TA} (h : EvA ta σ H vs) (hs : SpL sp vs H xs) : EvL (tCall sp [] E ta) σ H xs := el_call h (by rw [List.append_nil]; exact hs)
/-- .. one of whose arguments is a new list -/
theorem ev_callN1 {sp : Sp} {xs : List V} {E : XK} (h : EvL ta σ H xs) (hs : ∀ p H1, Ex H H1 → H1 p = some (.lst xs) → SpV sp [.ref p] H1 z) : Ev (tCall sp [] E (tCons ta tNil)) σ H z := fun H1 e Q q =>
  h H1 e _ fun p H2 _ e2 hp => hs p H2 (e.trans e2) hp H2 (Ex.refl H2) Q (fun H3 e3 => q H3 (e2.trans e3)) E

/-! ### dicts with numbers for keys -/
def valI (kvs : List (Key × V)) (k : Int) : Option V := valV kvs (.inl k)
theorem valI_put (kvs : List (Key × V)) (k j : Int) (y : V) : valI (putK kvs (.inl k) y) j = if j = k then some y else valI kvs j := by
  unfold valI
  rw [valV_put]
  by_cases e : j = k
  · subst e
    rw [if_pos rfl, if_pos rfl]
  · rw [if_neg e, if_neg fun q => e (Sum.inl.inj q)]
theorem putK_len (kvs : List (Key × V)) (k : Key) (v : V) : (putK kvs k v).length ≤ kvs.length + 1 := by
  unfold putK
  split
  · rw [List.length_map]
    omega
  · rw [List.length_append]
    exact Nat.le_refl _
/-- a dict at d: n entries at most, its values by M -/
def DM (H : Hp) (d : Addr) (n : Nat) (M : Int → Option V) : Prop := ∃ kvs : List (Key × V), H d = some (.dK kvs) ∧ kvs.length ≤ n ∧ ∀ k : Int, valI kvs k = M k
theorem DM.ex {n : Nat} {M : Int → Option V} (h : DM H p n M) (e : Ex H H') : DM H' p n M := by
  obtain ⟨kvs, h1, h2, h3⟩ := h
  exact ⟨kvs, e _ _ h1, h2, h3⟩
theorem dm_nil : DM (upd H p (.dK [])) p 0 (fun _ => none) := ⟨[], upd_same, Nat.le_refl 0, fun _ => rfl⟩
theorem DM.get {n : Nat} {M : Int → Option V} {k : Int} (h : DM H p n M) : DGet H p (.int k) (M k) := by
  obtain ⟨kvs, h1, h2, h3⟩ := h
  rw [← h3 k]
  exact DGet.k (k := Sum.inl k) h1
theorem ev_din {n : Nat} {M : Int → Option V} {k : Int} (hk : Ev ty σ H (.int k)) (hd : Ev td σ H (.ref p)) (h : DM H p n M) : Ev (tDIn ty td) σ H (.bl (M k).isSome) := fun H1 e Q q =>
  hk H1 e _ fun H2 e2 => hd H2 (e.trans e2) _ fun H3 e3 => ⟨p, M k, rfl, (h.ex ((e.trans e2).trans e3)).get, q H3 (e2.trans e3)⟩
theorem ev_dnotin {n : Nat} {M : Int → Option V} {k : Int} (hk : Ev ty σ H (.int k)) (hd : Ev td σ H (.ref p)) (h : DM H p n M) : Ev (tDNotIn ty td) σ H (.bl (!(M k).isSome)) := fun H1 e Q q =>
  hk H1 e _ fun H2 e2 => hd H2 (e.trans e2) _ fun H3 e3 => ⟨p, M k, rfl, (h.ex ((e.trans e2).trans e3)).get, q H3 (e2.trans e3)⟩
theorem ev_dget {n : Nat} {M : Int → Option V} {k : Int} (hd : Ev td σ H (.ref p)) (hk : Ev ty σ H (.int k)) (h : DM H p n M) (hm : M k = some v) : Ev (tDGet td ty) σ H v := fun H1 e Q q =>
  hd H1 e _ fun H2 e2 => hk H2 (e.trans e2) _ fun H3 e3 => ⟨p, v, rfl, by
    rw [← hm]
    exact (h.ex ((e.trans e2).trans e3)).get, q H3 (e2.trans e3)⟩
variable {D : Ends} {tu tw tz : TS}
theorem s_dput {n : Nat} {M : Int → Option V} {k : Int} (hv : Ev tx σ H v) (hd : Ev td σ H (.ref p)) (hk : Ev ty σ H (.int k)) (h : DM H p n M) (hn : n < 100000)
    (go : ∀ H1, Ex H H1 → ∀ o, DM (upd H1 p o) p (n + 1) (fun j => if j = k then some v else M j) → D.nx σ (upd H1 p o)) : sDPut td ty tx D σ H :=
  hv H (Ex.refl H) _ fun H1 e1 => hd H1 e1 _ fun H2 e2 => hk H2 (e1.trans e2) _ fun H3 e3 => by
    obtain ⟨kvs, h1, h2, h3⟩ := h
    have h4 := ((e1.trans e2).trans e3) _ _ h1
    refine ⟨p, _, rfl, DPut.k (k := Sum.inl k) h4 (sz_lt (by omega)), ?_⟩
    refine go H3 ((e1.trans e2).trans e3) _ ⟨_, upd_same, Nat.le_trans (putK_len _ _ _) (by omega), fun j => ?_⟩
    rw [valI_put, h3]
theorem q_dput {n : Nat} {M : Int → Option V} {k : Int} (hv : Ev tx σ H v) (hd : Ev td σ H (.ref p)) (hk : Ev ty σ H (.int k)) (h : DM H p n M) (hn : n < 100000)
    (go : ∀ H1, Ex H H1 → ∀ o, DM (upd H1 p o) p (n + 1) (fun j => if j = k then some v else M j) → tz D σ (upd H1 p o)) : tSeq (sDPut td ty tx) tz D σ H := s_dput (D := { D with nx := tz D }) hv hd hk h hn go
theorem q_dnew {i : Nat} (k : ∀ d H1, H d = none → Ex H H1 → DM H1 d 0 (fun _ => none) → tz D (σ.set i (some (.ref d))) H1) : tSeq (tAsg tDNewK (gName i)) tz D σ H := fun d hd => k d _ hd (Ex.new hd) dm_nil

/-! ### statements -/
/-- an if whose test never holds -/
theorem q_skip (h : EvT t σ H false) (k : ∀ H1, Ex H H1 → tz D σ H1) : tSeq (tIfS t tu tNext) tz D σ H := q_when h (fun b => nomatch b) fun _ H1 e => k H1 e
theorem s_skip (h : EvT t σ H false) (k : ∀ H1, Ex H H1 → D.nx σ H1) : tIfS t tu tNext D σ H := s_when h (fun b => nomatch b) fun _ H1 e => k H1 e
/-- a def's end by a list, by a value -/
theorem ret_L {xs : List V} {H0 : Hp} {rt : VK} (q : RetL xs H0 rt) (e : Ex H0 H) (h : EvL te σ H xs) : te σ H rt := h H (Ex.refl H) _ fun p H2 n e2 h2 => q.go e n e2 h2
theorem ret_V {H0 : Hp} {rt : VK} (q : RetV v H0 rt) (e : Ex H0 H) (h : Ev te σ H v) : te σ H rt := h H (Ex.refl H) _ fun H2 e2 => q H2 (e.trans e2)
/-- a name that holds a list made here is given back -/
theorem ret_N {xs : List V} {H0 : Hp} {rt : VK} {i : Nat} (q : RetL xs H0 rt) (e : Ex H0 H) (n : H0 p = none) (h : H p = some (.lst xs)) (hi : σ[i]? = some (some (.ref p))) : tVar i σ H rt := ⟨_, hi, q p H n e h⟩

/-! ### comprehensions -/
theorem wipe1 (σ : L2.St) (j : Nat) (x : V) : wipe ((wipe σ [j]).set j (some x)) [j] = wipe σ [j] := by
  show (((σ.set j none).set j (some x)).set j none) = σ.set j none
  rw [List.set_set, List.set_set]
theorem given_all (n : Nat) (v : Nat → V) : given n (fun _ => true) v = (List.range n).map v := by
  unfold given
  rw [List.filter_eq_self.mpr fun _ _ => rfl]
/-- [e for x in xs], xs a list of numbers -/
theorem el_mapN {L : List Nat} {tl : TE} {j : Nat} (g : Nat → V) (h : Ev tl σ H (.ref p)) (hx : SqL K H p (nl L)) (hz : L.length ≤ 40000)
    (he : ∀ (x : Nat) H1, Ex H H1 → x ∈ L → Ev te ((wipe σ [j]).set j (some (.int (x : Int)))) H1 (g x)) : EvL (tLc (iList K tl) (gName j) tYes te [j]) σ H (L.map g) := by
  have h1 := el_lcL (j := j) (te := te) (vs := [j]) (t := tYes) (fun _ => true) (fun i => g (st L i)) h hx (by rw [nl_len]; exact hz) (fun x => wipe1 σ j x) (fun _ _ _ _ _ => et_yes) (fun i x H1 e hi _ => by
    obtain ⟨y, h2, rfl, h3⟩ := nl_inv hi
    have h4 : st L i = y := by
      rw [st_get h3] at h2
      exact Option.some.inj h2
    rw [h4]
    exact he y H1 e (List.mem_of_getElem? h2))
  rw [given_all, nl_len] at h1
  have e : (List.range L.length).map (fun i => g (st L i)) = L.map g := by
    refine List.ext_getElem? fun i => ?_
    rw [List.getElem?_map, List.getElem?_map]
    by_cases hi : i < L.length
    · rw [List.getElem?_range hi, st_get hi]
      rfl
    · rw [List.getElem?_eq_none (by rw [List.length_range]; omega), List.getElem?_eq_none (by omega)]
      rfl
  rw [e] at h1
  exact h1
/-- .. all items alike -/
theorem el_mapNc {L : List Nat} {tl : TE} {j : Nat} (h : Ev tl σ H (.ref p)) (hx : SqL K H p (nl L)) (hz : L.length ≤ 40000)
    (he : ∀ (x : Nat) H1, Ex H H1 → x ∈ L → Ev te ((wipe σ [j]).set j (some (.int (x : Int)))) H1 v) : EvL (tLc (iList K tl) (gName j) tYes te [j]) σ H (List.replicate L.length v) := by
  have h1 := el_mapN (fun _ => v) h hx hz he
  rw [List.map_const'] at h1
  exact h1
theorem el_mapI {L : List Int} {tl : TE} {j : Nat} (g : Int → V) (h : Ev tl σ H (.ref p)) (hx : SqL K H p (il L)) (hz : L.length ≤ 40000)
    (he : ∀ (x : Int) H1, Ex H H1 → x ∈ L → Ev te ((wipe σ [j]).set j (some (.int x))) H1 (g x)) : EvL (tLc (iList K tl) (gName j) tYes te [j]) σ H (L.map g) := by
  have h1 := el_lcL (j := j) (te := te) (vs := [j]) (t := tYes) (fun _ => true) (fun i => g (L.getD i 0)) h hx (by rw [il_len]; exact hz) (fun x => wipe1 σ j x) (fun _ _ _ _ _ => et_yes) (fun i x H1 e hi _ => by
    obtain ⟨y, h2, rfl, h3⟩ := il_inv hi
    have h4 : L.getD i 0 = y := by
      rw [List.getD_eq_getElem?_getD, h2]
      rfl
    rw [h4]
    exact he y H1 e (List.mem_of_getElem? h2))
  rw [given_all, il_len] at h1
  have e : (List.range L.length).map (fun i => g (L.getD i 0)) = L.map g := by
    refine List.ext_getElem? fun i => ?_
    rw [List.getElem?_map, List.getElem?_map]
    by_cases hi : i < L.length
    · rw [List.getElem?_range hi, List.getElem?_eq_getElem hi]
      show some (g (L.getD i 0)) = some (g L[i])
      rw [List.getD_eq_getElem?_getD, List.getElem?_eq_getElem hi]
      rfl
    · rw [List.getElem?_eq_none (by rw [List.length_range]; omega), List.getElem?_eq_none (by omega)]
      rfl
  rw [e] at h1
  exact h1
theorem el_mapIc {L : List Int} {tl : TE} {j : Nat} (h : Ev tl σ H (.ref p)) (hx : SqL K H p (il L)) (hz : L.length ≤ 40000)
    (he : ∀ (x : Int) H1, Ex H H1 → x ∈ L → Ev te ((wipe σ [j]).set j (some (.int x))) H1 v) : EvL (tLc (iList K tl) (gName j) tYes te [j]) σ H (List.replicate L.length v) := by
  have h1 := el_mapI (fun _ => v) h hx hz he
  rw [List.map_const'] at h1
  exact h1
/-- [e for k in range(n)] -/
theorem el_mapR {ta : TA} {j n : Nat} (g : Nat → V) (h : EvA ta σ H [.int (n : Int)]) (hz : n ≤ 40000)
    (he : ∀ (i : Nat) H1, Ex H H1 → i < n → Ev te ((wipe σ [j]).set j (some (.int (i : Int)))) H1 (g i)) : EvL (tLc (iRng1 ta) (gName j) tYes te [j]) σ H ((List.range n).map g) := by
  have h1 := el_lcR1 (j := j) (te := te) (vs := [j]) (t := tYes) (fun _ => true) g h (by omega) (fun x => wipe1 σ j x) (fun _ _ _ _ => et_yes) (fun i H1 e hi _ => he i H1 e (by omega))
  rw [given_all, Int.toNat_natCast] at h1
  exact h1
/-- [e for k in range(n) if t] -/
theorem el_filR {ta : TA} {j n : Nat} (f : Nat → Bool) (g : Nat → V) (h : EvA ta σ H [.int (n : Int)]) (hz : n ≤ 40000)
    (ht : ∀ (i : Nat) H1, Ex H H1 → i < n → EvT t ((wipe σ [j]).set j (some (.int (i : Int)))) H1 (f i))
    (he : ∀ (i : Nat) H1, Ex H H1 → i < n → Ev te ((wipe σ [j]).set j (some (.int (i : Int)))) H1 (g i)) : EvL (tLc (iRng1 ta) (gName j) t te [j]) σ H (((List.range n).filter f).map g) := by
  have h1 := el_lcR1 (j := j) (te := te) (vs := [j]) (t := t) f g h (by omega) (fun x => wipe1 σ j x) (fun i H1 e hi => ht i H1 e (by omega)) (fun i H1 e hi _ => he i H1 e (by omega))
  rw [Int.toNat_natCast] at h1
  exact h1
theorem ea1 (h : Ev ta σ H x) : EvA (tCons ta tNil) σ H [x] := ea_cons h ea_nil
theorem ea2 (h : Ev ta σ H x) (h2 : Ev tb σ H y) : EvA (tCons ta (tCons tb tNil)) σ H [x, y] := ea_cons h (ea1 h2)
theorem ea3 (h : Ev ta σ H x) (h2 : Ev tb σ H y) (h3 : Ev tc σ H z) : EvA (tCons ta (tCons tb (tCons tc tNil))) σ H [x, y, z] := ea_cons h (ea2 h2 h3)

/-! ### enumerate -/
theorem for_enum {a : Addr} {xs : List V} {g : TG} {tb : TS} {D : Ends} {σ : L2.St} {H : Hp} (Pv : Nat → L2.St → Hp → Prop) (h0 : Pv 0 σ H) (hl : ∀ i σ H, i ≤ xs.length → Pv i σ H → SqL K H a xs)
    (hs : ∀ i x σ H T, xs[i]? = some x → Pv i σ H → H T = none → g (.ref T) σ (upd H T (.tup [.int (i : Nat), x])) fun σ2 H2 => tb { D with nx := Pv (i + 1), ct := Pv (i + 1), bk := D.nx } σ2 H2) (hd : ∀ σ H, Pv xs.length σ H → D.nx σ H) :
    ∃ W : Nat → Nat → L2.St → Hp → Prop, (∃ m, W 0 m σ H) ∧ ∀ i m σ H, W i m σ H →
      ((Ite K a).stop i H ∧ D.nx σ H) ∨ ((Ite K a).go i H ∧ ∃ N : L2.St → Hp → Prop, (∀ σ' H', N σ' H' → ∃ m', m' < m ∧ W (i + 1) m' σ' H') ∧ ∀ x H', (Ite K a).yld i H x H' → g x σ H' fun σ2 H2 => tb { D with nx := N, ct := N, bk := D.nx } σ2 H2) := by
  refine ⟨fun i m σ H => m = xs.length - i ∧ i ≤ xs.length ∧ Pv i σ H, ⟨xs.length, by simp, Nat.zero_le _, h0⟩, ?_⟩
  rintro i m σ H ⟨rfl, hi, p⟩
  have q := hl i σ H hi p
  by_cases hlt : i < xs.length
  · refine .inr ⟨⟨xs, xs[i], q, by simp [hlt]⟩, Pv (i + 1), fun σ' H' p' => ⟨xs.length - (i + 1), by omega, rfl, hlt, p'⟩, fun v H' y => ?_⟩
    obtain ⟨T, x, rfl, nT, rfl, f⟩ := y
    exact hs i x σ H T (f xs q) p nT
  · have e : i = xs.length := by omega
    subst e
    exact .inl ⟨⟨xs, q, Nat.le_refl _⟩, hd σ H p⟩
theorem lc_enum {a : Addr} {xs : List V} {g : TG} {tt : TT} {te : TE} {vs : List Nat} {σ : L2.St} {H1 : Hp} {D : Addr} {Qd : Hp → Prop} (Pv : Nat → Hp → Prop) (h0 : Pv 0 (upd H1 D (.lst []))) (hl : ∀ i H, i ≤ xs.length → Pv i H → SqL K H a xs)
    (hs : ∀ i x H T, xs[i]? = some x → Pv i H → H T = none → g (.ref T) (wipe σ vs) (upd H T (.tup [.int (i : Nat), x])) fun σ2 H2 => wipe σ2 vs = wipe σ vs ∧ tt σ2 H2 fun b H3 =>
      if b = true then te σ2 H3 fun y H4 => ∃ acc, H4 D = some (.lst acc) ∧ acc.length < sizeLine ∧ Pv (i + 1) (upd H4 D (.lst (acc ++ [y]))) else Pv (i + 1) H3) (hd : ∀ H, Pv xs.length H → Qd H) :
    ∃ W : Nat → Nat → Hp → Prop, (∃ m, W 0 m (upd H1 D (.lst []))) ∧ ∀ i m H, W i m H →
      ((Ite K a).stop i H ∧ Qd H) ∨ ((Ite K a).go i H ∧ ∃ Nx : Hp → Prop, (∀ H', Nx H' → ∃ m', m' < m ∧ W (i + 1) m' H') ∧ ∀ x H', (Ite K a).yld i H x H' → g x (wipe σ vs) H' fun σ2 H2 => wipe σ2 vs = wipe σ vs ∧ tt σ2 H2 fun b H3 =>
        if b = true then te σ2 H3 fun y H4 => ∃ acc, H4 D = some (.lst acc) ∧ acc.length < sizeLine ∧ Nx (upd H4 D (.lst (acc ++ [y]))) else Nx H3) := by
  refine ⟨fun i m H => m = xs.length - i ∧ i ≤ xs.length ∧ Pv i H, ⟨xs.length, by simp, Nat.zero_le _, h0⟩, ?_⟩
  rintro i m H ⟨rfl, hi, p⟩
  have q := hl i H hi p
  by_cases hlt : i < xs.length
  · refine .inr ⟨⟨xs, xs[i], q, by simp [hlt]⟩, Pv (i + 1), fun H' p' => ⟨xs.length - (i + 1), by omega, rfl, hlt, p'⟩, fun v H' y => ?_⟩
    obtain ⟨T, x, rfl, nT, rfl, f⟩ := y
    exact hs i x H T (f xs q) p nT
  · have e : i = xs.length := by omega
    subst e
    exact .inl ⟨⟨xs, q, Nat.le_refl _⟩, hd H p⟩
/-- two names from a pair -/
abbrev g2 (K : PySem.W.Frag) (i j : Nat) : TG := gTup K 2 (gCons (gName i) (gCons (gName j) gNil))
theorem g2_go {i j : Nat} {T : Addr} {a b : V} {Q : L2.St → Hp → Prop} (h : SqT K H T [a, b]) (q : Q ((σ.set i (some a)).set j (some b)) H) : g2 K i j (.ref T) σ H Q :=
  ⟨T, [a, b], rfl, h, rfl, a, [b], rfl, b, [], rfl, rfl, q⟩
/-- for i, x in enumerate(xs) -/
theorem s_forE {a : Addr} {xs : List V} {tl : TE} {i j : Nat} (h : Ev tl σ H (.ref a)) (hx : SqL K H a xs) (Pv : Nat → L2.St → Hp → Prop) (h0 : ∀ H1, Ex H H1 → Pv 0 σ H1) (hl : ∀ i σ' H', i ≤ xs.length → Pv i σ' H' → SqL K H' a xs)
    (hs : ∀ k x σ' H' H2, xs[k]? = some x → Pv k σ' H' → Ex H' H2 → (∀ b, H2 b = none → H' b = none) → tu { D with nx := Pv (k + 1), ct := Pv (k + 1), bk := D.nx } ((σ'.set i (some (.int (k : Int)))).set j (some x)) H2) (hd : ∀ σ' H', Pv xs.length σ' H' → D.nx σ' H') :
    tFor (iEnum K (tCons tl tNil)) (g2 K i j) tu D σ H :=
  h H (Ex.refl H) _ fun H1 e => ⟨a, xs, rfl, ex_l e hx, for_enum Pv (h0 H1 e) hl (fun k x σ' H' T hk p nT => g2_go (st_of upd_same) (hs k x σ' H' _ hk p (Ex.new nT) fun b hb => fresh_back (Ex.new nT) hb)) hd⟩
theorem q_forE {a : Addr} {xs : List V} {tl : TE} {i j : Nat} (h : Ev tl σ H (.ref a)) (hx : SqL K H a xs) (Pv : Nat → L2.St → Hp → Prop) (h0 : ∀ H1, Ex H H1 → Pv 0 σ H1) (hl : ∀ i σ' H', i ≤ xs.length → Pv i σ' H' → SqL K H' a xs)
    (hs : ∀ k x σ' H' H2, xs[k]? = some x → Pv k σ' H' → Ex H' H2 → (∀ b, H2 b = none → H' b = none) → tu { D with nx := Pv (k + 1), ct := Pv (k + 1), bk := tz D } ((σ'.set i (some (.int (k : Int)))).set j (some x)) H2) (hd : ∀ σ' H', Pv xs.length σ' H' → tz D σ' H') :
    tSeq (tFor (iEnum K (tCons tl tNil)) (g2 K i j) tu) tz D σ H := s_forE (D := { D with nx := tz D }) h hx Pv h0 hl hs hd
theorem wipe2 (σ : L2.St) (i j : Nat) (hij : i ≠ j) (x y : V) : wipe (((wipe σ [i, j]).set i (some x)).set j (some y)) [i, j] = wipe σ [i, j] := by
  show ((((((σ.set j none).set i none).set i (some x)).set j (some y)).set j none).set i none) = (σ.set j none).set i none
  rw [List.set_set, List.set_set, List.set_comm _ _ hij.symm, List.set_set, List.set_comm _ _ hij.symm, List.set_set]
  first
    | done
    | rw [List.set_comm _ _ hij, List.set_set]
/-- [e for i, x in enumerate(xs) if t] -/
theorem el_lcE {a : Addr} {xs : List V} {tl : TE} {i j : Nat} (hij : i ≠ j) (f : Nat → Bool) (g : Nat → V) (h : Ev tl σ H (.ref a)) (hx : SqL K H a xs) (hz : xs.length ≤ 40000)
    (ht : ∀ (k : Nat) (x : V) H1, Ex H H1 → xs[k]? = some x → EvT t (((wipe σ [i, j]).set i (some (.int (k : Int)))).set j (some x)) H1 (f k))
    (he : ∀ (k : Nat) (x : V) H1, Ex H H1 → xs[k]? = some x → f k = true → Ev te (((wipe σ [i, j]).set i (some (.int (k : Int)))).set j (some x)) H1 (g k)) :
    EvL (tLc (iEnum K (tCons tl tNil)) (g2 K i j) t te [i, j]) σ H (given xs.length f g) := fun H0 e Q q => h H0 e _ fun H1 e1 => ⟨a, xs, rfl, ex_l (e.trans e1) hx, fun Dl hD =>
  lc_enum (xs := xs) (Cw H1 f g Dl) ⟨hD, Ex.new hD, upd_same⟩ (fun i H' _ p => ex_l ((e.trans e1).trans p.2.1) hx) (fun k x H' T hk p nT => g2_go (st_of upd_same) ⟨wipe2 σ i j hij _ _, by
    have hT : Dl ≠ T := ne_of_none p.2.2 nT
    refine cw_turn (p := ⟨p.1, p.2.1.trans (Ex.new nT), by rw [upd_ne hT]; exact p.2.2⟩) (by have := (List.getElem?_eq_some_iff.mp hk).1; omega) (ht k x H1 (e.trans e1) hk) (fun hf => he k x H1 (e.trans e1) hk hf)⟩)
    (fun H' p => q Dl H' (fresh_back e1 p.1) (e1.trans p.2.1) p.2.2)⟩

/-! ### numbers that are not negative -/
theorem vdiv (x m : Nat) : V.int ((x : Int).fdiv (m : Int)) = V.int ((x / m : Nat) : Int) := by
  rw [Int.fdiv_eq_ediv_of_nonneg _ (Int.natCast_nonneg m), Int.natCast_ediv]
theorem vmod (x m : Nat) : V.int ((x : Int).fmod (m : Int)) = V.int ((x % m : Nat) : Int) := by
  rw [Int.fmod_eq_emod_of_nonneg _ (Int.natCast_nonneg m), Int.natCast_emod]
theorem vadd (x m : Nat) : V.int ((x : Int) + (m : Int)) = V.int ((x + m : Nat) : Int) := by rw [Int.natCast_add]
theorem rv_eqB {i j : Int} {b : Bool} (e : decide (i = j) = b) : RV rEq (.int i) (.int j) H (.bl b) := by
  have h := rv_eq (H := H) (x := .int i) (y := .int j) rfl
  rw [show decide (V.int i = V.int j) = b by
    rw [← e]
    exact decide_eq_decide.mpr ⟨fun h => V.int.inj h, fun h => by rw [h]⟩] at h
  exact h
theorem rv_neB {i j : Int} {b : Bool} (e : (!decide (i = j)) = b) : RV rNe (.int i) (.int j) H (.bl b) := by
  have h := rv_ne (H := H) (x := .int i) (y := .int j) rfl
  rw [show decide (V.int i = V.int j) = decide (i = j) from decide_eq_decide.mpr ⟨fun h => V.int.inj h, fun h => by rw [h]⟩, e] at h
  exact h
/-- a number within, by % of any number -/
theorem fmod_lt (x : Int) {m : Nat} (h : 0 < m) : ∃ r : Nat, x.fmod (m : Int) = (r : Int) ∧ r < m := by
  have h1 : (0 : Int) < m := by omega
  have h2 := Int.fmod_nonneg_of_pos x h1
  have h3 := Int.fmod_lt_of_pos x h1
  exact ⟨(x.fmod m).toNat, by omega, by omega⟩

/-- .. enumerate of a new list -/
theorem el_lcNE {xs : List V} {tl : TE} {i j : Nat} (hij : i ≠ j) (f : Nat → Bool) (g : Nat → V) (h : EvL tl σ H xs) (hz : xs.length ≤ 40000)
    (ht : ∀ (k : Nat) (x : V) H1, Ex H H1 → xs[k]? = some x → EvT t (((wipe σ [i, j]).set i (some (.int (k : Int)))).set j (some x)) H1 (f k))
    (he : ∀ (k : Nat) (x : V) H1, Ex H H1 → xs[k]? = some x → f k = true → Ev te (((wipe σ [i, j]).set i (some (.int (k : Int)))).set j (some x)) H1 (g k)) :
    EvL (tLc (iEnum K (tCons tl tNil)) (g2 K i j) t te [i, j]) σ H (given xs.length f g) := fun H0 e Q q => h H0 e _ fun a H1 ha e1 hx => ⟨a, xs, rfl, sq_of hx, fun Dl hD =>
  lc_enum (xs := xs) (Cw H1 f g Dl) ⟨hD, Ex.new hD, upd_same⟩ (fun i H' _ p => sq_of (p.2.1 a _ hx)) (fun k x H' T hk p nT => g2_go (st_of upd_same) ⟨wipe2 σ i j hij _ _, by
    have hT : Dl ≠ T := ne_of_none p.2.2 nT
    refine cw_turn (p := ⟨p.1, p.2.1.trans (Ex.new nT), by rw [upd_ne hT]; exact p.2.2⟩) (by have := (List.getElem?_eq_some_iff.mp hk).1; omega) (ht k x H1 (e.trans e1) hk) (fun hf => he k x H1 (e.trans e1) hk hf)⟩)
    (fun H' p => q Dl H' (fresh_back e1 p.1) (e1.trans p.2.1) p.2.2)⟩
/-- a name is given what a call gives back -/
theorem q_asgX {sp : Sp} {vs : List V} {E : XK} {ta : TA} {i : Nat} (h : EvA ta σ H vs) (hs : ∀ H1, Ex H H1 → sp vs H1 (fun v H2 => tz D (σ.set i (some v)) H2) E) : tSeq (tAsg (tCall sp [] E ta) (gName i)) tz D σ H :=
  h H (Ex.refl H) _ fun H1 e => by
    rw [List.append_nil]
    exact hs H1 e
theorem nl_set {L : List Nat} {j x : Nat} : (nl L).set j (.int (x : Int)) = nl (L.set j x) := by
  unfold nl
  rw [List.map_set]
theorem lead_of {n : Nat} (v : Nat → Int) (h : ∀ k, k < n → 0 ≤ v k ∧ v k < n) : ∃ L, Lead L ∧ L.length = n ∧ (List.range n).map (fun k => V.int (v k)) = nl L := by
  refine ⟨(List.range n).map fun k => (v k).toNat, fun x hx => ?_, by rw [List.length_map, List.length_range], ?_⟩
  · rw [List.length_map, List.length_range]
    obtain ⟨k, hk, rfl⟩ := List.mem_map.mp hx
    have := h k (List.mem_range.mp hk)
    omega
  · unfold nl
    rw [List.map_map]
    refine List.map_congr_left fun k hk => ?_
    have := h k (List.mem_range.mp hk)
    show V.int (v k) = V.int ((v k).toNat : Int)
    rw [Int.toNat_of_nonneg this.1]
theorem Lead.set {L : List Nat} (h : Lead L) {j x : Nat} (hx : x < L.length) : Lead (L.set j x) := fun y hy => by
  rw [List.length_set]
  rcases List.mem_or_eq_of_mem_set hy with h1 | rfl
  · exact h y h1
  · exact hx

theorem ev_ifOr {b : Bool} {i j : Int} (h : EvT t σ H b) (h1 : Ev ta σ H (.int i)) (h2 : Ev tb σ H (.int j)) : Ev (tIf t ta tb) σ H (.int (if b = true then i else j)) := by
  cases b with
  | true => exact ev_if h (fun _ => h1) (fun b => nomatch b)
  | false => exact ev_if h (fun b => nomatch b) (fun _ => h2)
theorem cutV_mem {xs : List V} {lo hi : Option Int} {i : Nat} {x : V} (h : (cutV xs lo hi)[i]? = some x) : x ∈ xs := by
  have h1 := List.mem_of_getElem? h
  unfold cutV at h1
  exact List.mem_of_mem_drop (List.mem_of_mem_take h1)
theorem mem_il {ns : List Int} {x : V} (h : x ∈ il ns) : ∃ z, z ∈ ns ∧ x = .int z := by
  unfold il at h
  obtain ⟨z, h1, h2⟩ := List.mem_map.mp h
  exact ⟨z, h1, h2.symm⟩
theorem nl_tm (L : List Nat) (n : Nat) : (List.range L.length).map (fun i => V.int (it L n i : Int)) = nl (tm L n) := by
  unfold nl tm
  rw [List.map_map]
  rfl
theorem pos_of_mem {ns : List Int} {z : Int} (h : z ∈ ns) : 0 < ns.length := List.length_pos_of_mem h

theorem el_callN2 {sp : Sp} {xs zs : List V} {E : XK} (h : EvL ta σ H xs) (h2 : Ev tb σ H y) (hs : ∀ p H1, Ex H H1 → H1 p = some (.lst xs) → SpL sp [.ref p, y] H1 zs) : EvL (tCall sp [] E (tCons ta (tCons tb tNil))) σ H zs := fun H1 e Q q =>
  h H1 e _ fun p H2 _ e2 hp => h2 H2 (e.trans e2) _ fun H3 e3 => hs p H3 ((e.trans e2).trans e3) (e3 _ _ hp) H3 (Ex.refl H3) Q (fun r H4 n4 e4 h4 => q r H4 (fresh_back (e2.trans e3) n4) ((e2.trans e3).trans e4) h4) E

theorem s_forNLn {xs : List V} {tl : TE} {j : Nat} (h : EvL tl σ H xs) (Pv : Addr → Nat → L2.St → Hp → Prop) (h0 : ∀ p H1, H p = none → Ex H H1 → H1 p = some (.lst xs) → Pv p 0 σ H1) (hl : ∀ p i σ' H', i ≤ xs.length → Pv p i σ' H' → SqL K H' p xs)
    (hs : ∀ p i x σ' H', xs[i]? = some x → Pv p i σ' H' → tu { D with nx := Pv p (i + 1), ct := Pv p (i + 1), bk := D.nx } (σ'.set j (some x)) H') (hd : ∀ p σ' H', Pv p xs.length σ' H' → D.nx σ' H') : tFor (iList K tl) (gName j) tu D σ H :=
  s_forNL h Pv h0 hl hs hd
end
end Ld
namespace Ld
open PySem L2 Evl
def topS (i : Nat) : Stmt := PySem.Challenge.pw_leadson_k01_whole_after.main.body.getD i (.Pass ⟨0, 0, 0, 0⟩)
/-! ### is_number, asked_leading, asked_place, asked_steps -/
abbrev s_is_number : Stmt := topS 6
abbrev N_is_number : List Str := ["thing", "least", "most"]
theorem sc_is_number : FnScope N_is_number ["thing", "least", "most"] (defScope s_is_number) := ⟨rfl, rfl, rfl, by decide +kernel, rfl, by decide +kernel, by decide +kernel⟩
abbrev s_asked_leading : Stmt := topS 7
abbrev N_asked_leading : List Str := ["leading", "place"]
theorem sc_asked_leading : FnScope N_asked_leading ["leading"] (defScope s_asked_leading) := ⟨rfl, rfl, rfl, by decide +kernel, rfl, by decide +kernel, by decide +kernel⟩
abbrev s_asked_place : Stmt := topS 8
abbrev N_asked_place : List Str := ["leading", "place"]
theorem sc_asked_place : FnScope N_asked_place ["leading", "place"] (defScope s_asked_place) := ⟨rfl, rfl, rfl, by decide +kernel, rfl, by decide +kernel, by decide +kernel⟩
abbrev s_asked_steps : Stmt := topS 9
abbrev N_asked_steps : List Str := ["steps"]
theorem sc_asked_steps : FnScope N_asked_steps ["steps"] (defScope s_asked_steps) := ⟨rfl, rfl, rfl, by decide +kernel, rfl, by decide +kernel, by decide +kernel⟩
abbrev s_done : Stmt := topS 10
abbrev N_done : List Str := ["leading", "steps", "found", "twice", "left", "place"]
theorem sc_done : FnScope N_done ["leading", "steps"] (defScope s_done) := ⟨rfl, rfl, rfl, by decide +kernel, rfl, by decide +kernel, by decide +kernel⟩
def spIsNum : Sp := fun vs H Q _ => ∃ i lo hi : Int, vs = [.int i, .int lo, .int hi] ∧ RetV (.bl (decide (lo ≤ i) && decide (i ≤ hi))) H Q
theorem sv_is_number {H : Hp} {i lo hi : Int} {b : Bool} (e : (decide (lo ≤ i) && decide (i ≤ hi)) = b) : SpV spIsNum [.int i, .int lo, .int hi] H (.bl b) := fun H1 _ Q q E => ⟨i, lo, hi, rfl, by
  rw [e]
  exact q⟩
/-- a leading at a -/
def IsLd (H : Hp) (a : Addr) (L : List Nat) : Prop := Rd H a (.lst (nl L)) ∧ Lead L ∧ L.length ≤ 64
theorem IsLd.ex {H H' : Hp} {a : Addr} {L : List Nat} (h : IsLd H a L) (e : Ex H H') : IsLd H' a L := ⟨ex_rd e h.1, h.2⟩
theorem IsLd.sq {K : PySem.W.Frag} {H : Hp} {a : Addr} {L : List Nat} (h : IsLd H a L) : SqL K H a (nl L) := .inl h.1
def spAskedL : Sp := fun vs H Q _ => ∃ (a : Addr) (L : List Nat), vs = [.ref a] ∧ IsLd H a L ∧ RetV .non H Q
theorem sv_asked_leading {H : Hp} {a : Addr} {L : List Nat} (h : IsLd H a L) : SpV spAskedL [.ref a] H .non := fun _ e _ q _ => ⟨a, L, rfl, h.ex e, q⟩
def spAskedP : Sp := fun vs H Q _ => ∃ (a : Addr) (L : List Nat) (p : Nat), vs = [.ref a, .int (p : Int)] ∧ IsLd H a L ∧ p < L.length ∧ RetV .non H Q
theorem sv_asked_place {H : Hp} {a : Addr} {L : List Nat} {p : Nat} (h : IsLd H a L) (hp : p < L.length) : SpV spAskedP [.ref a, .int (p : Int)] H .non := fun _ e _ q _ => ⟨a, L, p, rfl, h.ex e, hp, q⟩
def spAskedS : Sp := fun vs H Q _ => ∃ (n : Nat), vs = [.int (n : Int)] ∧ RetV .non H Q
theorem sv_asked_steps {H : Hp} {n : Nat} : SpV spAskedS [.int (n : Int)] H .non := fun _ _ _ q _ => ⟨n, rfl, q⟩
def spDone : Sp := fun vs H Q _ => ∃ (a : Addr) (L : List Nat) (n : Nat), vs = [.ref a, .int (n : Int)] ∧ IsLd H a L ∧ RetL (nl (tm L n)) H Q
theorem sl_done {H : Hp} {a : Addr} {L : List Nat} {n : Nat} (h : IsLd H a L) : SpL spDone [.ref a, .int (n : Int)] H (nl (tm L n)) := fun _ e _ q _ => ⟨a, L, n, rfl, h.ex e, q⟩
section
variable {P : Program} {w : World} {K : PySem.W.Frag} {mg : Str → Option Value} {base : Heap}
theorem ok_is_number {f : Addr} {fd : FuncData} (F : Fun K "is_number" "is_number" s_is_number f fd) (B : Bl mg) : FnOk P w K mg base CX0 1 f fd ["thing", "least", "most"] spIsNum := by
  refine F.ok sc_is_number (fun vs H Q E h => ?_) (fun cdv A outer s H vs Q E hr h => ?_)
  · obtain ⟨i, lo, hi, rfl, _⟩ := h
    rfl
  · obtain ⟨i, lo, hi, rfl, q⟩ := h
    refine ⟨_, (pss_one (ps_ret (pe_and (pe_callB (call_isiK' (K := K) rfl) (by rfl) B.isinstance_ bo_isinstance (pa_cons (pv 0) (pa_cons (pe_bltn (v := .ty "int") (by rfl) B.int_ bo_int rfl) pa_nil))) (pe_and (pe_not (pe_callB (call_isiK' (K := K) rfl) (by rfl) B.isinstance_ bo_isinstance (pa_cons (pv 0) (pa_cons (pe_bltn (v := .ty "bool") (by rfl) B.bool_ bo_bool rfl) pa_nil)))) (pe_one (pe_chain op_le op_le (pv 1) (pv 0) (pv 2))))))), ?_⟩
    exact ret_V q (Ex.refl H) (ev_andV (a := true) (ev_isiInt (ev_var rfl)) fun _ => ev_andV (a := true) (ev_notF (ev_isiBool (ev_var rfl))) fun _ => ev_chain (ev_var rfl) (ev_var rfl) (ev_var rfl) rv_I0 rv_I0)
theorem ok_asked_leading {f : Addr} {fd : FuncData} (F : Fun K "asked_leading" "asked_leading" s_asked_leading f fd) (B : Bl mg) (D_is_number : Dk P w K mg base CX0 1 "is_number" ["thing", "least", "most"] spIsNum) :
    FnOk P w K mg base CX0 2 f fd ["leading"] spAskedL := by
  refine F.ok sc_asked_leading (fun vs H Q E h => ?_) (fun cdv A outer s H vs Q E hr h => ?_)
  · obtain ⟨a, L, rfl, _⟩ := h
    rfl
  · obtain ⟨a, L, rfl, hL, q⟩ := h
    refine ⟨_, (pss_one (ps_if (PW.pt (pw_or (pt_not (pt_val (pe_callB (call_isiK' (K := K) rfl) (by rfl) B.isinstance_ bo_isinstance (pa_cons (pv 0) (pa_cons (pe_bltn (v := .ty "list") (by rfl) B.list_ bo_list rfl) pa_nil))))) (pw_or1 (pt_not (pt_val (pe_callB (cr_allK (K := K) rfl rfl) (by rfl) B.all_ bo_all (pa_cons (pe_lc (own := [("place", 1)]) (g := gName 1) (tt := tYes) rfl sc_asked_leading.nd (pi_list (pv 0)) (blkOk_by (N := N_asked_leading) (sc := defScope s_asked_leading) (by decide +kernel)) (fun _ _ _ _ _ => (pg_name (i := 1) sc_asked_leading.nd rfl (Or.inl rfl))) (fun _ _ _ _ _ => pts_nil) (fun _ _ _ _ _ => (pe_callD D_is_number (hr.mono (by decide)) (by rfl) pass0 (pa_cons (pv 1) (pa_cons pe_int (pa_cons (pe_op op_sub (pe_callB (call_lenK (K := K) rfl) (by rfl) B.len_ bo_len (pa_cons (pv 0) pa_nil)) pe_int) pa_nil)))))) pa_nil)))))))
    (pss_one ps_never)
    pss_nil)), ?_⟩
    refine s_skip (et_orF (et_notT (et_B (ev_isiList (ev_var rfl) hL.1))) (et_notT (et_B (ev_allT (el_mapNc (ev_var rfl) hL.sq (by have := hL.2.2; omega) fun x H1 e hx => ev_callV (ea3 (ev_var rfl) ev_c (ev_op (ev_lenNl (ev_var rfl) (hL.ex e).sq) ev_c rv_I0)) (sv_is_number ?_)))))) fun H1 e => q H1 e
    have h1 := hL.2.1 x hx
    rw [Bool.and_eq_true, decide_eq_true_eq, decide_eq_true_eq]
    omega
theorem ok_asked_place {f : Addr} {fd : FuncData} (F : Fun K "asked_place" "asked_place" s_asked_place f fd) (B : Bl mg) (D_is_number : Dk P w K mg base CX0 1 "is_number" ["thing", "least", "most"] spIsNum) :
    FnOk P w K mg base CX0 2 f fd ["leading", "place"] spAskedP := by
  refine F.ok sc_asked_place (fun vs H Q E h => ?_) (fun cdv A outer s H vs Q E hr h => ?_)
  · obtain ⟨a, L, p, rfl, _⟩ := h
    rfl
  · obtain ⟨a, L, p, rfl, hL, hp, q⟩ := h
    refine ⟨_, (pss_one (ps_if (pt_not (pt_val (pe_callD D_is_number (hr.mono (by decide)) (by rfl) pass0 (pa_cons (pv 1) (pa_cons pe_int (pa_cons (pe_op op_sub (pe_callB (call_lenK (K := K) rfl) (by rfl) B.len_ bo_len (pa_cons (pv 0) pa_nil)) pe_int) pa_nil))))))
    (pss_one ps_never)
    pss_nil)), ?_⟩
    refine s_skip (et_notT (et_B (ev_callV (ea3 (ev_var rfl) ev_c (ev_op (ev_lenNl (ev_var rfl) hL.sq) ev_c rv_I0)) (sv_is_number ?_)))) fun H1 e => q H1 e
    rw [Bool.and_eq_true, decide_eq_true_eq, decide_eq_true_eq]
    omega
theorem ok_asked_steps {f : Addr} {fd : FuncData} (F : Fun K "asked_steps" "asked_steps" s_asked_steps f fd) (B : Bl mg) : FnOk P w K mg base CX0 1 f fd ["steps"] spAskedS := by
  refine F.ok sc_asked_steps (fun vs H Q E h => ?_) (fun cdv A outer s H vs Q E hr h => ?_)
  · obtain ⟨n, rfl, _⟩ := h
    rfl
  · obtain ⟨n, rfl, q⟩ := h
    refine ⟨_, (pss_one (ps_if (PW.pt (pw_or (pt_not (pt_val (pe_callB (call_isiK' (K := K) rfl) (by rfl) B.isinstance_ bo_isinstance (pa_cons (pv 0) (pa_cons (pe_bltn (v := .ty "int") (by rfl) B.int_ bo_int rfl) pa_nil))))) (pw_or (pt_val (pe_callB (call_isiK' (K := K) rfl) (by rfl) B.isinstance_ bo_isinstance (pa_cons (pv 0) (pa_cons (pe_bltn (v := .ty "bool") (by rfl) B.bool_ bo_bool rfl) pa_nil)))) (pw_or1 (pt_cmpR op_lt (pv 0) pe_int (nomark _))))))
    (pss_one ps_never)
    pss_nil)), ?_⟩
    exact s_skip (et_orF (et_notT (et_B (ev_isiInt (ev_var rfl)))) (et_orF (et_B (ev_isiBool (ev_var rfl))) (et_test (ev_op (ev_var rfl) ev_c (rv_dec (by rw [decide_eq_false (by omega)])))))) fun H1 e => q H1 e
/-! ### done -/
theorem ok_done {f : Addr} {fd : FuncData} (F : Fun K "done" "done" s_done f fd) (B : Bl mg) : FnOk P w K mg base CX0 1 f fd ["leading", "steps"] spDone := by
  refine F.ok sc_done (fun vs H Q E h => ?_) (fun cdv A outer s H vs Q E hr h => ?_)
  · obtain ⟨a, L, n, rfl, _⟩ := h
    rfl
  · obtain ⟨a, L, n, rfl, hL, q⟩ := h
    refine ⟨_, (pss_cons (ps_setLc (i := 2) (own := [("place", 5)]) (g := gName 5) (tt := tYes) rfl sc_done.nd rfl rfl (sw_true rfl rfl rfl (by decide +kernel)) (pi_range1 (by rfl) B.range_ (pa_cons (pe_callB (call_lenK (K := K) rfl) (by rfl) B.len_ bo_len (pa_cons (pv 0) pa_nil)) pa_nil)) (blkOk_by (N := N_done) (sc := defScope s_done) (by decide +kernel)) (fun _ _ _ _ _ => (pg_name (i := 5) sc_done.nd rfl (Or.inl rfl))) (fun _ _ _ _ _ => pts_nil) (fun _ _ _ _ _ => (pv 5)))
    (pss_cons (ps_set (i := 3) sc_done.nd rfl (Or.inr rfl) (pe_callTy (call_listK (K := K) rfl) (by rfl) B.list_ bo_list (pa_cons (pv 0) pa_nil)))
    (pss_cons (ps_set (i := 4) sc_done.nd rfl (Or.inl rfl) (pv 1))
    (pss_cons (ps_while PassesOwn.never (pt_cmpR op_gt (pv 4) pe_int (nomark _))
    (pss_cut (ps_if (pt_cmpR op_eq (pe_op op_modN (pv 4) pe_int) pe_int (nomark _))
    (pss_one (ps_setLc (i := 2) (own := [("place", 5)]) (g := gName 5) (tt := tYes) rfl sc_done.nd rfl rfl (sw_true rfl rfl rfl (by decide +kernel)) (pi_list (pv 2)) (blkOk_by (N := N_done) (sc := defScope s_done) (by decide +kernel)) (fun _ _ _ _ _ => (pg_name (i := 5) sc_done.nd rfl (Or.inl rfl))) (fun _ _ _ _ _ => pts_nil) (fun _ _ _ _ _ => (pe_ix (ix_listK (K := K) rfl) (pv 3) (pv 5) (fun _ _ => rfl)))))
    pss_nil)
    (pss_cons (ps_set (i := 3) sc_done.nd rfl (Or.inr rfl) (pe_lc (own := [("place", 5)]) (g := gName 5) (tt := tYes) rfl sc_done.nd (pi_list (pv 3)) (blkOk_by (N := N_done) (sc := defScope s_done) (by decide +kernel)) (fun _ _ _ _ _ => (pg_name (i := 5) sc_done.nd rfl (Or.inl rfl))) (fun _ _ _ _ _ => pts_nil) (fun _ _ _ _ _ => (pe_ix (ix_listK (K := K) rfl) (pv 3) (pv 5) (fun _ _ => rfl)))))
    (pss_one (ps_set (i := 4) sc_done.nd rfl (Or.inl rfl) (pe_op op_fdivN (pv 4) pe_int))))))
    (pss_one (ps_ret (pv 2))))))), ?_⟩
    have h64 := hL.2.2
    -- found = [place for place in range(len(leading))]
    refine q_asgL (el_mapR (fun i => V.int i) (ea1 (ev_lenNl (ev_var rfl) hL.sq)) (by omega) fun i H1 e hi => ev_var rfl) fun pf H1 nf e1 h1 => ?_
    -- twice = list(leading)
    refine q_asgL (el_listOf (ev_var rfl) (hL.ex e1).sq) fun pt H2 nt e2 h2 => ?_
    refine q_asg (ev_var rfl) fun H3 e3 => ?_
    refine q_while (fun m σ' H' => ∃ (x y : Nat) (pf pt : Addr) (z : Option V), σ' = [some (.ref a), some (.int (n : Int)), some (.ref pf), some (.ref pt), some (.int (m : Int)), z] ∧ x + y * m = n ∧ Ex H H' ∧ H pf = none ∧ H' pf = some (.lst (nl (tm L x))) ∧ H' pt = some (.lst (nl (tm L y)))) n
      ⟨0, 1, pf, pt, none, rfl, by omega, (e1.trans e2).trans e3, nf, ?_, ?_⟩ fun m σ' H' hw => ?_
    · rw [tm_zero]
      exact e3 _ _ (e2 _ _ h1)
    · rw [tm_one]
      exact e3 _ _ h2
    obtain ⟨x, y, pf, pt, z, rfl, exy, eH, nf, hf, ht⟩ := hw
    refine ⟨decide ((0 : Int) < m), et_test (ev_op (ev_var rfl) ev_c rv_I0), fun hb H4 e4 => ?_, fun hb H4 e4 => ?_⟩
    · have hm : (0 : Int) < m := of_decide_eq_true hb
      refine ⟨_, fun σ2 H2 h => h, ?_⟩
      -- if left % 2 == 1: found = [twice[place] for place in found]
      refine q_cut (M := fun σ' H' => ∃ (x' : Nat) (pf : Addr) (z : Option V), σ' = [some (.ref a), some (.int (n : Int)), some (.ref pf), some (.ref pt), some (.int (m : Int)), z] ∧ x' = x + (if m % 2 = 1 then y else 0) ∧ Ex H H' ∧ H pf = none ∧ H' pf = some (.lst (nl (tm L x'))) ∧ H' pt = some (.lst (nl (tm L y)))) ?_ fun σ' H' hM => ?_
      · refine s_if (et_test (ev_op (ev_op (ev_var rfl) ev_c (rv_IW (by decide) (vmod m 2))) ev_c (rv_eqB rfl))) (fun hb H5 e5 => ?_) (fun hb H5 e5 => ?_)
        · have h2 : m % 2 = 1 := by
            have := of_decide_eq_true hb
            omega
          refine s_asgL (el_mapN (L := tm L x) (fun v => V.int (st (tm L y) v : Int)) (ev_var rfl) (sq_of (e5 _ _ (e4 _ _ hf))) (by rw [tm_length]; omega) fun v H6 e6 hv => ev_op (ev_var rfl) (ev_var rfl) (rv_ixN (sq_of (e6 _ _ (e5 _ _ (e4 _ _ ht)))) ?_)) fun pn H6 nn e6 h6 => ?_
          · rw [tm_length, ← tm_length L x]
            exact lead_tm hL.2.1 x v hv
          · refine ⟨x + y, pn, z, rfl, by rw [if_pos h2], ((eH.trans e4).trans e5).trans e6, fresh_back ((eH.trans e4).trans e5) nn, ?_, e6 _ _ (e5 _ _ (e4 _ _ ht))⟩
            rw [h6, ← tm_then hL.2.1]
            unfold nl
            rw [List.map_map]
            rfl
        · have h2 : ¬ m % 2 = 1 := by
            have := of_decide_eq_false hb
            omega
          exact ⟨x, pf, z, rfl, by rw [if_neg h2, Nat.add_zero], (eH.trans e4).trans e5, nf, e5 _ _ (e4 _ _ hf), e5 _ _ (e4 _ _ ht)⟩
      · obtain ⟨x', pf, z, rfl, ex', eH, nf, hf, ht⟩ := hM
        -- twice = [twice[place] for place in twice]
        refine q_asgL (el_mapN (L := tm L y) (fun v => V.int (st (tm L y) v : Int)) (ev_var rfl) (sq_of ht) (by rw [tm_length]; omega) fun v H6 e6 hv => ev_op (ev_var rfl) (ev_var rfl) (rv_ixN (sq_of (e6 _ _ ht)) ?_)) fun pn H6 nn e6 h6 => ?_
        · exact lead_tm hL.2.1 y v hv
        refine s_asg (ev_op (ev_var rfl) ev_c (rv_IW ⟨by decide, by decide⟩ (vdiv m 2))) fun H7 e7 => ?_
        refine ⟨m / 2, by omega, x', y + y, pf, pn, z, rfl, ?_, (eH.trans e6).trans e7, nf, e7 _ _ (e6 _ _ hf), ?_⟩
        · have h3 := Nat.mod_add_div m 2
          have h4 : y * m = y * (m % 2) + y * (2 * (m / 2)) := by rw [← Nat.mul_add, h3]
          have h5 : y * (2 * (m / 2)) = (y + y) * (m / 2) := by
            rw [← Nat.mul_assoc, Nat.mul_two]
          split at ex'
          · rename_i h6
            rw [h6, Nat.mul_one] at h4
            omega
          · have h6 : m % 2 = 0 := by omega
            rw [h6, Nat.mul_zero] at h4
            omega
        · rw [e7 _ _ h6, ← tm_then hL.2.1]
          unfold nl
          rw [List.map_map]
          rfl
    · have hm : m = 0 := by
        have := of_decide_eq_false hb
        omega
      subst hm
      rw [Nat.mul_zero, Nat.add_zero] at exy
      subst exy
      exact ret_N q (eH.trans e4) nf (e4 _ _ hf) rfl
end

/-! ### times, after, comers -/
abbrev s_times : Stmt := topS 11
abbrev N_times : List Str := ["leading", "steps"]
theorem sc_times : FnScope N_times ["leading", "steps"] (defScope s_times) := ⟨rfl, rfl, rfl, by decide +kernel, rfl, by decide +kernel, by decide +kernel⟩
abbrev s_after : Stmt := topS 12
abbrev N_after : List Str := ["leading", "place", "steps"]
theorem sc_after : FnScope N_after ["leading", "place", "steps"] (defScope s_after) := ⟨rfl, rfl, rfl, by decide +kernel, rfl, by decide +kernel, by decide +kernel⟩
abbrev s_comers : Stmt := topS 13
abbrev N_comers : List Str := ["leading", "place", "steps", "one", "there"]
theorem sc_comers : FnScope N_comers ["leading", "place", "steps"] (defScope s_comers) := ⟨rfl, rfl, rfl, by decide +kernel, rfl, by decide +kernel, by decide +kernel⟩
def spTimes : Sp := fun vs H Q _ => ∃ (a : Addr) (L : List Nat) (n : Nat), vs = [.ref a, .int (n : Int)] ∧ IsLd H a L ∧ RetL (nl (tm L n)) H Q
theorem sl_times {H : Hp} {a : Addr} {L : List Nat} {n : Nat} (h : IsLd H a L) : SpL spTimes [.ref a, .int (n : Int)] H (nl (tm L n)) := fun _ e _ q _ => ⟨a, L, n, rfl, h.ex e, q⟩
def spAfter : Sp := fun vs H Q _ => ∃ (a : Addr) (L : List Nat) (p n : Nat), vs = [.ref a, .int (p : Int), .int (n : Int)] ∧ IsLd H a L ∧ p < L.length ∧ RetV (.int (it L n p : Int)) H Q
theorem sv_after {H : Hp} {a : Addr} {L : List Nat} {p n : Nat} (h : IsLd H a L) (hp : p < L.length) : SpV spAfter [.ref a, .int (p : Int), .int (n : Int)] H (.int (it L n p : Int)) := fun _ e _ q _ => ⟨a, L, p, n, rfl, h.ex e, hp, q⟩
def spComers : Sp := fun vs H Q _ => ∃ (a : Addr) (L : List Nat) (p n : Nat), vs = [.ref a, .int (p : Int), .int (n : Int)] ∧ IsLd H a L ∧ p < L.length ∧ RetL (nl ((List.range L.length).filter fun k => decide (it L n k = p))) H Q
theorem sl_comers {H : Hp} {a : Addr} {L : List Nat} {p n : Nat} (h : IsLd H a L) (hp : p < L.length) : SpL spComers [.ref a, .int (p : Int), .int (n : Int)] H (nl ((List.range L.length).filter fun k => decide (it L n k = p))) :=
  fun _ e _ q _ => ⟨a, L, p, n, rfl, h.ex e, hp, q⟩
section
variable {P : Program} {w : World} {K : PySem.W.Frag} {mg : Str → Option Value} {base : Heap}
theorem ok_times {f : Addr} {fd : FuncData} (F : Fun K "times" "times" s_times f fd) (D_asked_leading : Dk P w K mg base CX0 2 "asked_leading" ["leading"] spAskedL) (D_asked_steps : Dk P w K mg base CX0 1 "asked_steps" ["steps"] spAskedS)
    (D_done : Dk P w K mg base CX0 1 "done" ["leading", "steps"] spDone) : FnOk P w K mg base CX0 3 f fd ["leading", "steps"] spTimes := by
  refine F.ok sc_times (fun vs H Q E h => ?_) (fun cdv A outer s H vs Q E hr h => ?_)
  · obtain ⟨a, L, n, rfl, _⟩ := h
    rfl
  · obtain ⟨a, L, n, rfl, hL, q⟩ := h
    refine ⟨_, (pss_cons (ps_expr (pe_callD D_asked_leading (hr.mono (by decide)) (by rfl) pass0 (pa_cons (pv 0) pa_nil)))
    (pss_cons (ps_expr (pe_callD D_asked_steps (hr.mono (by decide)) (by rfl) pass0 (pa_cons (pv 1) pa_nil)))
    (pss_one (ps_ret (pe_callD D_done (hr.mono (by decide)) (by rfl) pass0 (pa_cons (pv 0) (pa_cons (pv 1) pa_nil))))))), ?_⟩
    refine q_drop (ev_callV (ea1 (ev_var rfl)) (sv_asked_leading hL)) fun H1 e1 => ?_
    refine q_drop (ev_callV (ea1 (ev_var rfl)) sv_asked_steps) fun H2 e2 => ?_
    exact ret_L q (e1.trans e2) (el_callL (ea2 (ev_var rfl) (ev_var rfl)) (sl_done (hL.ex (e1.trans e2))))
theorem ok_after {f : Addr} {fd : FuncData} (F : Fun K "after" "after" s_after f fd) (D_asked_leading : Dk P w K mg base CX0 2 "asked_leading" ["leading"] spAskedL) (D_asked_place : Dk P w K mg base CX0 2 "asked_place" ["leading", "place"] spAskedP)
    (D_asked_steps : Dk P w K mg base CX0 1 "asked_steps" ["steps"] spAskedS) (D_done : Dk P w K mg base CX0 1 "done" ["leading", "steps"] spDone) : FnOk P w K mg base CX0 3 f fd ["leading", "place", "steps"] spAfter := by
  refine F.ok sc_after (fun vs H Q E h => ?_) (fun cdv A outer s H vs Q E hr h => ?_)
  · obtain ⟨a, L, p, n, rfl, _⟩ := h
    rfl
  · obtain ⟨a, L, p, n, rfl, hL, hp, q⟩ := h
    refine ⟨_, (pss_cons (ps_expr (pe_callD D_asked_leading (hr.mono (by decide)) (by rfl) pass0 (pa_cons (pv 0) pa_nil)))
    (pss_cons (ps_expr (pe_callD D_asked_place (hr.mono (by decide)) (by rfl) pass0 (pa_cons (pv 0) (pa_cons (pv 1) pa_nil))))
    (pss_cons (ps_expr (pe_callD D_asked_steps (hr.mono (by decide)) (by rfl) pass0 (pa_cons (pv 2) pa_nil)))
    (pss_one (ps_ret (pe_ix (ix_listK (K := K) rfl) (pe_callD D_done (hr.mono (by decide)) (by rfl) pass0 (pa_cons (pv 0) (pa_cons (pv 2) pa_nil))) (pv 1) (fun _ _ => rfl))))))), ?_⟩
    refine q_drop (ev_callV (ea1 (ev_var rfl)) (sv_asked_leading hL)) fun H1 e1 => ?_
    refine q_drop (ev_callV (ea2 (ev_var rfl) (ev_var rfl)) (sv_asked_place (hL.ex e1) hp)) fun H2 e2 => ?_
    refine q_drop (ev_callV (ea1 (ev_var rfl)) sv_asked_steps) fun H3 e3 => ?_
    have e := (e1.trans e2).trans e3
    refine ret_V q e (ev_opL1 (el_callL (ea2 (ev_var rfl) (ev_var rfl)) (sl_done (hL.ex e))) (fun H4 e4 => ev_var rfl) fun r H4 h4 e4 => ?_)
    have h := rv_ixN (K := K) (j := p) (sq_of h4) (by rw [tm_length]; exact hp)
    rw [st_tm hp] at h
    exact h
theorem ok_comers {f : Addr} {fd : FuncData} (F : Fun K "comers" "comers" s_comers f fd) (B : Bl mg) (D_asked_leading : Dk P w K mg base CX0 2 "asked_leading" ["leading"] spAskedL) (D_asked_place : Dk P w K mg base CX0 2 "asked_place" ["leading", "place"] spAskedP)
    (D_asked_steps : Dk P w K mg base CX0 1 "asked_steps" ["steps"] spAskedS) (D_done : Dk P w K mg base CX0 1 "done" ["leading", "steps"] spDone) : FnOk P w K mg base CX0 3 f fd ["leading", "place", "steps"] spComers := by
  refine F.ok sc_comers (fun vs H Q E h => ?_) (fun cdv A outer s H vs Q E hr h => ?_)
  · obtain ⟨a, L, p, n, rfl, _⟩ := h
    rfl
  · obtain ⟨a, L, p, n, rfl, hL, hp, q⟩ := h
    refine ⟨_, (pss_cons (ps_expr (pe_callD D_asked_leading (hr.mono (by decide)) (by rfl) pass0 (pa_cons (pv 0) pa_nil)))
    (pss_cons (ps_expr (pe_callD D_asked_place (hr.mono (by decide)) (by rfl) pass0 (pa_cons (pv 0) (pa_cons (pv 1) pa_nil))))
    (pss_cons (ps_expr (pe_callD D_asked_steps (hr.mono (by decide)) (by rfl) pass0 (pa_cons (pv 2) pa_nil)))
    (pss_one (ps_ret (pe_lc (own := [("one", 3), ("there", 4)]) (g := gTup K 2 (gCons (gName 3) (gCons (gName 4) gNil))) (tt := _) rfl sc_comers.nd (pi_enum (by rfl) B.enumerate_ (pa_cons (pe_callD D_done (hr.mono (by decide)) (by rfl) pass0 (pa_cons (pv 0) (pa_cons (pv 2) pa_nil))) pa_nil)) (blkOk_by (N := N_comers) (sc := defScope s_comers) (by decide +kernel)) (fun _ _ _ _ _ => (pg_tup (by rfl) (pgs_cons (pg_name (i := 3) sc_comers.nd rfl (Or.inl rfl)) (pgs_cons (pg_name (i := 4) sc_comers.nd rfl (Or.inl rfl)) pgs_nil)))) (fun _ _ _ _ _ => (pts_one (pt_cmpR op_eq (pv 4) (pv 1) (nomark _)))) (fun _ _ _ _ _ => (pv 3)))))))), ?_⟩
    refine q_drop (ev_callV (ea1 (ev_var rfl)) (sv_asked_leading hL)) fun H1 e1 => ?_
    refine q_drop (ev_callV (ea2 (ev_var rfl) (ev_var rfl)) (sv_asked_place (hL.ex e1) hp)) fun H2 e2 => ?_
    refine q_drop (ev_callV (ea1 (ev_var rfl)) sv_asked_steps) fun H3 e3 => ?_
    have e := (e1.trans e2).trans e3
    have h64 := hL.2.2
    have h := el_lcNE (K := K) (i := 3) (j := 4) (by decide) (fun k => decide (it L n k = p)) (fun k => .int (k : Int)) (el_callL (σ := start N_comers [.ref a, .int (p : Int), .int (n : Int)]) (E := E0) (ea2 (ev_var (i := 0) rfl) (ev_var (i := 2) rfl)) (sl_done (hL.ex e))) (by rw [nl_len, tm_length]; omega)
      (t := tTest (tOp rEq (tVar 4) (tVar 1))) (te := tVar 3) (fun k x H5 e5 hx => ?_) (fun k x H5 e5 hx hf => ev_var rfl)
    · rw [nl_len, tm_length] at h
      exact ret_L q e h
    · obtain ⟨y, hy, rfl, hk⟩ := nl_inv hx
      rw [tm_length] at hk
      rw [tm_get hk] at hy
      cases hy
      exact et_test (ev_op (ev_var rfl) (ev_var rfl) (rv_eqB (decide_eq_decide.mpr ⟨fun h => by omega, fun h => by omega⟩)))
end

/-! ### the law's own: a leading, an own walk, numbers -/
abbrev s_law_leading : Stmt := topS 15
abbrev N_law_leading : List Str := ["_law_script", "_law_many", "_law_kind", "_law_place", "_law_cell", "_law_found", "_law_other", "_law_kept"]
theorem sc_law_leading : FnScope N_law_leading ["_law_script"] (defScope s_law_leading) := ⟨rfl, rfl, rfl, by decide +kernel, rfl, by decide +kernel, by decide +kernel⟩
abbrev s_law_after : Stmt := topS 16
abbrev N_law_after : List Str := ["_law_leading_here", "_law_place", "_law_steps", "_law_seen", "_law_at", "_law_more"]
theorem sc_law_after : FnScope N_law_after ["_law_leading_here", "_law_place", "_law_steps"] (defScope s_law_after) := ⟨rfl, rfl, rfl, by decide +kernel, rfl, by decide +kernel, by decide +kernel⟩
abbrev s_law_numbers : Stmt := topS 17
abbrev N_law_numbers : List Str := ["_law_found", "_law_one"]
theorem sc_law_numbers : FnScope N_law_numbers ["_law_found"] (defScope s_law_numbers) := ⟨rfl, rfl, rfl, by decide +kernel, rfl, by decide +kernel, by decide +kernel⟩
def spLLead (K : PySem.W.Frag) : Sp := fun vs H Q _ => ∃ (a : Addr) (ns : List Int), vs = [.ref a] ∧ SqL K H a (il ns) ∧ ns.length ≤ 63 ∧ ∀ L, Lead L → L.length = ns.length → RetL (nl L) H Q
def spLAfter : Sp := fun vs H Q _ => ∃ (a : Addr) (L : List Nat) (p n : Nat), vs = [.ref a, .int (p : Int), .int (n : Int)] ∧ IsLd H a L ∧ p < L.length ∧ RetV (.int (it L n p : Int)) H Q
theorem sv_lafter {H : Hp} {a : Addr} {L : List Nat} {p n : Nat} (h : IsLd H a L) (hp : p < L.length) : SpV spLAfter [.ref a, .int (p : Int), .int (n : Int)] H (.int (it L n p : Int)) := fun _ e _ q _ => ⟨a, L, p, n, rfl, h.ex e, hp, q⟩
def spNums : Sp := fun vs H Q _ => ∃ (a : Addr) (ns : List Int), vs = [.ref a] ∧ Rd H a (.lst (il ns)) ∧ ns.length ≤ 40000 ∧ RetV (.bl true) H Q
theorem sv_nums {H : Hp} {a : Addr} {ns : List Int} (h : Rd H a (.lst (il ns))) (hz : ns.length ≤ 40000) : SpV spNums [.ref a] H (.bl true) := fun _ e _ q _ => ⟨a, ns, rfl, ex_rd e h, hz, q⟩
theorem sv_numsN {H : Hp} {a : Addr} {L : List Nat} (h : Rd H a (.lst (nl L))) (hz : L.length ≤ 40000) : SpV spNums [.ref a] H (.bl true) := by
  rw [nl_il] at h
  exact sv_nums h (by rw [List.length_map]; exact hz)
section
variable {P : Program} {w : World} {K : PySem.W.Frag} {mg : Str → Option Value} {base : Heap}
theorem ok_law_leading {f : Addr} {fd : FuncData} (F : Fun K "_law_leading" "_law_leading" s_law_leading f fd) (B : Bl mg) : FnOk P w K mg base CX0 1 f fd ["_law_script"] (spLLead K) := by
  refine F.ok sc_law_leading (fun vs H Q E h => ?_) (fun cdv A outer s H vs Q E hr h => ?_)
  · obtain ⟨a, ns, rfl, _⟩ := h
    rfl
  · obtain ⟨a, ns, rfl, hS, h63, q⟩ := h
    refine ⟨_, (pss_cons (ps_set (i := 1) sc_law_leading.nd rfl (Or.inr rfl) (pe_callB (call_lenK (K := K) rfl) (by rfl) B.len_ bo_len (pa_cons (pv 0) pa_nil)))
    (pss_cons (ps_set (i := 2) sc_law_leading.nd rfl (Or.inl rfl) (pe_op op_modN (pe_callB (cr_sumK (K := K) rfl rfl) (by rfl) B.sum_ bo_sum (pa_cons (pv 0) pa_nil)) pe_int))
    (pss_cons (ps_if (pt_cmpR op_eq (pv 2) pe_int (nomark _))
    (pss_one (ps_ret (pe_lc (own := [("_law_place", 3), ("_law_cell", 4)]) (g := gTup K 2 (gCons (gName 3) (gCons (gName 4) gNil))) (tt := tYes) rfl sc_law_leading.nd (pi_enum (by rfl) B.enumerate_ (pa_cons (pv 0) pa_nil)) (blkOk_by (N := N_law_leading) (sc := defScope s_law_leading) (by decide +kernel)) (fun _ _ _ _ _ => (pg_tup (by rfl) (pgs_cons (pg_name (i := 3) sc_law_leading.nd rfl (Or.inl rfl)) (pgs_cons (pg_name (i := 4) sc_law_leading.nd rfl (Or.inl rfl)) pgs_nil)))) (fun _ _ _ _ _ => pts_nil) (fun _ _ _ _ _ => (pe_op op_modN (pv 4) (pe_op op_add (pv 3) pe_int))))))
    pss_nil)
    (pss_cons (ps_setLc (i := 5) (own := [("_law_place", 3)]) (g := gName 3) (tt := tYes) rfl sc_law_leading.nd rfl rfl (sw_true rfl rfl rfl (by decide +kernel)) (pi_range1 (by rfl) B.range_ (pa_cons (pv 1) pa_nil)) (blkOk_by (N := N_law_leading) (sc := defScope s_law_leading) (by decide +kernel)) (fun _ _ _ _ _ => (pg_name (i := 3) sc_law_leading.nd rfl (Or.inl rfl))) (fun _ _ _ _ _ => pts_nil) (fun _ _ _ _ _ => (pv 3)))
    (pss_cons (ps_if (pt_cmpR (op_inK (K := K) rfl) (pv 2) (pe_lst (pa_cons pe_int (pa_cons pe_int pa_nil))) (by rfl))
    (pss_cons (ps_for PassesOwn.never rfl (pi_enum (by rfl) B.enumerate_ (pa_cons (pv 0) pa_nil)) (pg_tup (by rfl) (pgs_cons (pg_name (i := 3) sc_law_leading.nd rfl (Or.inl rfl)) (pgs_cons (pg_name (i := 4) sc_law_leading.nd rfl (Or.inl rfl)) pgs_nil)))
    (pss_cons (ps_set (i := 6) sc_law_leading.nd rfl (Or.inl rfl) (pe_op op_modN (pv 4) (pv 1)))
    (pss_cons (ps_set (i := 7) sc_law_leading.nd rfl (Or.inl rfl) (pe_ix (ix_listK (K := K) rfl) (pv 5) (pv 3) (fun _ _ => rfl)))
    (pss_cons (ps_asg (pe_ix (ix_listK (K := K) rfl) (pv 5) (pv 6) (fun _ _ => rfl)) (pg_sub (pv 5) (pv 3) set_list))
    (pss_one (ps_asg (pv 7) (pg_sub (pv 5) (pv 6) set_list)))))))
    (pss_one (ps_ret (pv 5))))
    pss_nil)
    (pss_cons (ps_if (pt_cmpR op_eq (pv 2) pe_int (nomark _))
    (pss_one (ps_ret (pe_lc (own := [("_law_place", 3), ("_law_cell", 4)]) (g := gTup K 2 (gCons (gName 3) (gCons (gName 4) gNil))) (tt := tYes) rfl sc_law_leading.nd (pi_enum (by rfl) B.enumerate_ (pa_cons (pv 0) pa_nil)) (blkOk_by (N := N_law_leading) (sc := defScope s_law_leading) (by decide +kernel)) (fun _ _ _ _ _ => (pg_tup (by rfl) (pgs_cons (pg_name (i := 3) sc_law_leading.nd rfl (Or.inl rfl)) (pgs_cons (pg_name (i := 4) sc_law_leading.nd rfl (Or.inl rfl)) pgs_nil)))) (fun _ _ _ _ _ => pts_nil) (fun _ _ _ _ _ => (pe_op op_modN (pe_op op_add (pe_op op_add (pv 3) pe_int) (pe_op op_modN (pv 4) pe_int)) (pv 1))))))
    pss_nil)
    (pss_one (ps_ret (pe_lc (own := [("_law_cell", 4)]) (g := gName 4) (tt := tYes) rfl sc_law_leading.nd (pi_list (pv 0)) (blkOk_by (N := N_law_leading) (sc := defScope s_law_leading) (by decide +kernel)) (fun _ _ _ _ _ => (pg_name (i := 4) sc_law_leading.nd rfl (Or.inl rfl))) (fun _ _ _ _ _ => pts_nil) (fun _ _ _ _ _ => (pe_op op_modN (pv 4) (pv 1)))))))))))), ?_⟩
    refine q_asg (ev_lenIl (ev_var rfl) hS) fun H1 e1 => ?_
    refine q_asg (ev_op (ev_sum (ev_var rfl) (ex_l e1 hS)) ev_c (rv_I (by decide))) fun H2 e2 => ?_
    have hS2 := ex_l (e1.trans e2) hS
    refine q_when (et_test (ev_op (ev_var rfl) ev_c (rv_eqB rfl))) (fun _ H3 e3 => ?_) (fun _ H3 e3 => ?_)
    · -- return [cell % (place + 1) for place, cell in enumerate(script)]
      obtain ⟨L, h1, h2, h3⟩ := lead_of (n := ns.length) (fun k => (ns.getD k 0).fmod ((k : Int) + 1)) fun k hk => by
        obtain ⟨r, hr, hr2⟩ := fmod_lt (ns.getD k 0) (m := k + 1) (by omega)
        rw [show ((k : Int) + 1) = ((k + 1 : Nat) : Int) by omega, hr]
        omega
      refine ret_L (q L h1 h2) ((e1.trans e2).trans e3) ?_
      rw [← h3, ← given_all, ← il_len ns]
      refine el_lcE (by decide) (fun _ => true) _ (ev_var rfl) (ex_l e3 hS2) (by rw [il_len]; omega) (fun _ _ _ _ _ => et_yes) fun k x H4 e4 hk _ => ?_
      obtain ⟨y, hy, rfl, hl⟩ := il_inv hk
      refine ev_op (ev_var rfl) (ev_op (ev_var rfl) ev_c rv_I0) (rv_IW (by omega) ?_)
      rw [List.getD_eq_getElem?_getD, hy]
      rfl
    · -- found = [place for place in range(many)]
      refine q_asgL (el_mapR (fun i => V.int i) (ea1 (ev_var rfl)) (by omega) fun i H4 e4 hi => ev_var rfl) fun pf H4 nf e4 h4 => ?_
      have eb := ((e1.trans e2).trans e3).trans e4
      have nf0 : H pf = none := fresh_back ((e1.trans e2).trans e3) nf
      refine q_when (et_test (ev_opL (ev_var rfl) (el_lst (ea2 ev_c ev_c) (by decide)) fun p H5 h5 e5 => rv_isL (sq_of h5) rfl rfl)) (fun _ H5 e5 => ?_) (fun _ H5 e5 => ?_)
      · -- places exchanged
        refine q_forE (ev_var rfl) (ex_l ((e3.trans e4).trans e5) hS2) (fun i σ' H' => ∃ (L : List Nat) (k : Int) (y3 y4 y6 y7 : Option V), σ' = [some (.ref a), some (.int (ns.length : Int)), some (.int k), y3, y4, some (.ref pf), y6, y7] ∧ Ex H H' ∧ H' pf = some (.lst (nl L)) ∧ Lead L ∧ L.length = ns.length)
          (fun H6 e6 => ⟨List.range ns.length, _, _, _, _, _, rfl, (eb.trans e5).trans e6, e6 _ _ (e5 _ _ h4), fun x hx => by rw [List.length_range]; exact List.mem_range.mp hx, List.length_range⟩)
          (fun i σ' H' _ ⟨L, k, y3, y4, y6, y7, _, e, _⟩ => ex_l e hS) (fun i x σ' H' H6 hx hp e6 _ => ?_) (fun σ' H' hp => ?_)
        · obtain ⟨L, k, y3, y4, y6, y7, rfl, eH, hf, hL, hlen⟩ := hp
          obtain ⟨z, hz, rfl, hi⟩ := il_inv hx
          obtain ⟨r, hr, hr2⟩ := fmod_lt z (m := ns.length) (by omega)
          refine q_asg (ev_op (ev_var rfl) (ev_var rfl) (rv_IW (by omega) (w := .int (r : Int)) (by rw [hr]))) fun H7 e7 => ?_
          have hf7 := e7 _ _ (e6 _ _ hf)
          refine q_asg (ev_op (ev_var rfl) (ev_var rfl) (rv_ixN (j := i) (sq_of hf7) (by omega))) fun H8 e8 => ?_
          have hf8 := e8 _ _ hf7
          refine q_setL hf8 (ev_op (ev_var rfl) (ev_var rfl) (rv_ixN (j := r) (sq_of hf8) (by omega))) (ev_var rfl) (ev_var rfl) (j := i) (by rw [nl_len]; omega) fun H9 e9 => ?_
          rw [nl_set]
          refine s_setL (j := r) upd_same (ev_var rfl) (ev_var rfl) (ev_var rfl) (by rw [nl_len, List.length_set]; omega) fun H10 e10 => ?_
          rw [nl_set]
          refine ⟨(L.set i (st L r)).set r (st L i), k, _, _, _, _, rfl, ?_, upd_same, ?_, ?_⟩
          · exact Ex.mut ((Ex.mut ((((eH.trans e6).trans e7).trans e8).trans e9) nf0).trans e10) nf0
          · exact (hL.set (st_lt hL (by omega))).set (by rw [List.length_set]; exact st_lt hL (by omega))
          · rw [List.length_set, List.length_set, hlen]
        · obtain ⟨L, k, y3, y4, y6, y7, rfl, eH, hf, hL, hlen⟩ := hp
          exact ret_N (q L hL hlen) eH nf0 hf rfl
      · refine q_when (et_test (ev_op (ev_var rfl) ev_c (rv_eqB rfl))) (fun _ H6 e6 => ?_) (fun _ H6 e6 => ?_)
        · -- return [(place + 1 + cell % 3) % many for place, cell in enumerate(script)]
          obtain ⟨L, h1, h2, h3⟩ := lead_of (n := ns.length) (fun k => ((k : Int) + 1 + (ns.getD k 0).fmod 3).fmod (ns.length : Int)) fun k hk => by
            obtain ⟨r, hr, hr2⟩ := fmod_lt ((k : Int) + 1 + (ns.getD k 0).fmod 3) (m := ns.length) (by omega)
            rw [hr]
            omega
          refine ret_L (q L h1 h2) ((eb.trans e5).trans e6) ?_
          rw [← h3, ← given_all, ← il_len ns]
          refine el_lcE (by decide) (fun _ => true) _ (ev_var rfl) (ex_l ((eb.trans e5).trans e6) hS) (by rw [il_len]; omega) (fun _ _ _ _ _ => et_yes) fun k x H7 e7 hk _ => ?_
          obtain ⟨y, hy, rfl, hl⟩ := il_inv hk
          refine ev_op (ev_op (ev_op (ev_var rfl) ev_c rv_I0) (ev_op (ev_var rfl) ev_c (rv_I (by decide))) rv_I0) (ev_var rfl) (rv_IW (show ((il ns).length : Int) ≠ 0 by rw [il_len]; omega) ?_)
          rw [List.getD_eq_getElem?_getD, hy]
          rfl
        · -- return [cell % many for cell in script]
          obtain ⟨L, h1, h2, h3⟩ := lead_of (n := ns.length) (fun k => (ns.getD k 0).fmod (ns.length : Int)) fun k hk => by
            obtain ⟨r, hr, hr2⟩ := fmod_lt (ns.getD k 0) (m := ns.length) (by omega)
            rw [hr]
            omega
          refine ret_L (q L h1 h2) ((eb.trans e5).trans e6) ?_
          rw [← h3]
          have ee : (List.range ns.length).map (fun k => V.int ((ns.getD k 0).fmod (ns.length : Int))) = ns.map (fun x => V.int (x.fmod (ns.length : Int))) := by
            refine List.ext_getElem? fun i => ?_
            rw [List.getElem?_map, List.getElem?_map]
            by_cases hi : i < ns.length
            · rw [List.getElem?_range hi, List.getElem?_eq_getElem hi]
              show some (V.int ((ns.getD i 0).fmod _)) = some (V.int (ns[i].fmod _))
              rw [List.getD_eq_getElem?_getD, List.getElem?_eq_getElem hi]
              rfl
            · rw [List.getElem?_eq_none (by rw [List.length_range]; omega), List.getElem?_eq_none (by omega)]
              rfl
          rw [ee]
          refine el_mapI (fun x => V.int (x.fmod (ns.length : Int))) (ev_var rfl) (ex_l ((eb.trans e5).trans e6) hS) (by omega) fun x H7 e7 hx => ?_
          have : ns.length ≠ 0 := fun e => by
            rw [List.length_eq_zero_iff.mp e] at hx
            cases hx
          exact ev_op (ev_var rfl) (ev_var rfl) (rv_I (show (ns.length : Int) ≠ 0 by omega))
theorem ok_law_after {f : Addr} {fd : FuncData} (F : Fun K "_law_after" "_law_after" s_law_after f fd) (B : Bl mg) : FnOk P w K mg base CX0 1 f fd ["_law_leading_here", "_law_place", "_law_steps"] spLAfter := by
  refine F.ok sc_law_after (fun vs H Q E h => ?_) (fun cdv A outer s H vs Q E hr h => ?_)
  · obtain ⟨a, L, p, n, rfl, _⟩ := h
    rfl
  · obtain ⟨a, L, p, n, rfl, hL, hp, q⟩ := h
    have hu := hu_of hr
    refine ⟨_, (pss_cons (ps_set (i := 3) sc_law_after.nd rfl (Or.inl rfl) pe_dnewK)
    (pss_cons (ps_set (i := 4) sc_law_after.nd rfl (Or.inl rfl) pe_int)
    (pss_cons (ps_while PassesOwn.never (PW.pt (pw_and (pt_cmpR op_lt (pv 4) (pv 2) (nomark _)) (pw_and1 (pt_cmp (pc_dnotin hu (pv 1) (pv 3))))))
    (pss_cons (ps_dput hu (pv 3) (pv 1) (pv 4) rfl)
    (pss_cons (ps_set (i := 1) sc_law_after.nd rfl (Or.inl rfl) (pe_ix (ix_listK (K := K) rfl) (pv 0) (pv 1) (fun _ _ => rfl)))
    (pss_one (ps_set (i := 4) sc_law_after.nd rfl (Or.inl rfl) (pe_op op_add (pv 4) pe_int))))))
    (pss_cons (ps_if (pt_cmpR op_eq (pv 4) (pv 2) (nomark _))
    (pss_one (ps_ret (pv 1)))
    pss_nil)
    (pss_cons (ps_for PassesOwn.never rfl (pi_range1 (by rfl) B.range_ (pa_cons (pe_op op_modN (pe_op op_sub (pv 2) (pv 4)) (pe_op op_sub (pv 4) (pe_dget hu (pv 3) (pv 1) (fun _ _ => rfl)))) pa_nil)) (pg_name (i := 5) sc_law_after.nd rfl (Or.inl rfl))
    (pss_one (ps_set (i := 1) sc_law_after.nd rfl (Or.inl rfl) (pe_ix (ix_listK (K := K) rfl) (pv 0) (pv 1) (fun _ _ => rfl)))))
    (pss_one (ps_ret (pv 1)))))))), ?_⟩
    have h64 := hL.2.2
    refine q_dnew fun d H1 nd e1 hd => ?_
    refine q_asg ev_c fun H2 e2 => ?_
    refine q_while (fun m σ' H' => ∃ (k : Nat) (M : Int → Option V) (y : Option V), m = L.length - k ∧ σ' = [some (.ref a), some (.int (it L k p : Int)), some (.int (n : Int)), some (.ref d), some (.int (k : Int)), y] ∧ k ≤ n ∧ (∀ i j, i < j → j < k → it L i p ≠ it L j p) ∧ Ex H H' ∧ DM H' d k M ∧
        (∀ i, i < k → M (it L i p : Int) = some (.int (i : Int))) ∧ (∀ z, (M z).isSome = true → ∃ i, i < k ∧ z = (it L i p : Int))) (L.length - 0)
      ⟨0, _, none, rfl, rfl, Nat.zero_le n, fun i j _ h => absurd h (Nat.not_lt_zero j), e1.trans e2, hd.ex e2, fun i h => absurd h (Nat.not_lt_zero i), fun z h => by cases h⟩ fun m σ' H' hw => ?_
    obtain ⟨k, M, y, rfl, rfl, hk, hinj, eH, hD, hM1, hM2⟩ := hw
    have hpk : it L k p < L.length := it_lt hL.2.1 k hp
    refine ⟨_, et_and (et_test (ev_op (ev_var rfl) (ev_var rfl) rv_I0)) (fun _ => et_B (ev_dnotin (ev_var rfl) (ev_var rfl) hD)), fun hb H3 e3 => ?_, fun hb H3 e3 => ?_⟩
    · rw [Bool.and_eq_true, decide_eq_true_eq] at hb
      obtain ⟨hb1, hb2⟩ := hb
      have hnew : ∀ i, i < k → it L i p ≠ it L k p := fun i hi e => by
        have h1 := hM1 i hi
        rw [e] at h1
        rw [h1] at hb2
        cases hb2
      have hinj2 : ∀ i j, i < j → j < k + 1 → it L i p ≠ it L j p := fun i j hij hj => by
        by_cases e : j = k
        · subst e
          exact hnew i hij
        · exact hinj i j hij (by omega)
      have hkn : k + 1 ≤ L.length := by
        have h1 := nodup_len (nodup_of_inj hinj2) (n := L.length) fun x hx => by
          obtain ⟨i, _, rfl⟩ := List.mem_map.mp hx
          exact it_lt hL.2.1 i hp
        rw [List.length_map, List.length_range] at h1
        exact h1
      refine ⟨_, fun σ2 H2 h => h, ?_⟩
      refine q_dput (ev_var rfl) (ev_var rfl) (ev_var rfl) (hD.ex e3) (by omega) fun H4 e4 o hD4 => ?_
      have eH4 : Ex H (upd H4 d o) := Ex.mut ((eH.trans e3).trans e4) nd
      refine q_asg (ev_op (ev_var rfl) (ev_var rfl) (rv_ixN (hL.ex eH4).sq hpk)) fun H5 e5 => ?_
      refine s_asg (ev_op (ev_var rfl) ev_c (rv_dec (vadd k 1))) fun H6 e6 => ?_
      refine ⟨_, ?_, k + 1, _, y, rfl, by rw [it_succ]; rfl, by omega, hinj2, (eH4.trans e5).trans e6, (hD4.ex e5).ex e6, fun i hi => ?_, fun z hz => ?_⟩
      · omega
      · by_cases e : i = k
        · subst e
          rw [if_pos rfl]
        · rw [if_neg fun q => hnew i (by omega) (by omega)]
          exact hM1 i (by omega)
      · by_cases e : z = (it L k p : Int)
        · exact ⟨k, by omega, e⟩
        · rw [if_neg e] at hz
          obtain ⟨i, h1, h2⟩ := hM2 z hz
          exact ⟨i, by omega, h2⟩
    · refine q_when (et_test (ev_op (ev_var rfl) (ev_var rfl) (rv_eqB rfl))) (fun he H4 e4 => ?_) (fun he H4 e4 => ?_)
      · have hkn : k = n := by
          have := of_decide_eq_true he
          omega
        subst hkn
        exact ret_V q ((eH.trans e3).trans e4) (ev_var rfl)
      · have hkn : k < n := by
          have := of_decide_eq_false he
          omega
        have hs : (M (it L k p : Int)).isSome = true := by
          rw [decide_eq_true (by omega), Bool.true_and] at hb
          cases h : (M (it L k p : Int)).isSome with
          | true => rfl
          | false =>
            rw [h] at hb
            cases hb
        obtain ⟨i, hik, hi⟩ := hM2 _ hs
        have hi' : it L k p = it L i p := by omega
        have eH4 := (eH.trans e3).trans e4
        have hD4 := (hD.ex e3).ex e4
        have hm : M (it L k p : Int) = some (.int (i : Int)) := by
          rw [hi]
          exact hM1 i hik
        have hsub : V.int ((n : Int) - (k : Int)) = V.int ((n - k : Nat) : Int) := by
          congr 1
          omega
        have hsub2 : V.int ((k : Int) - (i : Int)) = V.int ((k - i : Nat) : Int) := by
          congr 1
          omega
        have hlt : (n - k) % (k - i) < L.length := by
          have h1 := Nat.mod_lt (n - k) (show k - i > 0 by omega)
          have h2 := nodup_len (nodup_of_inj hinj) (n := L.length) fun x hx => by
            obtain ⟨i, _, rfl⟩ := List.mem_map.mp hx
            exact it_lt hL.2.1 i hp
          rw [List.length_map, List.length_range] at h2
          omega
        refine q_forR1 (n := (((n - k) % (k - i) : Nat) : Int)) (ea1 (ev_op (ev_op (ev_var rfl) (ev_var rfl) (rv_dec hsub)) (ev_op (ev_var rfl) (ev_dget (ev_var rfl) (ev_var rfl) hD4 hm) (rv_dec hsub2)) (rv_IW (by omega) (vmod (n - k) (k - i))))) (by omega)
          (fun j σ' H' => ∃ (y : Option V), σ' = [some (.ref a), some (.int (it L (k + j) p : Int)), some (.int (n : Int)), some (.ref d), some (.int (k : Int)), y] ∧ Ex H H') (fun H5 e5 => ⟨_, rfl, eH4.trans e5⟩) (fun j σ' H' hj hP => ?_) (fun σ' H' hP => ?_)
        · obtain ⟨y, rfl, e5⟩ := hP
          refine s_asg (ev_op (ev_var rfl) (ev_var rfl) (rv_ixN (hL.ex e5).sq (it_lt hL.2.1 _ hp))) fun H6 e6 => ?_
          exact ⟨_, by rw [← it_succ]; rfl, e5.trans e6⟩
        · obtain ⟨y, rfl, e5⟩ := hP
          have h1 := it_round (L := L) (p := p) (a := i) (d := k - i) (by rw [show i + (k - i) = k by omega]; exact hi') (n - k)
          rw [show i + (k - i) + (n - k) = n by omega, show i + (k - i) = k by omega] at h1
          rw [Int.toNat_natCast, h1]
          exact ret_V q e5 (ev_var rfl)
theorem ok_law_numbers {f : Addr} {fd : FuncData} (F : Fun K "_law_numbers" "_law_numbers" s_law_numbers f fd) (B : Bl mg) : FnOk P w K mg base CX0 1 f fd ["_law_found"] spNums := by
  refine F.ok sc_law_numbers (fun vs H Q E h => ?_) (fun cdv A outer s H vs Q E hr h => ?_)
  · obtain ⟨a, ns, rfl, _⟩ := h
    rfl
  · obtain ⟨a, ns, rfl, hL, hz, q⟩ := h
    refine ⟨_, (pss_cons (ps_if (pt_not (pt_val (pe_callB (call_isiK' (K := K) rfl) (by rfl) B.isinstance_ bo_isinstance (pa_cons (pv 0) (pa_cons (pe_bltn (v := .ty "list") (by rfl) B.list_ bo_list rfl) pa_nil)))))
    (pss_one (ps_ret pe_bl))
    pss_nil)
    (pss_one (ps_ret (pe_callB (cr_allK (K := K) rfl rfl) (by rfl) B.all_ bo_all (pa_cons (pe_lc (own := [("_law_one", 1)]) (g := gName 1) (tt := tYes) rfl sc_law_numbers.nd (pi_list (pv 0)) (blkOk_by (N := N_law_numbers) (sc := defScope s_law_numbers) (by decide +kernel)) (fun _ _ _ _ _ => (pg_name (i := 1) sc_law_numbers.nd rfl (Or.inl rfl))) (fun _ _ _ _ _ => pts_nil) (fun _ _ _ _ _ => (pe_and (pe_callB (call_isiK' (K := K) rfl) (by rfl) B.isinstance_ bo_isinstance (pa_cons (pv 1) (pa_cons (pe_bltn (v := .ty "int") (by rfl) B.int_ bo_int rfl) pa_nil))) (pe_one (pe_not (pe_callB (call_isiK' (K := K) rfl) (by rfl) B.isinstance_ bo_isinstance (pa_cons (pv 1) (pa_cons (pe_bltn (v := .ty "bool") (by rfl) B.bool_ bo_bool rfl) pa_nil)))))))) pa_nil))))), ?_⟩
    refine q_skip (et_notT (et_B (ev_isiList (ev_var rfl) hL))) fun H1 e1 => ?_
    exact ret_V q e1 (ev_allT (el_mapIc (ev_var rfl) (.inl (ex_rd e1 hL)) hz fun x H2 e2 _ => ev_andT (ev_isiInt (ev_var rfl)) (ev_notF (ev_isiBool (ev_var rfl)))))
end

/-! ### the law -/
abbrev s_law : Stmt := topS 18
abbrev N_law : List Str := ["_law_script", "_law_leading_here", "_law_handed", "_law_mixed", "_law_steps", "_law_place", "_law_due", "_law_again", "_law_found", "_law_cell", "_law_there", "_law_wanted", "_law_one"]
theorem sc_law : FnScope N_law ["_law_script"] (defScope s_law) := ⟨rfl, rfl, rfl, by decide +kernel, rfl, by decide +kernel, by decide +kernel⟩
def spLaw (K : PySem.W.Frag) : Sp := fun vs H Q _ => ∃ (a : Addr) (ns : List Int), vs = [.ref a] ∧ SqL K H a (ns.map V.int) ∧ ns.length ≤ 63 ∧ ∀ H', Q (.bl true) H'
section
variable {P : Program} {w : World} {K : PySem.W.Frag} {mg : Str → Option Value} {base : Heap}
theorem ok_law {f : Addr} {fd : FuncData} (F : Fun K "law" "law" s_law f fd) (B : Bl mg) (D_law_leading : Dk P w K mg base CX0 1 "_law_leading" ["_law_script"] (spLLead K)) (D_law_after : Dk P w K mg base CX0 1 "_law_after" ["_law_leading_here", "_law_place", "_law_steps"] spLAfter)
    (D_law_numbers : Dk P w K mg base CX0 1 "_law_numbers" ["_law_found"] spNums) (D_times : Dk P w K mg base CX0 3 "times" ["leading", "steps"] spTimes) (D_after : Dk P w K mg base CX0 3 "after" ["leading", "place", "steps"] spAfter)
    (D_comers : Dk P w K mg base CX0 3 "comers" ["leading", "place", "steps"] spComers) : FnOk P w K mg base CX0 4 f fd ["_law_script"] (spLaw K) := by
  refine F.ok sc_law (fun vs H Q E h => ?_) (fun cdv A outer s H vs Q E hr h => ?_)
  · obtain ⟨a, ns, rfl, _⟩ := h
    rfl
  · obtain ⟨a, ns, rfl, hS, h63, q⟩ := h
    have hS : SqL K H a (il ns) := hS
    refine ⟨_, (pss_cons (ps_set (i := 1) sc_law.nd rfl (Or.inr rfl) (pe_callD D_law_leading (hr.mono (by decide)) (by rfl) pass0 (pa_cons (pv 0) pa_nil)))
    (pss_cons (ps_set (i := 2) sc_law.nd rfl (Or.inl rfl) (pe_callTy (call_listK (K := K) rfl) (by rfl) B.list_ bo_list (pa_cons (pv 1) pa_nil)))
    (pss_cons (ps_set (i := 3) sc_law.nd rfl (Or.inl rfl) (pe_callB (cr_sumK (K := K) rfl rfl) (by rfl) B.sum_ bo_sum (pa_cons (pv 0) pa_nil)))
    (pss_cons (ps_for PassesOwn.never rfl (pi_list (pe_lst (pa_cons pe_int (pa_cons pe_int (pa_cons (pe_op op_modN (pv 3) pe_int) (pa_cons (pe_op op_modN (pe_op op_add (pe_op op_mul (pv 3) (pe_op op_pow pe_int pe_int)) pe_int) (pe_op op_pow pe_int pe_int)) pa_nil)))))) (pg_name (i := 4) sc_law.nd rfl (Or.inr rfl))
    (pss_cons (ps_set (i := 6) sc_law.nd rfl (Or.inr rfl) (pe_lc (own := [("_law_place", 5)]) (g := gName 5) (tt := tYes) rfl sc_law.nd (pi_range1 (by rfl) B.range_ (pa_cons (pe_callB (call_lenK (K := K) rfl) (by rfl) B.len_ bo_len (pa_cons (pv 1) pa_nil)) pa_nil)) (blkOk_by (N := N_law) (sc := defScope s_law) (by decide +kernel)) (fun _ _ _ _ _ => (pg_name (i := 5) sc_law.nd rfl (Or.inl rfl))) (fun _ _ _ _ _ => pts_nil) (fun _ _ _ _ _ => (pe_callD D_law_after (hr.mono (by decide)) (by rfl) pass0 (pa_cons (pv 1) (pa_cons (pv 5) (pa_cons (pv 4) pa_nil)))))))
    (pss_cons (ps_for PassesOwn.never rfl (pi_range1 (by rfl) B.range_ (pa_cons (pe_ifExp (pt_cmpR op_lt (pv 4) pe_int (nomark _)) pe_int pe_int) pa_nil)) (pg_name (i := 7) sc_law.nd rfl (Or.inl rfl))
    (pss_cons (ps_set (i := 8) sc_law.nd rfl (Or.inl rfl) (pe_callD D_times (hr.mono (by decide)) (by rfl) pass0 (pa_cons (pv 2) (pa_cons (pv 4) pa_nil))))
    (pss_cons (ps_if (PW.pt (pw_or (pt_not (pt_val (pe_callD D_law_numbers (hr.mono (by decide)) (by rfl) pass0 (pa_cons (pv 8) pa_nil)))) (pw_or (pt_cmpR (op_neK (K := K) rfl hr.units) (pv 8) (pv 6) (nomark _)) (pw_or1 (pt_cmpR (op_neK (K := K) rfl hr.units) (pv 2) (pv 1) (nomark _))))))
    (pss_one (ps_ret pe_bl))
    pss_nil)
    (pss_one (ps_expr (pe_bm PySem.F.plainAttrs_list PySem.F.slot_list_append PySem.F.type_list_append mt_append (pv 8) (pa_cons pe_int pa_nil)))))))
    (pss_one (ps_for PassesOwn.never rfl (pi_list (pe_slice (sl_listK (K := K) rfl) (pv 0) po_none (po_some (pe_ifExp (pt_cmpR op_gt (pv 4) pe_int (nomark _)) pe_int pe_int)))) (pg_name (i := 9) sc_law.nd rfl (Or.inl rfl))
    (pss_cons (ps_set (i := 5) sc_law.nd rfl (Or.inr rfl) (pe_op op_modN (pe_op op_fdivN (pv 9) pe_int) (pe_callB (call_lenK (K := K) rfl) (by rfl) B.len_ bo_len (pa_cons (pv 1) pa_nil))))
    (pss_cons (ps_set (i := 10) sc_law.nd rfl (Or.inl rfl) (pe_callD D_after (hr.mono (by decide)) (by rfl) pass0 (pa_cons (pv 2) (pa_cons (pv 5) (pa_cons (pv 4) pa_nil)))))
    (pss_cons (ps_if (PW.pt (pw_or (pt_not (pt_val (pe_callD D_law_numbers (hr.mono (by decide)) (by rfl) pass0 (pa_cons (pe_lst (pa_cons (pv 10) pa_nil)) pa_nil)))) (pw_or (pt_cmpR op_ne (pv 10) (pe_ix (ix_listK (K := K) rfl) (pv 6) (pv 5) (fun _ _ => rfl)) (nomark _)) (pw_or1 (pt_cmpR (op_neK (K := K) rfl hr.units) (pv 2) (pv 1) (nomark _))))))
    (pss_one (ps_ret pe_bl))
    pss_nil)
    (pss_cons (ps_set (i := 8) sc_law.nd rfl (Or.inl rfl) (pe_callD D_comers (hr.mono (by decide)) (by rfl) pass0 (pa_cons (pv 2) (pa_cons (pv 5) (pa_cons (pv 4) pa_nil)))))
    (pss_cons (ps_setLc (i := 11) (own := [("_law_one", 12)]) (g := gName 12) (tt := _) rfl sc_law.nd rfl rfl (sw_true rfl rfl rfl (by decide +kernel)) (pi_range1 (by rfl) B.range_ (pa_cons (pe_callB (call_lenK (K := K) rfl) (by rfl) B.len_ bo_len (pa_cons (pv 6) pa_nil)) pa_nil)) (blkOk_by (N := N_law) (sc := defScope s_law) (by decide +kernel)) (fun _ _ _ _ _ => (pg_name (i := 12) sc_law.nd rfl (Or.inl rfl))) (fun _ _ _ _ _ => (pts_one (pt_cmpR op_eq (pe_ix (ix_listK (K := K) rfl) (pv 6) (pv 12) (fun _ _ => rfl)) (pv 5) (nomark _)))) (fun _ _ _ _ _ => (pv 12)))
    (pss_cons (ps_if (PW.pt (pw_or (pt_not (pt_val (pe_callD D_law_numbers (hr.mono (by decide)) (by rfl) pass0 (pa_cons (pv 8) pa_nil)))) (pw_or1 (pt_cmpR (op_neK (K := K) rfl hr.units) (pv 8) (pv 11) (nomark _)))))
    (pss_one (ps_ret pe_bl))
    pss_nil)
    (pss_one (ps_expr (pe_bm PySem.F.plainAttrs_list PySem.F.slot_list_append PySem.F.type_list_append mt_append (pv 8) (pa_cons pe_int pa_nil)))))))))))))))
    (pss_one (ps_ret (pe_and (pe_cmpR (op_eqK (K := K) rfl hr.units) (pv 2) (pv 1) (nomark _)) (pe_one (pe_cmpR (op_eqK (K := K) rfl hr.units) (pe_callD D_times (hr.mono (by decide)) (by rfl) pass0 (pa_cons (pe_lst pa_nil) (pa_cons (pe_op op_pow pe_int pe_int) pa_nil))) (pe_lst pa_nil) (nomark _)))))))))), ?_⟩
    -- here = _law_leading(script)
    refine q_asgX (ea1 (ev_var rfl)) fun H1 e1 => ⟨a, ns, rfl, ex_l e1 hS, h63, fun L hL hlen p1 H2 n2 e2 h2 => ?_⟩
    have hld : IsLd H2 p1 L := ⟨.inl h2, hL, by omega⟩
    -- handed = list(here)
    refine q_asgL (el_listOf (ev_var rfl) hld.sq) fun p2 H3 n3 e3 h3 => ?_
    have hha : IsLd H3 p2 L := ⟨.inl h3, hL, by omega⟩
    have hld := hld.ex e3
    have hS := ex_l ((e1.trans e2).trans e3) hS
    -- mixed = sum(script)
    refine q_asg (ev_sum (ev_var rfl) hS) fun H4 e4 => ?_
    have hha := hha.ex e4
    have hld := hld.ex e4
    have hS := ex_l e4 hS
    obtain ⟨r1, hr1, _⟩ := fmod_lt ns.sum (m := 97) (by decide)
    obtain ⟨r2, hr2, _⟩ := fmod_lt (ns.sum * 10 ^ (15 : Int).toNat + 7) (m := 10 ^ 20) (by decide)
    refine q_forNLn (xs := nl [0, 1, r1, r2]) (el_lst (ea_cons ev_c (ea_cons ev_c (ea2 (ev_op (ev_var rfl) ev_c (rv_IW (by decide) (by show V.int (ns.sum.fmod ((97 : Nat) : Int)) = _; rw [hr1])))
        (ev_op (ev_op (ev_op (ev_var rfl) (ev_op ev_c ev_c (rv_I ⟨by decide, by decide, by decide⟩)) (rv_I (.inr ⟨by decide, by decide⟩))) ev_c rv_I0) (ev_op ev_c ev_c (rv_I ⟨by decide, by decide, by decide⟩)) (rv_IW (by decide) (by show V.int ((ns.sum * 10 ^ (15 : Int).toNat + 7).fmod (((10 ^ 20 : Nat)) : Int)) = _; rw [hr2])))))) (by show 4 ≤ 100000; decide))
      (fun p i σ' H' => ∃ (C : Hp) (y4 y5 y6 y7 y8 y9 y10 y11 y12 : Option V), σ' = [some (.ref a), some (.ref p1), some (.ref p2), some (.int ns.sum), y4, y5, y6, y7, y8, y9, y10, y11, y12] ∧ Ex H4 C ∧ C p = some (.lst (nl [0, 1, r1, r2])) ∧ Ex C H')
      (fun p H5 n5 e5 h5 => ⟨H5, _, _, _, _, _, _, _, _, _, rfl, e5, h5, Ex.refl _⟩) (fun p i σ' H' _ ⟨C, _, _, _, _, _, _, _, _, _, _, _, h5, e5⟩ => sq_of (e5 _ _ h5)) (fun p i x σ' H' hx hP => ?_) (fun p σ' H' hP => ?_)
    · obtain ⟨C, y4, y5, y6, y7, y8, y9, y10, y11, y12, rfl, eC, hC, eH⟩ := hP
      obtain ⟨n, hn, rfl, _⟩ := nl_inv hx
      have hha := hha.ex (eC.trans eH)
      have hld := hld.ex (eC.trans eH)
      have hS := ex_l (eC.trans eH) hS
      -- due = [..]
      refine q_asgL (el_mapR (fun i => V.int (it L n i : Int)) (ea1 (ev_lenNl (ev_var rfl) hld.sq)) (by omega) fun i H5 e5 hi => ev_callV (ea3 (ev_var rfl) (ev_var rfl) (ev_var rfl)) (sv_lafter (hld.ex e5) hi)) fun p6 H5 n5 e5 h5 => ?_
      rw [nl_tm] at h5
      have hha := hha.ex e5
      have hld := hld.ex e5
      have hS := ex_l e5 hS
      -- for again in range(..)
      refine q_forR1 (ea1 (ev_ifOr (et_test (ev_op (ev_var rfl) ev_c rv_I0)) ev_c ev_c)) (by split <;> omega) (fun k σ' H' => ∃ (y5 y7 y8 y9 y10 y11 y12 : Option V), σ' = [some (.ref a), some (.ref p1), some (.ref p2), some (.int ns.sum), some (.int (n : Int)), y5, some (.ref p6), y7, y8, y9, y10, y11, y12] ∧ Ex H5 H')
        (fun H6 e6 => ⟨_, _, _, _, _, _, _, rfl, e6⟩) (fun k σ' H' hk hP => ?_) (fun σ' H' hP => ?_)
      · obtain ⟨y5, y7, y8, y9, y10, y11, y12, rfl, e6⟩ := hP
        have hha := hha.ex e6
        have hld := hld.ex e6
        have h5 := e6 _ _ h5
        refine q_asgL (el_callL (ea2 (ev_var rfl) (ev_var rfl)) (sl_times hha)) fun p8 H7 n7 e7 h7 => ?_
        refine q_skip (et_orF (et_notT (et_B (ev_callV (ea1 (ev_var rfl)) (sv_numsN (.inl h7) (by rw [tm_length]; omega))))) (et_orF (et_test (ev_op (ev_var rfl) (ev_var rfl) (rv_neN0 (sq_of h7) (sq_of (e7 _ _ h5)) rfl))) (et_test (ev_op (ev_var rfl) (ev_var rfl) (rv_neN0 (hha.ex e7).sq (hld.ex e7).sq rfl))))) fun H8 e8 => ?_
        refine s_app (e8 _ _ h7) (ev_var rfl) ev_c (by rw [nl_len, tm_length]; omega) fun H9 e9 => ?_
        exact ⟨_, _, _, _, _, _, _, rfl, Ex.mut (((e6.trans e7).trans e8).trans e9) (fresh_back e6 n7)⟩
      · obtain ⟨y5, y7, y8, y9, y10, y11, y12, rfl, e6⟩ := hP
        have hha := hha.ex e6
        have hld := hld.ex e6
        have hS := ex_l e6 hS
        -- for cell in script[:..]
        refine s_forNLn (el_sl (ev_var rfl) eo_none (eo_some (ev_ifOr (et_test (ev_op (ev_var rfl) ev_c rv_I0)) ev_c ev_c)) hS) (fun p i σ' H' => ∃ (C' : Hp) (y5 y7 y8 y9 y10 y11 y12 : Option V), σ' = [some (.ref a), some (.ref p1), some (.ref p2), some (.int ns.sum), some (.int (n : Int)), y5, some (.ref p6), y7, y8, y9, y10, y11, y12] ∧ Ex H5 C' ∧ C' p = some (.lst (cutV (il ns) none (some (if decide ((100 : Int) < n) = true then 1 else 2)))) ∧ Ex C' H')
          (fun p H7 n7 e7 h7 => ⟨H7, _, _, _, _, _, _, _, rfl, e6.trans e7, h7, Ex.refl _⟩) (fun p i σ' H' _ ⟨C', _, _, _, _, _, _, _, _, _, h7, e7⟩ => sq_of (e7 _ _ h7)) (fun p i x σ' H' hx hP => ?_) (fun p σ' H' hP => ?_)
        · obtain ⟨C', y5, y7, y8, y9, y10, y11, y12, rfl, eC', hC', e7⟩ := hP
          obtain ⟨z, hz, rfl⟩ := mem_il (cutV_mem hx)
          have hpos : 0 < L.length := by
            have := pos_of_mem hz
            omega
          have e6 := eC'.trans e7
          have h5 := e6 _ _ h5
          have hha := IsLd.ex ⟨.inl h3, hL, by omega⟩ (((((e4.trans eC).trans eH).trans e5).trans e6))
          have hld := IsLd.ex ⟨.inl h2, hL, by omega⟩ (((((e3.trans e4).trans eC).trans eH).trans e5).trans e6)
          obtain ⟨r, hr, hrl⟩ := fmod_lt (z.fdiv 3) hpos
          refine q_asg (ev_op (ev_op (ev_var rfl) ev_c (rv_I ⟨by decide, by decide⟩)) (ev_lenNl (ev_var rfl) hld.sq) (rv_IW (w := .int (r : Int)) (by omega) (by rw [hr]))) fun H8 e8 => ?_
          refine q_asg (ev_callV (ea3 (ev_var rfl) (ev_var rfl) (ev_var rfl)) (sv_after (hha.ex e8) hrl)) fun H9 e9 => ?_
          have e89 := e8.trans e9
          refine q_skip (et_orF (et_notT (et_B (ev_callN1 (el_lst (ea1 (ev_var rfl)) (by show 1 ≤ 100000; decide)) fun p H1 e h => sv_nums (ns := [(it L n r : Int)]) (.inl h) (by show 1 ≤ 40000; decide))))
            (et_orF (et_test (ev_op (ev_var rfl) (ev_op (ev_var rfl) (ev_var rfl) (rv_ixN (sq_of (e89 _ _ h5)) (by rw [tm_length]; exact hrl))) (rv_neB (by rw [st_tm hrl, decide_eq_true rfl]; rfl)))) (et_test (ev_op (ev_var rfl) (ev_var rfl) (rv_neN0 (hha.ex e89).sq (hld.ex e89).sq rfl))))) fun H10 e10 => ?_
          have e810 := e89.trans e10
          refine q_asgL (el_callL (ea3 (ev_var rfl) (ev_var rfl) (ev_var rfl)) (sl_comers (hha.ex e810) hrl)) fun p8 H11 n11 e11 h11 => ?_
          have e811 := e810.trans e11
          refine q_asgL (el_filR (n := L.length) (fun k => decide (it L n k = r)) (fun k => .int (k : Int)) (ea1 (by
              have h := ev_lenNl (K := K) (L := tm L n) (ev_var (i := 6) (v := .ref p6) (σ := [some (.ref a), some (.ref p1), some (.ref p2), some (.int ns.sum), some (.int (n : Int)), some (.int (r : Int)), some (.ref p6), y7, some (.ref p8), some (.int z), some (.int (it L n r : Int)), y11, y12]) rfl) (sq_of (e811 _ _ h5))
              rw [tm_length] at h
              exact h)) (by omega)
            (fun k H12 e12 hk => et_test (ev_op (ev_op (ev_var rfl) (ev_var rfl) (rv_ixN (sq_of (e12 _ _ (e811 _ _ h5))) (by rw [tm_length]; exact hk))) (ev_var rfl) (rv_eqB (by
              rw [st_tm hk]
              exact decide_eq_decide.mpr ⟨fun h => by omega, fun h => by omega⟩)))) fun k H12 e12 hk => ev_var rfl) fun p11 H12 n12 e12 h12 => ?_
          have h12 : H12 p11 = some (.lst (nl ((List.range L.length).filter fun k => decide (it L n k = r)))) := h12
          have h8 := e12 _ _ h11
          have hlen2 : ((List.range L.length).filter fun k => decide (it L n k = r)).length ≤ L.length := by
            have h := List.length_filter_le (fun k => decide (it L n k = r)) (List.range L.length)
            rw [List.length_range] at h
            exact h
          refine q_skip (et_orF (et_notT (et_B (ev_callV (ea1 (ev_var rfl)) (sv_numsN (.inl h8) (by omega))))) (et_test (ev_op (ev_var rfl) (ev_var rfl) (rv_neN0 (sq_of h8) (sq_of h12) rfl)))) fun H13 e13 => ?_
          refine s_app (e13 _ _ h8) (ev_var rfl) ev_c (by rw [nl_len]; omega) fun H14 e14 => ?_
          exact ⟨C', _, _, _, _, _, _, _, rfl, eC', hC', Ex.mut ((((e7.trans e811).trans e12).trans e13).trans e14) (fresh_back (e7.trans e810) n11)⟩
        · obtain ⟨C', y5, y7, y8, y9, y10, y11, y12, rfl, eC', hC', e7⟩ := hP
          exact ⟨C, _, _, _, _, _, _, _, _, _, rfl, eC, hC, ((eH.trans e5).trans eC').trans e7⟩
    · obtain ⟨C, y4, y5, y6, y7, y8, y9, y10, y11, y12, rfl, eC, hC, eH⟩ := hP
      have e := eC.trans eH
      refine s_ret (ev_andT (ev_op (ev_var rfl) (ev_var rfl) (rv_eqN1 (hha.ex e).sq (hld.ex e).sq rfl)) (ev_opLL (xs := nl []) (ys := nl []) (el_callN2 (xs := nl []) (el_lst ea_nil (by decide)) (ev_op ev_c ev_c (rv_I ⟨by decide, by decide, by decide⟩)) fun p H1 e1 h1 =>
        sl_times (L := []) (n := 10 ^ 40) ⟨.inl h1, fun x hx => (nomatch hx), by decide⟩) (el_lst ea_nil (by decide)) fun p q H1 h1 h2 _ => rv_eqN1 (sq_of h1) (sq_of h2) rfl)) fun H1 _ => q H1
end

/-! ### what the top has written -/
theorem all_mk {l : PySem.W.OpenLaw} {w : World} {K : PySem.W.Frag} {h : Heap} {mg : Str → Option Value} {fa f0 f1 f2 f3 f4 f5 f6 f7 f8 f9 f10 f11 : Addr} (X : K.In h) (G : h.Ns mainGlobals mg) (hfa : mg "law" = some (.ref fa))
    {od0 od1 od2 od3 od4 od5 od6 od7 od8 od9 od10 od11 an0 an1 an2 an3 an4 an5 an6 an7 an8 an9 an10 an11 : Option Addr} {sl0 sl1 sl2 sl3 sl4 sl5 sl6 sl7 sl8 sl9 sl10 sl11 : Array (Option Value)} {oc0 oc1 oc2 oc3 oc4 oc5 oc6 oc7 oc8 oc9 oc10 oc11 kV0 kV1 kV2 kV3 kV4 kV5 kV6 kV7 kV8 kV9 kV10 kV11 dc0 dc1 dc2 dc3 dc4 dc5 dc6 dc7 dc8 dc9 dc10 dc11 pm0 pm1 pm2 pm3 pm4 pm5 pm6 pm7 pm8 pm9 pm10 pm11 cd0 cd1 cd2 cd3 cd4 cd5 cd6 cd7 cd8 cd9 cd10 cd11 ct0 ct1 ct2 ct3 ct4 ct5 ct6 ct7 ct8 ct9 ct10 ct11 : Value}
    (a0 : PySem.W.nsIn K mainGlobals "is_number" = some (some (.ref f0))) (l0 : K.lookup f0 = some ⟨oc0, od0, .func (PySem.W.fnOf "is_number" "is_number" (defArgs s_is_number) (defBody s_is_number) (defScope s_is_number) .none kV0 dc0 pm0 an0 cd0 ct0), sl0⟩) (c0 : PySem.W.codeIn K cd0 "is_number" = true) (k0 : PySem.W.keepIn K (.ref f0) = true)
    (a1 : PySem.W.nsIn K mainGlobals "asked_steps" = some (some (.ref f1))) (l1 : K.lookup f1 = some ⟨oc1, od1, .func (PySem.W.fnOf "asked_steps" "asked_steps" (defArgs s_asked_steps) (defBody s_asked_steps) (defScope s_asked_steps) .none kV1 dc1 pm1 an1 cd1 ct1), sl1⟩) (c1 : PySem.W.codeIn K cd1 "asked_steps" = true) (k1 : PySem.W.keepIn K (.ref f1) = true)
    (a2 : PySem.W.nsIn K mainGlobals "done" = some (some (.ref f2))) (l2 : K.lookup f2 = some ⟨oc2, od2, .func (PySem.W.fnOf "done" "done" (defArgs s_done) (defBody s_done) (defScope s_done) .none kV2 dc2 pm2 an2 cd2 ct2), sl2⟩) (c2 : PySem.W.codeIn K cd2 "done" = true) (k2 : PySem.W.keepIn K (.ref f2) = true)
    (a3 : PySem.W.nsIn K mainGlobals "_law_leading" = some (some (.ref f3))) (l3 : K.lookup f3 = some ⟨oc3, od3, .func (PySem.W.fnOf "_law_leading" "_law_leading" (defArgs s_law_leading) (defBody s_law_leading) (defScope s_law_leading) .none kV3 dc3 pm3 an3 cd3 ct3), sl3⟩) (c3 : PySem.W.codeIn K cd3 "_law_leading" = true) (k3 : PySem.W.keepIn K (.ref f3) = true)
    (a4 : PySem.W.nsIn K mainGlobals "_law_after" = some (some (.ref f4))) (l4 : K.lookup f4 = some ⟨oc4, od4, .func (PySem.W.fnOf "_law_after" "_law_after" (defArgs s_law_after) (defBody s_law_after) (defScope s_law_after) .none kV4 dc4 pm4 an4 cd4 ct4), sl4⟩) (c4 : PySem.W.codeIn K cd4 "_law_after" = true) (k4 : PySem.W.keepIn K (.ref f4) = true)
    (a5 : PySem.W.nsIn K mainGlobals "_law_numbers" = some (some (.ref f5))) (l5 : K.lookup f5 = some ⟨oc5, od5, .func (PySem.W.fnOf "_law_numbers" "_law_numbers" (defArgs s_law_numbers) (defBody s_law_numbers) (defScope s_law_numbers) .none kV5 dc5 pm5 an5 cd5 ct5), sl5⟩) (c5 : PySem.W.codeIn K cd5 "_law_numbers" = true) (k5 : PySem.W.keepIn K (.ref f5) = true)
    (a6 : PySem.W.nsIn K mainGlobals "asked_leading" = some (some (.ref f6))) (l6 : K.lookup f6 = some ⟨oc6, od6, .func (PySem.W.fnOf "asked_leading" "asked_leading" (defArgs s_asked_leading) (defBody s_asked_leading) (defScope s_asked_leading) .none kV6 dc6 pm6 an6 cd6 ct6), sl6⟩) (c6 : PySem.W.codeIn K cd6 "asked_leading" = true) (k6 : PySem.W.keepIn K (.ref f6) = true)
    (a7 : PySem.W.nsIn K mainGlobals "asked_place" = some (some (.ref f7))) (l7 : K.lookup f7 = some ⟨oc7, od7, .func (PySem.W.fnOf "asked_place" "asked_place" (defArgs s_asked_place) (defBody s_asked_place) (defScope s_asked_place) .none kV7 dc7 pm7 an7 cd7 ct7), sl7⟩) (c7 : PySem.W.codeIn K cd7 "asked_place" = true) (k7 : PySem.W.keepIn K (.ref f7) = true)
    (a8 : PySem.W.nsIn K mainGlobals "times" = some (some (.ref f8))) (l8 : K.lookup f8 = some ⟨oc8, od8, .func (PySem.W.fnOf "times" "times" (defArgs s_times) (defBody s_times) (defScope s_times) .none kV8 dc8 pm8 an8 cd8 ct8), sl8⟩) (c8 : PySem.W.codeIn K cd8 "times" = true) (k8 : PySem.W.keepIn K (.ref f8) = true)
    (a9 : PySem.W.nsIn K mainGlobals "after" = some (some (.ref f9))) (l9 : K.lookup f9 = some ⟨oc9, od9, .func (PySem.W.fnOf "after" "after" (defArgs s_after) (defBody s_after) (defScope s_after) .none kV9 dc9 pm9 an9 cd9 ct9), sl9⟩) (c9 : PySem.W.codeIn K cd9 "after" = true) (k9 : PySem.W.keepIn K (.ref f9) = true)
    (a10 : PySem.W.nsIn K mainGlobals "comers" = some (some (.ref f10))) (l10 : K.lookup f10 = some ⟨oc10, od10, .func (PySem.W.fnOf "comers" "comers" (defArgs s_comers) (defBody s_comers) (defScope s_comers) .none kV10 dc10 pm10 an10 cd10 ct10), sl10⟩) (c10 : PySem.W.codeIn K cd10 "comers" = true) (k10 : PySem.W.keepIn K (.ref f10) = true)
    (a11 : PySem.W.nsIn K mainGlobals "law" = some (some (.ref f11))) (l11 : K.lookup f11 = some ⟨oc11, od11, .func (PySem.W.fnOf "law" "law" (defArgs s_law) (defBody s_law) (defScope s_law) .none kV11 dc11 pm11 an11 cd11 ct11), sl11⟩) (c11 : PySem.W.codeIn K cd11 "law" = true) (k11 : PySem.W.keepIn K (.ref f11) = true)
    (z_len : PySem.W.nsIn K mainGlobals "len" = some none)
    (z_sum : PySem.W.nsIn K mainGlobals "sum" = some none)
    (z_range : PySem.W.nsIn K mainGlobals "range" = some none)
    (z_list : PySem.W.nsIn K mainGlobals "list" = some none)
    (z_enumerate : PySem.W.nsIn K mainGlobals "enumerate" = some none)
    (z_isinstance : PySem.W.nsIn K mainGlobals "isinstance" = some none)
    (z_int : PySem.W.nsIn K mainGlobals "int" = some none)
    (z_bool : PySem.W.nsIn K mainGlobals "bool" = some none)
    (z_all : PySem.W.nsIn K mainGlobals "all" = some none)
    (z_any : PySem.W.nsIn K mainGlobals "any" = some none)
    (z_max : PySem.W.nsIn K mainGlobals "max" = some none)
    (z_min : PySem.W.nsIn K mainGlobals "min" = some none)
    (z_sorted : PySem.W.nsIn K mainGlobals "sorted" = some none)
    (z_set : PySem.W.nsIn K mainGlobals "set" = some none)
    (z_reversed : PySem.W.nsIn K mainGlobals "reversed" = some none)
    (z_tuple : PySem.W.nsIn K mainGlobals "tuple" = some none)
    : ∃ fd : FuncData, (∀ (s : Shared) (v : Value), BindsTo s fd ⟨[v], []⟩ [("_law_script", v)]) ∧ ∀ base : Heap, K.In base → base.Ns mainGlobals mg → FnOk l.prog w K mg base CX0 4 fa fd ["_law_script"] (spLaw K) := by
  have e := hfa.symm.trans (PySem.W.mg_of X G a11)
  cases e
  have B : Bl mg := ⟨PySem.W.mg_none_of X G z_len, PySem.W.mg_none_of X G z_sum, PySem.W.mg_none_of X G z_range, PySem.W.mg_none_of X G z_list, PySem.W.mg_none_of X G z_enumerate, PySem.W.mg_none_of X G z_isinstance, PySem.W.mg_none_of X G z_int, PySem.W.mg_none_of X G z_bool, PySem.W.mg_none_of X G z_all, PySem.W.mg_none_of X G z_any, PySem.W.mg_none_of X G z_max, PySem.W.mg_none_of X G z_min, PySem.W.mg_none_of X G z_sorted, PySem.W.mg_none_of X G z_set, PySem.W.mg_none_of X G z_reversed, PySem.W.mg_none_of X G z_tuple⟩
  have F0 := fun_mk (st := s_is_number) l0 c0 k0
  have F1 := fun_mk (st := s_asked_steps) l1 c1 k1
  have F2 := fun_mk (st := s_done) l2 c2 k2
  have F3 := fun_mk (st := s_law_leading) l3 c3 k3
  have F4 := fun_mk (st := s_law_after) l4 c4 k4
  have F5 := fun_mk (st := s_law_numbers) l5 c5 k5
  have F6 := fun_mk (st := s_asked_leading) l6 c6 k6
  have F7 := fun_mk (st := s_asked_place) l7 c7 k7
  have F8 := fun_mk (st := s_times) l8 c8 k8
  have F9 := fun_mk (st := s_after) l9 c9 k9
  have F10 := fun_mk (st := s_comers) l10 c10 k10
  have F11 := fun_mk (st := s_law) l11 c11 k11
  refine ⟨PySem.W.fnOf "law" "law" (defArgs s_law) (defBody s_law) (defScope s_law) .none kV11 dc11 pm11 an11 cd11 ct11, fun s v => .of_eq rfl, fun base _ _ => ?_⟩
  have D_is_number : Dk l.prog w K mg base CX0 1 "is_number" ["thing", "least", "most"] spIsNum := ⟨_, _, ok_is_number F0 B, PySem.W.mg_of X G a0, k0, F0.binds fun _ _ _ _ _ _ us hl => match us, hl with | [_, _, _], _ => rfl⟩
  have D_asked_steps : Dk l.prog w K mg base CX0 1 "asked_steps" ["steps"] spAskedS := ⟨_, _, ok_asked_steps F1 B, PySem.W.mg_of X G a1, k1, F1.binds fun _ _ _ _ _ _ us hl => match us, hl with | [_], _ => rfl⟩
  have D_done : Dk l.prog w K mg base CX0 1 "done" ["leading", "steps"] spDone := ⟨_, _, ok_done F2 B, PySem.W.mg_of X G a2, k2, F2.binds fun _ _ _ _ _ _ us hl => match us, hl with | [_, _], _ => rfl⟩
  have D_law_leading : Dk l.prog w K mg base CX0 1 "_law_leading" ["_law_script"] (spLLead K) := ⟨_, _, ok_law_leading F3 B, PySem.W.mg_of X G a3, k3, F3.binds fun _ _ _ _ _ _ us hl => match us, hl with | [_], _ => rfl⟩
  have D_law_after : Dk l.prog w K mg base CX0 1 "_law_after" ["_law_leading_here", "_law_place", "_law_steps"] spLAfter := ⟨_, _, ok_law_after F4 B, PySem.W.mg_of X G a4, k4, F4.binds fun _ _ _ _ _ _ us hl => match us, hl with | [_, _, _], _ => rfl⟩
  have D_law_numbers : Dk l.prog w K mg base CX0 1 "_law_numbers" ["_law_found"] spNums := ⟨_, _, ok_law_numbers F5 B, PySem.W.mg_of X G a5, k5, F5.binds fun _ _ _ _ _ _ us hl => match us, hl with | [_], _ => rfl⟩
  have D_asked_leading : Dk l.prog w K mg base CX0 2 "asked_leading" ["leading"] spAskedL := ⟨_, _, ok_asked_leading F6 B D_is_number, PySem.W.mg_of X G a6, k6, F6.binds fun _ _ _ _ _ _ us hl => match us, hl with | [_], _ => rfl⟩
  have D_asked_place : Dk l.prog w K mg base CX0 2 "asked_place" ["leading", "place"] spAskedP := ⟨_, _, ok_asked_place F7 B D_is_number, PySem.W.mg_of X G a7, k7, F7.binds fun _ _ _ _ _ _ us hl => match us, hl with | [_, _], _ => rfl⟩
  have D_times : Dk l.prog w K mg base CX0 3 "times" ["leading", "steps"] spTimes := ⟨_, _, ok_times F8 D_asked_leading D_asked_steps D_done, PySem.W.mg_of X G a8, k8, F8.binds fun _ _ _ _ _ _ us hl => match us, hl with | [_, _], _ => rfl⟩
  have D_after : Dk l.prog w K mg base CX0 3 "after" ["leading", "place", "steps"] spAfter := ⟨_, _, ok_after F9 D_asked_leading D_asked_place D_asked_steps D_done, PySem.W.mg_of X G a9, k9, F9.binds fun _ _ _ _ _ _ us hl => match us, hl with | [_, _, _], _ => rfl⟩
  have D_comers : Dk l.prog w K mg base CX0 3 "comers" ["leading", "place", "steps"] spComers := ⟨_, _, ok_comers F10 B D_asked_leading D_asked_place D_asked_steps D_done, PySem.W.mg_of X G a10, k10, F10.binds fun _ _ _ _ _ _ us hl => match us, hl with | [_, _, _], _ => rfl⟩
  exact ok_law F11 B D_law_leading D_law_after D_law_numbers D_times D_after D_comers
end Ld
open PySem PySem.W PyProof.Rows
set_option maxRecDepth 100000 in
set_option maxHeartbeats 0 in
theorem PySem.Challenge.cw_leadson_k01_whole_after_holds : PySem.Challenge.rw_leadson_k01_whole_after.Holds := by
  w_on; o_law; k_head; (case hw => w_witness2)
  k_fill
  refine L2.walk_of (l := PySem.Challenge.rw_leadson_k01_whole_after) (n := 63) (k := 4) (x := "_law_script") (CX := fun _ => L2.CX0) (sp := fun w => Ld.spLaw _) rfl (by decide) rfl ⟨rfl, by decide, by decide⟩ (fun w h Y => PySem.W.kIn_of Y) ?F (fun _ _ a ns hl _ hS => ⟨a, ns, rfl, hS, hl, fun _ => rfl⟩) (fun _ _ _ _ _ h => h)
  case F =>
    intro w mg fa h KX G hmg
    refine' Ld.all_mk KX G hmg ?a0 ?l0 ?c0 ?k0 ?a1 ?l1 ?c1 ?k1 ?a2 ?l2 ?c2 ?k2 ?a3 ?l3 ?c3 ?k3 ?a4 ?l4 ?c4 ?k4 ?a5 ?l5 ?c5 ?k5 ?a6 ?l6 ?c6 ?k6 ?a7 ?l7 ?c7 ?k7 ?a8 ?l8 ?c8 ?k8 ?a9 ?l9 ?c9 ?k9 ?a10 ?l10 ?c10 ?k10 ?a11 ?l11 ?c11 ?k11 ?z_len ?z_sum ?z_range ?z_list ?z_enumerate ?z_isinstance ?z_int ?z_bool ?z_all ?z_any ?z_max ?z_min ?z_sorted ?z_set ?z_reversed ?z_tuple
    (case a0 => k_is)
    (case l0 => k_is)
    (case c0 => k_is)
    (case k0 => k_is)
    (case a1 => k_is)
    (case l1 => k_is)
    (case c1 => k_is)
    (case k1 => k_is)
    (case a2 => k_is)
    (case l2 => k_is)
    (case c2 => k_is)
    (case k2 => k_is)
    (case a3 => k_is)
    (case l3 => k_is)
    (case c3 => k_is)
    (case k3 => k_is)
    (case a4 => k_is)
    (case l4 => k_is)
    (case c4 => k_is)
    (case k4 => k_is)
    (case a5 => k_is)
    (case l5 => k_is)
    (case c5 => k_is)
    (case k5 => k_is)
    (case a6 => k_is)
    (case l6 => k_is)
    (case c6 => k_is)
    (case k6 => k_is)
    (case a7 => k_is)
    (case l7 => k_is)
    (case c7 => k_is)
    (case k7 => k_is)
    (case a8 => k_is)
    (case l8 => k_is)
    (case c8 => k_is)
    (case k8 => k_is)
    (case a9 => k_is)
    (case l9 => k_is)
    (case c9 => k_is)
    (case k9 => k_is)
    (case a10 => k_is)
    (case l10 => k_is)
    (case c10 => k_is)
    (case k10 => k_is)
    (case a11 => k_is)
    (case l11 => k_is)
    (case c11 => k_is)
    (case k11 => k_is)
    (case z_len => k_is)
    (case z_sum => k_is)
    (case z_range => k_is)
    (case z_list => k_is)
    (case z_enumerate => k_is)
    (case z_isinstance => k_is)
    (case z_int => k_is)
    (case z_bool => k_is)
    (case z_all => k_is)
    (case z_any => k_is)
    (case z_max => k_is)
    (case z_min => k_is)
    (case z_sorted => k_is)
    (case z_set => k_is)
    (case z_reversed => k_is)
    (case z_tuple => k_is)
