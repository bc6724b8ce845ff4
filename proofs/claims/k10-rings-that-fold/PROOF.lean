import PyProof.Rows.All
import Wide.All
import OpenK.AllK
import Wide.FinOn
import PySem.Challenge.RW_ringfigures_k10_rings_that_fold
import HandS.ForMost
import HandS.ForExc
import HandS.Wide
import HandS.IsInst
import HandS.Codes
import HandS.Style
import HandS.Evl
import HandS.Walk
import HandS.Zip
set_option Elab.async false
set_option linter.all false
set_option maxRecDepth 100000
set_option maxHeartbeats 4000000
set_option maxRecDepth 100000
set_option maxHeartbeats 4000000
namespace Rf
open PySem PySem.Spec PyProof.Rows L2
/-! ### heaps -/
theorem same_new {H H' : Hp} {p : Addr} {o : HO} (s : Same H H') (h : H p = none) : Same H (upd H' p o) := fun b u e => by
  rw [upd_ne (ne_of_none e h)]
  exact s b u e
theorem same_upd {H : Hp} {p : Addr} {o : HO} (h : H p = none) : Same H (upd H p o) := same_new (Same.refl H) h
theorem ne_new {H : Hp} {d f : Addr} {o : HO} (h : upd H d o f = none) : f ≠ d := fun e => by
  rw [e, upd_same] at h
  cases h
theorem free_upd {H : Hp} {d f : Addr} {o : HO} (h : upd H d o f = none) : H f = none := by
  rw [upd_ne (ne_new h)] at h
  exact h
theorem same_ups {H H' : Hp} {d : Addr} {o : HO} (s : Same H H') (h : H' d = none) : Same H (upd H' d o) := s.trans (same_upd h)
theorem keyne {a b : Nat} (h : a ≠ b) : ¬ ((Sum.inl (a : Int) : Key) = Sum.inl (b : Int)) := fun q => h (by have := Sum.inl.inj q; omega)
theorem sz100 {n : Nat} (h : n ≤ 1000000) : n ≤ sizeLine := Nat.le_trans h (by decide)
theorem sz100lt {n : Nat} (h : n < 1000000) : n < sizeLine := Nat.lt_of_lt_of_le h (by decide)
theorem sqt {K : PySem.W.Frag} {H : Hp} {a : Addr} {xs : List V} (h : H a = some (.tup xs)) : SqT K H a xs := .inl (.inl h)
theorem sql {K : PySem.W.Frag} {H : Hp} {a : Addr} {xs : List V} (h : H a = some (.lst xs)) : SqL K H a xs := .inl (.inl h)
/-! ### floor division by any positive number, where the quotient is not long -/
def CDivP (i j : Int) : Prop := 0 < j ∧ Builtin.divisionGoesByPylong i j = false
theorem op_fdivP {X : Cx} : OpR X (binaryOp .FloorDiv) (rI CDivP fun i j => .int (i / j)) := opI fun i j _ _ _ _ _ hc q => by
  have h1 : (0 : Int) < j := hc.1
  exact floordiv_int (by omega) (by rw [Int.fdiv_eq_ediv_of_nonneg i (by omega)]; exact q) (.inl hc.2)
theorem cdivp_small {i j : Int} (h : 0 < j) (h2 : j < 1073741824) : CDivP i j := ⟨h, PyProof.noPylong_small (by omega)⟩
/-- a divisor that is not long -/
structure Wid (m : Nat) : Prop where
  lt : m.log2 < 9000
theorem cdivp_wide {i : Int} {m : Nat} (h0 : 0 < m) (h : Wid m) : CDivP i (m : Int) := ⟨by omega, PyProof.noPylong_of_log2 (by rw [Int.natAbs_natCast]; exact h.lt)⟩
theorem wid_of {m k : Nat} (h : m < 2 ^ k) (hk : k ≤ 9000) (h0 : 0 < k) : Wid m := ⟨Nat.lt_of_lt_of_le (PySem.Flt.log2_lt_of h0 h) hk⟩
theorem wid_small {m : Nat} (h : m < 1000000) : Wid m := wid_of (k := 30) (Nat.lt_of_lt_of_le h (by decide)) (by decide) (by decide)
theorem op_mulB {X : Cx} : OpR X (binaryOp .Mult) (rI IntMulOk fun i j => .int (i * j)) := opI fun _ _ _ _ _ _ _ hc q => mul_int q hc
theorem mulB_right {i j : Int} (h1 : -(2 ^ 64) < j) (h2 : j < 2 ^ 64) : IntMulOk i j := IntMulOk.of_right (intBits_le_64 (by omega) (by omega))
theorem mulB_left {i j : Int} (h1 : -(2 ^ 64) < i) (h2 : i < 2 ^ 64) : IntMulOk i j := IntMulOk.of_left (intBits_le_64 (by omega) (by omega))
/-! ### slices -/
theorem cut_take (xs : List V) (k : Nat) : cutV xs none (some (k : Int)) = xs.take k := by
  unfold cutV
  rw [HT.sIx_none, HT.sIx_nat, List.drop_zero, Nat.sub_zero, ← List.take_take, List.take_length]
theorem cut_drop (xs : List V) (k : Nat) : cutV xs (some (k : Int)) none = xs.drop k := by
  unfold cutV
  rw [HT.sIx_none, HT.sIx_nat]
  by_cases h : k ≤ xs.length
  · rw [Nat.min_eq_left h]
    exact List.take_of_length_le (by rw [List.length_drop]; exact Nat.le_refl _)
  · rw [Nat.min_eq_right (by omega), List.drop_eq_nil_of_le (Nat.le_refl _), List.drop_eq_nil_of_le (by omega), List.take_nil]
theorem take_map (l : List Int) (k : Nat) : (l.map V.int).take k = (l.take k).map V.int := (List.map_take).symm
theorem drop_map (l : List Int) (k : Nat) : (l.map V.int).drop k = (l.drop k).map V.int := (List.map_drop).symm
/-! ### ints as data -/
def dI (ns : List Int) : PyData := .list (ns.map PyData.int)
theorem eqv_ints : ∀ a b : List Int, PyData.eqvAll (a.map PyData.int) (b.map PyData.int) = decide (a = b)
  | [], [] => rfl
  | [], _ :: _ => rfl
  | _ :: _, [] => rfl
  | x :: a, y :: b => by
    show (PyData.eqv (.int x) (.int y) && PyData.eqvAll (a.map PyData.int) (b.map PyData.int)) = _
    rw [eqv_ints a b]
    show ((x == y) && decide (a = b)) = _
    by_cases h : x = y <;> by_cases h2 : a = b <;> simp [h, h2]
theorem eqv_dI (a b : List Int) : PyData.eqv (dI a) (dI b) = decide (a = b) := by
  unfold dI
  rw [PyData.eqv]
  exact eqv_ints a b
theorem canLay_ints : ∀ a : List Int, PyData.canLayAll0 (a.map PyData.int) = true
  | [] => rfl
  | x :: a => by
    show (PyData.canLay0 (.int x) && PyData.canLayAll0 (a.map PyData.int)) = true
    rw [canLay_ints a]
    rfl
theorem depth_ints : ∀ a : List Int, PyData.depthAll (a.map PyData.int) = 0
  | [] => rfl
  | x :: a => by
    show max (PyData.depth (.int x)) (PyData.depthAll (a.map PyData.int)) = 0
    rw [depth_ints a]
    rfl
theorem shaped_dI (a : List Int) : SeqAt.shaped (dI a) = true := by
  unfold SeqAt.shaped dI
  rw [show PyData.canLay0 (.list (a.map PyData.int)) = PyData.canLayAll0 (a.map PyData.int) from rfl, canLay_ints]
  rw [show PyData.depth (.list (a.map PyData.int)) = PyData.depthAll (a.map PyData.int) + 1 from rfl, depth_ints]
  rfl
theorem dpAll_ints {K : PySem.W.Frag} {H : Hp} : ∀ a : List Int, DpAll K H (a.map V.int) (a.map PyData.int)
  | [] => .nil
  | x :: a => .cons (.int x) (dpAll_ints a)
theorem dp_dI {K : PySem.W.Frag} {H : Hp} {p : Addr} {a : List Int} (h : SqL K H p (a.map V.int)) : Dp K H (.ref p) (dI a) := .lst h (dpAll_ints a)
/-! ### writings -/
/-- a whole number, figures ahead, a ring -/
structure Wr where
  w : Int
  a : List Int
  r : List Int
  deriving DecidableEq
def dW (x : Wr) : PyData := .tuple [.int x.w, dI x.a, dI x.r]
theorem eqv_dW (x y : Wr) : PyData.eqv (dW x) (dW y) = decide (x = y) := by
  unfold dW
  rw [PyData.eqv]
  show (PyData.eqv (.int x.w) (.int y.w) && (PyData.eqv (dI x.a) (dI y.a) && (PyData.eqv (dI x.r) (dI y.r) && true))) = _
  rw [eqv_dI, eqv_dI]
  show ((x.w == y.w) && _) = _
  obtain ⟨w1, a1, r1⟩ := x
  obtain ⟨w2, a2, r2⟩ := y
  by_cases h1 : w1 = w2 <;> by_cases h2 : a1 = a2 <;> by_cases h3 : r1 = r2 <;> simp [h1, h2, h3]
theorem shaped_dW (x : Wr) : SeqAt.shaped (dW x) = true := by
  unfold SeqAt.shaped dW dI
  show (PyData.canLay0 (.int x.w) && (PyData.canLayAll0 (x.a.map PyData.int) && (PyData.canLayAll0 (x.r.map PyData.int) && true)) && decide (max 0 (max (PyData.depthAll (x.a.map PyData.int) + 1) (max (PyData.depthAll (x.r.map PyData.int) + 1) 0)) + 1 ≤ 64)) = true
  rw [canLay_ints, canLay_ints, depth_ints, depth_ints]
  rfl
/-- the writing x stands at p, its lists at a and r -/
structure WrAt (H : Hp) (p a r : Addr) (x : Wr) : Prop where
  tp : H p = some (.tup [.int x.w, .ref a, .ref r])
  la : H a = some (.lst (x.a.map V.int))
  lr : H r = some (.lst (x.r.map V.int))
theorem WrAt.dp {K : PySem.W.Frag} {H : Hp} {p a r : Addr} {x : Wr} (h : WrAt H p a r x) : Dp K H (.ref p) (dW x) :=
  .tup (sqt h.tp) (.cons (.int x.w) (.cons (dp_dI (sql h.la)) (.cons (dp_dI (sql h.lr)) .nil)))
theorem WrAt.same {H H' : Hp} {p a r : Addr} {x : Wr} (h : WrAt H p a r x) (s : Same H H') : WrAt H' p a r x := ⟨s _ _ h.tp, s _ _ h.la, s _ _ h.lr⟩
/-- a new writing x at p: all that was stands, its objects are new and its lists are two -/
structure WrNew (H H' : Hp) (p a r : Addr) (x : Wr) : Prop where
  at' : WrAt H' p a r x
  same : Same H H'
  np : H p = none
  na : H a = none
  nr : H r = none
  ne : a ≠ r
/-! ### tests -/
theorem iteD {c : Prop} [Decidable c] {A B : Prop} (h1 : c → A) (h2 : ¬ c → B) : if decide c = true then A else B := by
  by_cases h : c
  · rw [if_pos (decide_eq_true h)]; exact h1 h
  · rw [if_neg (by rw [decide_eq_false h]; exact Bool.false_ne_true)]; exact h2 h
theorem iteDn {c : Prop} [Decidable c] {A B : Prop} (h1 : ¬ c → A) (h2 : c → B) : if (!decide c) = true then A else B := by
  by_cases h : c
  · rw [if_neg (by rw [decide_eq_true h]; exact Bool.false_ne_true)]; exact h2 h
  · rw [if_pos (by rw [decide_eq_false h]; rfl)]; exact h1 h
theorem iteE {i j : Int} {A B : Prop} (h1 : i = j → A) (h2 : i ≠ j → B) : if decide (V.int i = V.int j) = true then A else B := iteD (fun e => h1 (V.int.inj e)) (fun e => h2 fun q => e (by rw [q]))
theorem iteEn {i j : Int} {A B : Prop} (h1 : i ≠ j → A) (h2 : i = j → B) : if (!decide (V.int i = V.int j)) = true then A else B := iteDn (fun e => h1 fun q => e (by rw [q])) (fun e => h2 (V.int.inj e))
theorem iteB {b : Bool} {A B : Prop} (h1 : b = true → A) (h2 : b = false → B) : if b = true then A else B := by
  cases b with
  | true => rw [if_pos rfl]; exact h1 rfl
  | false => rw [if_neg Bool.false_ne_true]; exact h2 rfl
theorem atI_of {xs : List V} {z : Int} {j : Nat} {v : V} (e : z = (j : Int)) (h : xs[j]? = some v) : atI xs z = some v := by
  rw [e]
  exact atI_nat h
theorem map_get {ns : List Int} {k : Nat} {x : Int} (h : ns[k]? = some x) : (ns.map V.int)[k]? = some (.int x) := by
  rw [List.getElem?_map, h]; rfl
/-! ### where a value's kind is asked -/
theorem kit_int_int {K : PySem.W.Frag} : PySem.W.kitOne K (.type "int") (.type "int") = some true := kit_ty (by decide +kernel)
theorem kit_int_bool {K : PySem.W.Frag} : PySem.W.kitOne K (.type "int") (.type "bool") = some false := kit_ty (by decide +kernel)
theorem kit_tup {K : PySem.W.Frag} : PySem.W.kitOne K (.type "tuple") (.type "tuple") = some true := kit_ty (by decide +kernel)
theorem kit_lst {K : PySem.W.Frag} : PySem.W.kitOne K (.type "list") (.type "list") = some true := kit_ty (by decide +kernel)
theorem kit_bool {K : PySem.W.Frag} : PySem.W.kitOne K (.type "bool") (.type "bool") = some true := kit_ty (by decide +kernel)
theorem kit_str {K : PySem.W.Frag} : PySem.W.kitOne K (.type "str") (.type "str") = some true := kit_ty (by decide +kernel)
theorem kit_self {K : PySem.W.Frag} {n : String} : PySem.W.kitOne K (.type n) (.type n) = some true := kit_ty (by unfold kitB; rw [if_pos (by simp)])
end Rf

set_option maxHeartbeats 1000000
namespace Rf
/-! ### the rests of a division, and where they come again -/
/-- the rest behind k figures -/
def rs (b m r k : Nat) : Nat := r * b ^ k % m
/-- the k-th figure -/
def dg (b m r k : Nat) : Nat := rs b m r k * b / m
/-- n figures from the i-th on -/
def dgs (b m r i n : Nat) : List Int := (List.range n).map fun k => ((dg b m r (i + k) : Nat) : Int)
theorem rs_zero {b m r : Nat} (h : r < m) : rs b m r 0 = r := by
  unfold rs
  rw [Nat.pow_zero, Nat.mul_one, Nat.mod_eq_of_lt h]
theorem rs_lt {b m r k : Nat} (h : 0 < m) : rs b m r k < m := Nat.mod_lt _ h
theorem rs_succ (b m r k : Nat) : rs b m r (k + 1) = rs b m r k * b % m := by
  unfold rs
  rw [Nat.pow_succ, ← Nat.mul_assoc, Nat.mul_mod (r * b ^ k) b m, Nat.mul_mod (r * b ^ k % m) b m, Nat.mod_mod]
theorem dgs_len (b m r i n : Nat) : (dgs b m r i n).length = n := by
  unfold dgs
  rw [List.length_map, List.length_range]
theorem dgs_succ (b m r i n : Nat) : dgs b m r i (n + 1) = dgs b m r i n ++ [((dg b m r (i + n) : Nat) : Int)] := by
  unfold dgs
  rw [List.range_succ, List.map_append]
  rfl
theorem dgs_take (b m r n k : Nat) (h : k ≤ n) : (dgs b m r 0 n).take k = dgs b m r 0 k := by
  unfold dgs
  rw [← List.map_take, List.take_range, Nat.min_eq_left h]
theorem dgs_get (b m r i n k : Nat) (h : k < n) : (dgs b m r i n)[k]? = some ((dg b m r (i + k) : Nat) : Int) := by
  unfold dgs
  rw [List.getElem?_map, List.getElem?_range h]
  rfl
theorem dgs_drop (b m r n k : Nat) (h : k ≤ n) : (dgs b m r 0 n).drop k = dgs b m r k (n - k) := by
  apply List.ext_getElem?
  intro j
  rw [List.getElem?_drop]
  by_cases hj : j < n - k
  · rw [dgs_get _ _ _ _ _ _ hj, dgs_get _ _ _ _ _ _ (show k + j < n by omega), Nat.zero_add]
  · rw [List.getElem?_eq_none (by rw [dgs_len]; omega), List.getElem?_eq_none (by rw [dgs_len]; omega)]
/-- division of r by m in base b: s figures ahead, then a ring of l (none: l = 0) -/
structure DivAt (b m r s l : Nat) : Prop where
  pos : ∀ k, k < s + l → rs b m r k ≠ 0
  new : ∀ j k, j < k → k < s + l → rs b m r j ≠ rs b m r k
  fin : l = 0 → rs b m r s = 0
  rep : 0 < l → rs b m r (s + l) = rs b m r s
/-- the first n at which the division stops -/
def Stp (b m r n : Nat) : Prop := rs b m r n = 0 ∨ ∃ j, j < n ∧ rs b m r j = rs b m r n
theorem DivAt.stp {b m r s l : Nat} (h : DivAt b m r s l) : Stp b m r (s + l) := by
  by_cases hl : l = 0
  · subst hl; exact .inl (h.fin rfl)
  · exact .inr ⟨s, by omega, (h.rep (by omega)).symm⟩
theorem DivAt.not_stp {b m r s l n : Nat} (h : DivAt b m r s l) (hn : n < s + l) : ¬ Stp b m r n := fun q => by
  rcases q with q | ⟨j, hj, e⟩
  · exact h.pos n hn q
  · exact h.new j n hj hn e
theorem DivAt.unique {b m r s l s' l' : Nat} (h : DivAt b m r s l) (h' : DivAt b m r s' l') : s = s' ∧ l = l' := by
  have e : s + l = s' + l' := by
    rcases Nat.lt_trichotomy (s + l) (s' + l') with q | q | q
    · exact absurd h.stp (h'.not_stp q)
    · exact q
    · exact absurd h'.stp (h.not_stp q)
  by_cases hl : l = 0
  · by_cases hl' : l' = 0
    · omega
    · have h1 := h.fin hl
      have h2 := h'.rep (by omega)
      have h3 : s = s' + l' := by omega
      rw [← h3, h1] at h2
      exact absurd h2.symm (h'.pos s' (by omega))
  · by_cases hl' : l' = 0
    · have h1 := h'.fin hl'
      have h2 := h.rep (by omega)
      have h3 : s' = s + l := by omega
      rw [← h3, h1] at h2
      exact absurd h2.symm (h.pos s (by omega))
    · have h1 := h.rep (by omega)
      have h2 := h'.rep (by omega)
      rw [e] at h1
      have h3 : rs b m r s = rs b m r s' := h1.symm.trans h2
      rcases Nat.lt_trichotomy s s' with q | q | q
      · exact absurd h3 (h.new s s' q (by omega))
      · omega
      · exact absurd h3.symm (h'.new s' s q (by omega))
theorem exists_least (P : Nat → Prop) : ∀ n, P n → ∃ k, k ≤ n ∧ P k ∧ ∀ j, j < k → ¬ P j := fun n => by
  induction n using Nat.strongRecOn with
  | _ n ih =>
    intro h
    by_cases q : ∃ j, j < n ∧ P j
    · obtain ⟨j, hj, pj⟩ := q
      obtain ⟨k, hk, pk, lk⟩ := ih j hj pj
      exact ⟨k, by omega, pk, lk⟩
    · exact ⟨n, Nat.le_refl _, h, fun j hj pj => q ⟨j, hj, pj⟩⟩
/-- an injection of the numbers below n into those below m -/
theorem pigeon : ∀ (m n : Nat) (f : Nat → Nat), (∀ k, k < n → f k < m) → (∀ j k, j < k → k < n → f j ≠ f k) → n ≤ m
  | 0, n, f, h, _ => by
    cases n with
    | zero => exact Nat.le_refl _
    | succ n => exact absurd (h 0 (by omega)) (by omega)
  | m + 1, n, f, h, inj => by
    by_cases q : ∃ i, i < n ∧ f i = m
    · obtain ⟨i, hi, ei⟩ := q
      have key : n - 1 ≤ m := pigeon m (n - 1) (fun k => if k < i then f k else f (k + 1)) (fun k hk => by
          split
          · rename_i c
            have h1 := h k (by omega)
            have h2 := inj k i c hi
            omega
          · rename_i c
            have h1 := h (k + 1) (by omega)
            have h2 := inj i (k + 1) (by omega) (by omega)
            omega) (fun j k hjk hk => by
          split
          · split
            · exact inj j k hjk (by omega)
            · exact inj j (k + 1) (by omega) (by omega)
          · split
            · omega
            · exact inj (j + 1) (k + 1) (by omega) (by omega))
      omega
    · have key : n ≤ m := pigeon m n f (fun k hk => by
          have h1 := h k hk
          have h2 : f k ≠ m := fun e => q ⟨k, hk, e⟩
          omega) inj
      omega
theorem stp_exists {b m r : Nat} (hm : 0 < m) : ∃ n, n ≤ m ∧ Stp b m r n := by
  by_cases q : ∃ n, n ≤ m ∧ Stp b m r n
  · exact q
  · have h1 : m + 1 ≤ m := pigeon m (m + 1) (rs b m r) (fun k _ => rs_lt hm) (fun j k hjk hk e => q ⟨k, by omega, .inr ⟨j, hjk, e⟩⟩)
    omega
theorem divAt_of_stp {b m r n : Nat} (h : Stp b m r n) (hl : ∀ j, j < n → ¬ Stp b m r j) : ∃ s l, s + l = n ∧ DivAt b m r s l := by
  have hp : ∀ k, k < n → rs b m r k ≠ 0 := fun k hk e => hl k hk (.inl e)
  have hn : ∀ j k, j < k → k < n → rs b m r j ≠ rs b m r k := fun j k hjk hk e => hl k hk (.inr ⟨j, hjk, e⟩)
  by_cases h0 : rs b m r n = 0
  · exact ⟨n, 0, by omega, ⟨hp, hn, fun _ => h0, fun q => absurd q (by omega)⟩⟩
  · rcases h with h | ⟨j, hj, e⟩
    · exact absurd h h0
    · refine ⟨j, n - j, by omega, ⟨fun k hk => hp k (by omega), fun i k hik hk => hn i k hik (by omega), fun q => by omega, fun _ => ?_⟩⟩
      rw [show j + (n - j) = n by omega]
      exact e.symm
theorem divAt_exists {b m r : Nat} (hm : 0 < m) : ∃ s l, s + l ≤ m ∧ DivAt b m r s l := by
  obtain ⟨n, hn, h⟩ := stp_exists (b := b) (r := r) hm
  obtain ⟨k, hk, pk, lk⟩ := exists_least (Stp b m r) n h
  obtain ⟨s, l, e, d⟩ := divAt_of_stp pk lk
  exact ⟨s, l, by omega, d⟩
end Rf

set_option maxHeartbeats 1000000
namespace Rf
/-! ### figures come round -/
theorem rs_add (b m r i j : Nat) : rs b m r (i + j) = rs b m (rs b m r i) j := by
  unfold rs
  rw [Nat.pow_add, ← Nat.mul_assoc, Nat.mul_mod (r * b ^ i) (b ^ j) m, Nat.mul_mod (r * b ^ i % m) (b ^ j) m, Nat.mod_mod]
theorem DivAt.nought {b m r s l : Nat} (h : DivAt b m r s l) (hl : l = 0) (i : Nat) : rs b m r (s + i) = 0 := by
  rw [rs_add, h.fin hl]
  unfold rs
  rw [Nat.zero_mul, Nat.zero_mod]
theorem DivAt.round {b m r s l : Nat} (h : DivAt b m r s l) (hl : 0 < l) (i : Nat) : rs b m r (s + l + i) = rs b m r (s + i) := by
  rw [rs_add, h.rep hl, ← rs_add]
theorem DivAt.rounds {b m r s l : Nat} (h : DivAt b m r s l) (hl : 0 < l) (i : Nat) : ∀ n, rs b m r (s + (i + l * n)) = rs b m r (s + i)
  | 0 => by rw [Nat.mul_zero, Nat.add_zero]
  | n + 1 => by
    rw [show s + (i + l * (n + 1)) = s + l + (i + l * n) by rw [Nat.mul_add, Nat.mul_one]; omega, h.round hl]
    exact h.rounds hl i n
theorem DivAt.mod {b m r s l : Nat} (h : DivAt b m r s l) (hl : 0 < l) (i : Nat) : rs b m r (s + i) = rs b m r (s + i % l) := by
  have e := h.rounds hl (i % l) (i / l)
  rw [Nat.mod_add_div] at e
  exact e
/-- the figure at a place, by the writing -/
theorem DivAt.fig {b m r s l n : Nat} (h : DivAt b m r s l) (hn : s ≤ n) : dg b m r n = if l = 0 then 0 else dg b m r (s + (n - s) % l) := by
  unfold dg
  by_cases hl : l = 0
  · rw [if_pos hl, show n = s + (n - s) by omega, h.nought hl, Nat.zero_mul, Nat.zero_div]
  · rw [if_neg hl]
    have e := h.mod (by omega) (n - s)
    rw [show s + (n - s) = n by omega] at e
    rw [e]
/-! ### powers by squaring -/
theorem pow_half (F G m p : Nat) : (if p % 2 = 1 then F * G % m else F) * (G * G % m) ^ (p / 2) % m = F * G ^ p % m := by
  have e : G ^ p = (if p % 2 = 1 then G else 1) * (G * G) ^ (p / 2) := by
    rw [← Nat.pow_two, ← Nat.pow_mul]
    split
    · rename_i h
      rw [← Nat.pow_succ']
      congr 1
      omega
    · rename_i h
      rw [Nat.one_mul]
      congr 1
      omega
  rw [e, Nat.mul_mod, ← Nat.pow_mod, ← Nat.mul_mod, ← Nat.mul_assoc]
  split
  · rw [Nat.mul_mod (F * G % m), Nat.mod_mod, ← Nat.mul_mod]
  · rw [Nat.mul_one]
end Rf

set_option maxRecDepth 100000
set_option maxHeartbeats 4000000
namespace Rf
open PySem PySem.Spec PyProof.Rows L2
/-! ### comprehensions of values that are read off -/
theorem take_snoc {α : Type} {l : List α} {i : Nat} {x : α} (h : l[i]? = some x) : l.take (i + 1) = l.take i ++ [x] := by
  rw [List.take_add_one, h]; rfl
/-- over a list -/
theorem lc_vals {K : PySem.W.Frag} {a D : Addr} {xs : List V} {te : TE} {vs : List Nat} {σ : L2.St} {i : Nat} {H : Hp} {Qd : Hp → Prop} (g : V → V) (hS : SqL K H a xs) (nD : H D = none) (hlen : xs.length < 1000000)
    (hw : ∀ x, wipe ((wipe σ vs).set i (some x)) vs = wipe σ vs)
    (he : ∀ x, x ∈ xs → ∀ H' (Q : VK), Same H H' → (∀ H2, Same H' H2 → Q (g x) H2) → te ((wipe σ vs).set i (some x)) H' Q) (hd : ∀ H', Same H H' → H' D = some (.lst (xs.map g)) → Qd H') :
    ∃ W : Nat → Nat → Hp → Prop, (∃ m, W 0 m (upd H D (.lst []))) ∧ ∀ j m H, W j m H →
      ((Itl K a).stop j H ∧ Qd H) ∨ ((Itl K a).go j H ∧ ∃ Nx : Hp → Prop, (∀ H', Nx H' → ∃ m', m' < m ∧ W (j + 1) m' H') ∧ ∀ x H', (Itl K a).yld j H x H' → gName i x (wipe σ vs) H' fun σ2 H2 => wipe σ2 vs = wipe σ vs ∧ tYes σ2 H2 fun b H3 =>
        if b = true then te σ2 H3 fun y H4 => ∃ acc, H4 D = some (.lst acc) ∧ acc.length < sizeLine ∧ Nx (upd H4 D (.lst (acc ++ [y]))) else Nx H3) := by
  refine lc_list (K := K) (a := a) (xs := xs) (fun j H' => Same H H' ∧ H' D = some (.lst ((xs.take j).map g))) ⟨same_upd nD, upd_same⟩ (fun j H' _ ⟨s, _⟩ => s.seq hS) (fun j x H' hx ⟨s, hD⟩ => ?_) (fun H' ⟨s, hD⟩ => ?_)
  · refine ⟨hw x, ?_⟩
    show te ((wipe σ vs).set i (some x)) H' _
    refine he x (List.mem_of_getElem? hx) H' _ s fun H2 s2 => ⟨_, s2 _ _ hD, ?_, same_new (s.trans s2) nD, ?_⟩
    · rw [List.length_map, List.length_take]
      exact sz100lt (by omega)
    · rw [upd_same, take_snoc hx, List.map_append]
      rfl
  · rw [List.take_length] at hD
    exact hd H' s hD
/-- over range(n) -/
theorem lc_rng {D : Addr} {n : Nat} {te : TE} {vs : List Nat} {σ : L2.St} {i : Nat} {H : Hp} {Qd : Hp → Prop} (g : Nat → V) (nD : H D = none) (hlen : n < 1000000)
    (hw : ∀ x, wipe ((wipe σ vs).set i (some x)) vs = wipe σ vs)
    (he : ∀ k, k < n → ∀ H' (Q : VK), Same H H' → (∀ H2, Same H' H2 → Q (g k) H2) → te ((wipe σ vs).set i (some (.int (k : Int)))) H' Q) (hd : ∀ H', Same H H' → H' D = some (.lst ((List.range n).map g)) → Qd H') :
    ∃ W : Nat → Nat → Hp → Prop, (∃ m, W 0 m (upd H D (.lst []))) ∧ ∀ j m H, W j m H →
      ((Itr 0 n).stop j H ∧ Qd H) ∨ ((Itr 0 n).go j H ∧ ∃ Nx : Hp → Prop, (∀ H', Nx H' → ∃ m', m' < m ∧ W (j + 1) m' H') ∧ ∀ x H', (Itr 0 n).yld j H x H' → gName i x (wipe σ vs) H' fun σ2 H2 => wipe σ2 vs = wipe σ vs ∧ tYes σ2 H2 fun b H3 =>
        if b = true then te σ2 H3 fun y H4 => ∃ acc, H4 D = some (.lst acc) ∧ acc.length < sizeLine ∧ Nx (upd H4 D (.lst (acc ++ [y]))) else Nx H3) := by
  refine lc_range (lo := 0) (n := n) (fun j H' => Same H H' ∧ H' D = some (.lst ((List.range j).map g))) ⟨same_upd nD, upd_same⟩ (fun j H' hj ⟨s, hD⟩ => ?_) (fun H' ⟨s, hD⟩ => hd H' s hD)
  rw [Int.zero_add]
  refine ⟨hw _, ?_⟩
  show te ((wipe σ vs).set i (some (.int (j : Int)))) H' _
  refine he j hj H' _ s fun H2 s2 => ⟨_, s2 _ _ hD, ?_, same_new (s.trans s2) nD, ?_⟩
  · rw [List.length_map, List.length_range]
    exact sz100lt (by omega)
  · rw [upd_same, List.range_succ, List.map_append]
    rfl
/-- over zip of two lists of ints, the two names in the slots i and j -/
theorem lc_zips {K : PySem.W.Frag} {a b D : Addr} {xs ys : List Int} {te : TE} {vs : List Nat} {σ : L2.St} {i j : Nat} {H : Hp} {Qd : Hp → Prop} (g : Int → Int → V) (hS : SqL K H a (xs.map V.int)) (hT : SqL K H b (ys.map V.int)) (hl : xs.length = ys.length) (nD : H D = none) (hlen : xs.length < 1000000)
    (hw : ∀ x y, wipe (((wipe σ vs).set i (some x)).set j (some y)) vs = wipe σ vs)
    (he : ∀ x y, ∀ H' (Q : VK), Q (g x y) H' → te (((wipe σ vs).set i (some (.int x))).set j (some (.int y))) H' Q) (hd : ∀ H', Same H H' → H' D = some (.lst (List.zipWith g xs ys)) → Qd H') :
    ∃ W : Nat → Nat → Hp → Prop, (∃ m, W 0 m (upd H D (.lst []))) ∧ ∀ n m H, W n m H →
      ((Itz K a b).stop n H ∧ Qd H) ∨ ((Itz K a b).go n H ∧ ∃ Nx : Hp → Prop, (∀ H', Nx H' → ∃ m', m' < m ∧ W (n + 1) m' H') ∧ ∀ x H', (Itz K a b).yld n H x H' → gTup K 2 (gCons (gName i) (gCons (gName j) gNil)) x (wipe σ vs) H' fun σ2 H2 => wipe σ2 vs = wipe σ vs ∧ tYes σ2 H2 fun b H3 =>
        if b = true then te σ2 H3 fun y H4 => ∃ acc, H4 D = some (.lst acc) ∧ acc.length < sizeLine ∧ Nx (upd H4 D (.lst (acc ++ [y]))) else Nx H3) := by
  have W := walk_zip (K := K) (a := a) (b := b) (xs := xs.map V.int) (ys := ys.map V.int) (n := xs.length) (by rw [List.length_map, List.length_map, ← hl, Nat.min_self])
  refine lc_it W (fun n H' => Same H H' ∧ H' D = some (.lst (List.zipWith g (xs.take n) (ys.take n)))) ⟨same_upd nD, upd_same⟩ (fun n H' _ ⟨s, _⟩ => ⟨s.seq hS, s.seq hT⟩) (fun n v H1 H' hn ⟨s, hD⟩ hy => ?_) (fun H' ⟨s, hD⟩ => ?_)
  · obtain ⟨T, x, y, rfl, nT, rfl, hx, hy⟩ := hy
    dsimp only at hx hy
    rw [List.getElem?_map] at hx hy
    have hx' : xs[n]? = some xs[n] := List.getElem?_eq_getElem hn
    have hn2 : n < ys.length := by omega
    have hy' : ys[n]? = some ys[n] := List.getElem?_eq_getElem hn2
    rw [hx'] at hx
    rw [hy'] at hy
    have ex : V.int xs[n] = x := Option.some.inj hx
    have ey : V.int ys[n] = y := Option.some.inj hy
    subst ex ey
    refine ⟨T, _, rfl, sqt upd_same, rfl, _, _, rfl, _, _, rfl, rfl, hw _ _, ?_⟩
    show te (((wipe σ vs).set i (some (.int xs[n]))).set j (some (.int ys[n]))) _ _
    have nTD : D ≠ T := ne_of_none hD nT
    refine he _ _ _ _ ⟨_, (upd_ne nTD).trans hD, ?_, same_new (same_new s (s.free nT)) nD, ?_⟩
    · rw [List.length_zipWith, List.length_take, List.length_take]
      exact sz100lt (by omega)
    · rw [upd_same, take_snoc hx', take_snoc hy', List.zipWith_append (by rw [List.length_take, List.length_take]; omega)]
      rfl
  · rw [List.take_length, hl, List.take_length] at hD
    exact hd H' s hD
theorem mem_ints {ns : List Int} {x : V} (h : x ∈ ns.map V.int) : ∃ z, z ∈ ns ∧ x = .int z := by
  obtain ⟨z, hz, e⟩ := List.mem_map.mp h
  exact ⟨z, hz, e.symm⟩
theorem ixN_of {n j : Nat} {z : Int} (e : z = (j : Int)) (h : j < n) : ixN n z = some j := by
  unfold ixN
  rw [e, if_pos (by omega), if_pos (by omega), Int.toNat_natCast]
theorem map_setI (ns : List Int) (j : Nat) (v : Int) : (ns.map V.int).set j (.int v) = (ns.set j v).map V.int := (List.map_set).symm
theorem mem_set {ns : List Int} {j : Nat} {v x : Int} (h : x ∈ ns.set j v) : x = v ∨ x ∈ ns := by
  rcases List.mem_or_eq_of_mem_set h with h | h
  · exact .inr h
  · exact .inl h
/-- figures of a base -/
def Figs (b : Int) (ns : List Int) : Prop := ∀ x, x ∈ ns → 0 ≤ x ∧ x < b
theorem figs_nil {b : Int} : Figs b [] := fun x hx => by cases hx
theorem figs_take {b : Int} {ns : List Int} (h : Figs b ns) (k : Nat) : Figs b (ns.take k) := fun x hx => h x (List.mem_of_mem_take hx)
theorem figs_drop {b : Int} {ns : List Int} (h : Figs b ns) (k : Nat) : Figs b (ns.drop k) := fun x hx => h x (List.mem_of_mem_drop hx)
theorem figs_app {b : Int} {ns ms : List Int} (h : Figs b ns) (h2 : Figs b ms) : Figs b (ns ++ ms) := fun x hx => (List.mem_append.mp hx).elim (h x) (h2 x)
theorem figs_comp {b : Int} {ns : List Int} (h : Figs b ns) : Figs b (ns.map fun x => b - 1 - x) := fun x hx => by
  obtain ⟨z, hz, rfl⟩ := List.mem_map.mp hx
  have := h z hz
  omega
theorem figs_set {b : Int} {ns : List Int} {j : Nat} {v : Int} (h : Figs b ns) (hv : 0 ≤ v ∧ v < b) : Figs b (ns.set j v) := fun x hx => by
  rcases mem_set hx with e | e
  · rw [e]; exact hv
  · exact h x e
theorem figs_const {b v : Int} {ns : List Int} (hv : 0 ≤ v ∧ v < b) : Figs b (ns.map fun _ => v) := fun x hx => by
  obtain ⟨z, _, rfl⟩ := List.mem_map.mp hx
  exact hv
theorem figs_one {b v : Int} (hv : 0 ≤ v ∧ v < b) : Figs b [v] := fun x hx => by rw [List.mem_singleton.mp hx]; exact hv
theorem cut_lit (ns : List Int) (k : Nat) (z : Int) (e : z = (k : Int)) : cutV (ns.map V.int) none (some z) = (ns.take k).map V.int := by rw [e, cut_take, take_map]
theorem cut_litd (ns : List Int) (k : Nat) (z : Int) (e : z = (k : Int)) : cutV (ns.map V.int) (some z) none = (ns.drop k).map V.int := by rw [e, cut_drop, drop_map]
/-- a value's int -/
def iof : V → Int
  | .int z => z
  | _ => 0
theorem map_ints (f : Int → Int) (ns : List Int) : (ns.map V.int).map (fun v => V.int (f (iof v))) = (ns.map f).map V.int := by
  rw [List.map_map, List.map_map]
  rfl
theorem map_same (ns : List Int) : (ns.map V.int).map (fun v => v) = ns.map V.int := List.map_id' _
end Rf

namespace Rf
open PySem PySem.Spec PyProof.Rows L2
open C8 (Cal pe_c pe_gc)
local macro_rules | `(tactic| walk_at "side") => `(tactic| first
  | ((with_reducible show IntMulOk _ _); first | assumption | exact (show ∀ i : Int, IntMulOk i _ from by assumption) _ | (refine mulB_right ?_ ?_ <;> omega) | (refine mulB_left ?_ ?_ <;> omega))
  | ((with_reducible show CDivP _ _); first | assumption | exact (show ∀ i : Int, CDivP i _ from by assumption) _ | (refine cdivp_small ?_ ?_ <;> omega))
  | ((with_reducible show (_ : Int) < _); first | assumption | omega | decide)
  | ((with_reducible show scal _ _ = true); rfl)
  | ((with_reducible show _ ≤ sizeLine); first | exact sz100 (Nat.le_of_ble_eq_true rfl) | exact sz100 (by omega))
  | ((with_reducible show CPow _ _); dsimp only [CPow]; decide))
local macro_rules | `(tactic| walk_at "sq") => `(tactic| first | assumption | exact sql (by assumption) | exact sqt (by assumption) | exact sqt upd_same | exact sql upd_same)
local macro_rules | `(tactic| walk_at "call") => `(tactic| fail)
local macro_rules | `(tactic| walk_at "st1") => `(tactic| first
  | refine ⟨_, rfl, ?_⟩
  | refine ⟨_, _, rfl, rfl, ?_⟩
  | refine And.intro (by walk_at "side") ?_
  | refine ⟨_, _, rfl, .inl (by walk_at "sq"), ?_⟩
  | refine And.intro rfl ?_
  | refine ⟨_, _, _, _, rfl, rfl, (by walk_at "sq"), rfl, ?_⟩
  | refine ⟨_, _, rfl, (by walk_at "sq"), rfl, ?_⟩
  | refine ⟨_, _, rfl, ?_⟩
  | walk_at "call")
local macro_rules | `(tactic| walk_at "st") => `(tactic| repeat walk_at "st1")
def topS (i : Nat) : Stmt := PySem.Challenge.pw_ringfigures_k10_rings_that_fold.main.body.getD i (.Pass ⟨0, 0, 0, 0⟩)
/-- what the module's names hold -/
structure Md (K : PySem.W.Frag) (mg : Str → Option Value) : Prop where
  m_len : mg "len" = none
  m_all : mg "all" = none
  m_zip : mg "zip" = none
  m_range : mg "range" = none
  m_list : mg "list" = none
  m_isinstance : mg "isinstance" = none
  m_bool : mg "bool" = none
  g_MOST_FIGURES : ∃ u, mg "MOST_FIGURES" = some u ∧ RelV (.int 4000) u
abbrev s_askedbase : Stmt := topS 6
theorem sc_askedbase : FnScope ["base"] ["base"] (defScope s_askedbase) := ⟨rfl, rfl, rfl, by decide +kernel, rfl, by decide +kernel, by decide +kernel⟩
@[irreducible] def sp_askedbase (K : PySem.W.Frag) : Sp := fun vs H Q _ => ∃ (x : Int), vs = [.int x] ∧ 2 ≤ x ∧ x ≤ 36 ∧ Q .non H
theorem go_askedbase {K : PySem.W.Frag} {H : Hp} {x : Int} {Q : VK} {E : XK} (h1 : 2 ≤ x) (h2 : x ≤ 36) (q : Q .non H) : sp_askedbase K [.int x] H Q E := by
  unfold sp_askedbase; exact ⟨x, rfl, h1, h2, q⟩
local macro_rules | `(tactic| walk_at "call") => `(tactic| refine go_askedbase (by omega) (by omega) ?_)
section
variable {P : Program} {w : World} {K : PySem.W.Frag} {mg : Str → Option Value} {base : Heap}
theorem ok_askedbase {f : Addr} {fd : FuncData} (F : Fun K "asked_base" "asked_base" s_askedbase f fd) (M : Md K mg) : FnOk P w K mg base CX0 1 f fd ["base"] (sp_askedbase K) := by
  refine F.ok sc_askedbase (fun vs H Q E h => ?_) (fun cdv A outer s H vs Q E hr h => ?_)
  · unfold sp_askedbase at h; obtain ⟨x, rfl, h1, h2, q⟩ := h
    rfl
  · have hu := hu_of hr
    unfold sp_askedbase at h; obtain ⟨x, rfl, h1, h2, q⟩ := h
    refine ⟨_, (pss_one (ps_if (PW.pt (pw_or (pt_cmpR op_lt (pv 0) pe_int (nomark _)) (pw_or1 (pt_cmpR op_gt (pv 0) pe_int (nomark _)))))
        (pss_one ps_never) pss_nil)), ?_⟩
    walk_at "st"
    refine iteD (fun e => absurd e (by omega)) (fun _ => ?_)
    walk_at "st"
    refine iteD (fun e => absurd e (by omega)) (fun _ => ?_)
    exact q
end
abbrev s_askedfigures : Stmt := topS 7
theorem sc_askedfigures : FnScope ["base", "figures", "figure"] ["base", "figures"] (defScope s_askedfigures) := ⟨rfl, rfl, rfl, by decide +kernel, rfl, by decide +kernel, by decide +kernel⟩
@[irreducible] def sp_askedfigures (K : PySem.W.Frag) : Sp := fun vs H Q _ => ∃ (b : Int) (a : Addr) (ns : List Int), vs = [.int b, .ref a] ∧ SqL K H a (ns.map V.int) ∧ ns.length ≤ 4000 ∧ Figs b ns ∧ Q .non H
theorem go_askedfigures {K : PySem.W.Frag} {H : Hp} {b : Int} {a : Addr} {ns : List Int} {Q : VK} {E : XK} (hS : SqL K H a (ns.map V.int)) (hl : ns.length ≤ 4000) (hf : Figs b ns) (q : Q .non H) : sp_askedfigures K [.int b, .ref a] H Q E := by
  unfold sp_askedfigures; exact ⟨b, a, ns, rfl, hS, hl, hf, q⟩
section
variable {P : Program} {w : World} {K : PySem.W.Frag} {mg : Str → Option Value} {base : Heap}
theorem ok_askedfigures {f : Addr} {fd : FuncData} (F : Fun K "asked_figures" "asked_figures" s_askedfigures f fd) (M : Md K mg) : FnOk P w K mg base CX0 1 f fd ["base", "figures"] (sp_askedfigures K) := by
  refine F.ok sc_askedfigures (fun vs H Q E h => ?_) (fun cdv A outer s H vs Q E hr h => ?_)
  · unfold sp_askedfigures at h; obtain ⟨b, a, ns, rfl, hS, hl, hf, q⟩ := h
    rfl
  · have hu := hu_of hr
    unfold sp_askedfigures at h; obtain ⟨b, a, ns, rfl, hS, hl, hf, q⟩ := h
    refine ⟨_, (pss_cons (ps_if (pt_cmpR op_gt (pe_callB call_len_seq (by rfl) M.m_len PySem.boot_len (pa_cons (pv 1) pa_nil)) (pe_gc (by rfl) M.g_MOST_FIGURES) (nomark _))
        (pss_one ps_never) pss_nil)
      (pss_one (ps_for PassesOwn.never rfl (pi_list (pv 1)) (pg_name (i := 2) sc_askedfigures.nd rfl (.inl rfl))
        (pss_one (ps_if (PW.pt (pw_or (pt_cmpR op_lt (pv 2) pe_int (nomark _)) (pw_or1 (pt_cmpR op_ge (pv 2) (pv 0) (nomark _)))))
        (pss_one ps_never) pss_nil))))), ?_⟩
    walk_at "st"
    rw [List.length_map]
    refine iteD (fun e => absurd e (by omega)) (fun _ => ?_)
    walk_at "st"
    refine ⟨⟨_, hS⟩, for_list (K := K) (a := a) (xs := ns.map V.int) (fun i σ H' => ∃ y2, σ = [some (.int b), some (.ref a), y2] ∧ H = H') ⟨none, rfl, rfl⟩ (fun i σ H' _ ⟨_, _, e⟩ => e ▸ hS) (fun i x σ H' hi hv => ?_) (fun σ H' hv => ?_)⟩
    · obtain ⟨y2, rfl, rfl⟩ := hv
      obtain ⟨z, hz, rfl⟩ := mem_ints (List.mem_of_getElem? hi)
      have hz2 := hf z hz
      walk_at "st"
      refine iteD (fun e => absurd e (by omega)) (fun _ => ?_)
      walk_at "st"
      refine iteD (fun e => absurd e (by omega)) (fun _ => ?_)
      exact ⟨_, rfl, rfl⟩
    · obtain ⟨y2, rfl, rfl⟩ := hv
      exact q
end
abbrev s_folds : Stmt := topS 9
theorem sc_folds : FnScope ["base", "ring", "half", "one", "other"] ["base", "ring"] (defScope s_folds) := ⟨rfl, rfl, rfl, by decide +kernel, rfl, by decide +kernel, by decide +kernel⟩
/-- an even number of figures, two or more, each with its fellow the greatest one -/
def flB (b : Int) (ns : List Int) : Bool := decide (ns.length % 2 = 0 ∧ ns.length ≠ 0 ∧ ns.take (ns.length / 2) = (ns.drop (ns.length / 2)).map (fun x => b - 1 - x))
@[irreducible] def sp_folds (K : PySem.W.Frag) : Sp := fun vs H Q _ => ∃ (b : Int) (a : Addr) (ns : List Int), vs = [.int b, .ref a] ∧ 2 ≤ b ∧ b ≤ 36 ∧ SqL K H a (ns.map V.int) ∧ ns.length ≤ 4000 ∧ Figs b ns ∧ ∀ H', Same H H' → Q (.bl (flB b ns)) H'
theorem go_folds {K : PySem.W.Frag} {H : Hp} {b : Int} {a : Addr} {ns : List Int} {Q : VK} {E : XK} (h1 : 2 ≤ b) (h2 : b ≤ 36) (hS : SqL K H a (ns.map V.int)) (hl : ns.length ≤ 4000) (hf : Figs b ns) (q : ∀ H', Same H H' → Q (.bl (flB b ns)) H') : sp_folds K [.int b, .ref a] H Q E := by
  unfold sp_folds; exact ⟨b, a, ns, rfl, h1, h2, hS, hl, hf, q⟩
theorem zip_all (b : Int) : ∀ xs ys : List Int, xs.length = ys.length → (List.zipWith (fun x y => decide (x + y = b - 1)) xs ys).all id = decide (xs = ys.map (fun x => b - 1 - x))
  | [], [], _ => rfl
  | x :: xs, y :: ys, h => by
    have ih := zip_all b xs ys (by simpa using h)
    rw [List.zipWith_cons_cons, List.all_cons, ih, List.map_cons]
    by_cases h1 : x + y = b - 1
    · have h2 : x = b - 1 - y := by omega
      simp [h1, h2]
    · have h2 : ¬ x = b - 1 - y := by omega
      simp [h1, h2]
section
variable {P : Program} {w : World} {K : PySem.W.Frag} {mg : Str → Option Value} {base : Heap}
theorem ok_folds {f : Addr} {fd : FuncData} (F : Fun K "folds" "folds" s_folds f fd) (M : Md K mg) (c_askedbase : Cal P w K mg base 1 "asked_base" (sp_askedbase K) []) (c_askedfigures : Cal P w K mg base 1 "asked_figures" (sp_askedfigures K) []) : FnOk P w K mg base CX0 2 f fd ["base", "ring"] (sp_folds K) := by
  refine F.ok sc_folds (fun vs H Q E h => ?_) (fun cdv A outer s H vs Q E hr h => ?_)
  · unfold sp_folds at h; obtain ⟨b, a, ns, rfl, h1, h2, hS, hl, hf, q⟩ := h
    rfl
  · have hu := hu_of hr
    unfold sp_folds at h; obtain ⟨b, a, ns, rfl, h1, h2, hS, hl, hf, q⟩ := h
    refine ⟨_, (pss_cons (ps_expr (pe_c c_askedbase hr (by decide) (by rfl) (pa_cons (pv 0) pa_nil)))
      (pss_cons (ps_expr (pe_c c_askedfigures hr (by decide) (by rfl) (pa_cons (pv 0) (pa_cons (pv 1) pa_nil))))
      (pss_cons (ps_set (i := 2) sc_folds.nd rfl (.inl rfl) (pe_op op_fdivP (pe_callB call_len_seq (by rfl) M.m_len PySem.boot_len (pa_cons (pv 1) pa_nil)) pe_int))
      (pss_cons (ps_if (PW.pt (pw_or (pt_cmpR op_eq (pe_op op_mod (pe_callB call_len_seq (by rfl) M.m_len PySem.boot_len (pa_cons (pv 1) pa_nil)) pe_int) pe_int (nomark _)) (pw_or1 (pt_cmpR op_eq (pv 2) pe_int (nomark _)))))
        (pss_one (ps_ret pe_bl)) pss_nil)
      (pss_one (ps_ret (pe_callB (cr_all rfl) (by rfl) M.m_all (by decide +kernel) (pa_cons (pe_lc (own := [("one", 3), ("other", 4)]) (g := gTup K 2 (gCons (gName 3) (gCons (gName 4) gNil))) (tt := tYes) rfl sc_folds.nd (pi_zip (by rfl) M.m_zip (pa_cons (pe_slice sl_list (pv 1) po_none (po_some (pv 2))) (pa_cons (pe_slice sl_list (pv 1) (po_some (pv 2)) po_none) pa_nil))) (blkOk_by (own := [("one", 3), ("other", 4)]) (N := ["base", "ring", "half", "one", "other"]) (sc := defScope s_folds) (by decide +kernel)) (fun _ _ _ _ _ => (pg_tup rfl (by exact (pgs_cons (pg_name (i := 3) sc_folds.nd rfl (.inl rfl)) (pgs_cons (pg_name (i := 4) sc_folds.nd rfl (.inl rfl)) pgs_nil))))) (fun _ _ _ _ _ => pts_nil) (fun _ _ _ _ _ => (pe_cmpR op_eq (pe_op op_add (pv 3) (pv 4)) (pe_op op_sub (pv 0) pe_int) (nomark _)))) pa_nil)))))))), ?_⟩
    walk_at "st"
    refine go_askedfigures hS hl hf ?_
    walk_at "st"
    simp only [List.length_map]
    refine iteE (fun c => ?_) (fun c => ?_)
    · walk_at "st"
      have e : flB b ns = false := decide_eq_false (fun z => by omega)
      have q2 := q H (Same.refl _)
      rw [e] at q2
      exact q2
    · walk_at "st"
      have eh : (ns.length : Int) / 2 = ((ns.length / 2 : Nat) : Int) := rfl
      refine iteE (fun c2 => ?_) (fun c2 => ?_)
      · walk_at "st"
        have e : flB b ns = false := decide_eq_false (fun z => by omega)
        have q2 := q H (Same.refl _)
        rw [e] at q2
        exact q2
      · walk_at "st"
        refine ⟨a, _, rfl, hS, fun p1 np1 => ?_⟩
        rw [eh, cut_take, take_map]
        have s1 := same_upd (o := .lst ((ns.take (ns.length / 2)).map V.int)) np1
        have hS1 := s1.seq hS
        walk_at "st"
        refine ⟨a, _, rfl, hS1, fun p2 np2 => ?_⟩
        rw [cut_drop, drop_map]
        have s2 := same_ups (o := .lst ((ns.drop (ns.length / 2)).map V.int)) s1 np2
        have h1p : SqL K (upd (upd H p1 (.lst ((ns.take (ns.length / 2)).map V.int))) p2 (.lst ((ns.drop (ns.length / 2)).map V.int))) p1 ((ns.take (ns.length / 2)).map V.int) := sql (by rw [upd_ne (Ne.symm (ne_new np2)), upd_same])
        have hlen : (ns.take (ns.length / 2)).length = (ns.drop (ns.length / 2)).length := by rw [List.length_take, List.length_drop]; omega
        refine ⟨p1, p2, _, _, rfl, h1p, sql upd_same, fun D nD => ?_⟩
        refine lc_zips (K := K) (i := 3) (j := 4) (fun x y => V.bl (decide (x + y = b - 1))) h1p (sql upd_same) hlen nD (by rw [List.length_take]; omega) (fun _ _ => rfl) (fun x y H' Q' q' => ?_) (fun H' s hD => ?_)
        · walk_at "st"
          have e1 : decide (V.int (x + y) = V.int (b - 1)) = decide (x + y = b - 1) := by
            by_cases h : x + y = b - 1
            · rw [decide_eq_true h, decide_eq_true (by rw [h])]
            · rw [decide_eq_false h, decide_eq_false (fun z => h (V.int.inj z))]
          rw [e1]
          exact q'
        · have em : List.zipWith (fun x y => V.bl (decide (x + y = b - 1))) (ns.take (ns.length / 2)) (ns.drop (ns.length / 2)) = (List.zipWith (fun x y => decide (x + y = b - 1)) (ns.take (ns.length / 2)) (ns.drop (ns.length / 2))).map V.bl := by
            rw [List.map_zipWith]
          rw [em] at hD
          refine ⟨D, _, rfl, sql hD, ?_⟩
          rw [zip_all _ _ _ hlen]
          have e2 : decide (ns.take (ns.length / 2) = (ns.drop (ns.length / 2)).map (fun x => b - 1 - x)) = flB b ns := by
            unfold flB
            rw [decide_eq_decide]
            exact ⟨fun z => ⟨by omega, by omega, z⟩, fun z => z.2.2⟩
          rw [e2]
          exact q H' (s2.trans s)
end
abbrev s_xlawcellat : Stmt := topS 11
theorem sc_xlawcellat : FnScope ["script", "k"] ["script", "k"] (defScope s_xlawcellat) := ⟨rfl, rfl, rfl, by decide +kernel, rfl, by decide +kernel, by decide +kernel⟩
/-- the k-th of the script's numbers, or 0 -/
def cl (ns : List Int) (k : Nat) : Int := ns.getD k 0
@[irreducible] def sp_xlawcellat (K : PySem.W.Frag) : Sp := fun vs H Q _ => ∃ (a : Addr) (ns : List Int) (x : Int), vs = [.ref a, .int x] ∧ 0 ≤ x ∧ SqL K H a (ns.map V.int) ∧ Q (.int (cl ns x.toNat)) H
theorem go_cell {K : PySem.W.Frag} {H : Hp} {a : Addr} {ns : List Int} {x : Int} {Q : VK} {E : XK} (hx : 0 ≤ x) (hS : SqL K H a (ns.map V.int)) (q : Q (.int (cl ns x.toNat)) H) : sp_xlawcellat K [.ref a, .int x] H Q E := by
  unfold sp_xlawcellat; exact ⟨a, ns, x, rfl, hx, hS, q⟩
local macro_rules | `(tactic| walk_at "call") => `(tactic| refine go_cell (by omega) (by walk_at "sq") ?_)
theorem cl_in {ns : List Int} {k : Nat} (h : k < ns.length) : cl ns k = ns[k] := by
  unfold cl; rw [List.getD_eq_getElem?_getD, List.getElem?_eq_getElem h]; rfl
theorem cl_out {ns : List Int} {k : Nat} (h : ns.length ≤ k) : cl ns k = 0 := by
  unfold cl; rw [List.getD_eq_getElem?_getD, List.getElem?_eq_none h]; rfl
section
variable {P : Program} {w : World} {K : PySem.W.Frag} {mg : Str → Option Value} {base : Heap}
theorem ok_xlawcellat {f : Addr} {fd : FuncData} (F : Fun K "_law_cell_at" "_law_cell_at" s_xlawcellat f fd) (M : Md K mg) : FnOk P w K mg base CX0 1 f fd ["script", "k"] (sp_xlawcellat K) := by
  refine F.ok sc_xlawcellat (fun vs H Q E h => ?_) (fun cdv A outer s H vs Q E hr h => ?_)
  · unfold sp_xlawcellat at h; obtain ⟨a, ns, x, rfl, hx, hS, q⟩ := h
    rfl
  · have hu := hu_of hr
    unfold sp_xlawcellat at h; obtain ⟨a, ns, x, rfl, hx, hS, q⟩ := h
    obtain ⟨k, rfl⟩ : ∃ k : Nat, x = (k : Int) := ⟨x.toNat, by omega⟩
    rw [Int.toNat_natCast] at q
    refine ⟨_, (pss_cons (ps_if (pt_cmpR op_lt (pv 1) (pe_callB call_len_seq (by rfl) M.m_len PySem.boot_len (pa_cons (pv 0) pa_nil)) (nomark _))
        (pss_one (ps_ret (pe_ix ix_list (pv 0) (pv 1) (fun _ _ => rfl)))) pss_nil)
      (pss_one (ps_ret pe_int))), ?_⟩
    walk_at "st"
    rw [List.length_map]
    refine iteD (fun e => ?_) (fun e => ?_)
    · have hk : k < ns.length := by omega
      walk_at "st"
      refine ⟨a, _, _, _, rfl, rfl, hS, atI_nat (map_get (List.getElem?_eq_getElem hk)), ?_⟩
      rw [← cl_in hk]
      exact q
    · rw [cl_out (by omega)] at q
      exact q
end
abbrev s_xlawdraw : Stmt := topS 12
theorem sc_xlawdraw : FnScope ["cell", "k", "bound", "stir"] ["cell", "k", "bound"] (defScope s_xlawdraw) := ⟨rfl, rfl, rfl, by decide +kernel, rfl, by decide +kernel, by decide +kernel⟩
def drA (c k : Int) : Int := (c % 2147483647 + 977 * k + 1) * 48271 % 2147483647
def drB (c k : Int) : Int := drA c k * drA c k % 2147483629
def drC (c k : Int) : Int := (drB c k + 40692 * (k + 3)) * 69621 % 2147483647
/-- a drawn number below b -/
def drw (c k b : Int) : Int := drC c k / 8 % b
theorem drw_ok (c k : Int) {b : Int} (h : 0 < b) : 0 ≤ drw c k b ∧ drw c k b < b := ⟨Int.emod_nonneg _ (by omega), Int.emod_lt_of_pos _ h⟩
@[irreducible] def sp_xlawdraw (K : PySem.W.Frag) : Sp := fun vs H Q _ => ∃ (c k b : Int), vs = [.int c, .int k, .int b] ∧ 0 ≤ k ∧ k < 1000000000 ∧ 0 < b ∧ Q (.int (drw c k b)) H
theorem go_xlawdraw {K : PySem.W.Frag} {H : Hp} {c k b : Int} {Q : VK} {E : XK} (h1 : 0 ≤ k) (h2 : k < 1000000000) (h3 : 0 < b) (q : Q (.int (drw c k b)) H) : sp_xlawdraw K [.int c, .int k, .int b] H Q E := by
  unfold sp_xlawdraw; exact ⟨c, k, b, rfl, h1, h2, h3, q⟩
section
variable {P : Program} {w : World} {K : PySem.W.Frag} {mg : Str → Option Value} {base : Heap}
theorem ok_xlawdraw {f : Addr} {fd : FuncData} (F : Fun K "_law_draw" "_law_draw" s_xlawdraw f fd) (M : Md K mg) : FnOk P w K mg base CX0 1 f fd ["cell", "k", "bound"] (sp_xlawdraw K) := by
  refine F.ok sc_xlawdraw (fun vs H Q E h => ?_) (fun cdv A outer s H vs Q E hr h => ?_)
  · unfold sp_xlawdraw at h; obtain ⟨c, k, b, rfl, h1, h2, h3, q⟩ := h
    rfl
  · have hu := hu_of hr
    unfold sp_xlawdraw at h; obtain ⟨c, k, b, rfl, h1, h2, h3, q⟩ := h
    have hA : 0 ≤ drA c k ∧ drA c k < 2147483647 := ⟨Int.emod_nonneg _ (by decide), Int.emod_lt_of_pos _ (by decide)⟩
    have m1 : IntMulOk (977 : Int) k := mulB_left (by decide) (by decide)
    have m3 : IntMulOk (drA c k) (drA c k) := mulB_right (by omega) (by omega)
    refine ⟨_, (Evl.pss_cut (ps_set (i := 3) sc_xlawdraw.nd rfl (.inl rfl) (pe_op op_mod (pe_op op_mulB (pe_op op_add (pe_op op_add (pe_op op_mod (pv 0) pe_int) (pe_op op_mulB pe_int (pv 1))) pe_int) pe_int) pe_int))
      (Evl.pss_cut (ps_set (i := 3) sc_xlawdraw.nd rfl (.inl rfl) (pe_op op_mod (pe_op op_mulB (pv 3) (pv 3)) pe_int))
      (Evl.pss_cut (ps_set (i := 3) sc_xlawdraw.nd rfl (.inl rfl) (pe_op op_mod (pe_op op_mulB (pe_op op_add (pv 3) (pe_op op_mulB pe_int (pe_op op_add (pv 1) pe_int))) pe_int) pe_int))
      (pss_one (ps_ret (pe_op op_mod (pe_op op_fdivP (pv 3) pe_int) (pv 2))))))), ?_⟩
    refine ⟨fun σ H' => H = H' ∧ σ = [some (.int c), some (.int k), some (.int b), some (.int (drA c k))], ?_, fun σ H' hM => ?_⟩
    · refine ⟨_, rfl, _, _, rfl, rfl, (show (0 : Int) < 2147483647 by decide), _, rfl, _, _, rfl, rfl, m1, _, _, rfl, rfl, _, _, rfl, rfl, _, _, rfl, rfl, mulB_right (by decide) (by decide), _, _, rfl, rfl, (show (0 : Int) < 2147483647 by decide), ?_⟩
      exact ⟨rfl, rfl⟩
    obtain ⟨rfl, rfl⟩ := hM
    refine ⟨fun σ H' => H = H' ∧ σ = [some (.int c), some (.int k), some (.int b), some (.int (drB c k))], ?_, fun σ H' hM => ?_⟩
    · refine ⟨_, rfl, _, rfl, _, _, rfl, rfl, m3, _, _, rfl, rfl, (show (0 : Int) < 2147483629 by decide), ?_⟩
      exact ⟨rfl, rfl⟩
    obtain ⟨rfl, rfl⟩ := hM
    refine ⟨fun σ H' => H = H' ∧ σ = [some (.int c), some (.int k), some (.int b), some (.int (drC c k))], ?_, fun σ H' hM => ?_⟩
    · refine ⟨_, rfl, _, rfl, _, _, rfl, rfl, _, _, rfl, rfl, mulB_left (by decide) (by decide), _, _, rfl, rfl, _, _, rfl, rfl, mulB_right (by decide) (by decide), _, _, rfl, rfl, (show (0 : Int) < 2147483647 by decide), ?_⟩
      exact ⟨rfl, rfl⟩
    obtain ⟨rfl, rfl⟩ := hM
    refine ⟨_, rfl, _, _, rfl, rfl, cdivp_small (by decide) (by decide), _, rfl, _, _, rfl, rfl, h3, ?_⟩
    exact q
end
abbrev s_xlawfiguresby : Stmt := topS 13
theorem sc_xlawfiguresby : FnScope ["cell", "base", "many", "k"] ["cell", "base", "many"] (defScope s_xlawfiguresby) := ⟨rfl, rfl, rfl, by decide +kernel, rfl, by decide +kernel, by decide +kernel⟩
/-- so many drawn figures -/
def fgs (c b : Int) (n : Nat) : List Int := (List.range n).map fun k => drw c ((k : Nat) : Int) b
theorem fgs_len (c b : Int) (n : Nat) : (fgs c b n).length = n := by unfold fgs; rw [List.length_map, List.length_range]
theorem fgs_ok (c : Int) {b : Int} (n : Nat) (h : 0 < b) : ∀ x, x ∈ fgs c b n → 0 ≤ x ∧ x < b := fun x hx => by
  obtain ⟨k, _, rfl⟩ := List.mem_map.mp hx
  exact drw_ok c _ h
@[irreducible] def sp_xlawfiguresby (K : PySem.W.Frag) : Sp := fun vs H Q _ => ∃ (c b n : Int), vs = [.int c, .int b, .int n] ∧ 0 < b ∧ 0 ≤ n ∧ n ≤ 100000 ∧ ∀ H' p, Same H H' → H p = none → H' p = some (.lst ((fgs c b n.toNat).map V.int)) → Q (.ref p) H'
theorem go_xlawfiguresby {K : PySem.W.Frag} {H : Hp} {c b n : Int} {Q : VK} {E : XK} (h1 : 0 < b) (h2 : 0 ≤ n) (h3 : n ≤ 100000) (q : ∀ H' p, Same H H' → H p = none → H' p = some (.lst ((fgs c b n.toNat).map V.int)) → Q (.ref p) H') : sp_xlawfiguresby K [.int c, .int b, .int n] H Q E := by
  unfold sp_xlawfiguresby; exact ⟨c, b, n, rfl, h1, h2, h3, q⟩
theorem go_some {K : PySem.W.Frag} {H : Hp} {c b n : Int} {Q : VK} {E : XK} (h1 : 0 < b) (h2 : 0 ≤ n) (h3 : n ≤ 100000) (q : ∀ (rn : List Int) H' p, rn.length = n.toNat → Figs b rn → Same H H' → H p = none → H' p = some (.lst (rn.map V.int)) → Q (.ref p) H') : sp_xlawfiguresby K [.int c, .int b, .int n] H Q E :=
  go_xlawfiguresby h1 h2 h3 fun H' p s n' h => q _ H' p (fgs_len c b _) (fgs_ok c _ h1) s n' h
section
variable {P : Program} {w : World} {K : PySem.W.Frag} {mg : Str → Option Value} {base : Heap}
theorem ok_xlawfiguresby {f : Addr} {fd : FuncData} (F : Fun K "_law_figures_by" "_law_figures_by" s_xlawfiguresby f fd) (M : Md K mg) (c_xlawdraw : Cal P w K mg base 1 "_law_draw" (sp_xlawdraw K) []) : FnOk P w K mg base CX0 2 f fd ["cell", "base", "many"] (sp_xlawfiguresby K) := by
  refine F.ok sc_xlawfiguresby (fun vs H Q E h => ?_) (fun cdv A outer s H vs Q E hr h => ?_)
  · unfold sp_xlawfiguresby at h; obtain ⟨c, b, n, rfl, h1, h2, h3, q⟩ := h
    rfl
  · have hu := hu_of hr
    unfold sp_xlawfiguresby at h; obtain ⟨c, b, n, rfl, h1, h2, h3, q⟩ := h
    refine ⟨_, (pss_one (ps_ret (pe_lc (own := [("k", 3)]) (g := gName 3) (tt := tYes) rfl sc_xlawfiguresby.nd (pi_range1 (by rfl) M.m_range (pa_cons (pv 2) pa_nil)) (blkOk_by (own := [("k", 3)]) (N := ["cell", "base", "many", "k"]) (sc := defScope s_xlawfiguresby) (by decide +kernel)) (fun _ _ _ _ _ => (pg_name (i := 3) sc_xlawfiguresby.nd rfl (.inl rfl))) (fun _ _ _ _ _ => pts_nil) (fun _ _ _ _ _ => (pe_c c_xlawdraw hr (by decide) (by rfl) (pa_cons (pv 0) (pa_cons (pv 3) (pa_cons (pv 1) pa_nil)))))))), ?_⟩
    refine ⟨_, rfl, n, rfl, by omega, by omega, fun D nD => ?_⟩
    refine lc_rng (fun k => V.int (drw c ((k : Nat) : Int) b)) nD (by omega) (fun _ => rfl) (fun k hk H' Q' s q' => ?_) (fun H' s hD => q H' D s nD ?_)
    · walk_at "st"
      exact go_xlawdraw (by omega) (by omega) h1 (q' _ (Same.refl _))
    · rw [hD]; unfold fgs; rw [List.map_map]; rfl
end
abbrev s_xlawfolds : Stmt := topS 14
theorem sc_xlawfolds : FnScope ["base", "ring", "half", "one", "other"] ["base", "ring"] (defScope s_xlawfolds) := ⟨rfl, rfl, rfl, by decide +kernel, rfl, by decide +kernel, by decide +kernel⟩
@[irreducible] def sp_xlawfolds (K : PySem.W.Frag) : Sp := fun vs H Q _ => ∃ (b : Int) (a : Addr) (ns : List Int), vs = [.int b, .ref a] ∧ SqL K H a (ns.map V.int) ∧ ns.length ≤ 4000 ∧ ∀ H', Same H H' → Q (.bl (flB b ns)) H'
theorem go_xlawfolds {K : PySem.W.Frag} {H : Hp} {b : Int} {a : Addr} {ns : List Int} {Q : VK} {E : XK} (hS : SqL K H a (ns.map V.int)) (hl : ns.length ≤ 4000) (q : ∀ H', Same H H' → Q (.bl (flB b ns)) H') : sp_xlawfolds K [.int b, .ref a] H Q E := by
  unfold sp_xlawfolds; exact ⟨b, a, ns, rfl, hS, hl, q⟩
section
variable {P : Program} {w : World} {K : PySem.W.Frag} {mg : Str → Option Value} {base : Heap}
theorem ok_xlawfolds {f : Addr} {fd : FuncData} (F : Fun K "_law_folds" "_law_folds" s_xlawfolds f fd) (M : Md K mg) : FnOk P w K mg base CX0 1 f fd ["base", "ring"] (sp_xlawfolds K) := by
  refine F.ok sc_xlawfolds (fun vs H Q E h => ?_) (fun cdv A outer s H vs Q E hr h => ?_)
  · unfold sp_xlawfolds at h; obtain ⟨b, a, ns, rfl, hS, hl, q⟩ := h
    rfl
  · have hu := hu_of hr
    unfold sp_xlawfolds at h; obtain ⟨b, a, ns, rfl, hS, hl, q⟩ := h
    have eh : (ns.length : Int) / 2 = ((ns.length / 2 : Nat) : Int) := rfl
    refine ⟨_, (pss_cons (ps_set (i := 2) sc_xlawfolds.nd rfl (.inl rfl) (pe_op op_fdivP (pe_callB call_len_seq (by rfl) M.m_len PySem.boot_len (pa_cons (pv 1) pa_nil)) pe_int))
      (pss_cons (ps_if (PW.pt (pw_or (pt_cmpR (op_eqD hr.units) (pv 1) (pe_lst pa_nil) (nomark _)) (pw_or1 (pt_cmpR op_ne (pe_callB call_len_seq (by rfl) M.m_len PySem.boot_len (pa_cons (pv 1) pa_nil)) (pe_op op_mulB pe_int (pv 2)) (nomark _)))))
        (pss_one (ps_ret pe_bl)) pss_nil)
      (pss_one (ps_ret (pe_cmpR (op_eqD hr.units) (pe_lc (own := [("one", 3)]) (g := gName 3) (tt := tYes) rfl sc_xlawfolds.nd (pi_list (pe_slice sl_list (pv 1) po_none (po_some (pv 2)))) (blkOk_by (own := [("one", 3)]) (N := ["base", "ring", "half", "one", "other"]) (sc := defScope s_xlawfolds) (by decide +kernel)) (fun _ _ _ _ _ => (pg_name (i := 3) sc_xlawfolds.nd rfl (.inl rfl))) (fun _ _ _ _ _ => pts_nil) (fun _ _ _ _ _ => (pv 3))) (pe_lc (own := [("other", 4)]) (g := gName 4) (tt := tYes) rfl sc_xlawfolds.nd (pi_list (pe_slice sl_list (pv 1) (po_some (pv 2)) po_none)) (blkOk_by (own := [("other", 4)]) (N := ["base", "ring", "half", "one", "other"]) (sc := defScope s_xlawfolds) (by decide +kernel)) (fun _ _ _ _ _ => (pg_name (i := 4) sc_xlawfolds.nd rfl (.inl rfl))) (fun _ _ _ _ _ => pts_nil) (fun _ _ _ _ _ => (pe_op op_sub (pe_op op_sub (pv 0) pe_int) (pv 4)))) (nomark _)))))), ?_⟩
    walk_at "st"
    simp only [List.length_map]
    intro e ne
    have s1 := same_upd (o := .lst []) ne
    have hS1 := s1.seq hS
    walk_at "st"
    refine ⟨dI ns, dI [], dp_dI hS1, dp_dI (sql upd_same), shaped_dI _, shaped_dI _, ?_⟩
    rw [eqv_dI]
    walk_at "st"
    refine iteD (fun c => ?_) (fun c => ?_)
    · have e : flB b ns = false := decide_eq_false (fun z => by rw [c] at z; exact z.2.1 rfl)
      have q2 := q _ s1
      rw [e] at q2
      exact q2
    · walk_at "st"
      simp only [List.length_map]
      refine iteEn (fun c2 => ?_) (fun c2 => ?_)
      · have e : flB b ns = false := decide_eq_false (fun z => by omega)
        have q2 := q _ s1
        rw [e] at q2
        exact q2
      · walk_at "st"
        refine ⟨a, _, rfl, hS1, fun p1 np1 => ?_⟩
        rw [eh, cut_take, take_map]
        have s2 := same_ups (o := .lst ((ns.take (ns.length / 2)).map V.int)) s1 np1
        refine ⟨p1, rfl, ⟨_, sql upd_same⟩, fun D nD => ?_⟩
        refine lc_vals (K := K) (fun v => v) (sql upd_same) nD (by rw [List.length_map, List.length_take]; omega) (fun _ => rfl) (fun x hx H' Q' s q' => ?_) (fun H1 s3 hD => ?_)
        · walk_at "st"
          exact q' _ (Same.refl _)
        · rw [map_same] at hD
          have s4 := s2.trans s3
          have hS4 := s4.seq hS
          walk_at "st"
          refine ⟨a, _, rfl, hS4, fun p2 np2 => ?_⟩
          rw [cut_drop, drop_map]
          have s5 := same_ups (o := .lst ((ns.drop (ns.length / 2)).map V.int)) s4 np2
          refine ⟨p2, rfl, ⟨_, sql upd_same⟩, fun D2 nD2 => ?_⟩
          refine lc_vals (K := K) (fun v => V.int (b - 1 - iof v)) (sql upd_same) nD2 (by rw [List.length_map, List.length_drop]; omega) (fun _ => rfl) (fun x hx H' Q' s q' => ?_) (fun H2 s6 hD2 => ?_)
          · obtain ⟨z, hz, rfl⟩ := mem_ints hx
            walk_at "st"
            exact q' _ (Same.refl _)
          · rw [map_ints (fun x => b - 1 - x)] at hD2
            have hD3 := s6 _ _ ((upd_ne (ne_of_none hD np2)).trans hD)
            refine ⟨dI _, dI _, dp_dI (sql hD3), dp_dI (sql hD2), shaped_dI _, shaped_dI _, ?_⟩
            rw [eqv_dI]
            have e2 : decide (ns.take (ns.length / 2) = (ns.drop (ns.length / 2)).map (fun x => b - 1 - x)) = flB b ns := by
              unfold flB
              rw [decide_eq_decide]
              refine ⟨fun z => ⟨by omega, fun h0 => c (List.eq_nil_of_length_eq_zero h0), z⟩, fun z => z.2.2⟩
            rw [e2]
            exact q _ (s5.trans s6)
end
abbrev s_law : Stmt := topS 15
theorem sc_law : FnScope ["script", "base", "ring", "way", "handed", "found", "figure"] ["script"] (defScope s_law) := ⟨rfl, rfl, rfl, by decide +kernel, rfl, by decide +kernel, by decide +kernel⟩
def sp_law (K : PySem.W.Frag) : Sp := fun vs H Q _ => ∃ (a : Addr) (ns : List Int), vs = [.ref a] ∧ SqL K H a (ns.map V.int) ∧ ns.length ≤ 63 ∧ ∀ H', Q (.bl true) H'
def Mid10 (H : Hp) (a : Addr) (b wy : Int) : L2.St → Hp → Prop := fun σ H' => ∃ (p : Addr) (rn : List Int), Same H H' ∧ H p = none ∧ H' p = some (.lst (rn.map V.int)) ∧ rn.length ≤ 300 ∧ Figs b rn ∧ σ = [some (.ref a), some (.int b), some (.ref p), some (.int wy), none, none, none]
section
variable {P : Program} {w : World} {K : PySem.W.Frag} {mg : Str → Option Value} {base : Heap}
theorem ok_law {f : Addr} {fd : FuncData} (F : Fun K "law" "law" s_law f fd) (M : Md K mg) (c_folds : Cal P w K mg base 2 "folds" (sp_folds K) []) (c_xlawcellat : Cal P w K mg base 1 "_law_cell_at" (sp_xlawcellat K) []) (c_xlawfiguresby : Cal P w K mg base 2 "_law_figures_by" (sp_xlawfiguresby K) []) (c_xlawfolds : Cal P w K mg base 1 "_law_folds" (sp_xlawfolds K) []) : FnOk P w K mg base CX0 3 f fd ["script"] (sp_law K) := by
  refine F.ok sc_law (fun vs H Q E h => ?_) (fun cdv A outer s H vs Q E hr h => ?_)
  · obtain ⟨a, ns, rfl, hS, hlen, q⟩ := h
    rfl
  · have hu := hu_of hr
    obtain ⟨a, ns, rfl, hS, hlen, q⟩ := h
    obtain ⟨b, hb⟩ : ∃ b : Int, b = 2 + cl ns 0 % 35 := ⟨_, rfl⟩
    have hb1 : 2 ≤ b := by omega
    have hb2 : b ≤ 36 := by omega
    refine ⟨_, (Evl.pss_cut (ps_set (i := 1) sc_law.nd rfl (.inr rfl) (pe_op op_add pe_int (pe_op op_mod (pe_c c_xlawcellat hr (by decide) (by rfl) (pa_cons (pv 0) (pa_cons pe_int pa_nil))) pe_int)))
      (pss_cons (ps_set (i := 2) sc_law.nd rfl (.inl rfl) (pe_c c_xlawfiguresby hr (by decide) (by rfl) (pa_cons (pe_c c_xlawcellat hr (by decide) (by rfl) (pa_cons (pv 0) (pa_cons pe_int pa_nil))) (pa_cons (pv 1) (pa_cons (pe_op op_mod (pe_c c_xlawcellat hr (by decide) (by rfl) (pa_cons (pv 0) (pa_cons pe_int pa_nil))) pe_int) pa_nil)))))
      (pss_cons (ps_set (i := 3) sc_law.nd rfl (.inl rfl) (pe_op op_mod (pe_c c_xlawcellat hr (by decide) (by rfl) (pa_cons (pv 0) (pa_cons pe_int pa_nil))) pe_int))
      (Evl.pss_cut (ps_if (pt_cmpR op_gt (pv 3) pe_int (nomark _))
        (pss_one (ps_set (i := 2) sc_law.nd rfl (.inl rfl) (pe_op op_cat (pe_slice sl_list (pv 2) po_none (po_some pe_int)) (pe_lc (own := [("figure", 6)]) (g := gName 6) (tt := tYes) rfl sc_law.nd (pi_list (pe_slice sl_list (pv 2) po_none (po_some pe_int))) (blkOk_by (own := [("figure", 6)]) (N := ["script", "base", "ring", "way", "handed", "found", "figure"]) (sc := defScope s_law) (by decide +kernel)) (fun _ _ _ _ _ => (pg_name (i := 6) sc_law.nd rfl (.inl rfl))) (fun _ _ _ _ _ => pts_nil) (fun _ _ _ _ _ => (pe_op op_sub (pe_op op_sub (pv 1) pe_int) (pv 6))))))) pss_nil)
      (Evl.pss_cut (ps_if (PW.pt (pw_and (pt_cmpR op_eq (pv 3) pe_int (nomark _)) (pw_and1 (pt_cmpR (op_neD hr.units) (pv 2) (pe_lst pa_nil) (nomark _)))))
        (pss_one (ps_asg (pe_op op_mod (pe_c c_xlawcellat hr (by decide) (by rfl) (pa_cons (pv 0) (pa_cons pe_int pa_nil))) (pv 1)) (pg_sub (pv 2) (pe_op op_mod (pe_c c_xlawcellat hr (by decide) (by rfl) (pa_cons (pv 0) (pa_cons pe_int pa_nil))) (pe_callB call_len_seq (by rfl) M.m_len PySem.boot_len (pa_cons (pv 2) pa_nil))) set_list))) pss_nil)
      (Evl.pss_cut (ps_if (PW.pt (pw_and (pt_cmpR op_eq (pv 3) pe_int (nomark _)) (pw_and1 (pt_cmpR (op_neD hr.units) (pv 2) (pe_lst pa_nil) (nomark _)))))
        (pss_one (ps_set (i := 2) sc_law.nd rfl (.inl rfl) (pe_op op_cat (pv 2) (pe_lst (pa_cons (pe_op op_sub (pe_op op_sub (pv 1) pe_int) (pe_ix ix_list (pv 2) pe_int (fun _ _ => rfl))) pa_nil))))) pss_nil)
      (Evl.pss_cut (ps_if (pt_cmpR op_eq (pe_op op_mod (pe_c c_xlawcellat hr (by decide) (by rfl) (pa_cons (pv 0) (pa_cons pe_int pa_nil))) pe_int) pe_int (nomark _))
        (pss_cons (ps_set (i := 2) sc_law.nd rfl (.inl rfl) (pe_c c_xlawfiguresby hr (by decide) (by rfl) (pa_cons (pe_c c_xlawcellat hr (by decide) (by rfl) (pa_cons (pv 0) (pa_cons pe_int pa_nil))) (pa_cons (pv 1) (pa_cons (pe_op op_add pe_int (pe_op op_mod (pe_c c_xlawcellat hr (by decide) (by rfl) (pa_cons (pv 0) (pa_cons pe_int pa_nil))) pe_int)) pa_nil)))))
      (pss_cons (ps_set (i := 2) sc_law.nd rfl (.inl rfl) (pe_op op_cat (pv 2) (pe_lc (own := [("figure", 6)]) (g := gName 6) (tt := tYes) rfl sc_law.nd (pi_list (pv 2)) (blkOk_by (own := [("figure", 6)]) (N := ["script", "base", "ring", "way", "handed", "found", "figure"]) (sc := defScope s_law) (by decide +kernel)) (fun _ _ _ _ _ => (pg_name (i := 6) sc_law.nd rfl (.inl rfl))) (fun _ _ _ _ _ => pts_nil) (fun _ _ _ _ _ => (pe_op op_sub (pe_op op_sub (pv 1) pe_int) (pv 6))))))
      (pss_one (ps_if (pt_cmpR op_gt (pv 3) pe_int (nomark _))
        (pss_one (ps_asg (pe_op op_mod (pe_c c_xlawcellat hr (by decide) (by rfl) (pa_cons (pv 0) (pa_cons pe_int pa_nil))) (pv 1)) (pg_sub (pv 2) (pe_op op_mod (pe_c c_xlawcellat hr (by decide) (by rfl) (pa_cons (pv 0) (pa_cons pe_int pa_nil))) (pe_callB call_len_seq (by rfl) M.m_len PySem.boot_len (pa_cons (pv 2) pa_nil))) set_list))) pss_nil)))) pss_nil)
      (pss_cons (ps_set (i := 4) sc_law.nd rfl (.inl rfl) (pe_callTy call_list_of (by rfl) M.m_list (by decide +kernel) (pa_cons (pv 2) pa_nil)))
      (pss_cons (ps_set (i := 5) sc_law.nd rfl (.inl rfl) (pe_c c_folds hr (by decide) (by rfl) (pa_cons (pv 1) (pa_cons (pv 4) pa_nil))))
      (pss_one (ps_ret (pe_and (pe_callB call_isi (by rfl) M.m_isinstance (by decide +kernel) (pa_cons (pv 5) (pa_cons (pe_bltn (v := .ty "bool") (by rfl) M.m_bool (by decide +kernel) rfl) pa_nil))) (pe_and (pe_cmpR op_eq (pv 5) (pe_c c_xlawfolds hr (by decide) (by rfl) (pa_cons (pv 1) (pa_cons (pv 2) pa_nil))) (nomark _)) (pe_one (pe_cmpR (op_eqD hr.units) (pv 4) (pv 2) (nomark _)))))))))))))))), ?_⟩
    refine ⟨fun σ H' => H = H' ∧ σ = [some (.ref a), some (.int b), none, none, none, none, none], ?_, fun σ H' hM => ?_⟩
    · walk_at "st"
      rw [hb]; rfl
    obtain ⟨rfl, rfl⟩ := hM
    clear hb
    walk_at "st"
    refine go_some (by omega) (by omega) (by omega) (fun r1 H1 p1 l1 f1 s1 n1 h1 => ?_)
    have hS1 := s1.seq hS
    walk_at "st"
    refine ⟨Mid10 H a b (cl ns 3 % 4), ?_, fun σ H' hM => ?_⟩
    · walk_at "st"
      refine iteD (fun c => ?_) (fun c => ?_)
      · walk_at "st"
        refine ⟨p1, _, rfl, sql h1, fun p2 np2 => ?_⟩
        rw [cut_lit r1 6 6 rfl]
        have s2 := same_ups (o := .lst ((r1.take 6).map V.int)) s1 np2
        walk_at "st"
        refine ⟨p1, _, rfl, sql ((upd_ne (ne_of_none h1 np2)).trans h1), fun p3 np3 => ?_⟩
        rw [cut_lit r1 6 6 rfl]
        have s3 := same_ups (o := .lst ((r1.take 6).map V.int)) s2 np3
        refine ⟨p3, rfl, ⟨_, sql upd_same⟩, fun D nD => ?_⟩
        refine lc_vals (K := K) (fun v => V.int (b - 1 - iof v)) (sql upd_same) nD (by rw [List.length_map, List.length_take]; omega) (fun _ => rfl) (fun x hx H' Q' s q' => ?_) (fun H4 s4 hD => ?_)
        · obtain ⟨z, hz, rfl⟩ := mem_ints hx
          walk_at "st"
          exact q' _ (Same.refl _)
        · rw [map_ints (fun x => b - 1 - x)] at hD
          have h24 := s4 _ _ ((upd_ne (Ne.symm (ne_new np3))).trans upd_same)
          refine ⟨p2, D, _, _, rfl, rfl, h24, hD, sz100 ?_, fun p5 np5 => ?_⟩
          · simp only [List.length_map, List.length_take]; omega
          rw [← List.map_append]
          refine ⟨p5, _, same_new (s3.trans s4) ((s3.trans s4).free np5), (s3.trans s4).free np5, upd_same, ?_, figs_app (figs_take f1 6) (figs_comp (figs_take f1 6)), rfl⟩
          simp only [List.length_append, List.length_map, List.length_take]; omega
      · exact ⟨p1, _, s1, n1, h1, by omega, f1, rfl⟩
    obtain ⟨p2, r2, s2, n2, h2, l2, f2, rfl⟩ := hM
    refine ⟨Mid10 H a b (cl ns 3 % 4), ?_, fun σ H' hM => ?_⟩
    · walk_at "st"
      refine iteE (fun c => ?_) (fun c => ?_)
      · walk_at "st"
        intro e ne
        have s3 := same_ups (o := .lst []) s2 ne
        have h3 := (upd_ne (o := HO.lst []) (ne_of_none h2 ne)).trans h2
        have hS3 := s3.seq hS
        refine ⟨dI r2, dI [], dp_dI (sql h3), dp_dI (sql upd_same), shaped_dI _, shaped_dI _, ?_⟩
        rw [eqv_dI]
        walk_at "st"
        refine iteDn (fun c2 => ?_) (fun c2 => ?_)
        · have hpos : 0 < r2.length := List.length_pos_iff.mpr c2
          walk_at "st"
          simp only [List.length_map]
          refine ⟨by omega, ?_⟩
          have hlt : (cl ns 4 % (r2.length : Int)).toNat < r2.length := by
            have h1 := Int.emod_nonneg (cl ns 4) (show (r2.length : Int) ≠ 0 by omega)
            have h2 := Int.emod_lt_of_pos (cl ns 4) (show (0 : Int) < r2.length by omega)
            omega
          have h1 := Int.emod_nonneg (cl ns 4) (show (r2.length : Int) ≠ 0 by omega)
          refine ⟨p2, _, _, (cl ns 4 % (r2.length : Int)).toNat, rfl, rfl, h3, ixN_of (Int.toNat_of_nonneg h1).symm (by rw [List.length_map]; exact hlt), ?_⟩
          refine ⟨p2, r2.set (cl ns 4 % (r2.length : Int)).toNat (cl ns 5 % b), same_new s3 n2, n2, ?_, by rw [List.length_set]; exact l2, figs_set f2 ⟨Int.emod_nonneg _ (by omega), Int.emod_lt_of_pos _ (by omega)⟩, rfl⟩
          rw [upd_same, ← map_setI]; rfl
        · exact ⟨p2, _, s3, n2, h3, l2, f2, rfl⟩
      · exact ⟨p2, _, s2, n2, h2, l2, f2, rfl⟩
    clear s2 h2 l2 f2 n2
    clear p2 r2
    obtain ⟨p2, r2, s2, n2, h2, l2, f2, rfl⟩ := hM
    refine ⟨fun σ H' => ∃ (p : Addr) (rn : List Int), Same H H' ∧ H p = none ∧ H' p = some (.lst (rn.map V.int)) ∧ rn.length ≤ 301 ∧ Figs b rn ∧ σ = [some (.ref a), some (.int b), some (.ref p), some (.int (cl ns 3 % 4)), none, none, none], ?_, fun σ H' hM => ?_⟩
    · walk_at "st"
      refine iteE (fun c => ?_) (fun c => ?_)
      · walk_at "st"
        intro e ne
        have s3 := same_ups (o := .lst []) s2 ne
        have h3 := (upd_ne (o := HO.lst []) (ne_of_none h2 ne)).trans h2
        have hS3 := s3.seq hS
        refine ⟨dI r2, dI [], dp_dI (sql h3), dp_dI (sql upd_same), shaped_dI _, shaped_dI _, ?_⟩
        rw [eqv_dI]
        walk_at "st"
        refine iteDn (fun c2 => ?_) (fun c2 => ?_)
        · obtain ⟨z, r3, rfl⟩ : ∃ z r3, r2 = z :: r3 := by
            cases r2 with
            | nil => exact absurd rfl c2
            | cons z r3 => exact ⟨z, r3, rfl⟩
          walk_at "st"
          refine ⟨p2, _, _, _, rfl, rfl, sql h3, atI_of (j := 0) rfl rfl, ?_⟩
          walk_at "st"
          intro p4 np4
          have h4 := (upd_ne (o := HO.lst [V.int (b - 1 - z)]) (ne_of_none h3 np4)).trans h3
          have s4 := same_ups (o := .lst [V.int (b - 1 - z)]) s3 np4
          refine ⟨p2, p4, _, _, rfl, rfl, h4, upd_same, sz100 ?_, fun p5 np5 => ?_⟩
          · simp only [List.length_map, List.length_cons] at l2 ⊢; simp only [List.length_nil]; omega
          have hz := f2 z List.mem_cons_self
          refine ⟨p5, (z :: r3) ++ [b - 1 - z], same_ups s4 np5, s4.free np5, ?_, ?_, figs_app f2 (fun x hx => ?_), rfl⟩
          · rw [upd_same, List.map_append]; rfl
          · rw [List.length_append]; exact Nat.add_le_add_right l2 1
          · rw [List.mem_singleton.mp hx]; omega
        · exact ⟨p2, _, s3, n2, h3, by omega, f2, rfl⟩
      · exact ⟨p2, _, s2, n2, h2, by omega, f2, rfl⟩
    clear s2 h2 l2 f2 n2
    clear p2 r2
    obtain ⟨p2, r2, s2, n2, h2, l2, f2, rfl⟩ := hM
    have hS2 := s2.seq hS
    refine ⟨fun σ H' => ∃ (p : Addr) (rn : List Int), Same H H' ∧ H p = none ∧ H' p = some (.lst (rn.map V.int)) ∧ rn.length ≤ 4000 ∧ Figs b rn ∧ σ = [some (.ref a), some (.int b), some (.ref p), some (.int (cl ns 3 % 4)), none, none, none], ?_, fun σ H' hM => ?_⟩
    · walk_at "st"
      refine iteE (fun c => ?_) (fun c => ?_)
      · walk_at "st"
        refine go_some (by omega) (by omega) (by omega) (fun r3 H3 p3 l3 f3 s3 n3 h3 => ?_)
        walk_at "st"
        refine ⟨⟨_, sql h3⟩, fun D nD => ?_⟩
        refine lc_vals (K := K) (fun v => V.int (b - 1 - iof v)) (sql h3) nD (by rw [List.length_map]; omega) (fun _ => rfl) (fun x hx H' Q' s q' => ?_) (fun H4 s4 hD => ?_)
        · obtain ⟨z, hz, rfl⟩ := mem_ints hx
          walk_at "st"
          exact q' _ (Same.refl _)
        · rw [map_ints (fun x => b - 1 - x)] at hD
          have h4 := s4 _ _ h3
          have s24 := s2.trans (s3.trans s4)
          refine ⟨p3, D, _, _, rfl, rfl, h4, hD, sz100 (by simp only [List.length_map]; omega), fun p5 np5 => ?_⟩
          rw [← List.map_append]
          have s5 := same_ups (o := .lst ((r3 ++ r3.map (fun x => b - 1 - x)).map V.int)) s24 np5
          have hS5 := s5.seq hS
          have hu5 := upd_same (H := H4) (a := p5) (o := .lst ((r3 ++ r3.map (fun x => b - 1 - x)).map V.int))
          have n5 := s24.free np5
          have f5 := figs_app f3 (figs_comp f3)
          have l5 : (r3 ++ r3.map (fun x => b - 1 - x)).length = 2 * r3.length := by
            rw [List.length_append, List.length_map]; omega
          generalize r3 ++ r3.map (fun x => b - 1 - x) = r5 at *
          walk_at "st"
          refine iteD (fun c2 => ?_) (fun c2 => ?_)
          · walk_at "st"
            simp only [List.length_map]
            have hpos : (0 : Int) < (r5.length : Int) := by omega
            refine ⟨hpos, ?_⟩
            have e1 := Int.emod_nonneg (cl ns 4) (show (r5.length : Int) ≠ 0 by omega)
            have e2 := Int.emod_lt_of_pos (cl ns 4) hpos
            refine ⟨p5, _, _, (cl ns 4 % (r5.length : Int)).toNat, rfl, rfl, hu5, ixN_of (Int.toNat_of_nonneg e1).symm (by rw [List.length_map]; omega), ?_⟩
            refine ⟨p5, r5.set (cl ns 4 % (r5.length : Int)).toNat (cl ns 5 % b), same_new s5 n5, n5, ?_, by rw [List.length_set]; omega, figs_set f5 ⟨Int.emod_nonneg _ (by omega), Int.emod_lt_of_pos _ (by omega)⟩, rfl⟩
            rw [upd_same, ← map_setI]; rfl
          · exact ⟨p5, _, s5, n5, hu5, by omega, f5, rfl⟩
      · exact ⟨p2, _, s2, n2, h2, by omega, f2, rfl⟩
    clear s2 h2 l2 f2 n2 hS2
    clear p2 r2
    obtain ⟨p2, r2, s2, n2, h2, l2, f2, rfl⟩ := hM
    walk_at "st"
    intro p3 np3
    have s3 := same_ups (o := .lst (r2.map V.int)) s2 np3
    have h3 := (upd_ne (o := .lst (r2.map V.int)) (ne_of_none h2 np3)).trans h2
    walk_at "st"
    refine go_folds hb1 hb2 (sql upd_same) l2 f2 (fun H4 s4 => ?_)
    walk_at "st"
    refine ⟨_, _, _, _, _, rfl, .ty _, .base (.bl _), kit_bool, ?_⟩
    walk_at "st"
    refine go_xlawfolds (sql (s4 _ _ h3)) l2 (fun H5 s5 => ?_)
    walk_at "st"
    rw [decide_eq_true rfl]
    walk_at "st"
    refine ⟨dI r2, dI r2, dp_dI (sql (s5 _ _ (s4 _ _ upd_same))), dp_dI (sql (s5 _ _ (s4 _ _ h3))), shaped_dI _, shaped_dI _, ?_⟩
    rw [eqv_dI, decide_eq_true rfl]
    exact q _
end
/-! ### the end -/
theorem all_mk {l : PySem.W.OpenLaw} {w : World} {K : PySem.W.Frag} {h : Heap} {mg : Str → Option Value} {fa : Addr} (X : K.In h) (G : h.Ns mainGlobals mg) (hfa : mg "law" = some (.ref fa))
    {f0 : Addr} {od0 an0 : Option Addr} {sl0 : Array (Option Value)} {oc0 kV0 dc0 pm0 cd0 ct0 : Value}
    (a0 : PySem.W.nsIn K mainGlobals "asked_base" = some (some (.ref f0)))
    (l0 : K.lookup f0 = some ⟨oc0, od0, .func (PySem.W.fnOf "asked_base" "asked_base" (defArgs s_askedbase) (defBody s_askedbase) (defScope s_askedbase) .none kV0 dc0 pm0 an0 cd0 ct0), sl0⟩)
    (e0 : PySem.W.codeIn K cd0 "asked_base" = true) (k0 : PySem.W.keepIn K (.ref f0) = true)
    {f1 : Addr} {od1 an1 : Option Addr} {sl1 : Array (Option Value)} {oc1 kV1 dc1 pm1 cd1 ct1 : Value}
    (a1 : PySem.W.nsIn K mainGlobals "asked_figures" = some (some (.ref f1)))
    (l1 : K.lookup f1 = some ⟨oc1, od1, .func (PySem.W.fnOf "asked_figures" "asked_figures" (defArgs s_askedfigures) (defBody s_askedfigures) (defScope s_askedfigures) .none kV1 dc1 pm1 an1 cd1 ct1), sl1⟩)
    (e1 : PySem.W.codeIn K cd1 "asked_figures" = true) (k1 : PySem.W.keepIn K (.ref f1) = true)
    {f2 : Addr} {od2 an2 : Option Addr} {sl2 : Array (Option Value)} {oc2 kV2 dc2 pm2 cd2 ct2 : Value}
    (a2 : PySem.W.nsIn K mainGlobals "folds" = some (some (.ref f2)))
    (l2 : K.lookup f2 = some ⟨oc2, od2, .func (PySem.W.fnOf "folds" "folds" (defArgs s_folds) (defBody s_folds) (defScope s_folds) .none kV2 dc2 pm2 an2 cd2 ct2), sl2⟩)
    (e2 : PySem.W.codeIn K cd2 "folds" = true) (k2 : PySem.W.keepIn K (.ref f2) = true)
    {f3 : Addr} {od3 an3 : Option Addr} {sl3 : Array (Option Value)} {oc3 kV3 dc3 pm3 cd3 ct3 : Value}
    (a3 : PySem.W.nsIn K mainGlobals "_law_cell_at" = some (some (.ref f3)))
    (l3 : K.lookup f3 = some ⟨oc3, od3, .func (PySem.W.fnOf "_law_cell_at" "_law_cell_at" (defArgs s_xlawcellat) (defBody s_xlawcellat) (defScope s_xlawcellat) .none kV3 dc3 pm3 an3 cd3 ct3), sl3⟩)
    (e3 : PySem.W.codeIn K cd3 "_law_cell_at" = true) (k3 : PySem.W.keepIn K (.ref f3) = true)
    {f4 : Addr} {od4 an4 : Option Addr} {sl4 : Array (Option Value)} {oc4 kV4 dc4 pm4 cd4 ct4 : Value}
    (a4 : PySem.W.nsIn K mainGlobals "_law_draw" = some (some (.ref f4)))
    (l4 : K.lookup f4 = some ⟨oc4, od4, .func (PySem.W.fnOf "_law_draw" "_law_draw" (defArgs s_xlawdraw) (defBody s_xlawdraw) (defScope s_xlawdraw) .none kV4 dc4 pm4 an4 cd4 ct4), sl4⟩)
    (e4 : PySem.W.codeIn K cd4 "_law_draw" = true) (k4 : PySem.W.keepIn K (.ref f4) = true)
    {f5 : Addr} {od5 an5 : Option Addr} {sl5 : Array (Option Value)} {oc5 kV5 dc5 pm5 cd5 ct5 : Value}
    (a5 : PySem.W.nsIn K mainGlobals "_law_figures_by" = some (some (.ref f5)))
    (l5 : K.lookup f5 = some ⟨oc5, od5, .func (PySem.W.fnOf "_law_figures_by" "_law_figures_by" (defArgs s_xlawfiguresby) (defBody s_xlawfiguresby) (defScope s_xlawfiguresby) .none kV5 dc5 pm5 an5 cd5 ct5), sl5⟩)
    (e5 : PySem.W.codeIn K cd5 "_law_figures_by" = true) (k5 : PySem.W.keepIn K (.ref f5) = true)
    {f6 : Addr} {od6 an6 : Option Addr} {sl6 : Array (Option Value)} {oc6 kV6 dc6 pm6 cd6 ct6 : Value}
    (a6 : PySem.W.nsIn K mainGlobals "_law_folds" = some (some (.ref f6)))
    (l6 : K.lookup f6 = some ⟨oc6, od6, .func (PySem.W.fnOf "_law_folds" "_law_folds" (defArgs s_xlawfolds) (defBody s_xlawfolds) (defScope s_xlawfolds) .none kV6 dc6 pm6 an6 cd6 ct6), sl6⟩)
    (e6 : PySem.W.codeIn K cd6 "_law_folds" = true) (k6 : PySem.W.keepIn K (.ref f6) = true)
    {f7 : Addr} {od7 an7 : Option Addr} {sl7 : Array (Option Value)} {oc7 kV7 dc7 pm7 cd7 ct7 : Value}
    (a7 : PySem.W.nsIn K mainGlobals "law" = some (some (.ref f7)))
    (l7 : K.lookup f7 = some ⟨oc7, od7, .func (PySem.W.fnOf "law" "law" (defArgs s_law) (defBody s_law) (defScope s_law) .none kV7 dc7 pm7 an7 cd7 ct7), sl7⟩)
    (e7 : PySem.W.codeIn K cd7 "law" = true) (k7 : PySem.W.keepIn K (.ref f7) = true)
    (z0 : PySem.W.nsIn K mainGlobals "len" = some none)
    (z1 : PySem.W.nsIn K mainGlobals "all" = some none)
    (z2 : PySem.W.nsIn K mainGlobals "zip" = some none)
    (z3 : PySem.W.nsIn K mainGlobals "range" = some none)
    (z4 : PySem.W.nsIn K mainGlobals "list" = some none)
    (z5 : PySem.W.nsIn K mainGlobals "isinstance" = some none)
    (z6 : PySem.W.nsIn K mainGlobals "bool" = some none)
    {tk0 : Tok} (y0 : PySem.W.nsIn K mainGlobals "MOST_FIGURES" = some (some (.int 4000 tk0)))
    : ∃ fd : FuncData, (∀ (s : Shared) (v : Value), BindsTo s fd ⟨[v], []⟩ [("script", v)]) ∧ ∀ base : Heap, K.In base → base.Ns mainGlobals mg → FnOk l.prog w K mg base CX0 3 fa fd ["script"] (sp_law K) := by
  have e := hfa.symm.trans (PySem.W.mg_of X G a7)
  cases e
  have M : Md K mg := ⟨PySem.W.mg_none_of X G z0, PySem.W.mg_none_of X G z1, PySem.W.mg_none_of X G z2, PySem.W.mg_none_of X G z3, PySem.W.mg_none_of X G z4, PySem.W.mg_none_of X G z5, PySem.W.mg_none_of X G z6, ⟨_, PySem.W.mg_of X G y0, ⟨_, rfl⟩⟩⟩
  have F0 := fun_mk (st := s_askedbase) l0 e0 k0
  have b0 := F0.binds (ps := ["base"]) fun _ _ _ _ _ _ us hl => match us, hl with | [_], _ => rfl
  have F1 := fun_mk (st := s_askedfigures) l1 e1 k1
  have b1 := F1.binds (ps := ["base", "figures"]) fun _ _ _ _ _ _ us hl => match us, hl with | [_, _], _ => rfl
  have F2 := fun_mk (st := s_folds) l2 e2 k2
  have b2 := F2.binds (ps := ["base", "ring"]) fun _ _ _ _ _ _ us hl => match us, hl with | [_, _], _ => rfl
  have F3 := fun_mk (st := s_xlawcellat) l3 e3 k3
  have b3 := F3.binds (ps := ["script", "k"]) fun _ _ _ _ _ _ us hl => match us, hl with | [_, _], _ => rfl
  have F4 := fun_mk (st := s_xlawdraw) l4 e4 k4
  have b4 := F4.binds (ps := ["cell", "k", "bound"]) fun _ _ _ _ _ _ us hl => match us, hl with | [_, _, _], _ => rfl
  have F5 := fun_mk (st := s_xlawfiguresby) l5 e5 k5
  have b5 := F5.binds (ps := ["cell", "base", "many"]) fun _ _ _ _ _ _ us hl => match us, hl with | [_, _, _], _ => rfl
  have F6 := fun_mk (st := s_xlawfolds) l6 e6 k6
  have b6 := F6.binds (ps := ["base", "ring"]) fun _ _ _ _ _ _ us hl => match us, hl with | [_, _], _ => rfl
  have F7 := fun_mk (st := s_law) l7 e7 k7
  refine ⟨PySem.W.fnOf "law" "law" (defArgs s_law) (defBody s_law) (defScope s_law) .none kV7 dc7 pm7 an7 cd7 ct7, fun s v => .of_eq rfl, fun base _ _ => ?_⟩
  have c_askedbase : Cal l.prog w K mg base 1 "asked_base" (sp_askedbase K) [] := ⟨f0, _, _, [], ok_askedbase F0 M , PySem.W.mg_of X G a0, k0, b0, .nil⟩
  have c_askedfigures : Cal l.prog w K mg base 1 "asked_figures" (sp_askedfigures K) [] := ⟨f1, _, _, [], ok_askedfigures F1 M , PySem.W.mg_of X G a1, k1, b1, .nil⟩
  have c_folds : Cal l.prog w K mg base 2 "folds" (sp_folds K) [] := ⟨f2, _, _, [], ok_folds F2 M c_askedbase c_askedfigures, PySem.W.mg_of X G a2, k2, b2, .nil⟩
  have c_xlawcellat : Cal l.prog w K mg base 1 "_law_cell_at" (sp_xlawcellat K) [] := ⟨f3, _, _, [], ok_xlawcellat F3 M , PySem.W.mg_of X G a3, k3, b3, .nil⟩
  have c_xlawdraw : Cal l.prog w K mg base 1 "_law_draw" (sp_xlawdraw K) [] := ⟨f4, _, _, [], ok_xlawdraw F4 M , PySem.W.mg_of X G a4, k4, b4, .nil⟩
  have c_xlawfiguresby : Cal l.prog w K mg base 2 "_law_figures_by" (sp_xlawfiguresby K) [] := ⟨f5, _, _, [], ok_xlawfiguresby F5 M c_xlawdraw, PySem.W.mg_of X G a5, k5, b5, .nil⟩
  have c_xlawfolds : Cal l.prog w K mg base 1 "_law_folds" (sp_xlawfolds K) [] := ⟨f6, _, _, [], ok_xlawfolds F6 M , PySem.W.mg_of X G a6, k6, b6, .nil⟩
  exact ok_law F7 M c_folds c_xlawcellat c_xlawfiguresby c_xlawfolds
end Rf
open PySem PySem.W PyProof.Rows
set_option maxHeartbeats 0 in
theorem PySem.Challenge.cw_ringfigures_k10_rings_that_fold_holds : PySem.Challenge.rw_ringfigures_k10_rings_that_fold.Holds := by
  w_on; o_law; k_head; (case hw => w_witness2)
  k_fill
  refine L2.walk_of (l := PySem.Challenge.rw_ringfigures_k10_rings_that_fold) (n := 63) (k := 3) (x := "script") (CX := fun _ => L2.CX0) (sp := fun w => Rf.sp_law _) rfl (by decide) rfl ⟨rfl, by decide, by decide⟩ (fun w h Y => PySem.W.kIn_of Y) ?F (fun _ _ a ns hl _ hS => ⟨a, ns, rfl, hS, hl, fun _ => rfl⟩) (fun _ _ _ _ _ h => h)
  case F =>
    intro w mg fa h KX G hmg
    refine' Rf.all_mk KX G hmg ?a0 ?l0 ?e0 ?k0 ?a1 ?l1 ?e1 ?k1 ?a2 ?l2 ?e2 ?k2 ?a3 ?l3 ?e3 ?k3 ?a4 ?l4 ?e4 ?k4 ?a5 ?l5 ?e5 ?k5 ?a6 ?l6 ?e6 ?k6 ?a7 ?l7 ?e7 ?k7 ?z0 ?z1 ?z2 ?z3 ?z4 ?z5 ?z6 ?y0
    (case a0 => k_is); (case l0 => k_is); (case e0 => k_is); (case k0 => k_is); (case a1 => k_is); (case l1 => k_is); (case e1 => k_is); (case k1 => k_is); (case a2 => k_is); (case l2 => k_is); (case e2 => k_is); (case k2 => k_is); (case a3 => k_is); (case l3 => k_is); (case e3 => k_is); (case k3 => k_is); (case a4 => k_is); (case l4 => k_is); (case e4 => k_is); (case k4 => k_is); (case a5 => k_is); (case l5 => k_is); (case e5 => k_is); (case k5 => k_is); (case a6 => k_is); (case l6 => k_is); (case e6 => k_is); (case k6 => k_is); (case a7 => k_is); (case l7 => k_is); (case e7 => k_is); (case k7 => k_is); (case z0 => k_is); (case z1 => k_is); (case z2 => k_is); (case z3 => k_is); (case z4 => k_is); (case z5 => k_is); (case z6 => k_is); (case y0 => k_is)
