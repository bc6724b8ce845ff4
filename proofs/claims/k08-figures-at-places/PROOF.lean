import PyProof.Rows.All
import Wide.All
import OpenK.AllK
import Wide.FinOn
import PySem.Challenge.RW_ringfigures_k08_figures_at_places
import HandS.ForMost
import HandS.ForExc
import HandS.Wide
import HandS.IsInst
import HandS.Codes
import HandS.Style
import HandS.Evl
set_option Elab.async false
set_option linter.all false
set_option maxRecDepth 100000
set_option maxHeartbeats 4000000
set_option maxRecDepth 100000
set_option maxHeartbeats 4000000
namespace Rf
open PySem PySem.Spec PyProof.Rows L2
/-! ### heaps -/
theorem same_new {H H' : Hp} {p : Addr} {o : HO} (s : Same H H') (h : H p = none) : Same H (upd H' p o) := fun b u e => by
  rw [upd_ne (ne_of_none e h)]
  exact s b u e
theorem same_upd {H : Hp} {p : Addr} {o : HO} (h : H p = none) : Same H (upd H p o) := same_new (Same.refl H) h
theorem ne_new {H : Hp} {d f : Addr} {o : HO} (h : upd H d o f = none) : f ≠ d := fun e => by
  rw [e, upd_same] at h
  cases h
theorem free_upd {H : Hp} {d f : Addr} {o : HO} (h : upd H d o f = none) : H f = none := by
  rw [upd_ne (ne_new h)] at h
  exact h
theorem same_ups {H H' : Hp} {d : Addr} {o : HO} (s : Same H H') (h : H' d = none) : Same H (upd H' d o) := s.trans (same_upd h)
theorem keyne {a b : Nat} (h : a ≠ b) : ¬ ((Sum.inl (a : Int) : Key) = Sum.inl (b : Int)) := fun q => h (by have := Sum.inl.inj q; omega)
theorem sz100 {n : Nat} (h : n ≤ 1000000) : n ≤ sizeLine := Nat.le_trans h (by decide)
theorem sz100lt {n : Nat} (h : n < 1000000) : n < sizeLine := Nat.lt_of_lt_of_le h (by decide)
theorem sqt {K : PySem.W.Frag} {H : Hp} {a : Addr} {xs : List V} (h : H a = some (.tup xs)) : SqT K H a xs := .inl (.inl h)
theorem sql {K : PySem.W.Frag} {H : Hp} {a : Addr} {xs : List V} (h : H a = some (.lst xs)) : SqL K H a xs := .inl (.inl h)
/-! ### floor division by any positive number, where the quotient is not long -/
def CDivP (i j : Int) : Prop := 0 < j ∧ Builtin.divisionGoesByPylong i j = false
theorem op_fdivP {X : Cx} : OpR X (binaryOp .FloorDiv) (rI CDivP fun i j => .int (i / j)) := opI fun i j _ _ _ _ _ hc q => by
  have h1 : (0 : Int) < j := hc.1
  exact floordiv_int (by omega) (by rw [Int.fdiv_eq_ediv_of_nonneg i (by omega)]; exact q) (.inl hc.2)
theorem cdivp_small {i j : Int} (h : 0 < j) (h2 : j < 1073741824) : CDivP i j := ⟨h, PyProof.noPylong_small (by omega)⟩
/-- a divisor that is not long -/
structure Wid (m : Nat) : Prop where
  lt : m.log2 < 9000
theorem cdivp_wide {i : Int} {m : Nat} (h0 : 0 < m) (h : Wid m) : CDivP i (m : Int) := ⟨by omega, PyProof.noPylong_of_log2 (by rw [Int.natAbs_natCast]; exact h.lt)⟩
theorem wid_of {m k : Nat} (h : m < 2 ^ k) (hk : k ≤ 9000) (h0 : 0 < k) : Wid m := ⟨Nat.lt_of_lt_of_le (PySem.Flt.log2_lt_of h0 h) hk⟩
theorem wid_small {m : Nat} (h : m < 1000000) : Wid m := wid_of (k := 30) (Nat.lt_of_lt_of_le h (by decide)) (by decide) (by decide)
theorem op_mulB {X : Cx} : OpR X (binaryOp .Mult) (rI IntMulOk fun i j => .int (i * j)) := opI fun _ _ _ _ _ _ _ hc q => mul_int q hc
theorem mulB_right {i j : Int} (h1 : -(2 ^ 64) < j) (h2 : j < 2 ^ 64) : IntMulOk i j := IntMulOk.of_right (intBits_le_64 (by omega) (by omega))
theorem mulB_left {i j : Int} (h1 : -(2 ^ 64) < i) (h2 : i < 2 ^ 64) : IntMulOk i j := IntMulOk.of_left (intBits_le_64 (by omega) (by omega))
/-! ### slices -/
theorem cut_take (xs : List V) (k : Nat) : cutV xs none (some (k : Int)) = xs.take k := by
  unfold cutV
  rw [HT.sIx_none, HT.sIx_nat, List.drop_zero, Nat.sub_zero, ← List.take_take, List.take_length]
theorem cut_drop (xs : List V) (k : Nat) : cutV xs (some (k : Int)) none = xs.drop k := by
  unfold cutV
  rw [HT.sIx_none, HT.sIx_nat]
  by_cases h : k ≤ xs.length
  · rw [Nat.min_eq_left h]
    exact List.take_of_length_le (by rw [List.length_drop]; exact Nat.le_refl _)
  · rw [Nat.min_eq_right (by omega), List.drop_eq_nil_of_le (Nat.le_refl _), List.drop_eq_nil_of_le (by omega), List.take_nil]
theorem take_map (l : List Int) (k : Nat) : (l.map V.int).take k = (l.take k).map V.int := (List.map_take).symm
theorem drop_map (l : List Int) (k : Nat) : (l.map V.int).drop k = (l.drop k).map V.int := (List.map_drop).symm
/-! ### ints as data -/
def dI (ns : List Int) : PyData := .list (ns.map PyData.int)
theorem eqv_ints : ∀ a b : List Int, PyData.eqvAll (a.map PyData.int) (b.map PyData.int) = decide (a = b)
  | [], [] => rfl
  | [], _ :: _ => rfl
  | _ :: _, [] => rfl
  | x :: a, y :: b => by
    show (PyData.eqv (.int x) (.int y) && PyData.eqvAll (a.map PyData.int) (b.map PyData.int)) = _
    rw [eqv_ints a b]
    show ((x == y) && decide (a = b)) = _
    by_cases h : x = y <;> by_cases h2 : a = b <;> simp [h, h2]
theorem eqv_dI (a b : List Int) : PyData.eqv (dI a) (dI b) = decide (a = b) := by
  unfold dI
  rw [PyData.eqv]
  exact eqv_ints a b
theorem canLay_ints : ∀ a : List Int, PyData.canLayAll0 (a.map PyData.int) = true
  | [] => rfl
  | x :: a => by
    show (PyData.canLay0 (.int x) && PyData.canLayAll0 (a.map PyData.int)) = true
    rw [canLay_ints a]
    rfl
theorem depth_ints : ∀ a : List Int, PyData.depthAll (a.map PyData.int) = 0
  | [] => rfl
  | x :: a => by
    show max (PyData.depth (.int x)) (PyData.depthAll (a.map PyData.int)) = 0
    rw [depth_ints a]
    rfl
theorem shaped_dI (a : List Int) : SeqAt.shaped (dI a) = true := by
  unfold SeqAt.shaped dI
  rw [show PyData.canLay0 (.list (a.map PyData.int)) = PyData.canLayAll0 (a.map PyData.int) from rfl, canLay_ints]
  rw [show PyData.depth (.list (a.map PyData.int)) = PyData.depthAll (a.map PyData.int) + 1 from rfl, depth_ints]
  rfl
theorem dpAll_ints {K : PySem.W.Frag} {H : Hp} : ∀ a : List Int, DpAll K H (a.map V.int) (a.map PyData.int)
  | [] => .nil
  | x :: a => .cons (.int x) (dpAll_ints a)
theorem dp_dI {K : PySem.W.Frag} {H : Hp} {p : Addr} {a : List Int} (h : SqL K H p (a.map V.int)) : Dp K H (.ref p) (dI a) := .lst h (dpAll_ints a)
/-! ### writings -/
/-- a whole number, figures ahead, a ring -/
structure Wr where
  w : Int
  a : List Int
  r : List Int
  deriving DecidableEq
def dW (x : Wr) : PyData := .tuple [.int x.w, dI x.a, dI x.r]
theorem eqv_dW (x y : Wr) : PyData.eqv (dW x) (dW y) = decide (x = y) := by
  unfold dW
  rw [PyData.eqv]
  show (PyData.eqv (.int x.w) (.int y.w) && (PyData.eqv (dI x.a) (dI y.a) && (PyData.eqv (dI x.r) (dI y.r) && true))) = _
  rw [eqv_dI, eqv_dI]
  show ((x.w == y.w) && _) = _
  obtain ⟨w1, a1, r1⟩ := x
  obtain ⟨w2, a2, r2⟩ := y
  by_cases h1 : w1 = w2 <;> by_cases h2 : a1 = a2 <;> by_cases h3 : r1 = r2 <;> simp [h1, h2, h3]
theorem shaped_dW (x : Wr) : SeqAt.shaped (dW x) = true := by
  unfold SeqAt.shaped dW dI
  show (PyData.canLay0 (.int x.w) && (PyData.canLayAll0 (x.a.map PyData.int) && (PyData.canLayAll0 (x.r.map PyData.int) && true)) && decide (max 0 (max (PyData.depthAll (x.a.map PyData.int) + 1) (max (PyData.depthAll (x.r.map PyData.int) + 1) 0)) + 1 ≤ 64)) = true
  rw [canLay_ints, canLay_ints, depth_ints, depth_ints]
  rfl
/-- the writing x stands at p, its lists at a and r -/
structure WrAt (H : Hp) (p a r : Addr) (x : Wr) : Prop where
  tp : H p = some (.tup [.int x.w, .ref a, .ref r])
  la : H a = some (.lst (x.a.map V.int))
  lr : H r = some (.lst (x.r.map V.int))
theorem WrAt.dp {K : PySem.W.Frag} {H : Hp} {p a r : Addr} {x : Wr} (h : WrAt H p a r x) : Dp K H (.ref p) (dW x) :=
  .tup (sqt h.tp) (.cons (.int x.w) (.cons (dp_dI (sql h.la)) (.cons (dp_dI (sql h.lr)) .nil)))
theorem WrAt.same {H H' : Hp} {p a r : Addr} {x : Wr} (h : WrAt H p a r x) (s : Same H H') : WrAt H' p a r x := ⟨s _ _ h.tp, s _ _ h.la, s _ _ h.lr⟩
/-- a new writing x at p: all that was stands, its objects are new and its lists are two -/
structure WrNew (H H' : Hp) (p a r : Addr) (x : Wr) : Prop where
  at' : WrAt H' p a r x
  same : Same H H'
  np : H p = none
  na : H a = none
  nr : H r = none
  ne : a ≠ r
/-! ### tests -/
theorem iteD {c : Prop} [Decidable c] {A B : Prop} (h1 : c → A) (h2 : ¬ c → B) : if decide c = true then A else B := by
  by_cases h : c
  · rw [if_pos (decide_eq_true h)]; exact h1 h
  · rw [if_neg (by rw [decide_eq_false h]; exact Bool.false_ne_true)]; exact h2 h
theorem iteDn {c : Prop} [Decidable c] {A B : Prop} (h1 : ¬ c → A) (h2 : c → B) : if (!decide c) = true then A else B := by
  by_cases h : c
  · rw [if_neg (by rw [decide_eq_true h]; exact Bool.false_ne_true)]; exact h2 h
  · rw [if_pos (by rw [decide_eq_false h]; rfl)]; exact h1 h
theorem iteE {i j : Int} {A B : Prop} (h1 : i = j → A) (h2 : i ≠ j → B) : if decide (V.int i = V.int j) = true then A else B := iteD (fun e => h1 (V.int.inj e)) (fun e => h2 fun q => e (by rw [q]))
theorem iteEn {i j : Int} {A B : Prop} (h1 : i ≠ j → A) (h2 : i = j → B) : if (!decide (V.int i = V.int j)) = true then A else B := iteDn (fun e => h1 fun q => e (by rw [q])) (fun e => h2 (V.int.inj e))
theorem iteB {b : Bool} {A B : Prop} (h1 : b = true → A) (h2 : b = false → B) : if b = true then A else B := by
  cases b with
  | true => rw [if_pos rfl]; exact h1 rfl
  | false => rw [if_neg Bool.false_ne_true]; exact h2 rfl
theorem atI_of {xs : List V} {z : Int} {j : Nat} {v : V} (e : z = (j : Int)) (h : xs[j]? = some v) : atI xs z = some v := by
  rw [e]
  exact atI_nat h
theorem map_get {ns : List Int} {k : Nat} {x : Int} (h : ns[k]? = some x) : (ns.map V.int)[k]? = some (.int x) := by
  rw [List.getElem?_map, h]; rfl
/-! ### where a value's kind is asked -/
theorem kit_int_int {K : PySem.W.Frag} : PySem.W.kitOne K (.type "int") (.type "int") = some true := kit_ty (by decide +kernel)
theorem kit_int_bool {K : PySem.W.Frag} : PySem.W.kitOne K (.type "int") (.type "bool") = some false := kit_ty (by decide +kernel)
theorem kit_tup {K : PySem.W.Frag} : PySem.W.kitOne K (.type "tuple") (.type "tuple") = some true := kit_ty (by decide +kernel)
theorem kit_lst {K : PySem.W.Frag} : PySem.W.kitOne K (.type "list") (.type "list") = some true := kit_ty (by decide +kernel)
theorem kit_bool {K : PySem.W.Frag} : PySem.W.kitOne K (.type "bool") (.type "bool") = some true := kit_ty (by decide +kernel)
theorem kit_str {K : PySem.W.Frag} : PySem.W.kitOne K (.type "str") (.type "str") = some true := kit_ty (by decide +kernel)
theorem kit_self {K : PySem.W.Frag} {n : String} : PySem.W.kitOne K (.type n) (.type n) = some true := kit_ty (by unfold kitB; rw [if_pos (by simp)])
end Rf

set_option maxHeartbeats 1000000
namespace Rf
/-! ### the rests of a division, and where they come again -/
/-- the rest behind k figures -/
def rs (b m r k : Nat) : Nat := r * b ^ k % m
/-- the k-th figure -/
def dg (b m r k : Nat) : Nat := rs b m r k * b / m
/-- n figures from the i-th on -/
def dgs (b m r i n : Nat) : List Int := (List.range n).map fun k => ((dg b m r (i + k) : Nat) : Int)
theorem rs_zero {b m r : Nat} (h : r < m) : rs b m r 0 = r := by
  unfold rs
  rw [Nat.pow_zero, Nat.mul_one, Nat.mod_eq_of_lt h]
theorem rs_lt {b m r k : Nat} (h : 0 < m) : rs b m r k < m := Nat.mod_lt _ h
theorem rs_succ (b m r k : Nat) : rs b m r (k + 1) = rs b m r k * b % m := by
  unfold rs
  rw [Nat.pow_succ, ← Nat.mul_assoc, Nat.mul_mod (r * b ^ k) b m, Nat.mul_mod (r * b ^ k % m) b m, Nat.mod_mod]
theorem dgs_len (b m r i n : Nat) : (dgs b m r i n).length = n := by
  unfold dgs
  rw [List.length_map, List.length_range]
theorem dgs_succ (b m r i n : Nat) : dgs b m r i (n + 1) = dgs b m r i n ++ [((dg b m r (i + n) : Nat) : Int)] := by
  unfold dgs
  rw [List.range_succ, List.map_append]
  rfl
theorem dgs_take (b m r n k : Nat) (h : k ≤ n) : (dgs b m r 0 n).take k = dgs b m r 0 k := by
  unfold dgs
  rw [← List.map_take, List.take_range, Nat.min_eq_left h]
theorem dgs_get (b m r i n k : Nat) (h : k < n) : (dgs b m r i n)[k]? = some ((dg b m r (i + k) : Nat) : Int) := by
  unfold dgs
  rw [List.getElem?_map, List.getElem?_range h]
  rfl
theorem dgs_drop (b m r n k : Nat) (h : k ≤ n) : (dgs b m r 0 n).drop k = dgs b m r k (n - k) := by
  apply List.ext_getElem?
  intro j
  rw [List.getElem?_drop]
  by_cases hj : j < n - k
  · rw [dgs_get _ _ _ _ _ _ hj, dgs_get _ _ _ _ _ _ (show k + j < n by omega), Nat.zero_add]
  · rw [List.getElem?_eq_none (by rw [dgs_len]; omega), List.getElem?_eq_none (by rw [dgs_len]; omega)]
/-- division of r by m in base b: s figures ahead, then a ring of l (none: l = 0) -/
structure DivAt (b m r s l : Nat) : Prop where
  pos : ∀ k, k < s + l → rs b m r k ≠ 0
  new : ∀ j k, j < k → k < s + l → rs b m r j ≠ rs b m r k
  fin : l = 0 → rs b m r s = 0
  rep : 0 < l → rs b m r (s + l) = rs b m r s
/-- the first n at which the division stops -/
def Stp (b m r n : Nat) : Prop := rs b m r n = 0 ∨ ∃ j, j < n ∧ rs b m r j = rs b m r n
theorem DivAt.stp {b m r s l : Nat} (h : DivAt b m r s l) : Stp b m r (s + l) := by
  by_cases hl : l = 0
  · subst hl; exact .inl (h.fin rfl)
  · exact .inr ⟨s, by omega, (h.rep (by omega)).symm⟩
theorem DivAt.not_stp {b m r s l n : Nat} (h : DivAt b m r s l) (hn : n < s + l) : ¬ Stp b m r n := fun q => by
  rcases q with q | ⟨j, hj, e⟩
  · exact h.pos n hn q
  · exact h.new j n hj hn e
theorem DivAt.unique {b m r s l s' l' : Nat} (h : DivAt b m r s l) (h' : DivAt b m r s' l') : s = s' ∧ l = l' := by
  have e : s + l = s' + l' := by
    rcases Nat.lt_trichotomy (s + l) (s' + l') with q | q | q
    · exact absurd h.stp (h'.not_stp q)
    · exact q
    · exact absurd h'.stp (h.not_stp q)
  by_cases hl : l = 0
  · by_cases hl' : l' = 0
    · omega
    · have h1 := h.fin hl
      have h2 := h'.rep (by omega)
      have h3 : s = s' + l' := by omega
      rw [← h3, h1] at h2
      exact absurd h2.symm (h'.pos s' (by omega))
  · by_cases hl' : l' = 0
    · have h1 := h'.fin hl'
      have h2 := h.rep (by omega)
      have h3 : s' = s + l := by omega
      rw [← h3, h1] at h2
      exact absurd h2.symm (h.pos s (by omega))
    · have h1 := h.rep (by omega)
      have h2 := h'.rep (by omega)
      rw [e] at h1
      have h3 : rs b m r s = rs b m r s' := h1.symm.trans h2
      rcases Nat.lt_trichotomy s s' with q | q | q
      · exact absurd h3 (h.new s s' q (by omega))
      · omega
      · exact absurd h3.symm (h'.new s' s q (by omega))
theorem exists_least (P : Nat → Prop) : ∀ n, P n → ∃ k, k ≤ n ∧ P k ∧ ∀ j, j < k → ¬ P j := fun n => by
  induction n using Nat.strongRecOn with
  | _ n ih =>
    intro h
    by_cases q : ∃ j, j < n ∧ P j
    · obtain ⟨j, hj, pj⟩ := q
      obtain ⟨k, hk, pk, lk⟩ := ih j hj pj
      exact ⟨k, by omega, pk, lk⟩
    · exact ⟨n, Nat.le_refl _, h, fun j hj pj => q ⟨j, hj, pj⟩⟩
/-- an injection of the numbers below n into those below m -/
theorem pigeon : ∀ (m n : Nat) (f : Nat → Nat), (∀ k, k < n → f k < m) → (∀ j k, j < k → k < n → f j ≠ f k) → n ≤ m
  | 0, n, f, h, _ => by
    cases n with
    | zero => exact Nat.le_refl _
    | succ n => exact absurd (h 0 (by omega)) (by omega)
  | m + 1, n, f, h, inj => by
    by_cases q : ∃ i, i < n ∧ f i = m
    · obtain ⟨i, hi, ei⟩ := q
      have key : n - 1 ≤ m := pigeon m (n - 1) (fun k => if k < i then f k else f (k + 1)) (fun k hk => by
          split
          · rename_i c
            have h1 := h k (by omega)
            have h2 := inj k i c hi
            omega
          · rename_i c
            have h1 := h (k + 1) (by omega)
            have h2 := inj i (k + 1) (by omega) (by omega)
            omega) (fun j k hjk hk => by
          split
          · split
            · exact inj j k hjk (by omega)
            · exact inj j (k + 1) (by omega) (by omega)
          · split
            · omega
            · exact inj (j + 1) (k + 1) (by omega) (by omega))
      omega
    · have key : n ≤ m := pigeon m n f (fun k hk => by
          have h1 := h k hk
          have h2 : f k ≠ m := fun e => q ⟨k, hk, e⟩
          omega) inj
      omega
theorem stp_exists {b m r : Nat} (hm : 0 < m) : ∃ n, n ≤ m ∧ Stp b m r n := by
  by_cases q : ∃ n, n ≤ m ∧ Stp b m r n
  · exact q
  · have h1 : m + 1 ≤ m := pigeon m (m + 1) (rs b m r) (fun k _ => rs_lt hm) (fun j k hjk hk e => q ⟨k, by omega, .inr ⟨j, hjk, e⟩⟩)
    omega
theorem divAt_of_stp {b m r n : Nat} (h : Stp b m r n) (hl : ∀ j, j < n → ¬ Stp b m r j) : ∃ s l, s + l = n ∧ DivAt b m r s l := by
  have hp : ∀ k, k < n → rs b m r k ≠ 0 := fun k hk e => hl k hk (.inl e)
  have hn : ∀ j k, j < k → k < n → rs b m r j ≠ rs b m r k := fun j k hjk hk e => hl k hk (.inr ⟨j, hjk, e⟩)
  by_cases h0 : rs b m r n = 0
  · exact ⟨n, 0, by omega, ⟨hp, hn, fun _ => h0, fun q => absurd q (by omega)⟩⟩
  · rcases h with h | ⟨j, hj, e⟩
    · exact absurd h h0
    · refine ⟨j, n - j, by omega, ⟨fun k hk => hp k (by omega), fun i k hik hk => hn i k hik (by omega), fun q => by omega, fun _ => ?_⟩⟩
      rw [show j + (n - j) = n by omega]
      exact e.symm
theorem divAt_exists {b m r : Nat} (hm : 0 < m) : ∃ s l, s + l ≤ m ∧ DivAt b m r s l := by
  obtain ⟨n, hn, h⟩ := stp_exists (b := b) (r := r) hm
  obtain ⟨k, hk, pk, lk⟩ := exists_least (Stp b m r) n h
  obtain ⟨s, l, e, d⟩ := divAt_of_stp pk lk
  exact ⟨s, l, by omega, d⟩
end Rf

set_option maxHeartbeats 1000000
namespace Rf
/-! ### figures come round -/
theorem rs_add (b m r i j : Nat) : rs b m r (i + j) = rs b m (rs b m r i) j := by
  unfold rs
  rw [Nat.pow_add, ← Nat.mul_assoc, Nat.mul_mod (r * b ^ i) (b ^ j) m, Nat.mul_mod (r * b ^ i % m) (b ^ j) m, Nat.mod_mod]
theorem DivAt.nought {b m r s l : Nat} (h : DivAt b m r s l) (hl : l = 0) (i : Nat) : rs b m r (s + i) = 0 := by
  rw [rs_add, h.fin hl]
  unfold rs
  rw [Nat.zero_mul, Nat.zero_mod]
theorem DivAt.round {b m r s l : Nat} (h : DivAt b m r s l) (hl : 0 < l) (i : Nat) : rs b m r (s + l + i) = rs b m r (s + i) := by
  rw [rs_add, h.rep hl, ← rs_add]
theorem DivAt.rounds {b m r s l : Nat} (h : DivAt b m r s l) (hl : 0 < l) (i : Nat) : ∀ n, rs b m r (s + (i + l * n)) = rs b m r (s + i)
  | 0 => by rw [Nat.mul_zero, Nat.add_zero]
  | n + 1 => by
    rw [show s + (i + l * (n + 1)) = s + l + (i + l * n) by rw [Nat.mul_add, Nat.mul_one]; omega, h.round hl]
    exact h.rounds hl i n
theorem DivAt.mod {b m r s l : Nat} (h : DivAt b m r s l) (hl : 0 < l) (i : Nat) : rs b m r (s + i) = rs b m r (s + i % l) := by
  have e := h.rounds hl (i % l) (i / l)
  rw [Nat.mod_add_div] at e
  exact e
/-- the figure at a place, by the writing -/
theorem DivAt.fig {b m r s l n : Nat} (h : DivAt b m r s l) (hn : s ≤ n) : dg b m r n = if l = 0 then 0 else dg b m r (s + (n - s) % l) := by
  unfold dg
  by_cases hl : l = 0
  · rw [if_pos hl, show n = s + (n - s) by omega, h.nought hl, Nat.zero_mul, Nat.zero_div]
  · rw [if_neg hl]
    have e := h.mod (by omega) (n - s)
    rw [show s + (n - s) = n by omega] at e
    rw [e]
/-! ### powers by squaring -/
theorem pow_half (F G m p : Nat) : (if p % 2 = 1 then F * G % m else F) * (G * G % m) ^ (p / 2) % m = F * G ^ p % m := by
  have e : G ^ p = (if p % 2 = 1 then G else 1) * (G * G) ^ (p / 2) := by
    rw [← Nat.pow_two, ← Nat.pow_mul]
    split
    · rename_i h
      rw [← Nat.pow_succ']
      congr 1
      omega
    · rename_i h
      rw [Nat.one_mul]
      congr 1
      omega
  rw [e, Nat.mul_mod, ← Nat.pow_mod, ← Nat.mul_mod, ← Nat.mul_assoc]
  split
  · rw [Nat.mul_mod (F * G % m), Nat.mod_mod, ← Nat.mul_mod]
  · rw [Nat.mul_one]
end Rf

namespace Rf
open PySem PySem.Spec PyProof.Rows L2
open C8 (Cal pe_c pe_gc)
local macro_rules | `(tactic| walk_at "side") => `(tactic| first
  | ((with_reducible show IntMulOk _ _); first | assumption | exact (show ∀ i : Int, IntMulOk i _ from by assumption) _ | (refine mulB_right ?_ ?_ <;> omega) | (refine mulB_left ?_ ?_ <;> omega))
  | ((with_reducible show CDivP _ _); first | assumption | exact (show ∀ i : Int, CDivP i _ from by assumption) _ | (refine cdivp_small ?_ ?_ <;> omega))
  | ((with_reducible show (_ : Int) < _); first | assumption | omega | decide)
  | ((with_reducible show scal _ _ = true); rfl)
  | ((with_reducible show _ ≤ sizeLine); first | exact sz100 (Nat.le_of_ble_eq_true rfl) | exact sz100 (by omega))
  | ((with_reducible show CPow _ _); dsimp only [CPow]; decide))
local macro_rules | `(tactic| walk_at "sq") => `(tactic| first | assumption | exact sql (by assumption) | exact sqt (by assumption) | exact sqt upd_same | exact sql upd_same)
local macro_rules | `(tactic| walk_at "call") => `(tactic| fail)
local macro_rules | `(tactic| walk_at "st1") => `(tactic| first
  | refine ⟨_, rfl, ?_⟩
  | refine ⟨_, _, rfl, rfl, ?_⟩
  | refine And.intro (by walk_at "side") ?_
  | refine ⟨_, _, rfl, .inl (by walk_at "sq"), ?_⟩
  | refine And.intro rfl ?_
  | refine ⟨_, _, _, _, rfl, rfl, (by walk_at "sq"), rfl, ?_⟩
  | refine ⟨_, _, rfl, (by walk_at "sq"), rfl, ?_⟩
  | refine ⟨_, _, rfl, ?_⟩
  | walk_at "call")
local macro_rules | `(tactic| walk_at "st") => `(tactic| repeat walk_at "st1")
def topS (i : Nat) : Stmt := PySem.Challenge.pw_ringfigures_k08_figures_at_places.main.body.getD i (.Pass ⟨0, 0, 0, 0⟩)
/-- what the module's names hold -/
structure Md (K : PySem.W.Frag) (mg : Str → Option Value) : Prop where
  m_len : mg "len" = none
  m_isinstance : mg "isinstance" = none
  m_int : mg "int" = none
  m_bool : mg "bool" = none
  g_GREATEST : ∃ u, mg "GREATEST" = some u ∧ RelV (.int 1000000000000) u
  g_MOST_BOTTOM : ∃ u, mg "MOST_BOTTOM" = some u ∧ RelV (.int 2000) u
abbrev s_askedbase : Stmt := topS 7
theorem sc_askedbase : FnScope ["base"] ["base"] (defScope s_askedbase) := ⟨rfl, rfl, rfl, by decide +kernel, rfl, by decide +kernel, by decide +kernel⟩
@[irreducible] def sp_askedbase (K : PySem.W.Frag) : Sp := fun vs H Q _ => ∃ (x : Int), vs = [.int x] ∧ 2 ≤ x ∧ x ≤ 36 ∧ Q .non H
theorem go_askedbase {K : PySem.W.Frag} {H : Hp} {x : Int} {Q : VK} {E : XK} (h1 : 2 ≤ x) (h2 : x ≤ 36) (q : Q .non H) : sp_askedbase K [.int x] H Q E := by
  unfold sp_askedbase; exact ⟨x, rfl, h1, h2, q⟩
local macro_rules | `(tactic| walk_at "call") => `(tactic| refine go_askedbase (by omega) (by omega) ?_)
section
variable {P : Program} {w : World} {K : PySem.W.Frag} {mg : Str → Option Value} {base : Heap}
theorem ok_askedbase {f : Addr} {fd : FuncData} (F : Fun K "asked_base" "asked_base" s_askedbase f fd) (M : Md K mg) : FnOk P w K mg base CX0 1 f fd ["base"] (sp_askedbase K) := by
  refine F.ok sc_askedbase (fun vs H Q E h => ?_) (fun cdv A outer s H vs Q E hr h => ?_)
  · unfold sp_askedbase at h; obtain ⟨x, rfl, h1, h2, q⟩ := h
    rfl
  · have hu := hu_of hr
    unfold sp_askedbase at h; obtain ⟨x, rfl, h1, h2, q⟩ := h
    refine ⟨_, (pss_one (ps_if (PW.pt (pw_or (pt_cmpR op_lt (pv 0) pe_int (nomark _)) (pw_or1 (pt_cmpR op_gt (pv 0) pe_int (nomark _)))))
        (pss_one ps_never) pss_nil)), ?_⟩
    walk_at "st"
    refine iteD (fun e => absurd e (by omega)) (fun _ => ?_)
    walk_at "st"
    refine iteD (fun e => absurd e (by omega)) (fun _ => ?_)
    exact q
end
abbrev s_askedfraction : Stmt := topS 8
theorem sc_askedfraction : FnScope ["base", "top", "bottom"] ["base", "top", "bottom"] (defScope s_askedfraction) := ⟨rfl, rfl, rfl, by decide +kernel, rfl, by decide +kernel, by decide +kernel⟩
@[irreducible] def sp_askedfraction (K : PySem.W.Frag) : Sp := fun vs H Q _ => ∃ (x y z : Int), vs = [.int x, .int y, .int z] ∧ 2 ≤ x ∧ x ≤ 36 ∧ 0 ≤ y ∧ y ≤ 1000000000000 ∧ 1 ≤ z ∧ z ≤ 2000 ∧ Q .non H
theorem go_askedfraction {K : PySem.W.Frag} {H : Hp} {x y z : Int} {Q : VK} {E : XK} (h1 : 2 ≤ x) (h2 : x ≤ 36) (h3 : 0 ≤ y) (h4 : y ≤ 1000000000000) (h5 : 1 ≤ z) (h6 : z ≤ 2000) (q : Q .non H) : sp_askedfraction K [.int x, .int y, .int z] H Q E := by
  unfold sp_askedfraction; exact ⟨x, y, z, rfl, h1, h2, h3, h4, h5, h6, q⟩
local macro_rules | `(tactic| walk_at "call") => `(tactic| refine go_askedfraction (by omega) (by omega) (by omega) (by omega) (by omega) (by omega) ?_)
section
variable {P : Program} {w : World} {K : PySem.W.Frag} {mg : Str → Option Value} {base : Heap}
theorem ok_askedfraction {f : Addr} {fd : FuncData} (F : Fun K "asked_fraction" "asked_fraction" s_askedfraction f fd) (M : Md K mg) (c_askedbase : Cal P w K mg base 1 "asked_base" (sp_askedbase K) []) : FnOk P w K mg base CX0 2 f fd ["base", "top", "bottom"] (sp_askedfraction K) := by
  refine F.ok sc_askedfraction (fun vs H Q E h => ?_) (fun cdv A outer s H vs Q E hr h => ?_)
  · unfold sp_askedfraction at h; obtain ⟨x, y, z, rfl, h1, h2, h3, h4, h5, h6, q⟩ := h
    rfl
  · have hu := hu_of hr
    unfold sp_askedfraction at h; obtain ⟨x, y, z, rfl, h1, h2, h3, h4, h5, h6, q⟩ := h
    refine ⟨_, (pss_cons (ps_expr (pe_c c_askedbase hr (by decide) (by rfl) (pa_cons (pv 0) pa_nil)))
      (pss_one (ps_if (PW.pt (pw_or (pt_cmpR op_lt (pv 1) pe_int (nomark _)) (pw_or (pt_cmpR op_gt (pv 1) (pe_gc (by rfl) M.g_GREATEST) (nomark _)) (pw_or (pt_cmpR op_lt (pv 2) pe_int (nomark _)) (pw_or1 (pt_cmpR op_gt (pv 2) (pe_gc (by rfl) M.g_MOST_BOTTOM) (nomark _)))))))
        (pss_one ps_never) pss_nil))), ?_⟩
    walk_at "st"
    refine iteD (fun e => absurd e (by omega)) (fun _ => ?_)
    walk_at "st"
    refine iteD (fun e => absurd e (by omega)) (fun _ => ?_)
    walk_at "st"
    refine iteD (fun e => absurd e (by omega)) (fun _ => ?_)
    walk_at "st"
    refine iteD (fun e => absurd e (by omega)) (fun _ => ?_)
    exact q
end
abbrev s_restat : Stmt := topS 10
theorem sc_restat : FnScope ["base", "top", "bottom", "place", "found", "factor"] ["base", "top", "bottom", "place"] (defScope s_restat) := ⟨rfl, rfl, rfl, by decide +kernel, rfl, by decide +kernel, by decide +kernel⟩
@[irreducible] def sp_restat (K : PySem.W.Frag) : Sp := fun vs H Q _ => ∃ (x y z k : Int) (b t m n : Nat), vs = [.int x, .int y, .int z, .int k] ∧ x = b ∧ y = t ∧ z = m ∧ k = n ∧ 0 < m ∧ m < 1000000 ∧ Q (.int ((rs b m (t % m) n : Nat) : Int)) H
theorem go_restat {K : PySem.W.Frag} {H : Hp} {x y z k : Int} {Q : VK} {E : XK} (b t m n : Nat) (hx : x = b) (hy : y = t) (hz : z = m) (hk : k = n) (hm : 0 < m) (hm2 : m < 1000000) (q : Q (.int ((rs b m (t % m) n : Nat) : Int)) H) : sp_restat K [.int x, .int y, .int z, .int k] H Q E := by
  unfold sp_restat; exact ⟨x, y, z, k, b, t, m, n, rfl, hx, hy, hz, hk, hm, hm2, q⟩
section
variable {P : Program} {w : World} {K : PySem.W.Frag} {mg : Str → Option Value} {base : Heap}
theorem ok_restat {f : Addr} {fd : FuncData} (F : Fun K "rest_at" "rest_at" s_restat f fd) (M : Md K mg) : FnOk P w K mg base CX0 1 f fd ["base", "top", "bottom", "place"] (sp_restat K) := by
  refine F.ok sc_restat (fun vs H Q E h => ?_) (fun cdv A outer s H vs Q E hr h => ?_)
  · unfold sp_restat at h; obtain ⟨x, y, z, k, b, t, m, n, rfl, rfl, rfl, rfl, rfl, hm, hm2, q⟩ := h
    rfl
  · have hu := hu_of hr
    unfold sp_restat at h; obtain ⟨x, y, z, k, b, t, m, n, rfl, rfl, rfl, rfl, rfl, hm, hm2, q⟩ := h
    have hmi : (0 : Int) < (m : Int) := by omega
    refine ⟨_, (pss_cons (ps_set (i := 4) sc_restat.nd rfl (.inl rfl) (pe_op op_mod (pv 1) (pv 2)))
      (pss_cons (ps_set (i := 5) sc_restat.nd rfl (.inl rfl) (pe_op op_mod (pv 0) (pv 2)))
      (pss_cons (ps_while PassesOwn.never (pt_cmpR op_gt (pv 3) pe_int (nomark _))
        (pss_cons (ps_if (pt_cmpR op_eq (pe_op op_mod (pv 3) pe_int) pe_int (nomark _))
        (pss_one (ps_set (i := 4) sc_restat.nd rfl (.inl rfl) (pe_op op_mod (pe_op op_mulB (pv 4) (pv 5)) (pv 2)))) pss_nil)
      (pss_cons (ps_set (i := 5) sc_restat.nd rfl (.inl rfl) (pe_op op_mod (pe_op op_mulB (pv 5) (pv 5)) (pv 2)))
      (pss_one (ps_set (i := 3) sc_restat.nd rfl (.inl rfl) (pe_op op_fdivP (pv 3) pe_int))))))
      (pss_one (ps_ret (pv 4)))))), ?_⟩
    walk_at "st"
    refine ⟨fun μ σ H' => ∃ (F G p : Nat), μ = p ∧ F < m ∧ G < m ∧ F * G ^ p % m = rs b m (t % m) n ∧ H' = H ∧ σ = [some (.int (b : Int)), some (.int (t : Int)), some (.int (m : Int)), some (.int (p : Int)), some (.int (F : Int)), some (.int (G : Int))],
      ⟨n, t % m, b % m, n, rfl, Nat.mod_lt _ hm, Nat.mod_lt _ hm, ?_, rfl, rfl⟩, fun μ σ H' hW => ?_⟩
    · unfold rs
      rw [Nat.mul_mod, ← Nat.pow_mod, ← Nat.mul_mod]
    obtain ⟨F, G, p, eμ, hF, hG, e, eH, eσ⟩ := hW
    subst eμ eH eσ
    walk_at "st"
    refine iteD (fun hp => ?_) (fun hp => ?_)
    · have h0 : 0 < μ := by omega
      refine ⟨fun σ H2 => ∃ (F' : Nat), F' < m ∧ F' * (G * G % m) ^ (μ / 2) % m = rs b m (t % m) n ∧ H2 = H' ∧ σ = [some (.int (b : Int)), some (.int (t : Int)), some (.int (m : Int)), some (.int ((μ / 2 : Nat) : Int)), some (.int (F' : Int)), some (.int ((G * G % m : Nat) : Int))],
        fun σ H2 hN => ?_, ?_⟩
      · obtain ⟨F', hF', e', eH', eσ'⟩ := hN
        exact ⟨μ / 2, by omega, F', _, _, rfl, hF', Nat.mod_lt _ hm, e', eH', eσ'⟩
      · have key := pow_half F G m μ
        walk_at "st"
        refine iteE (fun c => ?_) (fun c => ?_)
        · rw [if_pos (show μ % 2 = 1 by omega), e] at key
          walk_at "st"
          exact ⟨F * G % m, Nat.mod_lt _ hm, key, rfl, rfl⟩
        · rw [if_neg (show ¬ μ % 2 = 1 by omega), e] at key
          walk_at "st"
          exact ⟨F, hF, key, rfl, rfl⟩
    · have h0 : μ = 0 := by omega
      rw [h0, Nat.pow_zero, Nat.mul_one, Nat.mod_eq_of_lt hF] at e
      rw [← e] at q
      walk_at "st"
      exact q
end
abbrev s_figureat : Stmt := topS 11
theorem sc_figureat : FnScope ["base", "top", "bottom", "place"] ["base", "top", "bottom", "place"] (defScope s_figureat) := ⟨rfl, rfl, rfl, by decide +kernel, rfl, by decide +kernel, by decide +kernel⟩
@[irreducible] def sp_figureat (K : PySem.W.Frag) : Sp := fun vs H Q _ => ∃ (x y z k : Int) (b t m n : Nat), vs = [.int x, .int y, .int z, .int k] ∧ x = b ∧ y = t ∧ z = m ∧ k = n ∧ 2 ≤ b ∧ b ≤ 36 ∧ t ≤ 1000000000000 ∧ 1 ≤ m ∧ m ≤ 2000 ∧ Q (.int ((dg b m (t % m) n : Nat) : Int)) H
theorem go_figureat {K : PySem.W.Frag} {H : Hp} {x y z k : Int} {Q : VK} {E : XK} (b t m n : Nat) (hx : x = b) (hy : y = t) (hz : z = m) (hk : k = n) (h1 : 2 ≤ b) (h2 : b ≤ 36) (h3 : t ≤ 1000000000000) (h4 : 1 ≤ m) (h5 : m ≤ 2000) (q : Q (.int ((dg b m (t % m) n : Nat) : Int)) H) : sp_figureat K [.int x, .int y, .int z, .int k] H Q E := by
  unfold sp_figureat; exact ⟨x, y, z, k, b, t, m, n, rfl, hx, hy, hz, hk, h1, h2, h3, h4, h5, q⟩
section
variable {P : Program} {w : World} {K : PySem.W.Frag} {mg : Str → Option Value} {base : Heap}
theorem ok_figureat {f : Addr} {fd : FuncData} (F : Fun K "figure_at" "figure_at" s_figureat f fd) (M : Md K mg) (c_askedfraction : Cal P w K mg base 2 "asked_fraction" (sp_askedfraction K) []) (c_restat : Cal P w K mg base 1 "rest_at" (sp_restat K) []) : FnOk P w K mg base CX0 3 f fd ["base", "top", "bottom", "place"] (sp_figureat K) := by
  refine F.ok sc_figureat (fun vs H Q E h => ?_) (fun cdv A outer s H vs Q E hr h => ?_)
  · unfold sp_figureat at h; obtain ⟨x, y, z, k, b, t, m, n, rfl, rfl, rfl, rfl, rfl, h1, h2, h3, h4, h5, q⟩ := h
    rfl
  · have hu := hu_of hr
    unfold sp_figureat at h; obtain ⟨x, y, z, k, b, t, m, n, rfl, rfl, rfl, rfl, rfl, h1, h2, h3, h4, h5, q⟩ := h
    refine ⟨_, (pss_cons (ps_expr (pe_c c_askedfraction hr (by decide) (by rfl) (pa_cons (pv 0) (pa_cons (pv 1) (pa_cons (pv 2) pa_nil)))))
      (pss_one (ps_ret (pe_op op_fdivP (pe_op op_mulB (pe_c c_restat hr (by decide) (by rfl) (pa_cons (pv 0) (pa_cons (pv 1) (pa_cons (pv 2) (pa_cons (pv 3) pa_nil))))) (pv 0)) (pv 2))))), ?_⟩
    walk_at "st"
    refine go_restat b t m n rfl rfl rfl rfl (by omega) (by omega) ?_
    walk_at "st"
    exact q
end
abbrev s_xlawcellat : Stmt := topS 13
theorem sc_xlawcellat : FnScope ["script", "k"] ["script", "k"] (defScope s_xlawcellat) := ⟨rfl, rfl, rfl, by decide +kernel, rfl, by decide +kernel, by decide +kernel⟩
/-- the k-th of the script's numbers, or 0 -/
def cl (ns : List Int) (k : Nat) : Int := ns.getD k 0
@[irreducible] def sp_xlawcellat (K : PySem.W.Frag) : Sp := fun vs H Q _ => ∃ (a : Addr) (ns : List Int) (x : Int), vs = [.ref a, .int x] ∧ 0 ≤ x ∧ SqL K H a (ns.map V.int) ∧ Q (.int (cl ns x.toNat)) H
theorem go_cell {K : PySem.W.Frag} {H : Hp} {a : Addr} {ns : List Int} {x : Int} {Q : VK} {E : XK} (hx : 0 ≤ x) (hS : SqL K H a (ns.map V.int)) (q : Q (.int (cl ns x.toNat)) H) : sp_xlawcellat K [.ref a, .int x] H Q E := by
  unfold sp_xlawcellat; exact ⟨a, ns, x, rfl, hx, hS, q⟩
local macro_rules | `(tactic| walk_at "call") => `(tactic| refine go_cell (by omega) (by walk_at "sq") ?_)
theorem cl_in {ns : List Int} {k : Nat} (h : k < ns.length) : cl ns k = ns[k] := by
  unfold cl; rw [List.getD_eq_getElem?_getD, List.getElem?_eq_getElem h]; rfl
theorem cl_out {ns : List Int} {k : Nat} (h : ns.length ≤ k) : cl ns k = 0 := by
  unfold cl; rw [List.getD_eq_getElem?_getD, List.getElem?_eq_none h]; rfl
section
variable {P : Program} {w : World} {K : PySem.W.Frag} {mg : Str → Option Value} {base : Heap}
theorem ok_xlawcellat {f : Addr} {fd : FuncData} (F : Fun K "_law_cell_at" "_law_cell_at" s_xlawcellat f fd) (M : Md K mg) : FnOk P w K mg base CX0 1 f fd ["script", "k"] (sp_xlawcellat K) := by
  refine F.ok sc_xlawcellat (fun vs H Q E h => ?_) (fun cdv A outer s H vs Q E hr h => ?_)
  · unfold sp_xlawcellat at h; obtain ⟨a, ns, x, rfl, hx, hS, q⟩ := h
    rfl
  · have hu := hu_of hr
    unfold sp_xlawcellat at h; obtain ⟨a, ns, x, rfl, hx, hS, q⟩ := h
    obtain ⟨k, rfl⟩ : ∃ k : Nat, x = (k : Int) := ⟨x.toNat, by omega⟩
    rw [Int.toNat_natCast] at q
    refine ⟨_, (pss_cons (ps_if (pt_cmpR op_lt (pv 1) (pe_callB call_len_seq (by rfl) M.m_len PySem.boot_len (pa_cons (pv 0) pa_nil)) (nomark _))
        (pss_one (ps_ret (pe_ix ix_list (pv 0) (pv 1) (fun _ _ => rfl)))) pss_nil)
      (pss_one (ps_ret pe_int))), ?_⟩
    walk_at "st"
    rw [List.length_map]
    refine iteD (fun e => ?_) (fun e => ?_)
    · have hk : k < ns.length := by omega
      walk_at "st"
      refine ⟨a, _, _, _, rfl, rfl, hS, atI_nat (map_get (List.getElem?_eq_getElem hk)), ?_⟩
      rw [← cl_in hk]
      exact q
    · rw [cl_out (by omega)] at q
      exact q
end
abbrev s_xlawwhole : Stmt := topS 14
theorem sc_xlawwhole : FnScope ["found"] ["found"] (defScope s_xlawwhole) := ⟨rfl, rfl, rfl, by decide +kernel, rfl, by decide +kernel, by decide +kernel⟩
@[irreducible] def sp_xlawwhole (K : PySem.W.Frag) : Sp := fun vs H Q _ => ∃ i : Int, vs = [.int i] ∧ Q (.bl true) H
theorem go_whole {K : PySem.W.Frag} {H : Hp} {i : Int} {Q : VK} {E : XK} (q : Q (.bl true) H) : sp_xlawwhole K [.int i] H Q E := by
  unfold sp_xlawwhole; exact ⟨i, rfl, q⟩
local macro_rules | `(tactic| walk_at "call") => `(tactic| refine go_whole ?_)
section
variable {P : Program} {w : World} {K : PySem.W.Frag} {mg : Str → Option Value} {base : Heap}
theorem ok_xlawwhole {f : Addr} {fd : FuncData} (F : Fun K "_law_whole" "_law_whole" s_xlawwhole f fd) (M : Md K mg) : FnOk P w K mg base CX0 1 f fd ["found"] (sp_xlawwhole K) := by
  refine F.ok sc_xlawwhole (fun vs H Q E h => ?_) (fun cdv A outer s H vs Q E hr h => ?_)
  · unfold sp_xlawwhole at h; obtain ⟨i, rfl, q⟩ := h
    rfl
  · have hu := hu_of hr
    unfold sp_xlawwhole at h; obtain ⟨i, rfl, q⟩ := h
    refine ⟨_, (pss_one (ps_ret (pe_and (pe_callB call_isi (by rfl) M.m_isinstance (by decide +kernel) (pa_cons (pv 0) (pa_cons (pe_bltn (v := .ty "int") (by rfl) M.m_int (by decide +kernel) rfl) pa_nil))) (pe_one (pe_not (pe_callB call_isi (by rfl) M.m_isinstance (by decide +kernel) (pa_cons (pv 0) (pa_cons (pe_bltn (v := .ty "bool") (by rfl) M.m_bool (by decide +kernel) rfl) pa_nil)))))))), ?_⟩
    walk_at "st"
    refine ⟨_, _, _, _, _, rfl, .ty _, .base (.int i), kit_int_int, ?_⟩
    walk_at "st"
    refine ⟨_, _, _, _, _, rfl, .ty _, .base (.int i), kit_int_bool, ?_⟩
    walk_at "st"
    exact q
end
abbrev s_xlawfractionby : Stmt := topS 15
theorem sc_xlawfractionby : FnScope ["script", "first", "top", "bottom"] ["script", "first"] (defScope s_xlawfractionby) := ⟨rfl, rfl, rfl, by decide +kernel, rfl, by decide +kernel, by decide +kernel⟩
def frT (ns : List Int) (k : Nat) : Int := if cl ns (k + 2) / 2 % 3 = 1 then cl ns k % (10 ^ 12 + 1) else cl ns k % 5000
def frB (ns : List Int) (k : Nat) : Int := if cl ns (k + 2) % 2 = 1 then 1 + cl ns (k + 1) % 60 else 1 + cl ns (k + 1) % 2000
theorem frT_ok (ns : List Int) (k : Nat) : 0 ≤ frT ns k ∧ frT ns k ≤ 10 ^ 12 := by unfold frT; split <;> omega
theorem frB_ok (ns : List Int) (k : Nat) : 1 ≤ frB ns k ∧ frB ns k ≤ 2000 := by unfold frB; split <;> omega
@[irreducible] def sp_xlawfractionby (K : PySem.W.Frag) : Sp := fun vs H Q _ => ∃ (a : Addr) (ns : List Int) (x : Int), vs = [.ref a, .int x] ∧ 0 ≤ x ∧ SqL K H a (ns.map V.int) ∧
  ∀ p, H p = none → Q (.ref p) (upd H p (.tup [.int (frT ns x.toNat), .int (frB ns x.toNat)]))
theorem go_xlawfractionby {K : PySem.W.Frag} {H : Hp} {a : Addr} {ns : List Int} {x : Int} {Q : VK} {E : XK} (hx : 0 ≤ x) (hS : SqL K H a (ns.map V.int)) (q : ∀ p, H p = none → Q (.ref p) (upd H p (.tup [.int (frT ns x.toNat), .int (frB ns x.toNat)]))) :
    sp_xlawfractionby K [.ref a, .int x] H Q E := by
  unfold sp_xlawfractionby; exact ⟨a, ns, x, rfl, hx, hS, q⟩
section
variable {P : Program} {w : World} {K : PySem.W.Frag} {mg : Str → Option Value} {base : Heap}
theorem ok_xlawfractionby {f : Addr} {fd : FuncData} (F : Fun K "_law_fraction_by" "_law_fraction_by" s_xlawfractionby f fd) (M : Md K mg) (c_xlawcellat : Cal P w K mg base 1 "_law_cell_at" (sp_xlawcellat K) []) : FnOk P w K mg base CX0 2 f fd ["script", "first"] (sp_xlawfractionby K) := by
  refine F.ok sc_xlawfractionby (fun vs H Q E h => ?_) (fun cdv A outer s H vs Q E hr h => ?_)
  · unfold sp_xlawfractionby at h; obtain ⟨a, ns, x, rfl, hx, hS, q⟩ := h
    rfl
  · have hu := hu_of hr
    unfold sp_xlawfractionby at h; obtain ⟨a, ns, x, rfl, hx, hS, q⟩ := h
    obtain ⟨k, rfl⟩ : ∃ k : Nat, x = (k : Int) := ⟨x.toNat, by omega⟩
    rw [Int.toNat_natCast] at q
    have e1 : ((k : Int) + 1).toNat = k + 1 := by omega
    have e2 : ((k : Int) + 2).toNat = k + 2 := by omega
    refine ⟨_, (pss_cons (ps_set (i := 2) sc_xlawfractionby.nd rfl (.inl rfl) (pe_op op_mod (pe_c c_xlawcellat hr (by decide) (by rfl) (pa_cons (pv 0) (pa_cons (pv 1) pa_nil))) pe_int))
      (pss_cons (ps_set (i := 3) sc_xlawfractionby.nd rfl (.inl rfl) (pe_op op_add pe_int (pe_op op_mod (pe_c c_xlawcellat hr (by decide) (by rfl) (pa_cons (pv 0) (pa_cons (pe_op op_add (pv 1) pe_int) pa_nil))) pe_int)))
      (pss_cons (ps_if (pt_cmpR op_eq (pe_op op_mod (pe_c c_xlawcellat hr (by decide) (by rfl) (pa_cons (pv 0) (pa_cons (pe_op op_add (pv 1) pe_int) pa_nil))) pe_int) pe_int (nomark _))
        (pss_one (ps_set (i := 3) sc_xlawfractionby.nd rfl (.inl rfl) (pe_op op_add pe_int (pe_op op_mod (pe_c c_xlawcellat hr (by decide) (by rfl) (pa_cons (pv 0) (pa_cons (pe_op op_add (pv 1) pe_int) pa_nil))) pe_int)))) pss_nil)
      (pss_cons (ps_if (pt_cmpR op_eq (pe_op op_mod (pe_op op_fdivP (pe_c c_xlawcellat hr (by decide) (by rfl) (pa_cons (pv 0) (pa_cons (pe_op op_add (pv 1) pe_int) pa_nil))) pe_int) pe_int) pe_int (nomark _))
        (pss_one (ps_set (i := 2) sc_xlawfractionby.nd rfl (.inl rfl) (pe_op op_mod (pe_c c_xlawcellat hr (by decide) (by rfl) (pa_cons (pv 0) (pa_cons (pv 1) pa_nil))) (pe_op op_add (pe_op op_pow pe_int pe_int) pe_int)))) pss_nil)
      (pss_one (ps_ret (pe_tup (pa_cons (pv 2) (pa_cons (pv 3) pa_nil))))))))), ?_⟩
    walk_at "st"
    refine iteE (fun c1 => ?_) (fun c1 => ?_)
    · rw [e2] at c1
      walk_at "st"
      refine iteE (fun c2 => ?_) (fun c2 => ?_)
      · rw [e2] at c2
        walk_at "st"; intro p hp; unfold frT frB at q; rw [if_pos c2, if_pos c1] at q; exact q p hp
      · rw [e2] at c2
        walk_at "st"; intro p hp; unfold frT frB at q; rw [if_neg c2, if_pos c1] at q; exact q p hp
    · rw [e2] at c1
      walk_at "st"
      refine iteE (fun c2 => ?_) (fun c2 => ?_)
      · rw [e2] at c2
        walk_at "st"; intro p hp; unfold frT frB at q; rw [if_pos c2, if_neg c1] at q; exact q p hp
      · rw [e2] at c2
        walk_at "st"; intro p hp; unfold frT frB at q; rw [if_neg c2, if_neg c1] at q; exact q p hp
end
abbrev s_xlawdivided : Stmt := topS 16
theorem sc_xlawdivided : FnScope ["base", "top", "bottom", "rest", "seen", "figures"] ["base", "top", "bottom"] (defScope s_xlawdivided) := ⟨rfl, rfl, rfl, by decide +kernel, rfl, by decide +kernel, by decide +kernel⟩
@[irreducible] def sp_xlawdivided (K : PySem.W.Frag) : Sp := fun vs H Q _ => ∃ (x y z : Int) (b t m s l : Nat), vs = [.int x, .int y, .int z] ∧ x = b ∧ y = t ∧ z = m ∧ 0 < m ∧ b < 100 ∧ Wid m ∧ DivAt b m (t % m) s l ∧ s + l ≤ 100000 ∧
  ∀ H' p a r, WrNew H H' p a r ⟨((t / m : Nat) : Int), dgs b m (t % m) 0 s, dgs b m (t % m) s l⟩ → Q (.ref p) H'
theorem go_xlawdivided {K : PySem.W.Frag} {H : Hp} {x y z : Int} {Q : VK} {E : XK} (b t m s l : Nat) (hx : x = b) (hy : y = t) (hz : z = m) (hm : 0 < m) (hb : b < 100) (hw : Wid m) (hd : DivAt b m (t % m) s l) (hn : s + l ≤ 100000)
    (q : ∀ H' p a r, WrNew H H' p a r ⟨((t / m : Nat) : Int), dgs b m (t % m) 0 s, dgs b m (t % m) s l⟩ → Q (.ref p) H') : sp_xlawdivided K [.int x, .int y, .int z] H Q E := by
  unfold sp_xlawdivided; exact ⟨x, y, z, b, t, m, s, l, rfl, hx, hy, hz, hm, hb, hw, hd, hn, q⟩
section
variable {P : Program} {w : World} {K : PySem.W.Frag} {mg : Str → Option Value} {base : Heap}
theorem ok_xlawdivided {f : Addr} {fd : FuncData} (F : Fun K "_law_divided" "_law_divided" s_xlawdivided f fd) (M : Md K mg) : FnOk P w K mg base CX0 1 f fd ["base", "top", "bottom"] (sp_xlawdivided K) := by
  refine F.ok sc_xlawdivided (fun vs H Q E h => ?_) (fun cdv A outer s H vs Q E hr h => ?_)
  · unfold sp_xlawdivided at h; obtain ⟨x, y, z, b, t, m, s, l, rfl, rfl, rfl, rfl, hm, hb, hw, hd, hn, q⟩ := h
    rfl
  · have hu := hu_of hr
    unfold sp_xlawdivided at h; obtain ⟨x, y, z, b, t, m, s, l, rfl, rfl, rfl, rfl, hm, hb, hw, hd, hn, q⟩ := h
    have hmi : (0 : Int) < (m : Int) := by omega
    have cd : ∀ i : Int, CDivP i (m : Int) := fun i => cdivp_wide hm hw
    have mb : ∀ i : Int, IntMulOk i (b : Int) := fun i => mulB_right (by omega) (by omega)
    have e0 : (t : Int) % (m : Int) = ((rs b m (t % m) 0 : Nat) : Int) := by rw [rs_zero (Nat.mod_lt _ hm)]; rfl
    have eq : (t : Int) / (m : Int) = ((t / m : Nat) : Int) := rfl
    refine ⟨_, (pss_cons (ps_set (i := 3) sc_xlawdivided.nd rfl (.inl rfl) (pe_op op_mod (pv 1) (pv 2)))
      (pss_cons (ps_set (i := 4) sc_xlawdivided.nd rfl (.inl rfl) pe_dnewK)
      (pss_cons (ps_set (i := 5) sc_xlawdivided.nd rfl (.inl rfl) (pe_lst pa_nil))
      (pss_cons (ps_while PassesOwn.never (PW.pt (pw_and (pt_cmpR op_gt (pv 3) pe_int (nomark _)) (pw_and1 (pt_cmp (pc_dnotin hu (pv 3) (pv 4))))))
        (pss_cons (ps_dput hu (pv 4) (pv 3) (pe_callB call_len_seq (by rfl) M.m_len PySem.boot_len (pa_cons (pv 5) pa_nil)) rfl)
      (pss_cons (ps_expr (pe_bm PySem.F.plainAttrs_list PySem.F.slot_list_append PySem.F.type_list_append mt_append (pv 5) (pa_cons (pe_op op_fdivP (pe_op op_mulB (pv 3) (pv 0)) (pv 2)) pa_nil)))
      (pss_one (ps_set (i := 3) sc_xlawdivided.nd rfl (.inl rfl) (pe_op op_mod (pe_op op_mulB (pv 3) (pv 0)) (pv 2)))))))
      (pss_cons (ps_if (pt_cmpR op_eq (pv 3) pe_int (nomark _))
        (pss_one (ps_ret (pe_tup (pa_cons (pe_op op_fdivP (pv 1) (pv 2)) (pa_cons (pv 5) (pa_cons (pe_lst pa_nil) pa_nil)))))) pss_nil)
      (pss_one (ps_ret (pe_tup (pa_cons (pe_op op_fdivP (pv 1) (pv 2)) (pa_cons (pe_slice sl_list (pv 5) po_none (po_some (pe_dget hu (pv 4) (pv 3) (fun _ _ => rfl)))) (pa_cons (pe_slice sl_list (pv 5) (po_some (pe_dget hu (pv 4) (pv 3) (fun _ _ => rfl))) po_none) pa_nil))))))))))), ?_⟩
    walk_at "st"
    intro d nd
    walk_at "st"
    intro f nf
    have nd2 : H d = none := nd
    have nf2 : H f = none := free_upd nf
    have ndf : f ≠ d := ne_new nf
    refine ⟨fun μ σ H' => ∃ n kvs, n ≤ s + l ∧ μ = s + l - n ∧ σ = [some (.int b), some (.int t), some (.int m), some (.int ((rs b m (t % m) n : Nat) : Int)), some (.ref d), some (.ref f)] ∧ Same H H' ∧ H' d = some (.dK kvs) ∧ kvs.length = n ∧
        (∀ k, k < n → valV kvs (Sum.inl ((rs b m (t % m) k : Nat) : Int) : Key) = some (.int (k : Int))) ∧ (∀ z : Nat, (∀ k, k < n → rs b m (t % m) k ≠ z) → valV kvs (Sum.inl (z : Int) : Key) = none) ∧ H' f = some (.lst ((dgs b m (t % m) 0 n).map V.int)),
      ⟨s + l, 0, [], Nat.zero_le _, rfl, ?_, same_new (same_new (Same.refl H) nd2) nf2, ?_, rfl, fun k hk => by omega, fun z _ => rfl, ?_⟩, fun μ σ H' hW => ?_⟩
    · rw [← e0]; rfl
    · rw [upd_ne (Ne.symm ndf), upd_same]
    · exact upd_same
    obtain ⟨n, kvs, hnl, rfl, rfl, sm, hD, hk, hin, hout, hF⟩ := hW
    have hSq : SqL K H' f ((dgs b m (t % m) 0 n).map V.int) := sql hF
    have hlen : ((dgs b m (t % m) 0 n).map V.int).length = n := by rw [List.length_map, dgs_len]
    walk_at "st"
    by_cases hlt : n < s + l
    · -- one more figure
      have hp := hd.pos n hlt
      have hv : valV kvs (Sum.inl ((rs b m (t % m) n : Nat) : Int) : Key) = none := hout _ fun k hk' e => hd.new k n hk' hlt e
      refine iteD (fun _ => ?_) (fun e => absurd e (by omega))
      walk_at "st"
      refine ⟨d, _, rfl, DGet.k (k := Sum.inl ((rs b m (t % m) n : Nat) : Int)) hD, _, rfl, ?_⟩
      rw [hv]
      refine ⟨fun σ2 H2 => σ2 = [some (.int b), some (.int t), some (.int m), some (.int ((rs b m (t % m) (n + 1) : Nat) : Int)), some (.ref d), some (.ref f)] ∧ Same H H2 ∧ H2 d = some (.dK (kvs ++ [(Sum.inl ((rs b m (t % m) n : Nat) : Int), .int (n : Int))])) ∧ H2 f = some (.lst ((dgs b m (t % m) 0 (n + 1)).map V.int)),
        fun σ2 H2 ⟨e1, e2, e3, e4⟩ => ⟨s + l - (n + 1), by omega, n + 1, _, by omega, rfl, e1, e2, e3, by rw [List.length_append, hk]; rfl, fun k hk' => ?_, fun z hz => ?_, e4⟩, ?_⟩
      · rw [valV_snoc _ _ _ _ hv]
        by_cases hkn : k = n
        · subst hkn; rw [if_pos rfl]
        · rw [if_neg (keyne (hd.new k n (by omega) hlt)), hin k (by omega)]
      · rw [valV_snoc _ _ _ _ hv, if_neg (keyne fun q => hz n (by omega) q.symm), hout z fun k hk' => hz k (by omega)]
      · -- places[rest] = len(figures)
        refine ⟨_, rfl, f, _, rfl, .inl hSq, ?_⟩
        rw [hlen]
        refine ⟨_, rfl, _, rfl, d, _, rfl, DPut.k (k := Sum.inl ((rs b m (t % m) n : Nat) : Int)) hD (sz100lt (by omega)), ?_⟩
        rw [putK_new _ hv]
        have hF2 : (upd H' d (.dK (kvs ++ [(Sum.inl ((rs b m (t % m) n : Nat) : Int), V.int (n : Int))]))) f = some (.lst ((dgs b m (t % m) 0 n).map V.int)) := by rw [upd_ne ndf]; exact hF
        -- figures.append(..)
        refine ⟨_, rfl, .inl ⟨rfl, _, sql hF2⟩, ?_⟩
        walk_at "st"
        refine ⟨f, _, _, rfl, rfl, hF2, by rw [hlen]; exact sz100lt (by omega), ?_⟩
        walk_at "st"
        refine ⟨?_, same_new (same_new sm nd2) nf2, ?_, ?_⟩
        · rw [rs_succ]; rfl
        · rw [upd_ne (Ne.symm ndf), upd_same]
        · rw [upd_same, dgs_succ, List.map_append, Nat.zero_add]; rfl
    · have hns : n = s + l := by omega
      subst hns
      by_cases hl : l = 0
      · -- nothing is left
        subst hl
        have h0 := hd.fin rfl
        rw [Nat.add_zero] at *
        rw [h0]
        refine iteD (fun e => absurd e (by decide)) (fun _ => ?_)
        walk_at "st"
        intro g ng
        walk_at "st"
        intro p np
        have ngf : g ≠ f := fun z => by rw [z, hF] at ng; cases ng
        refine q _ p f g ⟨⟨upd_same, ?_, ?_⟩, same_new (same_new sm (sm.free ng)) (sm.free (free_upd np)), sm.free (free_upd np), nf2, sm.free ng, Ne.symm ngf⟩
        · rw [upd_ne (fun z => ?_), upd_ne (Ne.symm ngf)]
          · exact hF
          · rw [z] at hF; rw [free_upd np] at hF; cases hF
        · rw [upd_ne (Ne.symm (ne_new np)), upd_same]; rfl
      · have hrep := hd.rep (by omega)
        have hs0 := hd.pos s (by omega)
        have hv : valV kvs (Sum.inl ((rs b m (t % m) s : Nat) : Int) : Key) = some (.int (s : Int)) := hin s (by omega)
        rw [hrep]
        refine iteD (fun _ => ?_) (fun e => absurd e (by omega))
        walk_at "st"
        refine ⟨d, _, rfl, DGet.k (k := Sum.inl ((rs b m (t % m) s : Nat) : Int)) hD, _, rfl, ?_⟩
        rw [hv]
        walk_at "st"
        refine iteE (fun e => absurd e (by omega)) (fun _ => ?_)
        walk_at "st"
        have hg : DGet H' d (.int ((rs b m (t % m) s : Nat) : Int)) (some (.int (s : Int))) := by
          rw [← hv]; exact DGet.k (k := Sum.inl ((rs b m (t % m) s : Nat) : Int)) hD
        refine ⟨_, _, rfl, hg, _, rfl, f, _, rfl, hSq, fun a na => ?_⟩
        rw [cut_take, take_map, dgs_take _ _ _ _ _ (by omega)]
        have naf : a ≠ f := fun z => by rw [z, hF] at na; cases na
        have nad : a ≠ d := fun z => by rw [z, hD] at na; cases na
        walk_at "st"
        have hF1 := hF
        have hg1 : DGet (upd H' a (.lst ((dgs b m (t % m) 0 s).map V.int))) d (.int ((rs b m (t % m) s : Nat) : Int)) (some (.int (s : Int))) := by
          rw [← hv]; exact DGet.k (k := Sum.inl ((rs b m (t % m) s : Nat) : Int)) (by rw [upd_ne (Ne.symm nad)]; exact hD)
        have hSq1 : SqL K (upd H' a (.lst ((dgs b m (t % m) 0 s).map V.int))) f ((dgs b m (t % m) 0 (s + l)).map V.int) := sql (by rw [upd_ne (Ne.symm naf)]; exact hF)
        refine ⟨_, _, rfl, hg1, _, rfl, f, _, rfl, hSq1, fun g ng => ?_⟩
        rw [cut_drop, drop_map, dgs_drop _ _ _ _ _ (by omega), Nat.add_sub_cancel_left]
        walk_at "st"
        intro p np
        have np1 := free_upd np
        have np2 := free_upd np1
        refine q _ p a g ⟨⟨upd_same, ?_, ?_⟩, same_new (same_new (same_new sm (sm.free na)) (sm.free (free_upd ng))) (sm.free np2), sm.free np2, sm.free na, sm.free (free_upd ng), Ne.symm (ne_new ng)⟩
        · rw [upd_ne (Ne.symm (ne_new np1)), upd_ne (Ne.symm (ne_new ng)), upd_same]
        · rw [upd_ne (Ne.symm (ne_new np)), upd_same]
end
abbrev s_law : Stmt := topS 17
theorem sc_law : FnScope ["script", "base", "top", "bottom", "whole", "ahead", "ring", "place", "due", "found"] ["script"] (defScope s_law) := ⟨rfl, rfl, rfl, by decide +kernel, rfl, by decide +kernel, by decide +kernel⟩
def sp_law (K : PySem.W.Frag) : Sp := fun vs H Q _ => ∃ (a : Addr) (ns : List Int), vs = [.ref a] ∧ SqL K H a (ns.map V.int) ∧ ns.length ≤ 63 ∧ ∀ H', Q (.bl true) H'
section
variable {P : Program} {w : World} {K : PySem.W.Frag} {mg : Str → Option Value} {base : Heap}
theorem ok_law {f : Addr} {fd : FuncData} (F : Fun K "law" "law" s_law f fd) (M : Md K mg) (c_xlawcellat : Cal P w K mg base 1 "_law_cell_at" (sp_xlawcellat K) []) (c_xlawfractionby : Cal P w K mg base 2 "_law_fraction_by" (sp_xlawfractionby K) []) (c_xlawdivided : Cal P w K mg base 1 "_law_divided" (sp_xlawdivided K) []) (c_figureat : Cal P w K mg base 3 "figure_at" (sp_figureat K) []) (c_xlawwhole : Cal P w K mg base 1 "_law_whole" (sp_xlawwhole K) []) : FnOk P w K mg base CX0 4 f fd ["script"] (sp_law K) := by
  refine F.ok sc_law (fun vs H Q E h => ?_) (fun cdv A outer s H vs Q E hr h => ?_)
  · obtain ⟨a, ns, rfl, hS, hlen, q⟩ := h
    rfl
  · have hu := hu_of hr
    obtain ⟨a, ns, rfl, hS, hlen, q⟩ := h
    obtain ⟨n0, hb0, hb⟩ : ∃ n : Nat, n < 35 ∧ cl ns 0 % 35 = (n : Int) := ⟨(cl ns 0 % 35).toNat, by omega, by omega⟩
    obtain ⟨t, ht⟩ : ∃ t : Nat, frT ns 1 = (t : Int) := ⟨(frT ns 1).toNat, by have := frT_ok ns 1; omega⟩
    obtain ⟨m, hm⟩ : ∃ m : Nat, frB ns 1 = (m : Int) := ⟨(frB ns 1).toNat, by have := frB_ok ns 1; omega⟩
    have hT := frT_ok ns 1
    have hB := frB_ok ns 1
    obtain ⟨s, l, hsl, hd⟩ := divAt_exists (b := 2 + n0) (m := m) (r := t % m) (by omega)
    refine ⟨_, (pss_cons (ps_set (i := 1) sc_law.nd rfl (.inl rfl) (pe_op op_add pe_int (pe_op op_mod (pe_c c_xlawcellat hr (by decide) (by rfl) (pa_cons (pv 0) (pa_cons pe_int pa_nil))) pe_int)))
      (pss_cons (ps_asg (pe_c c_xlawfractionby hr (by decide) (by rfl) (pa_cons (pv 0) (pa_cons pe_int pa_nil))) (pg_tup rfl (pgs_cons (pg_name (i := 2) sc_law.nd rfl (.inl rfl)) (pgs_cons (pg_name (i := 3) sc_law.nd rfl (.inl rfl)) pgs_nil))))
      (pss_cons (ps_asg (pe_c c_xlawdivided hr (by decide) (by rfl) (pa_cons (pv 1) (pa_cons (pv 2) (pa_cons (pv 3) pa_nil)))) (pg_tup rfl (pgs_cons (pg_name (i := 4) sc_law.nd rfl (.inl rfl)) (pgs_cons (pg_name (i := 5) sc_law.nd rfl (.inl rfl)) (pgs_cons (pg_name (i := 6) sc_law.nd rfl (.inl rfl)) pgs_nil)))))
      (pss_cons (ps_set (i := 7) sc_law.nd rfl (.inl rfl) (pe_op op_mod (pe_c c_xlawcellat hr (by decide) (by rfl) (pa_cons (pv 0) (pa_cons pe_int pa_nil))) (pe_op op_pow pe_int pe_int)))
      (Evl.pss_cut (ps_if (pt_cmpR op_eq (pe_op op_mod (pe_c c_xlawcellat hr (by decide) (by rfl) (pa_cons (pv 0) (pa_cons pe_int pa_nil))) pe_int) pe_int (nomark _))
        (pss_one (ps_set (i := 7) sc_law.nd rfl (.inl rfl) (pe_op op_mod (pe_c c_xlawcellat hr (by decide) (by rfl) (pa_cons (pv 0) (pa_cons pe_int pa_nil))) pe_int))) pss_nil)
      (pss_cons (ps_set (i := 8) sc_law.nd rfl (.inl rfl) pe_int)
      (Evl.pss_cut (ps_if (pt_cmpR op_lt (pv 7) (pe_callB call_len_seq (by rfl) M.m_len PySem.boot_len (pa_cons (pv 5) pa_nil)) (nomark _))
        (pss_one (ps_set (i := 8) sc_law.nd rfl (.inl rfl) (pe_ix ix_list (pv 5) (pv 7) (fun _ _ => rfl)))) (pss_one (ps_if (pt_cmpR (op_neD hr.units) (pv 6) (pe_lst pa_nil) (nomark _))
        (pss_one (ps_set (i := 8) sc_law.nd rfl (.inl rfl) (pe_ix ix_list (pv 6) (pe_op op_mod (pe_op op_sub (pv 7) (pe_callB call_len_seq (by rfl) M.m_len PySem.boot_len (pa_cons (pv 5) pa_nil))) (pe_callB call_len_seq (by rfl) M.m_len PySem.boot_len (pa_cons (pv 6) pa_nil))) (fun _ _ => rfl)))) pss_nil)))
      (pss_cons (ps_set (i := 9) sc_law.nd rfl (.inl rfl) (pe_c c_figureat hr (by decide) (by rfl) (pa_cons (pv 1) (pa_cons (pv 2) (pa_cons (pv 3) (pa_cons (pv 7) pa_nil))))))
      (pss_one (ps_ret (pe_and (pe_c c_xlawwhole hr (by decide) (by rfl) (pa_cons (pv 9) pa_nil)) (pe_one (pe_cmpR op_eq (pv 9) (pv 8) (nomark _)))))))))))))), ?_⟩
    walk_at "st"
    refine go_xlawfractionby (by decide) hS (fun p0 n0' => ?_)
    walk_at "st"
    refine go_xlawdivided (2 + n0) t m s l ?_ ht hm (by omega) (by omega) (wid_small (by omega)) hd (by omega) (fun H1 p1 a1 r1 w1 => ?_)
    · show 2 + cl ns 0 % 35 = _
      omega
    have sS := (same_upd (o := .tup [.int (frT ns 1), .int (frB ns 1)]) n0').trans w1.same
    have hS1 := sS.seq hS
    have w1t := w1.at'.tp
    have w1a := w1.at'.la
    have w1r := w1.at'.lr
    walk_at "st"
    have e32 : ∃ w0 : Int, w0 = ((t / m : Nat) : Int) := ⟨_, rfl⟩
    refine ⟨fun σ H' => ∃ n : Nat, H1 = H' ∧ σ = [some (.ref a), some (.int (2 + cl ns 0 % 35)), some (.int (frT ns 1)), some (.int (frB ns 1)), some (.int ((t / m : Nat) : Int)), some (.ref a1), some (.ref r1), some (.int (n : Int)), none, none], ?_, fun σ H' hM => ?_⟩
    · walk_at "st"
      refine iteE (fun c => ?_) (fun c => ?_)
      · walk_at "st"
        exact ⟨(cl ns 4 % 60).toNat, rfl, by rw [Int.toNat_of_nonneg (by omega)]; rfl⟩
      · walk_at "st"
        exact ⟨(cl ns 4 % (10 ^ (40 : Int).toNat)).toNat, rfl, by rw [Int.toNat_of_nonneg (by exact Int.emod_nonneg _ (by decide))]; rfl⟩
    obtain ⟨n, rfl, rfl⟩ := hM
    refine ⟨fun σ H' => Same H1 H' ∧ σ = [some (.ref a), some (.int (2 + cl ns 0 % 35)), some (.int (frT ns 1)), some (.int (frB ns 1)), some (.int ((t / m : Nat) : Int)), some (.ref a1), some (.ref r1), some (.int (n : Int)), some (.int ((dg (2 + n0) m (t % m) n : Nat) : Int)), none], ?_, fun σ H' hM => ?_⟩
    · walk_at "st"
      rw [List.length_map, dgs_len]
      refine iteD (fun c => ?_) (fun c => ?_)
      · walk_at "st"
        refine ⟨a1, _, _, _, rfl, rfl, sql w1a, atI_nat (map_get (dgs_get _ _ _ _ _ _ (show n < s by omega))), ?_⟩
        rw [Nat.zero_add]
        exact ⟨Same.refl _, rfl⟩
      · walk_at "st"
        intro e ne
        have s1e := same_upd (o := .lst []) ne
        refine ⟨dI _, dI [], dp_dI (sql (s1e _ _ w1r)), dp_dI (sql upd_same), shaped_dI _, shaped_dI _, ?_⟩
        rw [eqv_dI]
        have w1a' := s1e _ _ w1a
        have w1r' := s1e _ _ w1r
        have hf := hd.fig (show s ≤ n by omega)
        by_cases hl : l = 0
        · subst hl
          rw [decide_eq_true (show dgs (2 + n0) m (t % m) s 0 = [] from rfl)]
          rw [if_pos rfl] at hf
          rw [hf]
          walk_at "st"
          exact ⟨s1e, rfl⟩
        · rw [decide_eq_false (fun z => hl (by have := congrArg List.length z; rw [dgs_len] at this; exact this))]
          rw [if_neg hl] at hf
          walk_at "st"
          simp only [List.length_map, dgs_len]
          refine ⟨by omega, ?_⟩
          have e2 : ((n : Int) - (s : Int)) % (l : Int) = (((n - s) % l : Nat) : Int) := by rw [Int.natCast_emod]; congr 1; omega
          refine ⟨r1, _, _, _, rfl, rfl, sql w1r', atI_of e2 (map_get (dgs_get _ _ _ _ _ _ (Nat.mod_lt _ (by omega)))), ?_⟩
          rw [hf]
          exact ⟨s1e, rfl⟩
    obtain ⟨s2, rfl⟩ := hM
    walk_at "st"
    refine go_figureat (2 + n0) t m n ?_ ht hm rfl (by omega) (by omega) (by omega) (by omega) (by omega) ?_
    · show 2 + cl ns 0 % 35 = _
      omega
    walk_at "st"
    rw [decide_eq_true rfl]
    exact q _
end
/-! ### the end -/
theorem all_mk {l : PySem.W.OpenLaw} {w : World} {K : PySem.W.Frag} {h : Heap} {mg : Str → Option Value} {fa : Addr} (X : K.In h) (G : h.Ns mainGlobals mg) (hfa : mg "law" = some (.ref fa))
    {f0 : Addr} {od0 an0 : Option Addr} {sl0 : Array (Option Value)} {oc0 kV0 dc0 pm0 cd0 ct0 : Value}
    (a0 : PySem.W.nsIn K mainGlobals "asked_base" = some (some (.ref f0)))
    (l0 : K.lookup f0 = some ⟨oc0, od0, .func (PySem.W.fnOf "asked_base" "asked_base" (defArgs s_askedbase) (defBody s_askedbase) (defScope s_askedbase) .none kV0 dc0 pm0 an0 cd0 ct0), sl0⟩)
    (e0 : PySem.W.codeIn K cd0 "asked_base" = true) (k0 : PySem.W.keepIn K (.ref f0) = true)
    {f1 : Addr} {od1 an1 : Option Addr} {sl1 : Array (Option Value)} {oc1 kV1 dc1 pm1 cd1 ct1 : Value}
    (a1 : PySem.W.nsIn K mainGlobals "asked_fraction" = some (some (.ref f1)))
    (l1 : K.lookup f1 = some ⟨oc1, od1, .func (PySem.W.fnOf "asked_fraction" "asked_fraction" (defArgs s_askedfraction) (defBody s_askedfraction) (defScope s_askedfraction) .none kV1 dc1 pm1 an1 cd1 ct1), sl1⟩)
    (e1 : PySem.W.codeIn K cd1 "asked_fraction" = true) (k1 : PySem.W.keepIn K (.ref f1) = true)
    {f2 : Addr} {od2 an2 : Option Addr} {sl2 : Array (Option Value)} {oc2 kV2 dc2 pm2 cd2 ct2 : Value}
    (a2 : PySem.W.nsIn K mainGlobals "rest_at" = some (some (.ref f2)))
    (l2 : K.lookup f2 = some ⟨oc2, od2, .func (PySem.W.fnOf "rest_at" "rest_at" (defArgs s_restat) (defBody s_restat) (defScope s_restat) .none kV2 dc2 pm2 an2 cd2 ct2), sl2⟩)
    (e2 : PySem.W.codeIn K cd2 "rest_at" = true) (k2 : PySem.W.keepIn K (.ref f2) = true)
    {f3 : Addr} {od3 an3 : Option Addr} {sl3 : Array (Option Value)} {oc3 kV3 dc3 pm3 cd3 ct3 : Value}
    (a3 : PySem.W.nsIn K mainGlobals "figure_at" = some (some (.ref f3)))
    (l3 : K.lookup f3 = some ⟨oc3, od3, .func (PySem.W.fnOf "figure_at" "figure_at" (defArgs s_figureat) (defBody s_figureat) (defScope s_figureat) .none kV3 dc3 pm3 an3 cd3 ct3), sl3⟩)
    (e3 : PySem.W.codeIn K cd3 "figure_at" = true) (k3 : PySem.W.keepIn K (.ref f3) = true)
    {f4 : Addr} {od4 an4 : Option Addr} {sl4 : Array (Option Value)} {oc4 kV4 dc4 pm4 cd4 ct4 : Value}
    (a4 : PySem.W.nsIn K mainGlobals "_law_cell_at" = some (some (.ref f4)))
    (l4 : K.lookup f4 = some ⟨oc4, od4, .func (PySem.W.fnOf "_law_cell_at" "_law_cell_at" (defArgs s_xlawcellat) (defBody s_xlawcellat) (defScope s_xlawcellat) .none kV4 dc4 pm4 an4 cd4 ct4), sl4⟩)
    (e4 : PySem.W.codeIn K cd4 "_law_cell_at" = true) (k4 : PySem.W.keepIn K (.ref f4) = true)
    {f5 : Addr} {od5 an5 : Option Addr} {sl5 : Array (Option Value)} {oc5 kV5 dc5 pm5 cd5 ct5 : Value}
    (a5 : PySem.W.nsIn K mainGlobals "_law_whole" = some (some (.ref f5)))
    (l5 : K.lookup f5 = some ⟨oc5, od5, .func (PySem.W.fnOf "_law_whole" "_law_whole" (defArgs s_xlawwhole) (defBody s_xlawwhole) (defScope s_xlawwhole) .none kV5 dc5 pm5 an5 cd5 ct5), sl5⟩)
    (e5 : PySem.W.codeIn K cd5 "_law_whole" = true) (k5 : PySem.W.keepIn K (.ref f5) = true)
    {f6 : Addr} {od6 an6 : Option Addr} {sl6 : Array (Option Value)} {oc6 kV6 dc6 pm6 cd6 ct6 : Value}
    (a6 : PySem.W.nsIn K mainGlobals "_law_fraction_by" = some (some (.ref f6)))
    (l6 : K.lookup f6 = some ⟨oc6, od6, .func (PySem.W.fnOf "_law_fraction_by" "_law_fraction_by" (defArgs s_xlawfractionby) (defBody s_xlawfractionby) (defScope s_xlawfractionby) .none kV6 dc6 pm6 an6 cd6 ct6), sl6⟩)
    (e6 : PySem.W.codeIn K cd6 "_law_fraction_by" = true) (k6 : PySem.W.keepIn K (.ref f6) = true)
    {f7 : Addr} {od7 an7 : Option Addr} {sl7 : Array (Option Value)} {oc7 kV7 dc7 pm7 cd7 ct7 : Value}
    (a7 : PySem.W.nsIn K mainGlobals "_law_divided" = some (some (.ref f7)))
    (l7 : K.lookup f7 = some ⟨oc7, od7, .func (PySem.W.fnOf "_law_divided" "_law_divided" (defArgs s_xlawdivided) (defBody s_xlawdivided) (defScope s_xlawdivided) .none kV7 dc7 pm7 an7 cd7 ct7), sl7⟩)
    (e7 : PySem.W.codeIn K cd7 "_law_divided" = true) (k7 : PySem.W.keepIn K (.ref f7) = true)
    {f8 : Addr} {od8 an8 : Option Addr} {sl8 : Array (Option Value)} {oc8 kV8 dc8 pm8 cd8 ct8 : Value}
    (a8 : PySem.W.nsIn K mainGlobals "law" = some (some (.ref f8)))
    (l8 : K.lookup f8 = some ⟨oc8, od8, .func (PySem.W.fnOf "law" "law" (defArgs s_law) (defBody s_law) (defScope s_law) .none kV8 dc8 pm8 an8 cd8 ct8), sl8⟩)
    (e8 : PySem.W.codeIn K cd8 "law" = true) (k8 : PySem.W.keepIn K (.ref f8) = true)
    (z0 : PySem.W.nsIn K mainGlobals "len" = some none)
    (z1 : PySem.W.nsIn K mainGlobals "isinstance" = some none)
    (z2 : PySem.W.nsIn K mainGlobals "int" = some none)
    (z3 : PySem.W.nsIn K mainGlobals "bool" = some none)
    {tk0 : Tok} (y0 : PySem.W.nsIn K mainGlobals "GREATEST" = some (some (.int 1000000000000 tk0)))
    {tk1 : Tok} (y1 : PySem.W.nsIn K mainGlobals "MOST_BOTTOM" = some (some (.int 2000 tk1)))
    : ∃ fd : FuncData, (∀ (s : Shared) (v : Value), BindsTo s fd ⟨[v], []⟩ [("script", v)]) ∧ ∀ base : Heap, K.In base → base.Ns mainGlobals mg → FnOk l.prog w K mg base CX0 4 fa fd ["script"] (sp_law K) := by
  have e := hfa.symm.trans (PySem.W.mg_of X G a8)
  cases e
  have M : Md K mg := ⟨PySem.W.mg_none_of X G z0, PySem.W.mg_none_of X G z1, PySem.W.mg_none_of X G z2, PySem.W.mg_none_of X G z3, ⟨_, PySem.W.mg_of X G y0, ⟨_, rfl⟩⟩, ⟨_, PySem.W.mg_of X G y1, ⟨_, rfl⟩⟩⟩
  have F0 := fun_mk (st := s_askedbase) l0 e0 k0
  have b0 := F0.binds (ps := ["base"]) fun _ _ _ _ _ _ us hl => match us, hl with | [_], _ => rfl
  have F1 := fun_mk (st := s_askedfraction) l1 e1 k1
  have b1 := F1.binds (ps := ["base", "top", "bottom"]) fun _ _ _ _ _ _ us hl => match us, hl with | [_, _, _], _ => rfl
  have F2 := fun_mk (st := s_restat) l2 e2 k2
  have b2 := F2.binds (ps := ["base", "top", "bottom", "place"]) fun _ _ _ _ _ _ us hl => match us, hl with | [_, _, _, _], _ => rfl
  have F3 := fun_mk (st := s_figureat) l3 e3 k3
  have b3 := F3.binds (ps := ["base", "top", "bottom", "place"]) fun _ _ _ _ _ _ us hl => match us, hl with | [_, _, _, _], _ => rfl
  have F4 := fun_mk (st := s_xlawcellat) l4 e4 k4
  have b4 := F4.binds (ps := ["script", "k"]) fun _ _ _ _ _ _ us hl => match us, hl with | [_, _], _ => rfl
  have F5 := fun_mk (st := s_xlawwhole) l5 e5 k5
  have b5 := F5.binds (ps := ["found"]) fun _ _ _ _ _ _ us hl => match us, hl with | [_], _ => rfl
  have F6 := fun_mk (st := s_xlawfractionby) l6 e6 k6
  have b6 := F6.binds (ps := ["script", "first"]) fun _ _ _ _ _ _ us hl => match us, hl with | [_, _], _ => rfl
  have F7 := fun_mk (st := s_xlawdivided) l7 e7 k7
  have b7 := F7.binds (ps := ["base", "top", "bottom"]) fun _ _ _ _ _ _ us hl => match us, hl with | [_, _, _], _ => rfl
  have F8 := fun_mk (st := s_law) l8 e8 k8
  refine ⟨PySem.W.fnOf "law" "law" (defArgs s_law) (defBody s_law) (defScope s_law) .none kV8 dc8 pm8 an8 cd8 ct8, fun s v => .of_eq rfl, fun base _ _ => ?_⟩
  have c_askedbase : Cal l.prog w K mg base 1 "asked_base" (sp_askedbase K) [] := ⟨f0, _, _, [], ok_askedbase F0 M , PySem.W.mg_of X G a0, k0, b0, .nil⟩
  have c_askedfraction : Cal l.prog w K mg base 2 "asked_fraction" (sp_askedfraction K) [] := ⟨f1, _, _, [], ok_askedfraction F1 M c_askedbase, PySem.W.mg_of X G a1, k1, b1, .nil⟩
  have c_restat : Cal l.prog w K mg base 1 "rest_at" (sp_restat K) [] := ⟨f2, _, _, [], ok_restat F2 M , PySem.W.mg_of X G a2, k2, b2, .nil⟩
  have c_figureat : Cal l.prog w K mg base 3 "figure_at" (sp_figureat K) [] := ⟨f3, _, _, [], ok_figureat F3 M c_askedfraction c_restat, PySem.W.mg_of X G a3, k3, b3, .nil⟩
  have c_xlawcellat : Cal l.prog w K mg base 1 "_law_cell_at" (sp_xlawcellat K) [] := ⟨f4, _, _, [], ok_xlawcellat F4 M , PySem.W.mg_of X G a4, k4, b4, .nil⟩
  have c_xlawwhole : Cal l.prog w K mg base 1 "_law_whole" (sp_xlawwhole K) [] := ⟨f5, _, _, [], ok_xlawwhole F5 M , PySem.W.mg_of X G a5, k5, b5, .nil⟩
  have c_xlawfractionby : Cal l.prog w K mg base 2 "_law_fraction_by" (sp_xlawfractionby K) [] := ⟨f6, _, _, [], ok_xlawfractionby F6 M c_xlawcellat, PySem.W.mg_of X G a6, k6, b6, .nil⟩
  have c_xlawdivided : Cal l.prog w K mg base 1 "_law_divided" (sp_xlawdivided K) [] := ⟨f7, _, _, [], ok_xlawdivided F7 M , PySem.W.mg_of X G a7, k7, b7, .nil⟩
  exact ok_law F8 M c_xlawcellat c_xlawfractionby c_xlawdivided c_figureat c_xlawwhole
end Rf
open PySem PySem.W PyProof.Rows
set_option maxHeartbeats 0 in
theorem PySem.Challenge.cw_ringfigures_k08_figures_at_places_holds : PySem.Challenge.rw_ringfigures_k08_figures_at_places.Holds := by
  w_on; o_law; k_head; (case hw => w_witness2)
  k_fill
  refine L2.walk_of (l := PySem.Challenge.rw_ringfigures_k08_figures_at_places) (n := 63) (k := 4) (x := "script") (CX := fun _ => L2.CX0) (sp := fun w => Rf.sp_law _) rfl (by decide) rfl ⟨rfl, by decide, by decide⟩ (fun w h Y => PySem.W.kIn_of Y) ?F (fun _ _ a ns hl _ hS => ⟨a, ns, rfl, hS, hl, fun _ => rfl⟩) (fun _ _ _ _ _ h => h)
  case F =>
    intro w mg fa h KX G hmg
    refine' Rf.all_mk KX G hmg ?a0 ?l0 ?e0 ?k0 ?a1 ?l1 ?e1 ?k1 ?a2 ?l2 ?e2 ?k2 ?a3 ?l3 ?e3 ?k3 ?a4 ?l4 ?e4 ?k4 ?a5 ?l5 ?e5 ?k5 ?a6 ?l6 ?e6 ?k6 ?a7 ?l7 ?e7 ?k7 ?a8 ?l8 ?e8 ?k8 ?z0 ?z1 ?z2 ?z3 ?y0 ?y1
    (case a0 => k_is); (case l0 => k_is); (case e0 => k_is); (case k0 => k_is); (case a1 => k_is); (case l1 => k_is); (case e1 => k_is); (case k1 => k_is); (case a2 => k_is); (case l2 => k_is); (case e2 => k_is); (case k2 => k_is); (case a3 => k_is); (case l3 => k_is); (case e3 => k_is); (case k3 => k_is); (case a4 => k_is); (case l4 => k_is); (case e4 => k_is); (case k4 => k_is); (case a5 => k_is); (case l5 => k_is); (case e5 => k_is); (case k5 => k_is); (case a6 => k_is); (case l6 => k_is); (case e6 => k_is); (case k6 => k_is); (case a7 => k_is); (case l7 => k_is); (case e7 => k_is); (case k7 => k_is); (case a8 => k_is); (case l8 => k_is); (case e8 => k_is); (case k8 => k_is); (case z0 => k_is); (case z1 => k_is); (case z2 => k_is); (case z3 => k_is); (case y0 => k_is); (case y1 => k_is)
