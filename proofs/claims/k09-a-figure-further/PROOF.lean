import PyProof.Rows.All
import Wide.All
import OpenK.AllK
import Wide.FinOn
import PySem.Challenge.RW_ringfigures_k09_whole_a_figure_further
import HandS.ForMost
import HandS.ForExc
import HandS.Wide
import HandS.IsInst
import HandS.Codes
import HandS.Style
import HandS.Evl
import HandS.Walk
import HandS.Zip
import HandS.Conv
set_option Elab.async false
set_option linter.all false
set_option maxRecDepth 100000
set_option maxHeartbeats 4000000
set_option maxRecDepth 100000
set_option maxHeartbeats 4000000
namespace Rf
open PySem PySem.Spec PyProof.Rows L2
/-! ### heaps -/
theorem same_new {H H' : Hp} {p : Addr} {o : HO} (s : Same H H') (h : H p = none) : Same H (upd H' p o) := fun b u e => by
  rw [upd_ne (ne_of_none e h)]
  exact s b u e
theorem same_upd {H : Hp} {p : Addr} {o : HO} (h : H p = none) : Same H (upd H p o) := same_new (Same.refl H) h
theorem ne_new {H : Hp} {d f : Addr} {o : HO} (h : upd H d o f = none) : f ≠ d := fun e => by
  rw [e, upd_same] at h
  cases h
theorem free_upd {H : Hp} {d f : Addr} {o : HO} (h : upd H d o f = none) : H f = none := by
  rw [upd_ne (ne_new h)] at h
  exact h
theorem same_ups {H H' : Hp} {d : Addr} {o : HO} (s : Same H H') (h : H' d = none) : Same H (upd H' d o) := s.trans (same_upd h)
theorem keyne {a b : Nat} (h : a ≠ b) : ¬ ((Sum.inl (a : Int) : Key) = Sum.inl (b : Int)) := fun q => h (by have := Sum.inl.inj q; omega)
theorem sz100 {n : Nat} (h : n ≤ 1000000) : n ≤ sizeLine := Nat.le_trans h (by decide)
theorem sz100lt {n : Nat} (h : n < 1000000) : n < sizeLine := Nat.lt_of_lt_of_le h (by decide)
theorem sqt {K : PySem.W.Frag} {H : Hp} {a : Addr} {xs : List V} (h : H a = some (.tup xs)) : SqT K H a xs := .inl (.inl h)
theorem sql {K : PySem.W.Frag} {H : Hp} {a : Addr} {xs : List V} (h : H a = some (.lst xs)) : SqL K H a xs := .inl (.inl h)
/-! ### floor division by any positive number, where the quotient is not long -/
def CDivP (i j : Int) : Prop := 0 < j ∧ Builtin.divisionGoesByPylong i j = false
theorem op_fdivP {X : Cx} : OpR X (binaryOp .FloorDiv) (rI CDivP fun i j => .int (i / j)) := opI fun i j _ _ _ _ _ hc q => by
  have h1 : (0 : Int) < j := hc.1
  exact floordiv_int (by omega) (by rw [Int.fdiv_eq_ediv_of_nonneg i (by omega)]; exact q) (.inl hc.2)
theorem cdivp_small {i j : Int} (h : 0 < j) (h2 : j < 1073741824) : CDivP i j := ⟨h, PyProof.noPylong_small (by omega)⟩
/-- a divisor that is not long -/
structure Wid (m : Nat) : Prop where
  lt : m.log2 < 9000
theorem cdivp_wide {i : Int} {m : Nat} (h0 : 0 < m) (h : Wid m) : CDivP i (m : Int) := ⟨by omega, PyProof.noPylong_of_log2 (by rw [Int.natAbs_natCast]; exact h.lt)⟩
theorem wid_of {m k : Nat} (h : m < 2 ^ k) (hk : k ≤ 9000) (h0 : 0 < k) : Wid m := ⟨Nat.lt_of_lt_of_le (PySem.Flt.log2_lt_of h0 h) hk⟩
theorem wid_small {m : Nat} (h : m < 1000000) : Wid m := wid_of (k := 30) (Nat.lt_of_lt_of_le h (by decide)) (by decide) (by decide)
theorem op_mulB {X : Cx} : OpR X (binaryOp .Mult) (rI IntMulOk fun i j => .int (i * j)) := opI fun _ _ _ _ _ _ _ hc q => mul_int q hc
theorem mulB_right {i j : Int} (h1 : -(2 ^ 64) < j) (h2 : j < 2 ^ 64) : IntMulOk i j := IntMulOk.of_right (intBits_le_64 (by omega) (by omega))
theorem mulB_left {i j : Int} (h1 : -(2 ^ 64) < i) (h2 : i < 2 ^ 64) : IntMulOk i j := IntMulOk.of_left (intBits_le_64 (by omega) (by omega))
/-! ### slices -/
theorem cut_take (xs : List V) (k : Nat) : cutV xs none (some (k : Int)) = xs.take k := by
  unfold cutV
  rw [HT.sIx_none, HT.sIx_nat, List.drop_zero, Nat.sub_zero, ← List.take_take, List.take_length]
theorem cut_drop (xs : List V) (k : Nat) : cutV xs (some (k : Int)) none = xs.drop k := by
  unfold cutV
  rw [HT.sIx_none, HT.sIx_nat]
  by_cases h : k ≤ xs.length
  · rw [Nat.min_eq_left h]
    exact List.take_of_length_le (by rw [List.length_drop]; exact Nat.le_refl _)
  · rw [Nat.min_eq_right (by omega), List.drop_eq_nil_of_le (Nat.le_refl _), List.drop_eq_nil_of_le (by omega), List.take_nil]
theorem take_map (l : List Int) (k : Nat) : (l.map V.int).take k = (l.take k).map V.int := (List.map_take).symm
theorem drop_map (l : List Int) (k : Nat) : (l.map V.int).drop k = (l.drop k).map V.int := (List.map_drop).symm
/-! ### ints as data -/
def dI (ns : List Int) : PyData := .list (ns.map PyData.int)
theorem eqv_ints : ∀ a b : List Int, PyData.eqvAll (a.map PyData.int) (b.map PyData.int) = decide (a = b)
  | [], [] => rfl
  | [], _ :: _ => rfl
  | _ :: _, [] => rfl
  | x :: a, y :: b => by
    show (PyData.eqv (.int x) (.int y) && PyData.eqvAll (a.map PyData.int) (b.map PyData.int)) = _
    rw [eqv_ints a b]
    show ((x == y) && decide (a = b)) = _
    by_cases h : x = y <;> by_cases h2 : a = b <;> simp [h, h2]
theorem eqv_dI (a b : List Int) : PyData.eqv (dI a) (dI b) = decide (a = b) := by
  unfold dI
  rw [PyData.eqv]
  exact eqv_ints a b
theorem canLay_ints : ∀ a : List Int, PyData.canLayAll0 (a.map PyData.int) = true
  | [] => rfl
  | x :: a => by
    show (PyData.canLay0 (.int x) && PyData.canLayAll0 (a.map PyData.int)) = true
    rw [canLay_ints a]
    rfl
theorem depth_ints : ∀ a : List Int, PyData.depthAll (a.map PyData.int) = 0
  | [] => rfl
  | x :: a => by
    show max (PyData.depth (.int x)) (PyData.depthAll (a.map PyData.int)) = 0
    rw [depth_ints a]
    rfl
theorem shaped_dI (a : List Int) : SeqAt.shaped (dI a) = true := by
  unfold SeqAt.shaped dI
  rw [show PyData.canLay0 (.list (a.map PyData.int)) = PyData.canLayAll0 (a.map PyData.int) from rfl, canLay_ints]
  rw [show PyData.depth (.list (a.map PyData.int)) = PyData.depthAll (a.map PyData.int) + 1 from rfl, depth_ints]
  rfl
theorem dpAll_ints {K : PySem.W.Frag} {H : Hp} : ∀ a : List Int, DpAll K H (a.map V.int) (a.map PyData.int)
  | [] => .nil
  | x :: a => .cons (.int x) (dpAll_ints a)
theorem dp_dI {K : PySem.W.Frag} {H : Hp} {p : Addr} {a : List Int} (h : SqL K H p (a.map V.int)) : Dp K H (.ref p) (dI a) := .lst h (dpAll_ints a)
/-! ### writings -/
/-- a whole number, figures ahead, a ring -/
structure Wr where
  w : Int
  a : List Int
  r : List Int
  deriving DecidableEq
def dW (x : Wr) : PyData := .tuple [.int x.w, dI x.a, dI x.r]
theorem eqv_dW (x y : Wr) : PyData.eqv (dW x) (dW y) = decide (x = y) := by
  unfold dW
  rw [PyData.eqv]
  show (PyData.eqv (.int x.w) (.int y.w) && (PyData.eqv (dI x.a) (dI y.a) && (PyData.eqv (dI x.r) (dI y.r) && true))) = _
  rw [eqv_dI, eqv_dI]
  show ((x.w == y.w) && _) = _
  obtain ⟨w1, a1, r1⟩ := x
  obtain ⟨w2, a2, r2⟩ := y
  by_cases h1 : w1 = w2 <;> by_cases h2 : a1 = a2 <;> by_cases h3 : r1 = r2 <;> simp [h1, h2, h3]
theorem shaped_dW (x : Wr) : SeqAt.shaped (dW x) = true := by
  unfold SeqAt.shaped dW dI
  show (PyData.canLay0 (.int x.w) && (PyData.canLayAll0 (x.a.map PyData.int) && (PyData.canLayAll0 (x.r.map PyData.int) && true)) && decide (max 0 (max (PyData.depthAll (x.a.map PyData.int) + 1) (max (PyData.depthAll (x.r.map PyData.int) + 1) 0)) + 1 ≤ 64)) = true
  rw [canLay_ints, canLay_ints, depth_ints, depth_ints]
  rfl
/-- the writing x stands at p, its lists at a and r -/
structure WrAt (H : Hp) (p a r : Addr) (x : Wr) : Prop where
  tp : H p = some (.tup [.int x.w, .ref a, .ref r])
  la : H a = some (.lst (x.a.map V.int))
  lr : H r = some (.lst (x.r.map V.int))
theorem WrAt.dp {K : PySem.W.Frag} {H : Hp} {p a r : Addr} {x : Wr} (h : WrAt H p a r x) : Dp K H (.ref p) (dW x) :=
  .tup (sqt h.tp) (.cons (.int x.w) (.cons (dp_dI (sql h.la)) (.cons (dp_dI (sql h.lr)) .nil)))
theorem WrAt.same {H H' : Hp} {p a r : Addr} {x : Wr} (h : WrAt H p a r x) (s : Same H H') : WrAt H' p a r x := ⟨s _ _ h.tp, s _ _ h.la, s _ _ h.lr⟩
/-- a new writing x at p: all that was stands, its objects are new and its lists are two -/
structure WrNew (H H' : Hp) (p a r : Addr) (x : Wr) : Prop where
  at' : WrAt H' p a r x
  same : Same H H'
  np : H p = none
  na : H a = none
  nr : H r = none
  ne : a ≠ r
/-! ### tests -/
theorem iteD {c : Prop} [Decidable c] {A B : Prop} (h1 : c → A) (h2 : ¬ c → B) : if decide c = true then A else B := by
  by_cases h : c
  · rw [if_pos (decide_eq_true h)]; exact h1 h
  · rw [if_neg (by rw [decide_eq_false h]; exact Bool.false_ne_true)]; exact h2 h
theorem iteDn {c : Prop} [Decidable c] {A B : Prop} (h1 : ¬ c → A) (h2 : c → B) : if (!decide c) = true then A else B := by
  by_cases h : c
  · rw [if_neg (by rw [decide_eq_true h]; exact Bool.false_ne_true)]; exact h2 h
  · rw [if_pos (by rw [decide_eq_false h]; rfl)]; exact h1 h
theorem iteE {i j : Int} {A B : Prop} (h1 : i = j → A) (h2 : i ≠ j → B) : if decide (V.int i = V.int j) = true then A else B := iteD (fun e => h1 (V.int.inj e)) (fun e => h2 fun q => e (by rw [q]))
theorem iteEn {i j : Int} {A B : Prop} (h1 : i ≠ j → A) (h2 : i = j → B) : if (!decide (V.int i = V.int j)) = true then A else B := iteDn (fun e => h1 fun q => e (by rw [q])) (fun e => h2 (V.int.inj e))
theorem iteB {b : Bool} {A B : Prop} (h1 : b = true → A) (h2 : b = false → B) : if b = true then A else B := by
  cases b with
  | true => rw [if_pos rfl]; exact h1 rfl
  | false => rw [if_neg Bool.false_ne_true]; exact h2 rfl
theorem atI_of {xs : List V} {z : Int} {j : Nat} {v : V} (e : z = (j : Int)) (h : xs[j]? = some v) : atI xs z = some v := by
  rw [e]
  exact atI_nat h
theorem map_get {ns : List Int} {k : Nat} {x : Int} (h : ns[k]? = some x) : (ns.map V.int)[k]? = some (.int x) := by
  rw [List.getElem?_map, h]; rfl
/-! ### where a value's kind is asked -/
theorem kit_int_int {K : PySem.W.Frag} : PySem.W.kitOne K (.type "int") (.type "int") = some true := kit_ty (by decide +kernel)
theorem kit_int_bool {K : PySem.W.Frag} : PySem.W.kitOne K (.type "int") (.type "bool") = some false := kit_ty (by decide +kernel)
theorem kit_tup {K : PySem.W.Frag} : PySem.W.kitOne K (.type "tuple") (.type "tuple") = some true := kit_ty (by decide +kernel)
theorem kit_lst {K : PySem.W.Frag} : PySem.W.kitOne K (.type "list") (.type "list") = some true := kit_ty (by decide +kernel)
theorem kit_bool {K : PySem.W.Frag} : PySem.W.kitOne K (.type "bool") (.type "bool") = some true := kit_ty (by decide +kernel)
theorem kit_str {K : PySem.W.Frag} : PySem.W.kitOne K (.type "str") (.type "str") = some true := kit_ty (by decide +kernel)
theorem kit_self {K : PySem.W.Frag} {n : String} : PySem.W.kitOne K (.type n) (.type n) = some true := kit_ty (by unfold kitB; rw [if_pos (by simp)])
end Rf

set_option maxHeartbeats 1000000
namespace Rf
/-! ### the rests of a division, and where they come again -/
/-- the rest behind k figures -/
def rs (b m r k : Nat) : Nat := r * b ^ k % m
/-- the k-th figure -/
def dg (b m r k : Nat) : Nat := rs b m r k * b / m
/-- n figures from the i-th on -/
def dgs (b m r i n : Nat) : List Int := (List.range n).map fun k => ((dg b m r (i + k) : Nat) : Int)
theorem rs_zero {b m r : Nat} (h : r < m) : rs b m r 0 = r := by
  unfold rs
  rw [Nat.pow_zero, Nat.mul_one, Nat.mod_eq_of_lt h]
theorem rs_lt {b m r k : Nat} (h : 0 < m) : rs b m r k < m := Nat.mod_lt _ h
theorem rs_succ (b m r k : Nat) : rs b m r (k + 1) = rs b m r k * b % m := by
  unfold rs
  rw [Nat.pow_succ, ← Nat.mul_assoc, Nat.mul_mod (r * b ^ k) b m, Nat.mul_mod (r * b ^ k % m) b m, Nat.mod_mod]
theorem dgs_len (b m r i n : Nat) : (dgs b m r i n).length = n := by
  unfold dgs
  rw [List.length_map, List.length_range]
theorem dgs_succ (b m r i n : Nat) : dgs b m r i (n + 1) = dgs b m r i n ++ [((dg b m r (i + n) : Nat) : Int)] := by
  unfold dgs
  rw [List.range_succ, List.map_append]
  rfl
theorem dgs_take (b m r n k : Nat) (h : k ≤ n) : (dgs b m r 0 n).take k = dgs b m r 0 k := by
  unfold dgs
  rw [← List.map_take, List.take_range, Nat.min_eq_left h]
theorem dgs_get (b m r i n k : Nat) (h : k < n) : (dgs b m r i n)[k]? = some ((dg b m r (i + k) : Nat) : Int) := by
  unfold dgs
  rw [List.getElem?_map, List.getElem?_range h]
  rfl
theorem dgs_drop (b m r n k : Nat) (h : k ≤ n) : (dgs b m r 0 n).drop k = dgs b m r k (n - k) := by
  apply List.ext_getElem?
  intro j
  rw [List.getElem?_drop]
  by_cases hj : j < n - k
  · rw [dgs_get _ _ _ _ _ _ hj, dgs_get _ _ _ _ _ _ (show k + j < n by omega), Nat.zero_add]
  · rw [List.getElem?_eq_none (by rw [dgs_len]; omega), List.getElem?_eq_none (by rw [dgs_len]; omega)]
/-- division of r by m in base b: s figures ahead, then a ring of l (none: l = 0) -/
structure DivAt (b m r s l : Nat) : Prop where
  pos : ∀ k, k < s + l → rs b m r k ≠ 0
  new : ∀ j k, j < k → k < s + l → rs b m r j ≠ rs b m r k
  fin : l = 0 → rs b m r s = 0
  rep : 0 < l → rs b m r (s + l) = rs b m r s
/-- the first n at which the division stops -/
def Stp (b m r n : Nat) : Prop := rs b m r n = 0 ∨ ∃ j, j < n ∧ rs b m r j = rs b m r n
theorem DivAt.stp {b m r s l : Nat} (h : DivAt b m r s l) : Stp b m r (s + l) := by
  by_cases hl : l = 0
  · subst hl; exact .inl (h.fin rfl)
  · exact .inr ⟨s, by omega, (h.rep (by omega)).symm⟩
theorem DivAt.not_stp {b m r s l n : Nat} (h : DivAt b m r s l) (hn : n < s + l) : ¬ Stp b m r n := fun q => by
  rcases q with q | ⟨j, hj, e⟩
  · exact h.pos n hn q
  · exact h.new j n hj hn e
theorem DivAt.unique {b m r s l s' l' : Nat} (h : DivAt b m r s l) (h' : DivAt b m r s' l') : s = s' ∧ l = l' := by
  have e : s + l = s' + l' := by
    rcases Nat.lt_trichotomy (s + l) (s' + l') with q | q | q
    · exact absurd h.stp (h'.not_stp q)
    · exact q
    · exact absurd h'.stp (h.not_stp q)
  by_cases hl : l = 0
  · by_cases hl' : l' = 0
    · omega
    · have h1 := h.fin hl
      have h2 := h'.rep (by omega)
      have h3 : s = s' + l' := by omega
      rw [← h3, h1] at h2
      exact absurd h2.symm (h'.pos s' (by omega))
  · by_cases hl' : l' = 0
    · have h1 := h'.fin hl'
      have h2 := h.rep (by omega)
      have h3 : s' = s + l := by omega
      rw [← h3, h1] at h2
      exact absurd h2.symm (h.pos s (by omega))
    · have h1 := h.rep (by omega)
      have h2 := h'.rep (by omega)
      rw [e] at h1
      have h3 : rs b m r s = rs b m r s' := h1.symm.trans h2
      rcases Nat.lt_trichotomy s s' with q | q | q
      · exact absurd h3 (h.new s s' q (by omega))
      · omega
      · exact absurd h3.symm (h'.new s' s q (by omega))
theorem exists_least (P : Nat → Prop) : ∀ n, P n → ∃ k, k ≤ n ∧ P k ∧ ∀ j, j < k → ¬ P j := fun n => by
  induction n using Nat.strongRecOn with
  | _ n ih =>
    intro h
    by_cases q : ∃ j, j < n ∧ P j
    · obtain ⟨j, hj, pj⟩ := q
      obtain ⟨k, hk, pk, lk⟩ := ih j hj pj
      exact ⟨k, by omega, pk, lk⟩
    · exact ⟨n, Nat.le_refl _, h, fun j hj pj => q ⟨j, hj, pj⟩⟩
/-- an injection of the numbers below n into those below m -/
theorem pigeon : ∀ (m n : Nat) (f : Nat → Nat), (∀ k, k < n → f k < m) → (∀ j k, j < k → k < n → f j ≠ f k) → n ≤ m
  | 0, n, f, h, _ => by
    cases n with
    | zero => exact Nat.le_refl _
    | succ n => exact absurd (h 0 (by omega)) (by omega)
  | m + 1, n, f, h, inj => by
    by_cases q : ∃ i, i < n ∧ f i = m
    · obtain ⟨i, hi, ei⟩ := q
      have key : n - 1 ≤ m := pigeon m (n - 1) (fun k => if k < i then f k else f (k + 1)) (fun k hk => by
          split
          · rename_i c
            have h1 := h k (by omega)
            have h2 := inj k i c hi
            omega
          · rename_i c
            have h1 := h (k + 1) (by omega)
            have h2 := inj i (k + 1) (by omega) (by omega)
            omega) (fun j k hjk hk => by
          split
          · split
            · exact inj j k hjk (by omega)
            · exact inj j (k + 1) (by omega) (by omega)
          · split
            · omega
            · exact inj (j + 1) (k + 1) (by omega) (by omega))
      omega
    · have key : n ≤ m := pigeon m n f (fun k hk => by
          have h1 := h k hk
          have h2 : f k ≠ m := fun e => q ⟨k, hk, e⟩
          omega) inj
      omega
theorem stp_exists {b m r : Nat} (hm : 0 < m) : ∃ n, n ≤ m ∧ Stp b m r n := by
  by_cases q : ∃ n, n ≤ m ∧ Stp b m r n
  · exact q
  · have h1 : m + 1 ≤ m := pigeon m (m + 1) (rs b m r) (fun k _ => rs_lt hm) (fun j k hjk hk e => q ⟨k, by omega, .inr ⟨j, hjk, e⟩⟩)
    omega
theorem divAt_of_stp {b m r n : Nat} (h : Stp b m r n) (hl : ∀ j, j < n → ¬ Stp b m r j) : ∃ s l, s + l = n ∧ DivAt b m r s l := by
  have hp : ∀ k, k < n → rs b m r k ≠ 0 := fun k hk e => hl k hk (.inl e)
  have hn : ∀ j k, j < k → k < n → rs b m r j ≠ rs b m r k := fun j k hjk hk e => hl k hk (.inr ⟨j, hjk, e⟩)
  by_cases h0 : rs b m r n = 0
  · exact ⟨n, 0, by omega, ⟨hp, hn, fun _ => h0, fun q => absurd q (by omega)⟩⟩
  · rcases h with h | ⟨j, hj, e⟩
    · exact absurd h h0
    · refine ⟨j, n - j, by omega, ⟨fun k hk => hp k (by omega), fun i k hik hk => hn i k hik (by omega), fun q => by omega, fun _ => ?_⟩⟩
      rw [show j + (n - j) = n by omega]
      exact e.symm
theorem divAt_exists {b m r : Nat} (hm : 0 < m) : ∃ s l, s + l ≤ m ∧ DivAt b m r s l := by
  obtain ⟨n, hn, h⟩ := stp_exists (b := b) (r := r) hm
  obtain ⟨k, hk, pk, lk⟩ := exists_least (Stp b m r) n h
  obtain ⟨s, l, e, d⟩ := divAt_of_stp pk lk
  exact ⟨s, l, by omega, d⟩
end Rf

set_option maxHeartbeats 1000000
namespace Rf
/-! ### figures come round -/
theorem rs_add (b m r i j : Nat) : rs b m r (i + j) = rs b m (rs b m r i) j := by
  unfold rs
  rw [Nat.pow_add, ← Nat.mul_assoc, Nat.mul_mod (r * b ^ i) (b ^ j) m, Nat.mul_mod (r * b ^ i % m) (b ^ j) m, Nat.mod_mod]
theorem DivAt.nought {b m r s l : Nat} (h : DivAt b m r s l) (hl : l = 0) (i : Nat) : rs b m r (s + i) = 0 := by
  rw [rs_add, h.fin hl]
  unfold rs
  rw [Nat.zero_mul, Nat.zero_mod]
theorem DivAt.round {b m r s l : Nat} (h : DivAt b m r s l) (hl : 0 < l) (i : Nat) : rs b m r (s + l + i) = rs b m r (s + i) := by
  rw [rs_add, h.rep hl, ← rs_add]
theorem DivAt.rounds {b m r s l : Nat} (h : DivAt b m r s l) (hl : 0 < l) (i : Nat) : ∀ n, rs b m r (s + (i + l * n)) = rs b m r (s + i)
  | 0 => by rw [Nat.mul_zero, Nat.add_zero]
  | n + 1 => by
    rw [show s + (i + l * (n + 1)) = s + l + (i + l * n) by rw [Nat.mul_add, Nat.mul_one]; omega, h.round hl]
    exact h.rounds hl i n
theorem DivAt.mod {b m r s l : Nat} (h : DivAt b m r s l) (hl : 0 < l) (i : Nat) : rs b m r (s + i) = rs b m r (s + i % l) := by
  have e := h.rounds hl (i % l) (i / l)
  rw [Nat.mod_add_div] at e
  exact e
/-- the figure at a place, by the writing -/
theorem DivAt.fig {b m r s l n : Nat} (h : DivAt b m r s l) (hn : s ≤ n) : dg b m r n = if l = 0 then 0 else dg b m r (s + (n - s) % l) := by
  unfold dg
  by_cases hl : l = 0
  · rw [if_pos hl, show n = s + (n - s) by omega, h.nought hl, Nat.zero_mul, Nat.zero_div]
  · rw [if_neg hl]
    have e := h.mod (by omega) (n - s)
    rw [show s + (n - s) = n by omega] at e
    rw [e]
/-! ### powers by squaring -/
theorem pow_half (F G m p : Nat) : (if p % 2 = 1 then F * G % m else F) * (G * G % m) ^ (p / 2) % m = F * G ^ p % m := by
  have e : G ^ p = (if p % 2 = 1 then G else 1) * (G * G) ^ (p / 2) := by
    rw [← Nat.pow_two, ← Nat.pow_mul]
    split
    · rename_i h
      rw [← Nat.pow_succ']
      congr 1
      omega
    · rename_i h
      rw [Nat.one_mul]
      congr 1
      omega
  rw [e, Nat.mul_mod, ← Nat.pow_mod, ← Nat.mul_mod, ← Nat.mul_assoc]
  split
  · rw [Nat.mul_mod (F * G % m), Nat.mod_mod, ← Nat.mul_mod]
  · rw [Nat.mul_one]
end Rf

set_option maxHeartbeats 1000000
namespace Rf
/-! ### a figure further -/
theorem rs_shift (b m r k : Nat) : rs b m (r * b % m) k = rs b m r (k + 1) := by
  unfold rs
  rw [Nat.pow_succ, Nat.mul_mod (r * b % m), Nat.mod_mod, ← Nat.mul_mod, Nat.mul_assoc, Nat.mul_comm b]
theorem dg_shift (b m r k : Nat) : dg b m (r * b % m) k = dg b m r (k + 1) := by
  unfold dg
  rw [rs_shift]
theorem dgs_shift (b m r i n : Nat) : dgs b m (r * b % m) i n = dgs b m r (i + 1) n := by
  unfold dgs
  refine List.map_congr_left fun k _ => ?_
  rw [dg_shift, show i + k + 1 = i + 1 + k by omega]
theorem DivAt.shift1 {b m r s l : Nat} (h : DivAt b m r (s + 1) l) : DivAt b m (r * b % m) s l := by
  refine ⟨fun k hk => ?_, fun j k hjk hk => ?_, fun hl => ?_, fun hl => ?_⟩
  · rw [rs_shift]; exact h.pos (k + 1) (by omega)
  · rw [rs_shift, rs_shift]; exact h.new (j + 1) (k + 1) (by omega) (by omega)
  · rw [rs_shift]; exact h.fin hl
  · rw [rs_shift, rs_shift, show s + l + 1 = s + 1 + l by omega]; exact h.rep hl
theorem DivAt.shift0 {b m r l : Nat} (hm : 0 < m) (h : DivAt b m r 0 l) : DivAt b m (r * b % m) 0 l := by
  by_cases hl : l = 0
  · subst hl
    have h1 := h.nought rfl 1
    refine ⟨fun k hk => by omega, fun j k hjk hk => by omega, fun _ => ?_, fun q => by omega⟩
    rw [rs_shift, Nat.zero_add]
    rw [Nat.zero_add] at h1
    exact h1
  · have hrep := h.rep (by omega)
    rw [Nat.zero_add] at hrep
    have wrap : ∀ k, k < l → rs b m (r * b % m) k = if k + 1 < l then rs b m r (k + 1) else rs b m r 0 := fun k hk => by
      rw [rs_shift]
      split
      · rfl
      · rw [show k + 1 = l by omega, hrep]
    refine ⟨fun k hk => ?_, fun j k hjk hk => ?_, fun q => absurd q hl, fun _ => ?_⟩
    · rw [wrap k (by omega)]
      split
      · exact h.pos _ (by omega)
      · exact h.pos _ (by omega)
    · rw [wrap j (by omega), wrap k (by omega), if_pos (show j + 1 < l by omega)]
      split
      · exact h.new _ _ (by omega) (by omega)
      · exact fun e => h.new 0 (j + 1) (by omega) (by omega) e.symm
    · rw [rs_shift, rs_shift]
      have := h.round (by omega) 1
      rw [Nat.zero_add] at this ⊢
      rw [Nat.zero_add] at this
      exact this
theorem dgs_split (b m r i n k : Nat) : dgs b m r i (n + k) = dgs b m r i n ++ dgs b m r (i + n) k := by
  induction k with
  | zero =>
    have : dgs b m r (i + n) 0 = [] := rfl
    rw [this, List.append_nil, Nat.add_zero]
  | succ k ih => rw [← Nat.add_assoc, dgs_succ, ih, dgs_succ, List.append_assoc, Nat.add_assoc]
theorem dgs_one (b m r i : Nat) : dgs b m r i 1 = [((dg b m r i : Nat) : Int)] := rfl
/-- the ring turned by one -/
theorem ring_turn {b m r l : Nat} (h : DivAt b m r 0 l) (hl : 0 < l) : dgs b m (r * b % m) 0 l = (dgs b m r 0 l).drop 1 ++ (dgs b m r 0 l).take 1 := by
  obtain ⟨k, rfl⟩ : ∃ k, l = k + 1 := ⟨l - 1, by omega⟩
  rw [dgs_shift, dgs_drop _ _ _ _ _ (by omega), dgs_take _ _ _ _ _ (by omega), dgs_one, dgs_succ]
  have hrep := h.rep hl
  rw [Nat.zero_add] at hrep
  have e : dg b m r (0 + 1 + k) = dg b m r 0 := by
    unfold dg
    rw [show 0 + 1 + k = k + 1 by omega, hrep]
  rw [e, Nat.add_sub_cancel, Nat.zero_add]
end Rf

set_option maxRecDepth 100000
set_option maxHeartbeats 4000000
namespace Rf
open PySem PySem.Spec PyProof.Rows L2
/-! ### comprehensions of values that are read off -/
theorem take_snoc {α : Type} {l : List α} {i : Nat} {x : α} (h : l[i]? = some x) : l.take (i + 1) = l.take i ++ [x] := by
  rw [List.take_add_one, h]; rfl
/-- over a list -/
theorem lc_vals {K : PySem.W.Frag} {a D : Addr} {xs : List V} {te : TE} {vs : List Nat} {σ : L2.St} {i : Nat} {H : Hp} {Qd : Hp → Prop} (g : V → V) (hS : SqL K H a xs) (nD : H D = none) (hlen : xs.length < 1000000)
    (hw : ∀ x, wipe ((wipe σ vs).set i (some x)) vs = wipe σ vs)
    (he : ∀ x, x ∈ xs → ∀ H' (Q : VK), Same H H' → (∀ H2, Same H' H2 → Q (g x) H2) → te ((wipe σ vs).set i (some x)) H' Q) (hd : ∀ H', Same H H' → H' D = some (.lst (xs.map g)) → Qd H') :
    ∃ W : Nat → Nat → Hp → Prop, (∃ m, W 0 m (upd H D (.lst []))) ∧ ∀ j m H, W j m H →
      ((Itl K a).stop j H ∧ Qd H) ∨ ((Itl K a).go j H ∧ ∃ Nx : Hp → Prop, (∀ H', Nx H' → ∃ m', m' < m ∧ W (j + 1) m' H') ∧ ∀ x H', (Itl K a).yld j H x H' → gName i x (wipe σ vs) H' fun σ2 H2 => wipe σ2 vs = wipe σ vs ∧ tYes σ2 H2 fun b H3 =>
        if b = true then te σ2 H3 fun y H4 => ∃ acc, H4 D = some (.lst acc) ∧ acc.length < sizeLine ∧ Nx (upd H4 D (.lst (acc ++ [y]))) else Nx H3) := by
  refine lc_list (K := K) (a := a) (xs := xs) (fun j H' => Same H H' ∧ H' D = some (.lst ((xs.take j).map g))) ⟨same_upd nD, upd_same⟩ (fun j H' _ ⟨s, _⟩ => s.seq hS) (fun j x H' hx ⟨s, hD⟩ => ?_) (fun H' ⟨s, hD⟩ => ?_)
  · refine ⟨hw x, ?_⟩
    show te ((wipe σ vs).set i (some x)) H' _
    refine he x (List.mem_of_getElem? hx) H' _ s fun H2 s2 => ⟨_, s2 _ _ hD, ?_, same_new (s.trans s2) nD, ?_⟩
    · rw [List.length_map, List.length_take]
      exact sz100lt (by omega)
    · rw [upd_same, take_snoc hx, List.map_append]
      rfl
  · rw [List.take_length] at hD
    exact hd H' s hD
/-- over range(n) -/
theorem lc_rng {D : Addr} {n : Nat} {te : TE} {vs : List Nat} {σ : L2.St} {i : Nat} {H : Hp} {Qd : Hp → Prop} (g : Nat → V) (nD : H D = none) (hlen : n < 1000000)
    (hw : ∀ x, wipe ((wipe σ vs).set i (some x)) vs = wipe σ vs)
    (he : ∀ k, k < n → ∀ H' (Q : VK), Same H H' → (∀ H2, Same H' H2 → Q (g k) H2) → te ((wipe σ vs).set i (some (.int (k : Int)))) H' Q) (hd : ∀ H', Same H H' → H' D = some (.lst ((List.range n).map g)) → Qd H') :
    ∃ W : Nat → Nat → Hp → Prop, (∃ m, W 0 m (upd H D (.lst []))) ∧ ∀ j m H, W j m H →
      ((Itr 0 n).stop j H ∧ Qd H) ∨ ((Itr 0 n).go j H ∧ ∃ Nx : Hp → Prop, (∀ H', Nx H' → ∃ m', m' < m ∧ W (j + 1) m' H') ∧ ∀ x H', (Itr 0 n).yld j H x H' → gName i x (wipe σ vs) H' fun σ2 H2 => wipe σ2 vs = wipe σ vs ∧ tYes σ2 H2 fun b H3 =>
        if b = true then te σ2 H3 fun y H4 => ∃ acc, H4 D = some (.lst acc) ∧ acc.length < sizeLine ∧ Nx (upd H4 D (.lst (acc ++ [y]))) else Nx H3) := by
  refine lc_range (lo := 0) (n := n) (fun j H' => Same H H' ∧ H' D = some (.lst ((List.range j).map g))) ⟨same_upd nD, upd_same⟩ (fun j H' hj ⟨s, hD⟩ => ?_) (fun H' ⟨s, hD⟩ => hd H' s hD)
  rw [Int.zero_add]
  refine ⟨hw _, ?_⟩
  show te ((wipe σ vs).set i (some (.int (j : Int)))) H' _
  refine he j hj H' _ s fun H2 s2 => ⟨_, s2 _ _ hD, ?_, same_new (s.trans s2) nD, ?_⟩
  · rw [List.length_map, List.length_range]
    exact sz100lt (by omega)
  · rw [upd_same, List.range_succ, List.map_append]
    rfl
/-- over zip of two lists of ints, the two names in the slots i and j -/
theorem lc_zips {K : PySem.W.Frag} {a b D : Addr} {xs ys : List Int} {te : TE} {vs : List Nat} {σ : L2.St} {i j : Nat} {H : Hp} {Qd : Hp → Prop} (g : Int → Int → V) (hS : SqL K H a (xs.map V.int)) (hT : SqL K H b (ys.map V.int)) (hl : xs.length = ys.length) (nD : H D = none) (hlen : xs.length < 1000000)
    (hw : ∀ x y, wipe (((wipe σ vs).set i (some x)).set j (some y)) vs = wipe σ vs)
    (he : ∀ x y, ∀ H' (Q : VK), Q (g x y) H' → te (((wipe σ vs).set i (some (.int x))).set j (some (.int y))) H' Q) (hd : ∀ H', Same H H' → H' D = some (.lst (List.zipWith g xs ys)) → Qd H') :
    ∃ W : Nat → Nat → Hp → Prop, (∃ m, W 0 m (upd H D (.lst []))) ∧ ∀ n m H, W n m H →
      ((Itz K a b).stop n H ∧ Qd H) ∨ ((Itz K a b).go n H ∧ ∃ Nx : Hp → Prop, (∀ H', Nx H' → ∃ m', m' < m ∧ W (n + 1) m' H') ∧ ∀ x H', (Itz K a b).yld n H x H' → gTup K 2 (gCons (gName i) (gCons (gName j) gNil)) x (wipe σ vs) H' fun σ2 H2 => wipe σ2 vs = wipe σ vs ∧ tYes σ2 H2 fun b H3 =>
        if b = true then te σ2 H3 fun y H4 => ∃ acc, H4 D = some (.lst acc) ∧ acc.length < sizeLine ∧ Nx (upd H4 D (.lst (acc ++ [y]))) else Nx H3) := by
  have W := walk_zip (K := K) (a := a) (b := b) (xs := xs.map V.int) (ys := ys.map V.int) (n := xs.length) (by rw [List.length_map, List.length_map, ← hl, Nat.min_self])
  refine lc_it W (fun n H' => Same H H' ∧ H' D = some (.lst (List.zipWith g (xs.take n) (ys.take n)))) ⟨same_upd nD, upd_same⟩ (fun n H' _ ⟨s, _⟩ => ⟨s.seq hS, s.seq hT⟩) (fun n v H1 H' hn ⟨s, hD⟩ hy => ?_) (fun H' ⟨s, hD⟩ => ?_)
  · obtain ⟨T, x, y, rfl, nT, rfl, hx, hy⟩ := hy
    dsimp only at hx hy
    rw [List.getElem?_map] at hx hy
    have hx' : xs[n]? = some xs[n] := List.getElem?_eq_getElem hn
    have hn2 : n < ys.length := by omega
    have hy' : ys[n]? = some ys[n] := List.getElem?_eq_getElem hn2
    rw [hx'] at hx
    rw [hy'] at hy
    have ex : V.int xs[n] = x := Option.some.inj hx
    have ey : V.int ys[n] = y := Option.some.inj hy
    subst ex ey
    refine ⟨T, _, rfl, sqt upd_same, rfl, _, _, rfl, _, _, rfl, rfl, hw _ _, ?_⟩
    show te (((wipe σ vs).set i (some (.int xs[n]))).set j (some (.int ys[n]))) _ _
    have nTD : D ≠ T := ne_of_none hD nT
    refine he _ _ _ _ ⟨_, (upd_ne nTD).trans hD, ?_, same_new (same_new s (s.free nT)) nD, ?_⟩
    · rw [List.length_zipWith, List.length_take, List.length_take]
      exact sz100lt (by omega)
    · rw [upd_same, take_snoc hx', take_snoc hy', List.zipWith_append (by rw [List.length_take, List.length_take]; omega)]
      rfl
  · rw [List.take_length, hl, List.take_length] at hD
    exact hd H' s hD
theorem mem_ints {ns : List Int} {x : V} (h : x ∈ ns.map V.int) : ∃ z, z ∈ ns ∧ x = .int z := by
  obtain ⟨z, hz, e⟩ := List.mem_map.mp h
  exact ⟨z, hz, e.symm⟩
theorem ixN_of {n j : Nat} {z : Int} (e : z = (j : Int)) (h : j < n) : ixN n z = some j := by
  unfold ixN
  rw [e, if_pos (by omega), if_pos (by omega), Int.toNat_natCast]
theorem map_setI (ns : List Int) (j : Nat) (v : Int) : (ns.map V.int).set j (.int v) = (ns.set j v).map V.int := (List.map_set).symm
theorem mem_set {ns : List Int} {j : Nat} {v x : Int} (h : x ∈ ns.set j v) : x = v ∨ x ∈ ns := by
  rcases List.mem_or_eq_of_mem_set h with h | h
  · exact .inr h
  · exact .inl h
/-- figures of a base -/
def Figs (b : Int) (ns : List Int) : Prop := ∀ x, x ∈ ns → 0 ≤ x ∧ x < b
theorem figs_nil {b : Int} : Figs b [] := fun x hx => by cases hx
theorem figs_take {b : Int} {ns : List Int} (h : Figs b ns) (k : Nat) : Figs b (ns.take k) := fun x hx => h x (List.mem_of_mem_take hx)
theorem figs_drop {b : Int} {ns : List Int} (h : Figs b ns) (k : Nat) : Figs b (ns.drop k) := fun x hx => h x (List.mem_of_mem_drop hx)
theorem figs_app {b : Int} {ns ms : List Int} (h : Figs b ns) (h2 : Figs b ms) : Figs b (ns ++ ms) := fun x hx => (List.mem_append.mp hx).elim (h x) (h2 x)
theorem figs_comp {b : Int} {ns : List Int} (h : Figs b ns) : Figs b (ns.map fun x => b - 1 - x) := fun x hx => by
  obtain ⟨z, hz, rfl⟩ := List.mem_map.mp hx
  have := h z hz
  omega
theorem figs_set {b : Int} {ns : List Int} {j : Nat} {v : Int} (h : Figs b ns) (hv : 0 ≤ v ∧ v < b) : Figs b (ns.set j v) := fun x hx => by
  rcases mem_set hx with e | e
  · rw [e]; exact hv
  · exact h x e
theorem figs_const {b v : Int} {ns : List Int} (hv : 0 ≤ v ∧ v < b) : Figs b (ns.map fun _ => v) := fun x hx => by
  obtain ⟨z, _, rfl⟩ := List.mem_map.mp hx
  exact hv
theorem figs_one {b v : Int} (hv : 0 ≤ v ∧ v < b) : Figs b [v] := fun x hx => by rw [List.mem_singleton.mp hx]; exact hv
theorem cut_lit (ns : List Int) (k : Nat) (z : Int) (e : z = (k : Int)) : cutV (ns.map V.int) none (some z) = (ns.take k).map V.int := by rw [e, cut_take, take_map]
theorem cut_litd (ns : List Int) (k : Nat) (z : Int) (e : z = (k : Int)) : cutV (ns.map V.int) (some z) none = (ns.drop k).map V.int := by rw [e, cut_drop, drop_map]
/-- a value's int -/
def iof : V → Int
  | .int z => z
  | _ => 0
theorem map_ints (f : Int → Int) (ns : List Int) : (ns.map V.int).map (fun v => V.int (f (iof v))) = (ns.map f).map V.int := by
  rw [List.map_map, List.map_map]
  rfl
theorem map_same (ns : List Int) : (ns.map V.int).map (fun v => v) = ns.map V.int := List.map_id' _
/-! ### pairs of ints as data -/
def dP (x y : Int) : PyData := .tuple [.int x, .int y]
theorem eqv_dP (x y x' y' : Int) : PyData.eqv (dP x y) (dP x' y') = decide (x = x' ∧ y = y') := by
  unfold dP
  rw [PyData.eqv]
  show ((x == x') && ((y == y') && true)) = _
  by_cases h1 : x = x' <;> by_cases h2 : y = y' <;> simp [h1, h2]
theorem shaped_dP (x y : Int) : SeqAt.shaped (dP x y) = true := rfl
theorem dp_dP {K : PySem.W.Frag} {H : Hp} {p : Addr} {x y : Int} (h : H p = some (.tup [.int x, .int y])) : Dp K H (.ref p) (dP x y) := .tup (sqt h) (.cons (.int x) (.cons (.int y) .nil))
theorem tyx_tup {K : PySem.W.Frag} {H : Hp} {p : Addr} {xs : List V} (h : H p = some (.tup xs)) : TyX K H (.ref p) (.type "tuple") := .base (.tup h)
theorem tyx_lst {K : PySem.W.Frag} {H : Hp} {p : Addr} {xs : List V} (h : H p = some (.lst xs)) : TyX K H (.ref p) (.type "list") := .base (.lst h)
end Rf

namespace Rf
open PySem PySem.Spec PyProof.Rows L2
open C8 (Cal pe_c pe_gc)
local macro_rules | `(tactic| walk_at "side") => `(tactic| first
  | ((with_reducible show IntMulOk _ _); first | assumption | exact (show ∀ i : Int, IntMulOk i _ from by assumption) _ | (refine mulB_right ?_ ?_ <;> omega) | (refine mulB_left ?_ ?_ <;> omega))
  | ((with_reducible show CDivP _ _); first | assumption | exact (show ∀ i : Int, CDivP i _ from by assumption) _ | (refine cdivp_small ?_ ?_ <;> omega))
  | ((with_reducible show (_ : Int) < _); first | assumption | omega | decide)
  | ((with_reducible show scal _ _ = true); rfl)
  | ((with_reducible show _ ≤ sizeLine); first | exact sz100 (Nat.le_of_ble_eq_true rfl) | exact sz100 (by omega))
  | ((with_reducible show CPow _ _); dsimp only [CPow]; decide))
local macro_rules | `(tactic| walk_at "sq") => `(tactic| first | assumption | exact sql (by assumption) | exact sqt (by assumption) | exact sqt upd_same | exact sql upd_same)
local macro_rules | `(tactic| walk_at "call") => `(tactic| fail)
local macro_rules | `(tactic| walk_at "st1") => `(tactic| first
  | refine ⟨_, rfl, ?_⟩
  | refine ⟨_, _, rfl, rfl, ?_⟩
  | refine And.intro (by walk_at "side") ?_
  | refine ⟨_, _, rfl, .inl (by walk_at "sq"), ?_⟩
  | refine ⟨_, _, rfl, .inr (by walk_at "sq"), ?_⟩
  | refine And.intro rfl ?_
  | refine ⟨_, _, _, _, rfl, rfl, (by walk_at "sq"), rfl, ?_⟩
  | refine ⟨_, _, rfl, (by walk_at "sq"), rfl, ?_⟩
  | refine ⟨_, _, _, _, _, rfl, .ty _, (by first | exact tyx_tup (by assumption) | exact tyx_lst (by assumption)), (by first | exact kit_tup | exact kit_lst), ?_⟩
  | refine ⟨_, _, rfl, ?_⟩
  | walk_at "call")
local macro_rules | `(tactic| walk_at "st") => `(tactic| repeat walk_at "st1")
def topS (i : Nat) : Stmt := PySem.Challenge.pw_ringfigures_k09_whole_a_figure_further.main.body.getD i (.Pass ⟨0, 0, 0, 0⟩)
/-- what the module's names hold -/
structure Md (K : PySem.W.Frag) (mg : Str → Option Value) : Prop where
  m_len : mg "len" = none
  m_isinstance : mg "isinstance" = none
  m_int : mg "int" = none
  m_bool : mg "bool" = none
  m_tuple : mg "tuple" = none
  m_list : mg "list" = none
  g_GREATEST : ∃ u, mg "GREATEST" = some u ∧ RelV (.int 1000000000000) u
  g_MOST_BOTTOM : ∃ u, mg "MOST_BOTTOM" = some u ∧ RelV (.int 2000) u
abbrev s_askedbase : Stmt := topS 7
theorem sc_askedbase : FnScope ["base"] ["base"] (defScope s_askedbase) := ⟨rfl, rfl, rfl, by decide +kernel, rfl, by decide +kernel, by decide +kernel⟩
@[irreducible] def sp_askedbase (K : PySem.W.Frag) : Sp := fun vs H Q _ => ∃ (x : Int), vs = [.int x] ∧ 2 ≤ x ∧ x ≤ 36 ∧ Q .non H
theorem go_askedbase {K : PySem.W.Frag} {H : Hp} {x : Int} {Q : VK} {E : XK} (h1 : 2 ≤ x) (h2 : x ≤ 36) (q : Q .non H) : sp_askedbase K [.int x] H Q E := by
  unfold sp_askedbase; exact ⟨x, rfl, h1, h2, q⟩
local macro_rules | `(tactic| walk_at "call") => `(tactic| refine go_askedbase (by omega) (by omega) ?_)
section
variable {P : Program} {w : World} {K : PySem.W.Frag} {mg : Str → Option Value} {base : Heap}
theorem ok_askedbase {f : Addr} {fd : FuncData} (F : Fun K "asked_base" "asked_base" s_askedbase f fd) (M : Md K mg) : FnOk P w K mg base CX0 1 f fd ["base"] (sp_askedbase K) := by
  refine F.ok sc_askedbase (fun vs H Q E h => ?_) (fun cdv A outer s H vs Q E hr h => ?_)
  · unfold sp_askedbase at h; obtain ⟨x, rfl, h1, h2, q⟩ := h
    rfl
  · have hu := hu_of hr
    unfold sp_askedbase at h; obtain ⟨x, rfl, h1, h2, q⟩ := h
    refine ⟨_, (pss_one (ps_if (PW.pt (pw_or (pt_cmpR op_lt (pv 0) pe_int (nomark _)) (pw_or1 (pt_cmpR op_gt (pv 0) pe_int (nomark _)))))
        (pss_one ps_never) pss_nil)), ?_⟩
    walk_at "st"
    refine iteD (fun e => absurd e (by omega)) (fun _ => ?_)
    walk_at "st"
    refine iteD (fun e => absurd e (by omega)) (fun _ => ?_)
    exact q
end
abbrev s_askedfraction : Stmt := topS 8
theorem sc_askedfraction : FnScope ["base", "top", "bottom"] ["base", "top", "bottom"] (defScope s_askedfraction) := ⟨rfl, rfl, rfl, by decide +kernel, rfl, by decide +kernel, by decide +kernel⟩
@[irreducible] def sp_askedfraction (K : PySem.W.Frag) : Sp := fun vs H Q _ => ∃ (x y z : Int), vs = [.int x, .int y, .int z] ∧ 2 ≤ x ∧ x ≤ 36 ∧ 0 ≤ y ∧ y ≤ 1000000000000 ∧ 1 ≤ z ∧ z ≤ 2000 ∧ Q .non H
theorem go_askedfraction {K : PySem.W.Frag} {H : Hp} {x y z : Int} {Q : VK} {E : XK} (h1 : 2 ≤ x) (h2 : x ≤ 36) (h3 : 0 ≤ y) (h4 : y ≤ 1000000000000) (h5 : 1 ≤ z) (h6 : z ≤ 2000) (q : Q .non H) : sp_askedfraction K [.int x, .int y, .int z] H Q E := by
  unfold sp_askedfraction; exact ⟨x, y, z, rfl, h1, h2, h3, h4, h5, h6, q⟩
local macro_rules | `(tactic| walk_at "call") => `(tactic| refine go_askedfraction (by omega) (by omega) (by omega) (by omega) (by omega) (by omega) ?_)
section
variable {P : Program} {w : World} {K : PySem.W.Frag} {mg : Str → Option Value} {base : Heap}
theorem ok_askedfraction {f : Addr} {fd : FuncData} (F : Fun K "asked_fraction" "asked_fraction" s_askedfraction f fd) (M : Md K mg) (c_askedbase : Cal P w K mg base 1 "asked_base" (sp_askedbase K) []) : FnOk P w K mg base CX0 2 f fd ["base", "top", "bottom"] (sp_askedfraction K) := by
  refine F.ok sc_askedfraction (fun vs H Q E h => ?_) (fun cdv A outer s H vs Q E hr h => ?_)
  · unfold sp_askedfraction at h; obtain ⟨x, y, z, rfl, h1, h2, h3, h4, h5, h6, q⟩ := h
    rfl
  · have hu := hu_of hr
    unfold sp_askedfraction at h; obtain ⟨x, y, z, rfl, h1, h2, h3, h4, h5, h6, q⟩ := h
    refine ⟨_, (pss_cons (ps_expr (pe_c c_askedbase hr (by decide) (by rfl) (pa_cons (pv 0) pa_nil)))
      (pss_one (ps_if (PW.pt (pw_or (pt_cmpR op_lt (pv 1) pe_int (nomark _)) (pw_or (pt_cmpR op_gt (pv 1) (pe_gc (by rfl) M.g_GREATEST) (nomark _)) (pw_or (pt_cmpR op_lt (pv 2) pe_int (nomark _)) (pw_or1 (pt_cmpR op_gt (pv 2) (pe_gc (by rfl) M.g_MOST_BOTTOM) (nomark _)))))))
        (pss_one ps_never) pss_nil))), ?_⟩
    walk_at "st"
    refine iteD (fun e => absurd e (by omega)) (fun _ => ?_)
    walk_at "st"
    refine iteD (fun e => absurd e (by omega)) (fun _ => ?_)
    walk_at "st"
    refine iteD (fun e => absurd e (by omega)) (fun _ => ?_)
    walk_at "st"
    refine iteD (fun e => absurd e (by omega)) (fun _ => ?_)
    exact q
end
abbrev s_divided : Stmt := topS 9
theorem sc_divided : FnScope ["base", "top", "bottom", "rest", "places", "figures"] ["base", "top", "bottom"] (defScope s_divided) := ⟨rfl, rfl, rfl, by decide +kernel, rfl, by decide +kernel, by decide +kernel⟩
@[irreducible] def sp_divided (K : PySem.W.Frag) : Sp := fun vs H Q _ => ∃ (x y z : Int) (b t m s l : Nat), vs = [.int x, .int y, .int z] ∧ x = b ∧ y = t ∧ z = m ∧ 0 < m ∧ b < 100 ∧ Wid m ∧ DivAt b m (t % m) s l ∧ s + l ≤ 100000 ∧
  ∀ H' p a r, WrNew H H' p a r ⟨((t / m : Nat) : Int), dgs b m (t % m) 0 s, dgs b m (t % m) s l⟩ → Q (.ref p) H'
theorem go_divided {K : PySem.W.Frag} {H : Hp} {x y z : Int} {Q : VK} {E : XK} (b t m s l : Nat) (hx : x = b) (hy : y = t) (hz : z = m) (hm : 0 < m) (hb : b < 100) (hw : Wid m) (hd : DivAt b m (t % m) s l) (hn : s + l ≤ 100000)
    (q : ∀ H' p a r, WrNew H H' p a r ⟨((t / m : Nat) : Int), dgs b m (t % m) 0 s, dgs b m (t % m) s l⟩ → Q (.ref p) H') : sp_divided K [.int x, .int y, .int z] H Q E := by
  unfold sp_divided; exact ⟨x, y, z, b, t, m, s, l, rfl, hx, hy, hz, hm, hb, hw, hd, hn, q⟩
section
variable {P : Program} {w : World} {K : PySem.W.Frag} {mg : Str → Option Value} {base : Heap}
theorem ok_divided {f : Addr} {fd : FuncData} (F : Fun K "divided" "divided" s_divided f fd) (M : Md K mg) : FnOk P w K mg base CX0 1 f fd ["base", "top", "bottom"] (sp_divided K) := by
  refine F.ok sc_divided (fun vs H Q E h => ?_) (fun cdv A outer s H vs Q E hr h => ?_)
  · unfold sp_divided at h; obtain ⟨x, y, z, b, t, m, s, l, rfl, rfl, rfl, rfl, hm, hb, hw, hd, hn, q⟩ := h
    rfl
  · have hu := hu_of hr
    unfold sp_divided at h; obtain ⟨x, y, z, b, t, m, s, l, rfl, rfl, rfl, rfl, hm, hb, hw, hd, hn, q⟩ := h
    have hmi : (0 : Int) < (m : Int) := by omega
    have cd : ∀ i : Int, CDivP i (m : Int) := fun i => cdivp_wide hm hw
    have mb : ∀ i : Int, IntMulOk i (b : Int) := fun i => mulB_right (by omega) (by omega)
    have e0 : (t : Int) % (m : Int) = ((rs b m (t % m) 0 : Nat) : Int) := by rw [rs_zero (Nat.mod_lt _ hm)]; rfl
    have eq : (t : Int) / (m : Int) = ((t / m : Nat) : Int) := rfl
    refine ⟨_, (pss_cons (ps_set (i := 3) sc_divided.nd rfl (.inl rfl) (pe_op op_mod (pv 1) (pv 2)))
      (pss_cons (ps_set (i := 4) sc_divided.nd rfl (.inl rfl) pe_dnewK)
      (pss_cons (ps_set (i := 5) sc_divided.nd rfl (.inl rfl) (pe_lst pa_nil))
      (pss_cons (ps_while PassesOwn.never (PW.pt (pw_and (pt_cmpR op_gt (pv 3) pe_int (nomark _)) (pw_and1 (pt_cmp (pc_dnotin hu (pv 3) (pv 4))))))
        (pss_cons (ps_dput hu (pv 4) (pv 3) (pe_callB call_len_seq (by rfl) M.m_len PySem.boot_len (pa_cons (pv 5) pa_nil)) rfl)
      (pss_cons (ps_expr (pe_bm PySem.F.plainAttrs_list PySem.F.slot_list_append PySem.F.type_list_append mt_append (pv 5) (pa_cons (pe_op op_fdivP (pe_op op_mulB (pv 3) (pv 0)) (pv 2)) pa_nil)))
      (pss_one (ps_set (i := 3) sc_divided.nd rfl (.inl rfl) (pe_op op_mod (pe_op op_mulB (pv 3) (pv 0)) (pv 2)))))))
      (pss_cons (ps_if (pt_cmpR op_eq (pv 3) pe_int (nomark _))
        (pss_one (ps_ret (pe_tup (pa_cons (pe_op op_fdivP (pv 1) (pv 2)) (pa_cons (pv 5) (pa_cons (pe_lst pa_nil) pa_nil)))))) pss_nil)
      (pss_one (ps_ret (pe_tup (pa_cons (pe_op op_fdivP (pv 1) (pv 2)) (pa_cons (pe_slice sl_list (pv 5) po_none (po_some (pe_dget hu (pv 4) (pv 3) (fun _ _ => rfl)))) (pa_cons (pe_slice sl_list (pv 5) (po_some (pe_dget hu (pv 4) (pv 3) (fun _ _ => rfl))) po_none) pa_nil))))))))))), ?_⟩
    walk_at "st"
    intro d nd
    walk_at "st"
    intro f nf
    have nd2 : H d = none := nd
    have nf2 : H f = none := free_upd nf
    have ndf : f ≠ d := ne_new nf
    refine ⟨fun μ σ H' => ∃ n kvs, n ≤ s + l ∧ μ = s + l - n ∧ σ = [some (.int b), some (.int t), some (.int m), some (.int ((rs b m (t % m) n : Nat) : Int)), some (.ref d), some (.ref f)] ∧ Same H H' ∧ H' d = some (.dK kvs) ∧ kvs.length = n ∧
        (∀ k, k < n → valV kvs (Sum.inl ((rs b m (t % m) k : Nat) : Int) : Key) = some (.int (k : Int))) ∧ (∀ z : Nat, (∀ k, k < n → rs b m (t % m) k ≠ z) → valV kvs (Sum.inl (z : Int) : Key) = none) ∧ H' f = some (.lst ((dgs b m (t % m) 0 n).map V.int)),
      ⟨s + l, 0, [], Nat.zero_le _, rfl, ?_, same_new (same_new (Same.refl H) nd2) nf2, ?_, rfl, fun k hk => by omega, fun z _ => rfl, ?_⟩, fun μ σ H' hW => ?_⟩
    · rw [← e0]; rfl
    · rw [upd_ne (Ne.symm ndf), upd_same]
    · exact upd_same
    obtain ⟨n, kvs, hnl, rfl, rfl, sm, hD, hk, hin, hout, hF⟩ := hW
    have hSq : SqL K H' f ((dgs b m (t % m) 0 n).map V.int) := sql hF
    have hlen : ((dgs b m (t % m) 0 n).map V.int).length = n := by rw [List.length_map, dgs_len]
    walk_at "st"
    by_cases hlt : n < s + l
    · -- one more figure
      have hp := hd.pos n hlt
      have hv : valV kvs (Sum.inl ((rs b m (t % m) n : Nat) : Int) : Key) = none := hout _ fun k hk' e => hd.new k n hk' hlt e
      refine iteD (fun _ => ?_) (fun e => absurd e (by omega))
      walk_at "st"
      refine ⟨d, _, rfl, DGet.k (k := Sum.inl ((rs b m (t % m) n : Nat) : Int)) hD, _, rfl, ?_⟩
      rw [hv]
      refine ⟨fun σ2 H2 => σ2 = [some (.int b), some (.int t), some (.int m), some (.int ((rs b m (t % m) (n + 1) : Nat) : Int)), some (.ref d), some (.ref f)] ∧ Same H H2 ∧ H2 d = some (.dK (kvs ++ [(Sum.inl ((rs b m (t % m) n : Nat) : Int), .int (n : Int))])) ∧ H2 f = some (.lst ((dgs b m (t % m) 0 (n + 1)).map V.int)),
        fun σ2 H2 ⟨e1, e2, e3, e4⟩ => ⟨s + l - (n + 1), by omega, n + 1, _, by omega, rfl, e1, e2, e3, by rw [List.length_append, hk]; rfl, fun k hk' => ?_, fun z hz => ?_, e4⟩, ?_⟩
      · rw [valV_snoc _ _ _ _ hv]
        by_cases hkn : k = n
        · subst hkn; rw [if_pos rfl]
        · rw [if_neg (keyne (hd.new k n (by omega) hlt)), hin k (by omega)]
      · rw [valV_snoc _ _ _ _ hv, if_neg (keyne fun q => hz n (by omega) q.symm), hout z fun k hk' => hz k (by omega)]
      · -- places[rest] = len(figures)
        refine ⟨_, rfl, f, _, rfl, .inl hSq, ?_⟩
        rw [hlen]
        refine ⟨_, rfl, _, rfl, d, _, rfl, DPut.k (k := Sum.inl ((rs b m (t % m) n : Nat) : Int)) hD (sz100lt (by omega)), ?_⟩
        rw [putK_new _ hv]
        have hF2 : (upd H' d (.dK (kvs ++ [(Sum.inl ((rs b m (t % m) n : Nat) : Int), V.int (n : Int))]))) f = some (.lst ((dgs b m (t % m) 0 n).map V.int)) := by rw [upd_ne ndf]; exact hF
        -- figures.append(..)
        refine ⟨_, rfl, .inl ⟨rfl, _, sql hF2⟩, ?_⟩
        walk_at "st"
        refine ⟨f, _, _, rfl, rfl, hF2, by rw [hlen]; exact sz100lt (by omega), ?_⟩
        walk_at "st"
        refine ⟨?_, same_new (same_new sm nd2) nf2, ?_, ?_⟩
        · rw [rs_succ]; rfl
        · rw [upd_ne (Ne.symm ndf), upd_same]
        · rw [upd_same, dgs_succ, List.map_append, Nat.zero_add]; rfl
    · have hns : n = s + l := by omega
      subst hns
      by_cases hl : l = 0
      · -- nothing is left
        subst hl
        have h0 := hd.fin rfl
        rw [Nat.add_zero] at *
        rw [h0]
        refine iteD (fun e => absurd e (by decide)) (fun _ => ?_)
        walk_at "st"
        intro g ng
        walk_at "st"
        intro p np
        have ngf : g ≠ f := fun z => by rw [z, hF] at ng; cases ng
        refine q _ p f g ⟨⟨upd_same, ?_, ?_⟩, same_new (same_new sm (sm.free ng)) (sm.free (free_upd np)), sm.free (free_upd np), nf2, sm.free ng, Ne.symm ngf⟩
        · rw [upd_ne (fun z => ?_), upd_ne (Ne.symm ngf)]
          · exact hF
          · rw [z] at hF; rw [free_upd np] at hF; cases hF
        · rw [upd_ne (Ne.symm (ne_new np)), upd_same]; rfl
      · have hrep := hd.rep (by omega)
        have hs0 := hd.pos s (by omega)
        have hv : valV kvs (Sum.inl ((rs b m (t % m) s : Nat) : Int) : Key) = some (.int (s : Int)) := hin s (by omega)
        rw [hrep]
        refine iteD (fun _ => ?_) (fun e => absurd e (by omega))
        walk_at "st"
        refine ⟨d, _, rfl, DGet.k (k := Sum.inl ((rs b m (t % m) s : Nat) : Int)) hD, _, rfl, ?_⟩
        rw [hv]
        walk_at "st"
        refine iteE (fun e => absurd e (by omega)) (fun _ => ?_)
        walk_at "st"
        have hg : DGet H' d (.int ((rs b m (t % m) s : Nat) : Int)) (some (.int (s : Int))) := by
          rw [← hv]; exact DGet.k (k := Sum.inl ((rs b m (t % m) s : Nat) : Int)) hD
        refine ⟨_, _, rfl, hg, _, rfl, f, _, rfl, hSq, fun a na => ?_⟩
        rw [cut_take, take_map, dgs_take _ _ _ _ _ (by omega)]
        have naf : a ≠ f := fun z => by rw [z, hF] at na; cases na
        have nad : a ≠ d := fun z => by rw [z, hD] at na; cases na
        walk_at "st"
        have hF1 := hF
        have hg1 : DGet (upd H' a (.lst ((dgs b m (t % m) 0 s).map V.int))) d (.int ((rs b m (t % m) s : Nat) : Int)) (some (.int (s : Int))) := by
          rw [← hv]; exact DGet.k (k := Sum.inl ((rs b m (t % m) s : Nat) : Int)) (by rw [upd_ne (Ne.symm nad)]; exact hD)
        have hSq1 : SqL K (upd H' a (.lst ((dgs b m (t % m) 0 s).map V.int))) f ((dgs b m (t % m) 0 (s + l)).map V.int) := sql (by rw [upd_ne (Ne.symm naf)]; exact hF)
        refine ⟨_, _, rfl, hg1, _, rfl, f, _, rfl, hSq1, fun g ng => ?_⟩
        rw [cut_drop, drop_map, dgs_drop _ _ _ _ _ (by omega), Nat.add_sub_cancel_left]
        walk_at "st"
        intro p np
        have np1 := free_upd np
        have np2 := free_upd np1
        refine q _ p a g ⟨⟨upd_same, ?_, ?_⟩, same_new (same_new (same_new sm (sm.free na)) (sm.free (free_upd ng))) (sm.free np2), sm.free np2, sm.free na, sm.free (free_upd ng), Ne.symm (ne_new ng)⟩
        · rw [upd_ne (Ne.symm (ne_new np1)), upd_ne (Ne.symm (ne_new ng)), upd_same]
        · rw [upd_ne (Ne.symm (ne_new np)), upd_same]
end
abbrev s_written : Stmt := topS 10
theorem sc_written : FnScope ["base", "top", "bottom"] ["base", "top", "bottom"] (defScope s_written) := ⟨rfl, rfl, rfl, by decide +kernel, rfl, by decide +kernel, by decide +kernel⟩
@[irreducible] def sp_written (K : PySem.W.Frag) : Sp := fun vs H Q _ => ∃ (x y z : Int) (b t m s l : Nat), vs = [.int x, .int y, .int z] ∧ x = b ∧ y = t ∧ z = m ∧ 2 ≤ b ∧ b ≤ 36 ∧ t ≤ 1000000000000 ∧ 1 ≤ m ∧ m ≤ 2000 ∧ DivAt b m (t % m) s l ∧
  ∀ H' p a r, WrNew H H' p a r ⟨((t / m : Nat) : Int), dgs b m (t % m) 0 s, dgs b m (t % m) s l⟩ → Q (.ref p) H'
theorem go_written {K : PySem.W.Frag} {H : Hp} {x y z : Int} {Q : VK} {E : XK} (b t m s l : Nat) (hx : x = b) (hy : y = t) (hz : z = m) (h1 : 2 ≤ b) (h2 : b ≤ 36) (h3 : t ≤ 1000000000000) (h4 : 1 ≤ m) (h5 : m ≤ 2000) (hd : DivAt b m (t % m) s l)
    (q : ∀ H' p a r, WrNew H H' p a r ⟨((t / m : Nat) : Int), dgs b m (t % m) 0 s, dgs b m (t % m) s l⟩ → Q (.ref p) H') : sp_written K [.int x, .int y, .int z] H Q E := by
  unfold sp_written; exact ⟨x, y, z, b, t, m, s, l, rfl, hx, hy, hz, h1, h2, h3, h4, h5, hd, q⟩
theorem DivAt.le {b m r s l : Nat} (h : DivAt b m r s l) (hm : 0 < m) : s + l ≤ m := by
  obtain ⟨s', l', hl, h'⟩ := divAt_exists (b := b) (r := r) hm
  obtain ⟨e1, e2⟩ := h.unique h'
  omega
section
variable {P : Program} {w : World} {K : PySem.W.Frag} {mg : Str → Option Value} {base : Heap}
theorem ok_written {f : Addr} {fd : FuncData} (F : Fun K "written" "written" s_written f fd) (M : Md K mg) (c_askedfraction : Cal P w K mg base 2 "asked_fraction" (sp_askedfraction K) []) (c_divided : Cal P w K mg base 1 "divided" (sp_divided K) []) : FnOk P w K mg base CX0 3 f fd ["base", "top", "bottom"] (sp_written K) := by
  refine F.ok sc_written (fun vs H Q E h => ?_) (fun cdv A outer s H vs Q E hr h => ?_)
  · unfold sp_written at h; obtain ⟨x, y, z, b, t, m, s, l, rfl, rfl, rfl, rfl, h1, h2, h3, h4, h5, hd, q⟩ := h
    rfl
  · have hu := hu_of hr
    unfold sp_written at h; obtain ⟨x, y, z, b, t, m, s, l, rfl, rfl, rfl, rfl, h1, h2, h3, h4, h5, hd, q⟩ := h
    refine ⟨_, (pss_cons (ps_expr (pe_c c_askedfraction hr (by decide) (by rfl) (pa_cons (pv 0) (pa_cons (pv 1) (pa_cons (pv 2) pa_nil)))))
      (pss_one (ps_ret (pe_c c_divided hr (by decide) (by rfl) (pa_cons (pv 0) (pa_cons (pv 1) (pa_cons (pv 2) pa_nil))))))), ?_⟩
    walk_at "st"
    have := hd.le h4
    exact go_divided b t m s l rfl rfl rfl (by omega) (by omega) (wid_small (by omega)) hd (by omega) q
end
abbrev s_restat : Stmt := topS 12
theorem sc_restat : FnScope ["base", "top", "bottom", "place", "found", "factor"] ["base", "top", "bottom", "place"] (defScope s_restat) := ⟨rfl, rfl, rfl, by decide +kernel, rfl, by decide +kernel, by decide +kernel⟩
@[irreducible] def sp_restat (K : PySem.W.Frag) : Sp := fun vs H Q _ => ∃ (x y z k : Int) (b t m n : Nat), vs = [.int x, .int y, .int z, .int k] ∧ x = b ∧ y = t ∧ z = m ∧ k = n ∧ 0 < m ∧ m < 1000000 ∧ Q (.int ((rs b m (t % m) n : Nat) : Int)) H
theorem go_restat {K : PySem.W.Frag} {H : Hp} {x y z k : Int} {Q : VK} {E : XK} (b t m n : Nat) (hx : x = b) (hy : y = t) (hz : z = m) (hk : k = n) (hm : 0 < m) (hm2 : m < 1000000) (q : Q (.int ((rs b m (t % m) n : Nat) : Int)) H) : sp_restat K [.int x, .int y, .int z, .int k] H Q E := by
  unfold sp_restat; exact ⟨x, y, z, k, b, t, m, n, rfl, hx, hy, hz, hk, hm, hm2, q⟩
section
variable {P : Program} {w : World} {K : PySem.W.Frag} {mg : Str → Option Value} {base : Heap}
theorem ok_restat {f : Addr} {fd : FuncData} (F : Fun K "rest_at" "rest_at" s_restat f fd) (M : Md K mg) : FnOk P w K mg base CX0 1 f fd ["base", "top", "bottom", "place"] (sp_restat K) := by
  refine F.ok sc_restat (fun vs H Q E h => ?_) (fun cdv A outer s H vs Q E hr h => ?_)
  · unfold sp_restat at h; obtain ⟨x, y, z, k, b, t, m, n, rfl, rfl, rfl, rfl, rfl, hm, hm2, q⟩ := h
    rfl
  · have hu := hu_of hr
    unfold sp_restat at h; obtain ⟨x, y, z, k, b, t, m, n, rfl, rfl, rfl, rfl, rfl, hm, hm2, q⟩ := h
    have hmi : (0 : Int) < (m : Int) := by omega
    refine ⟨_, (pss_cons (ps_set (i := 4) sc_restat.nd rfl (.inl rfl) (pe_op op_mod (pv 1) (pv 2)))
      (pss_cons (ps_set (i := 5) sc_restat.nd rfl (.inl rfl) (pe_op op_mod (pv 0) (pv 2)))
      (pss_cons (ps_while PassesOwn.never (pt_cmpR op_gt (pv 3) pe_int (nomark _))
        (pss_cons (ps_if (pt_cmpR op_eq (pe_op op_mod (pv 3) pe_int) pe_int (nomark _))
        (pss_one (ps_set (i := 4) sc_restat.nd rfl (.inl rfl) (pe_op op_mod (pe_op op_mulB (pv 4) (pv 5)) (pv 2)))) pss_nil)
      (pss_cons (ps_set (i := 5) sc_restat.nd rfl (.inl rfl) (pe_op op_mod (pe_op op_mulB (pv 5) (pv 5)) (pv 2)))
      (pss_one (ps_set (i := 3) sc_restat.nd rfl (.inl rfl) (pe_op op_fdivP (pv 3) pe_int))))))
      (pss_one (ps_ret (pv 4)))))), ?_⟩
    walk_at "st"
    refine ⟨fun μ σ H' => ∃ (F G p : Nat), μ = p ∧ F < m ∧ G < m ∧ F * G ^ p % m = rs b m (t % m) n ∧ H' = H ∧ σ = [some (.int (b : Int)), some (.int (t : Int)), some (.int (m : Int)), some (.int (p : Int)), some (.int (F : Int)), some (.int (G : Int))],
      ⟨n, t % m, b % m, n, rfl, Nat.mod_lt _ hm, Nat.mod_lt _ hm, ?_, rfl, rfl⟩, fun μ σ H' hW => ?_⟩
    · unfold rs
      rw [Nat.mul_mod, ← Nat.pow_mod, ← Nat.mul_mod]
    obtain ⟨F, G, p, eμ, hF, hG, e, eH, eσ⟩ := hW
    subst eμ eH eσ
    walk_at "st"
    refine iteD (fun hp => ?_) (fun hp => ?_)
    · have h0 : 0 < μ := by omega
      refine ⟨fun σ H2 => ∃ (F' : Nat), F' < m ∧ F' * (G * G % m) ^ (μ / 2) % m = rs b m (t % m) n ∧ H2 = H' ∧ σ = [some (.int (b : Int)), some (.int (t : Int)), some (.int (m : Int)), some (.int ((μ / 2 : Nat) : Int)), some (.int (F' : Int)), some (.int ((G * G % m : Nat) : Int))],
        fun σ H2 hN => ?_, ?_⟩
      · obtain ⟨F', hF', e', eH', eσ'⟩ := hN
        exact ⟨μ / 2, by omega, F', _, _, rfl, hF', Nat.mod_lt _ hm, e', eH', eσ'⟩
      · have key := pow_half F G m μ
        walk_at "st"
        refine iteE (fun c => ?_) (fun c => ?_)
        · rw [if_pos (show μ % 2 = 1 by omega), e] at key
          walk_at "st"
          exact ⟨F * G % m, Nat.mod_lt _ hm, key, rfl, rfl⟩
        · rw [if_neg (show ¬ μ % 2 = 1 by omega), e] at key
          walk_at "st"
          exact ⟨F, hF, key, rfl, rfl⟩
    · have h0 : μ = 0 := by omega
      rw [h0, Nat.pow_zero, Nat.mul_one, Nat.mod_eq_of_lt hF] at e
      rw [← e] at q
      walk_at "st"
      exact q
end
abbrev s_figureat : Stmt := topS 13
theorem sc_figureat : FnScope ["base", "top", "bottom", "place"] ["base", "top", "bottom", "place"] (defScope s_figureat) := ⟨rfl, rfl, rfl, by decide +kernel, rfl, by decide +kernel, by decide +kernel⟩
@[irreducible] def sp_figureat (K : PySem.W.Frag) : Sp := fun vs H Q _ => ∃ (x y z k : Int) (b t m n : Nat), vs = [.int x, .int y, .int z, .int k] ∧ x = b ∧ y = t ∧ z = m ∧ k = n ∧ 2 ≤ b ∧ b ≤ 36 ∧ t ≤ 1000000000000 ∧ 1 ≤ m ∧ m ≤ 2000 ∧ Q (.int ((dg b m (t % m) n : Nat) : Int)) H
theorem go_figureat {K : PySem.W.Frag} {H : Hp} {x y z k : Int} {Q : VK} {E : XK} (b t m n : Nat) (hx : x = b) (hy : y = t) (hz : z = m) (hk : k = n) (h1 : 2 ≤ b) (h2 : b ≤ 36) (h3 : t ≤ 1000000000000) (h4 : 1 ≤ m) (h5 : m ≤ 2000) (q : Q (.int ((dg b m (t % m) n : Nat) : Int)) H) : sp_figureat K [.int x, .int y, .int z, .int k] H Q E := by
  unfold sp_figureat; exact ⟨x, y, z, k, b, t, m, n, rfl, hx, hy, hz, hk, h1, h2, h3, h4, h5, q⟩
section
variable {P : Program} {w : World} {K : PySem.W.Frag} {mg : Str → Option Value} {base : Heap}
theorem ok_figureat {f : Addr} {fd : FuncData} (F : Fun K "figure_at" "figure_at" s_figureat f fd) (M : Md K mg) (c_askedfraction : Cal P w K mg base 2 "asked_fraction" (sp_askedfraction K) []) (c_restat : Cal P w K mg base 1 "rest_at" (sp_restat K) []) : FnOk P w K mg base CX0 3 f fd ["base", "top", "bottom", "place"] (sp_figureat K) := by
  refine F.ok sc_figureat (fun vs H Q E h => ?_) (fun cdv A outer s H vs Q E hr h => ?_)
  · unfold sp_figureat at h; obtain ⟨x, y, z, k, b, t, m, n, rfl, rfl, rfl, rfl, rfl, h1, h2, h3, h4, h5, q⟩ := h
    rfl
  · have hu := hu_of hr
    unfold sp_figureat at h; obtain ⟨x, y, z, k, b, t, m, n, rfl, rfl, rfl, rfl, rfl, h1, h2, h3, h4, h5, q⟩ := h
    refine ⟨_, (pss_cons (ps_expr (pe_c c_askedfraction hr (by decide) (by rfl) (pa_cons (pv 0) (pa_cons (pv 1) (pa_cons (pv 2) pa_nil)))))
      (pss_one (ps_ret (pe_op op_fdivP (pe_op op_mulB (pe_c c_restat hr (by decide) (by rfl) (pa_cons (pv 0) (pa_cons (pv 1) (pa_cons (pv 2) (pa_cons (pv 3) pa_nil))))) (pv 0)) (pv 2))))), ?_⟩
    walk_at "st"
    refine go_restat b t m n rfl rfl rfl rfl (by omega) (by omega) ?_
    walk_at "st"
    exact q
end
abbrev s_xlawcellat : Stmt := topS 15
theorem sc_xlawcellat : FnScope ["script", "k"] ["script", "k"] (defScope s_xlawcellat) := ⟨rfl, rfl, rfl, by decide +kernel, rfl, by decide +kernel, by decide +kernel⟩
/-- the k-th of the script's numbers, or 0 -/
def cl (ns : List Int) (k : Nat) : Int := ns.getD k 0
@[irreducible] def sp_xlawcellat (K : PySem.W.Frag) : Sp := fun vs H Q _ => ∃ (a : Addr) (ns : List Int) (x : Int), vs = [.ref a, .int x] ∧ 0 ≤ x ∧ SqL K H a (ns.map V.int) ∧ Q (.int (cl ns x.toNat)) H
theorem go_cell {K : PySem.W.Frag} {H : Hp} {a : Addr} {ns : List Int} {x : Int} {Q : VK} {E : XK} (hx : 0 ≤ x) (hS : SqL K H a (ns.map V.int)) (q : Q (.int (cl ns x.toNat)) H) : sp_xlawcellat K [.ref a, .int x] H Q E := by
  unfold sp_xlawcellat; exact ⟨a, ns, x, rfl, hx, hS, q⟩
local macro_rules | `(tactic| walk_at "call") => `(tactic| refine go_cell (by omega) (by walk_at "sq") ?_)
theorem cl_in {ns : List Int} {k : Nat} (h : k < ns.length) : cl ns k = ns[k] := by
  unfold cl; rw [List.getD_eq_getElem?_getD, List.getElem?_eq_getElem h]; rfl
theorem cl_out {ns : List Int} {k : Nat} (h : ns.length ≤ k) : cl ns k = 0 := by
  unfold cl; rw [List.getD_eq_getElem?_getD, List.getElem?_eq_none h]; rfl
section
variable {P : Program} {w : World} {K : PySem.W.Frag} {mg : Str → Option Value} {base : Heap}
theorem ok_xlawcellat {f : Addr} {fd : FuncData} (F : Fun K "_law_cell_at" "_law_cell_at" s_xlawcellat f fd) (M : Md K mg) : FnOk P w K mg base CX0 1 f fd ["script", "k"] (sp_xlawcellat K) := by
  refine F.ok sc_xlawcellat (fun vs H Q E h => ?_) (fun cdv A outer s H vs Q E hr h => ?_)
  · unfold sp_xlawcellat at h; obtain ⟨a, ns, x, rfl, hx, hS, q⟩ := h
    rfl
  · have hu := hu_of hr
    unfold sp_xlawcellat at h; obtain ⟨a, ns, x, rfl, hx, hS, q⟩ := h
    obtain ⟨k, rfl⟩ : ∃ k : Nat, x = (k : Int) := ⟨x.toNat, by omega⟩
    rw [Int.toNat_natCast] at q
    refine ⟨_, (pss_cons (ps_if (pt_cmpR op_lt (pv 1) (pe_callB call_len_seq (by rfl) M.m_len PySem.boot_len (pa_cons (pv 0) pa_nil)) (nomark _))
        (pss_one (ps_ret (pe_ix ix_list (pv 0) (pv 1) (fun _ _ => rfl)))) pss_nil)
      (pss_one (ps_ret pe_int))), ?_⟩
    walk_at "st"
    rw [List.length_map]
    refine iteD (fun e => ?_) (fun e => ?_)
    · have hk : k < ns.length := by omega
      walk_at "st"
      refine ⟨a, _, _, _, rfl, rfl, hS, atI_nat (map_get (List.getElem?_eq_getElem hk)), ?_⟩
      rw [← cl_in hk]
      exact q
    · rw [cl_out (by omega)] at q
      exact q
end
abbrev s_xlawwhole : Stmt := topS 16
theorem sc_xlawwhole : FnScope ["found"] ["found"] (defScope s_xlawwhole) := ⟨rfl, rfl, rfl, by decide +kernel, rfl, by decide +kernel, by decide +kernel⟩
@[irreducible] def sp_xlawwhole (K : PySem.W.Frag) : Sp := fun vs H Q _ => ∃ i : Int, vs = [.int i] ∧ Q (.bl true) H
theorem go_whole {K : PySem.W.Frag} {H : Hp} {i : Int} {Q : VK} {E : XK} (q : Q (.bl true) H) : sp_xlawwhole K [.int i] H Q E := by
  unfold sp_xlawwhole; exact ⟨i, rfl, q⟩
local macro_rules | `(tactic| walk_at "call") => `(tactic| refine go_whole ?_)
section
variable {P : Program} {w : World} {K : PySem.W.Frag} {mg : Str → Option Value} {base : Heap}
theorem ok_xlawwhole {f : Addr} {fd : FuncData} (F : Fun K "_law_whole" "_law_whole" s_xlawwhole f fd) (M : Md K mg) : FnOk P w K mg base CX0 1 f fd ["found"] (sp_xlawwhole K) := by
  refine F.ok sc_xlawwhole (fun vs H Q E h => ?_) (fun cdv A outer s H vs Q E hr h => ?_)
  · unfold sp_xlawwhole at h; obtain ⟨i, rfl, q⟩ := h
    rfl
  · have hu := hu_of hr
    unfold sp_xlawwhole at h; obtain ⟨i, rfl, q⟩ := h
    refine ⟨_, (pss_one (ps_ret (pe_and (pe_callB call_isi (by rfl) M.m_isinstance (by decide +kernel) (pa_cons (pv 0) (pa_cons (pe_bltn (v := .ty "int") (by rfl) M.m_int (by decide +kernel) rfl) pa_nil))) (pe_one (pe_not (pe_callB call_isi (by rfl) M.m_isinstance (by decide +kernel) (pa_cons (pv 0) (pa_cons (pe_bltn (v := .ty "bool") (by rfl) M.m_bool (by decide +kernel) rfl) pa_nil)))))))), ?_⟩
    walk_at "st"
    refine ⟨_, _, _, _, _, rfl, .ty _, .base (.int i), kit_int_int, ?_⟩
    walk_at "st"
    refine ⟨_, _, _, _, _, rfl, .ty _, .base (.int i), kit_int_bool, ?_⟩
    walk_at "st"
    exact q
end
abbrev s_xlawiswriting : Stmt := topS 17
theorem sc_xlawiswriting : FnScope ["found", "due", "side", "figure"] ["found", "due"] (defScope s_xlawiswriting) := ⟨rfl, rfl, rfl, by decide +kernel, rfl, by decide +kernel, by decide +kernel⟩
@[irreducible] def sp_xlawiswriting (K : PySem.W.Frag) : Sp := fun vs H Q _ => ∃ (p a r p' a' r' : Addr) (x y : Wr), vs = [.ref p, .ref p'] ∧ WrAt H p a r x ∧ WrAt H p' a' r' y ∧ ∀ H', Same H H' → Q (.bl (decide (x = y))) H'
theorem go_xlawiswriting {K : PySem.W.Frag} {H : Hp} {p a r p' a' r' : Addr} {x y : Wr} {Q : VK} {E : XK} (h : WrAt H p a r x) (h' : WrAt H p' a' r' y) (q : ∀ H', Same H H' → Q (.bl (decide (x = y))) H') : sp_xlawiswriting K [.ref p, .ref p'] H Q E := by
  unfold sp_xlawiswriting; exact ⟨p, a, r, p', a', r', x, y, rfl, h, h', q⟩
theorem go_xlawiswriting_eq {K : PySem.W.Frag} {H : Hp} {p a r p' a' r' : Addr} {x y : Wr} {Q : VK} {E : XK} (h : WrAt H p a r x) (h' : WrAt H p' a' r' y) (e : x = y) (q : ∀ H', Same H H' → Q (.bl true) H') : sp_xlawiswriting K [.ref p, .ref p'] H Q E :=
  go_xlawiswriting h h' fun H' s => by rw [decide_eq_true e]; exact q H' s
section
variable {P : Program} {w : World} {K : PySem.W.Frag} {mg : Str → Option Value} {base : Heap}
theorem ok_xlawiswriting {f : Addr} {fd : FuncData} (F : Fun K "_law_is_writing" "_law_is_writing" s_xlawiswriting f fd) (M : Md K mg) (c_xlawwhole : Cal P w K mg base 1 "_law_whole" (sp_xlawwhole K) []) : FnOk P w K mg base CX0 2 f fd ["found", "due"] (sp_xlawiswriting K) := by
  refine F.ok sc_xlawiswriting (fun vs H Q E h => ?_) (fun cdv A outer s H vs Q E hr h => ?_)
  · unfold sp_xlawiswriting at h; obtain ⟨p, a, r, p', a', r', x, y, rfl, hp, hp', q⟩ := h
    rfl
  · have hu := hu_of hr
    unfold sp_xlawiswriting at h; obtain ⟨p, a, r, p', a', r', x, y, rfl, hp, hp', q⟩ := h
    refine ⟨_, (pss_cons (ps_if (PW.pt (pw_or (pt_not (pt_val (pe_callB call_isi (by rfl) M.m_isinstance (by decide +kernel) (pa_cons (pv 0) (pa_cons (pe_bltn (v := .ty "tuple") (by rfl) M.m_tuple (by decide +kernel) rfl) pa_nil))))) (pw_or (pt_cmpR op_ne (pe_callB call_len_seq (by rfl) M.m_len PySem.boot_len (pa_cons (pv 0) pa_nil)) pe_int (nomark _)) (pw_or1 (pt_not (pt_val (pe_c c_xlawwhole hr (by decide) (by rfl) (pa_cons (pe_ix ix_tup (pv 0) pe_int (fun _ _ => rfl)) pa_nil))))))))
        (pss_one (ps_ret pe_bl)) pss_nil)
      (pss_cons (ps_for PassesOwn.never rfl (pi_tup (pe_tup (pa_cons pe_int (pa_cons pe_int pa_nil)))) (pg_name (i := 2) sc_xlawiswriting.nd rfl (.inl rfl))
        (pss_cons (ps_if (pt_not (pt_val (pe_callB call_isi (by rfl) M.m_isinstance (by decide +kernel) (pa_cons (pe_ix ix_tup (pv 0) (pv 2) (fun _ _ => rfl)) (pa_cons (pe_bltn (v := .ty "list") (by rfl) M.m_list (by decide +kernel) rfl) pa_nil)))))
        (pss_one (ps_ret pe_bl)) pss_nil)
      (pss_one (ps_for PassesOwn.never rfl (pi_list (pe_ix ix_tup (pv 0) (pv 2) (fun _ _ => rfl))) (pg_name (i := 3) sc_xlawiswriting.nd rfl (.inl rfl))
        (pss_one (ps_if (pt_not (pt_val (pe_c c_xlawwhole hr (by decide) (by rfl) (pa_cons (pv 3) pa_nil))))
        (pss_one (ps_ret pe_bl)) pss_nil))))))
      (pss_one (ps_ret (pe_cmpR (op_eqD hr.units) (pv 0) (pv 1) (nomark _)))))), ?_⟩
    walk_at "st"
    refine ⟨_, _, _, _, _, rfl, .ty _, tyx_tup hp.tp, kit_tup, ?_⟩
    walk_at "st"
    refine ⟨_, _, rfl, .inr (sqt hp.tp), ?_⟩
    walk_at "st"
    refine ⟨p, _, _, _, rfl, rfl, sqt hp.tp, atI_nat (j := 0) rfl, ?_⟩
    walk_at "st"
    intro tp ntp
    walk_at "st"
    refine ⟨⟨_, sqt upd_same⟩, for_tup (K := K) (xs := [.int 1, .int 2]) (fun i σ H' => ∃ y2 y3, σ = [some (.ref p), some (.ref p'), y2, y3] ∧ Same H H' ∧ H' tp = some (.tup [.int 1, .int 2]))
      ⟨none, none, rfl, same_upd ntp, upd_same⟩ (fun i σ H' _ ⟨_, _, _, _, h⟩ => sqt h) (fun i v σ H' hi hv => ?_) (fun σ H' hv => ?_)⟩
    · obtain ⟨y2, y3, rfl, sm, ht⟩ := hv
      have key : ∃ (z : Int) (c : Addr) (ns : List Int), v = .int z ∧ atI [V.int x.w, V.ref a, V.ref r] z = some (.ref c) ∧ H c = some (.lst (ns.map V.int)) := by
        match i, hi with
        | 0, hi => exact ⟨1, a, x.a, (Option.some.inj hi).symm, atI_nat (j := 1) rfl, hp.la⟩
        | 1, hi => exact ⟨2, r, x.r, (Option.some.inj hi).symm, atI_nat (j := 2) rfl, hp.lr⟩
        | n + 2, hi => exact absurd hi (by simp)
      obtain ⟨z, c, ns, rfl, hz, hc⟩ := key
      walk_at "st"
      refine ⟨p, _, _, _, rfl, rfl, sqt (sm _ _ hp.tp), hz, ?_⟩
      walk_at "st"
      refine ⟨_, _, _, _, _, rfl, .ty _, tyx_lst (sm _ _ hc), kit_lst, ?_⟩
      walk_at "st"
      refine ⟨p, _, _, _, rfl, rfl, sqt (sm _ _ hp.tp), hz, ?_⟩
      refine ⟨c, rfl, ⟨_, sql (sm _ _ hc)⟩, for_list (K := K) (a := c) (xs := ns.map V.int) (fun j σ H2 => ∃ y3, σ = [some (.ref p), some (.ref p'), some (.int z), y3] ∧ Same H H2 ∧ H2 tp = some (.tup [.int 1, .int 2]))
        ⟨y3, rfl, sm, ht⟩ (fun j σ H2 _ ⟨_, _, s2, _⟩ => sql (s2 _ _ hc)) (fun j v σ H2 hj hv => ?_) (fun σ H2 hv => ?_)⟩
      · obtain ⟨y3, rfl, s2, ht2⟩ := hv
        obtain ⟨u, hu2, rfl⟩ : ∃ u, ns[j]? = some u ∧ v = V.int u := by
          rw [List.getElem?_map] at hj
          cases e : ns[j]? with
          | none => rw [e] at hj; cases hj
          | some u => rw [e] at hj; exact ⟨u, rfl, (Option.some.inj hj).symm⟩
        walk_at "st"
        exact ⟨s2, ht2⟩
      · obtain ⟨y3, rfl, s2, ht2⟩ := hv
        exact ⟨_, _, rfl, s2, ht2⟩
    · obtain ⟨y2, y3, rfl, sm, ht⟩ := hv
      refine ⟨_, rfl, _, rfl, dW x, dW y, (hp.same sm).dp, (hp'.same sm).dp, shaped_dW x, shaped_dW y, ?_⟩
      rw [eqv_dW]
      exact q H' sm
end
abbrev s_xlawcopy : Stmt := topS 18
theorem sc_xlawcopy : FnScope ["writing"] ["writing"] (defScope s_xlawcopy) := ⟨rfl, rfl, rfl, by decide +kernel, rfl, by decide +kernel, by decide +kernel⟩
@[irreducible] def sp_xlawcopy (K : PySem.W.Frag) : Sp := fun vs H Q _ => ∃ (p a r : Addr) (x : Wr), vs = [.ref p] ∧ WrAt H p a r x ∧ ∀ H' p' a' r', WrNew H H' p' a' r' x → Q (.ref p') H'
theorem go_xlawcopy {K : PySem.W.Frag} {H : Hp} {p a r : Addr} {x : Wr} {Q : VK} {E : XK} (h : WrAt H p a r x) (q : ∀ H' p' a' r', WrNew H H' p' a' r' x → Q (.ref p') H') : sp_xlawcopy K [.ref p] H Q E := by
  unfold sp_xlawcopy; exact ⟨p, a, r, x, rfl, h, q⟩
section
variable {P : Program} {w : World} {K : PySem.W.Frag} {mg : Str → Option Value} {base : Heap}
theorem ok_xlawcopy {f : Addr} {fd : FuncData} (F : Fun K "_law_copy" "_law_copy" s_xlawcopy f fd) (M : Md K mg) : FnOk P w K mg base CX0 1 f fd ["writing"] (sp_xlawcopy K) := by
  refine F.ok sc_xlawcopy (fun vs H Q E h => ?_) (fun cdv A outer s H vs Q E hr h => ?_)
  · unfold sp_xlawcopy at h; obtain ⟨p, a, r, x, rfl, h, q⟩ := h
    rfl
  · have hu := hu_of hr
    unfold sp_xlawcopy at h; obtain ⟨p, a, r, x, rfl, h, q⟩ := h
    have ht := h.tp
    have ha := h.la
    have hr' := h.lr
    refine ⟨_, (pss_one (ps_ret (pe_tup (pa_cons (pe_ix ix_tup (pv 0) pe_int (fun _ _ => rfl)) (pa_cons (pe_callTy call_list_of (by rfl) M.m_list (by decide +kernel) (pa_cons (pe_ix ix_tup (pv 0) pe_int (fun _ _ => rfl)) pa_nil)) (pa_cons (pe_callTy call_list_of (by rfl) M.m_list (by decide +kernel) (pa_cons (pe_ix ix_tup (pv 0) pe_int (fun _ _ => rfl)) pa_nil)) pa_nil)))))), ?_⟩
    walk_at "st"
    intro a2 na2
    have s1 := same_upd (o := .lst (x.a.map V.int)) na2
    have ht1 := s1 _ _ ht
    have hr1 := s1 _ _ hr'
    walk_at "st"
    intro r2 nr2
    have s2 := same_ups (o := .lst (x.r.map V.int)) s1 nr2
    walk_at "st"
    intro p2 np2
    have np3 := free_upd np2
    refine q _ p2 a2 r2 ⟨⟨upd_same, ?_, ?_⟩, same_ups s2 np2, free_upd np3, na2, free_upd nr2, Ne.symm (ne_new nr2)⟩
    · rw [upd_ne (Ne.symm (ne_new np3)), upd_ne (Ne.symm (ne_new nr2)), upd_same]
    · rw [upd_ne (Ne.symm (ne_new np2)), upd_same]
end
abbrev s_law : Stmt := topS 19
theorem sc_law : FnScope ["script", "base", "bottom", "top", "found", "due", "first", "place"] ["script"] (defScope s_law) := ⟨rfl, rfl, rfl, by decide +kernel, rfl, by decide +kernel, by decide +kernel⟩
def sp_law (K : PySem.W.Frag) : Sp := fun vs H Q _ => ∃ (a : Addr) (ns : List Int), vs = [.ref a] ∧ SqL K H a (ns.map V.int) ∧ ns.length ≤ 63 ∧ ∀ H', Q (.bl true) H'
section
variable {P : Program} {w : World} {K : PySem.W.Frag} {mg : Str → Option Value} {base : Heap}
theorem ok_law {f : Addr} {fd : FuncData} (F : Fun K "law" "law" s_law f fd) (M : Md K mg) (c_written : Cal P w K mg base 3 "written" (sp_written K) []) (c_figureat : Cal P w K mg base 3 "figure_at" (sp_figureat K) []) (c_xlawcellat : Cal P w K mg base 1 "_law_cell_at" (sp_xlawcellat K) []) (c_xlawiswriting : Cal P w K mg base 2 "_law_is_writing" (sp_xlawiswriting K) []) (c_xlawcopy : Cal P w K mg base 1 "_law_copy" (sp_xlawcopy K) []) : FnOk P w K mg base CX0 4 f fd ["script"] (sp_law K) := by
  refine F.ok sc_law (fun vs H Q E h => ?_) (fun cdv A outer s H vs Q E hr h => ?_)
  · obtain ⟨a, ns, rfl, hS, hlen, q⟩ := h
    rfl
  · have hu := hu_of hr
    obtain ⟨a, ns, rfl, hS, hlen, q⟩ := h
    obtain ⟨b, hb, hb1, hb2⟩ : ∃ b : Nat, 2 + cl ns 0 % 35 = (b : Int) ∧ 2 ≤ b ∧ b ≤ 36 := ⟨(2 + cl ns 0 % 35).toNat, by omega, by omega, by omega⟩
    refine ⟨_, (Evl.pss_cut (ps_set (i := 1) sc_law.nd rfl (.inl rfl) (pe_op op_add pe_int (pe_op op_mod (pe_c c_xlawcellat hr (by decide) (by rfl) (pa_cons (pv 0) (pa_cons pe_int pa_nil))) pe_int)))
      (pss_cons (ps_set (i := 2) sc_law.nd rfl (.inl rfl) (pe_op op_add pe_int (pe_op op_mod (pe_c c_xlawcellat hr (by decide) (by rfl) (pa_cons (pv 0) (pa_cons pe_int pa_nil))) pe_int)))
      (Evl.pss_cut (ps_if (pt_cmpR op_eq (pe_op op_mod (pe_c c_xlawcellat hr (by decide) (by rfl) (pa_cons (pv 0) (pa_cons pe_int pa_nil))) pe_int) pe_int (nomark _))
        (pss_one (ps_set (i := 2) sc_law.nd rfl (.inl rfl) (pe_op op_add pe_int (pe_op op_mod (pe_c c_xlawcellat hr (by decide) (by rfl) (pa_cons (pv 0) (pa_cons pe_int pa_nil))) pe_int)))) pss_nil)
      (Evl.pss_cut (ps_set (i := 3) sc_law.nd rfl (.inl rfl) (pe_op op_mod (pe_c c_xlawcellat hr (by decide) (by rfl) (pa_cons (pv 0) (pa_cons pe_int pa_nil))) (pv 2)))
      (pss_cons (ps_set (i := 4) sc_law.nd rfl (.inl rfl) (pe_c c_written hr (by decide) (by rfl) (pa_cons (pv 1) (pa_cons (pv 3) (pa_cons (pv 2) pa_nil)))))
      (pss_cons (ps_if (pt_not (pt_val (pe_c c_xlawiswriting hr (by decide) (by rfl) (pa_cons (pv 4) (pa_cons (pe_c c_xlawcopy hr (by decide) (by rfl) (pa_cons (pv 4) pa_nil)) pa_nil)))))
        (pss_one (ps_ret pe_bl)) pss_nil)
      (pss_cons (ps_set (i := 5) sc_law.nd rfl (.inl rfl) (pe_tup (pa_cons pe_int (pa_cons (pe_slice sl_list (pe_ix ix_tup (pv 4) pe_int (fun _ _ => rfl)) (po_some pe_int) po_none) (pa_cons (pe_ix ix_tup (pv 4) pe_int (fun _ _ => rfl)) pa_nil)))))
      (pss_cons (ps_set (i := 6) sc_law.nd rfl (.inl rfl) pe_int)
      (Evl.pss_cut (ps_if (pt_cmpR (op_neD hr.units) (pe_ix ix_tup (pv 4) pe_int (fun _ _ => rfl)) (pe_lst pa_nil) (nomark _))
        (pss_one (ps_set (i := 6) sc_law.nd rfl (.inl rfl) (pe_ix ix_list (pe_ix ix_tup (pv 4) pe_int (fun _ _ => rfl)) pe_int (fun _ _ => rfl)))) (pss_one (ps_if (pt_cmpR (op_neD hr.units) (pe_ix ix_tup (pv 4) pe_int (fun _ _ => rfl)) (pe_lst pa_nil) (nomark _))
        (pss_cons (ps_set (i := 6) sc_law.nd rfl (.inl rfl) (pe_ix ix_list (pe_ix ix_tup (pv 4) pe_int (fun _ _ => rfl)) pe_int (fun _ _ => rfl)))
      (pss_one (ps_set (i := 5) sc_law.nd rfl (.inl rfl) (pe_tup (pa_cons pe_int (pa_cons (pe_lst pa_nil) (pa_cons (pe_op op_cat (pe_slice sl_list (pe_ix ix_tup (pv 4) pe_int (fun _ _ => rfl)) (po_some pe_int) po_none) (pe_slice sl_list (pe_ix ix_tup (pv 4) pe_int (fun _ _ => rfl)) po_none (po_some pe_int))) pa_nil))))))) pss_nil)))
      (Evl.pss_cut (ps_set (i := 7) sc_law.nd rfl (.inl rfl) (pe_op op_mod (pe_c c_xlawcellat hr (by decide) (by rfl) (pa_cons (pv 0) (pa_cons pe_int pa_nil))) (pe_op op_pow pe_int pe_int)))
      (pss_cons (ps_if (PW.pt (pw_or (pt_cmpR op_ne (pe_op op_fdivP (pe_op op_mulB (pv 3) (pv 1)) (pv 2)) (pv 6) (nomark _)) (pw_or1 (pt_cmpR op_ne (pe_c c_figureat hr (by decide) (by rfl) (pa_cons (pv 1) (pa_cons (pv 3) (pa_cons (pv 2) (pa_cons pe_int pa_nil))))) (pv 6) (nomark _)))))
        (pss_one (ps_ret pe_bl)) pss_nil)
      (pss_cons (ps_if (pt_cmpR op_ne (pe_c c_figureat hr (by decide) (by rfl) (pa_cons (pv 1) (pa_cons (pe_op op_mod (pe_op op_mulB (pv 3) (pv 1)) (pv 2)) (pa_cons (pv 2) (pa_cons (pv 7) pa_nil))))) (pe_c c_figureat hr (by decide) (by rfl) (pa_cons (pv 1) (pa_cons (pv 3) (pa_cons (pv 2) (pa_cons (pe_op op_add (pv 7) pe_int) pa_nil))))) (nomark _))
        (pss_one (ps_ret pe_bl)) pss_nil)
      (pss_one (ps_ret (pe_c c_xlawiswriting hr (by decide) (by rfl) (pa_cons (pe_c c_written hr (by decide) (by rfl) (pa_cons (pv 1) (pa_cons (pe_op op_mod (pe_op op_mulB (pv 3) (pv 1)) (pv 2)) (pa_cons (pv 2) pa_nil)))) (pa_cons (pv 5) pa_nil))))))))))))))))), ?_⟩
    refine ⟨fun σ H' => H = H' ∧ σ = [some (.ref a), some (.int (b : Int)), none, none, none, none, none, none], ?_, fun σ H' hM => ?_⟩
    · walk_at "st"
      rw [← hb]; rfl
    obtain ⟨rfl, rfl⟩ := hM
    walk_at "st"
    refine ⟨fun σ H' => H = H' ∧ ∃ m : Nat, 1 ≤ m ∧ m ≤ 2000 ∧ σ = [some (.ref a), some (.int (b : Int)), some (.int (m : Int)), none, none, none, none, none], ?_, fun σ H' hM => ?_⟩
    · walk_at "st"
      refine iteE (fun c => ?_) (fun c => ?_)
      · walk_at "st"
        exact ⟨(1 + cl ns 1 % 60).toNat, by omega, by omega, by rw [Int.toNat_of_nonneg (by omega)]; rfl⟩
      · exact ⟨rfl, (1 + cl ns 1 % 2000).toNat, by omega, by omega, by rw [Int.toNat_of_nonneg (by omega)]; rfl⟩
    obtain ⟨rfl, m, m1, m2, rfl⟩ := hM
    have hm : 0 < m := by omega
    obtain ⟨t, ht, htm⟩ : ∃ t : Nat, cl ns 3 % (m : Int) = (t : Int) ∧ t < m := ⟨(cl ns 3 % (m : Int)).toNat, (Int.toNat_of_nonneg (Int.emod_nonneg _ (by omega))).symm, by
      have h1 := Int.emod_lt_of_pos (cl ns 3) (show (0 : Int) < m by omega)
      have h2 := Int.emod_nonneg (cl ns 3) (show (m : Int) ≠ 0 by omega)
      omega⟩
    obtain ⟨s, l, sl, hd⟩ := divAt_exists (b := b) (m := m) (r := t) hm
    have htm' : t % m = t := Nat.mod_eq_of_lt htm
    refine ⟨fun σ H' => H = H' ∧ σ = [some (.ref a), some (.int (b : Int)), some (.int (m : Int)), some (.int (t : Int)), none, none, none, none], ?_, fun σ H' hM => ?_⟩
    · walk_at "st"
      rw [← ht]; rfl
    obtain ⟨rfl, rfl⟩ := hM
    clear ht
    walk_at "st"
    refine go_written b t m s l rfl rfl rfl hb1 hb2 (by omega) m1 m2 (by rw [htm']; exact hd) (fun H1 p1 a1 r1 w1 => ?_)
    rw [htm'] at w1
    walk_at "st"
    refine go_xlawcopy w1.at' (fun H2 p2 a2 r2 w2 => ?_)
    walk_at "st"
    refine go_xlawiswriting_eq (w1.at'.same w2.same) w2.at' rfl (fun H3 s3 => ?_)
    have s13 := w2.same.trans s3
    have v3 := w1.at'.same s13
    have hS3 := (w1.same.trans s13).seq hS
    have v3t := v3.tp
    have v3a := v3.la
    have v3r := v3.lr
    have hz0 : rs b m t 0 = t := rs_zero htm
    walk_at "st"
    refine ⟨a1, _, rfl, sql v3a, fun p4 np4 => ?_⟩
    rw [cut_litd _ 1 1 rfl]
    have s4 := same_upd (o := .lst (((dgs b m t 0 s).drop 1).map V.int)) np4
    have v4t := s4 _ _ v3t
    walk_at "st"
    intro p5 np5
    have s5 := same_ups (o := .tup [V.int 0, V.ref p4, V.ref r1]) s4 np5
    have x5 : WrAt (upd (upd H3 p4 (.lst (((dgs b m t 0 s).drop 1).map V.int))) p5 (.tup [V.int 0, V.ref p4, V.ref r1])) p5 p4 r1 ⟨0, (dgs b m t 0 s).drop 1, dgs b m t s l⟩ :=
      ⟨upd_same, by rw [upd_ne (Ne.symm (ne_new np5)), upd_same], s5 _ _ v3r⟩
    have v5 := v3.same s5
    have hS5 := s5.seq hS3
    generalize upd (upd H3 p4 (.lst (((dgs b m t 0 s).drop 1).map V.int))) p5 (.tup [V.int 0, V.ref p4, V.ref r1]) = H5 at *
    refine ⟨fun σ H' => Same H5 H' ∧ ∃ (pd ad rd : Addr) (s' : Nat), DivAt b m (t * b % m) s' l ∧ WrAt H' pd ad rd ⟨0, dgs b m (t * b % m) 0 s', dgs b m (t * b % m) s' l⟩ ∧ σ = [some (.ref a), some (.int (b : Int)), some (.int (m : Int)), some (.int (t : Int)), some (.ref p1), some (.ref pd), some (.int ((dg b m t 0 : Nat) : Int)), none], ?_, fun σ H' hM => ?_⟩
    · have v5t := v5.tp
      have v5a := v5.la
      have v5r := v5.lr
      walk_at "st"
      intro e ne
      have s6 := same_upd (o := .lst []) ne
      have v6 := v5.same s6
      have v6t := v6.tp
      refine ⟨dI _, dI [], dp_dI (sql v6.la), dp_dI (sql upd_same), shaped_dI _, shaped_dI _, ?_⟩
      rw [eqv_dI]
      walk_at "st"
      by_cases hs : s = 0
      · subst hs
        rw [decide_eq_true (show dgs b m t 0 0 = [] from rfl)]
        walk_at "st"
        intro e2 ne2
        have s7 := same_ups (o := .lst []) s6 ne2
        have v7 := v5.same s7
        have v7t := v7.tp
        have v7r := v7.lr
        refine ⟨dI _, dI [], dp_dI (sql v7.lr), dp_dI (sql upd_same), shaped_dI _, shaped_dI _, ?_⟩
        rw [eqv_dI]
        by_cases hl : l = 0
        · subst hl
          rw [decide_eq_true (show dgs b m t 0 0 = [] from rfl)]
          walk_at "st"
          have h0 := hd.fin rfl
          refine ⟨s7, p5, p4, r1, 0, hd.shift0 hm, x5.same s7, ?_⟩
          have e0 : dg b m t 0 = 0 := by unfold dg; rw [h0, Nat.zero_mul, Nat.zero_div]
          rw [e0]; rfl
        · have hlp : 0 < l := by omega
          rw [decide_eq_false (fun z => hl (by have := congrArg List.length z; rw [dgs_len] at this; exact this))]
          walk_at "st"
          refine ⟨r1, _, _, _, rfl, rfl, sql v7r, atI_of (j := 0) rfl (map_get (dgs_get _ _ _ _ _ _ hlp)), ?_⟩
          walk_at "st"
          intro e3 ne3
          have s8 := same_ups (o := .lst []) s7 ne3
          have v8 := v5.same s8
          have v8t := v8.tp
          have v8r := v8.lr
          walk_at "st"
          refine ⟨r1, _, rfl, sql v8r, fun p9 np9 => ?_⟩
          rw [cut_litd _ 1 1 rfl]
          have s9 := same_ups (o := .lst (((dgs b m t 0 l).drop 1).map V.int)) s8 np9
          have v9 := v5.same s9
          have v9t := v9.tp
          walk_at "st"
          refine ⟨r1, _, rfl, sql v9.lr, fun p10 np10 => ?_⟩
          rw [cut_lit _ 1 1 rfl]
          have h9 := upd_same (H := upd (upd (upd (upd H5 e (.lst [])) e2 (.lst [])) e3 (.lst [])) p9 (.lst (((dgs b m t 0 l).drop 1).map V.int))) (a := p10) (o := .lst (((dgs b m t 0 l).take 1).map V.int))
          refine ⟨p9, p10, _, _, rfl, rfl, (upd_ne (Ne.symm (ne_new np10))).trans upd_same, upd_same, sz100 ?_, fun p11 np11 => ?_⟩
          · simp only [List.length_map, List.length_drop, List.length_take, dgs_len]
            have := hd.le hm
            omega
          rw [← List.map_append, ← ring_turn hd hlp]
          have s10 := same_ups (o := .lst (((dgs b m t 0 l).take 1).map V.int)) s9 np10
          have s11 := same_ups (o := .lst ((dgs b m (t * b % m) 0 l).map V.int)) s10 np11
          walk_at "st"
          intro p12 np12
          refine ⟨same_ups s11 np12, p12, e3, p11, 0, hd.shift0 hm, ⟨upd_same, ?_, ?_⟩, ?_⟩
          · have n11 := free_upd np12
            have n10 := free_upd n11
            rw [upd_ne (fun z => ?_), upd_ne (fun z => ?_), upd_ne (fun z => ?_), upd_ne (fun z => ?_), upd_same]
            · rfl
            · rw [← z] at np9; exact absurd rfl (ne_new np9)
            · rw [← z] at np10; exact absurd rfl (ne_new (free_upd np10))
            · rw [← z] at np11; exact absurd rfl (ne_new (free_upd (free_upd np11)))
            · rw [← z] at np12; exact absurd rfl (ne_new (free_upd (free_upd (free_upd np12))))
          · rw [upd_ne (Ne.symm (ne_new np12)), upd_same]
          · rfl
      · obtain ⟨s', rfl⟩ : ∃ s', s = s' + 1 := ⟨s - 1, by omega⟩
        rw [decide_eq_false (fun z => hs (by have := congrArg List.length z; rw [dgs_len] at this; exact this))]
        walk_at "st"
        refine ⟨a1, _, _, _, rfl, rfl, sql v6.la, atI_of (j := 0) rfl (map_get (dgs_get _ _ _ _ _ _ (by omega))), ?_⟩
        refine ⟨s6, p5, p4, r1, s', hd.shift1, ?_, rfl⟩
        have x6 := x5.same s6
        rw [dgs_shift, dgs_shift]
        rw [dgs_drop _ _ _ _ _ (by omega), Nat.add_sub_cancel] at x6
        exact x6
    obtain ⟨s6, pd, ad, rd, s', hd', xd, rfl⟩ := hM
    have hS6 := s6.seq hS5
    refine ⟨fun σ H2 => H' = H2 ∧ ∃ n : Nat, σ = [some (.ref a), some (.int (b : Int)), some (.int (m : Int)), some (.int (t : Int)), some (.ref p1), some (.ref pd), some (.int ((dg b m t 0 : Nat) : Int)), some (.int (n : Int))], ?_, fun σ H' hM => ?_⟩
    · walk_at "st"
      exact ⟨(cl ns 4 % (10 ^ (39 : Int).toNat)).toNat, by rw [Int.toNat_of_nonneg (by exact Int.emod_nonneg _ (by decide))]; rfl⟩
    obtain ⟨rfl, n, rfl⟩ := hM
    have hd0 : dg b m t 0 = t * b / m := by unfold dg; rw [hz0]
    walk_at "st"
    refine iteEn (fun e => absurd hd0.symm (fun z => e (by rw [← z]; rfl))) (fun _ => ?_)
    walk_at "st"
    refine go_figureat b t m 0 rfl rfl rfl rfl hb1 hb2 (by omega) m1 m2 ?_
    walk_at "st"
    refine iteEn (fun e => absurd (by rw [htm']) e) (fun _ => ?_)
    have htb : t * b % m < m := Nat.mod_lt _ hm
    walk_at "st"
    refine go_figureat b (t * b % m) m n rfl rfl rfl rfl hb1 hb2 (by omega) m1 m2 ?_
    walk_at "st"
    refine go_figureat b t m (n + 1) rfl rfl rfl rfl hb1 hb2 (by omega) m1 m2 ?_
    walk_at "st"
    refine iteEn (fun e => absurd (by rw [htm', Nat.mod_mod, dg_shift]) e) (fun _ => ?_)
    walk_at "st"
    refine go_written b (t * b % m) m s' l rfl rfl rfl hb1 hb2 (by omega) m1 m2 (by rw [Nat.mod_mod]; exact hd') (fun H7 p7 a7 r7 w7 => ?_)
    walk_at "st"
    refine go_xlawiswriting_eq w7.at' (xd.same w7.same) ?_ (fun H8 _ => q _)
    rw [Nat.mod_mod, Nat.div_eq_of_lt htb]
    rfl
end
/-! ### the end -/
theorem all_mk {l : PySem.W.OpenLaw} {w : World} {K : PySem.W.Frag} {h : Heap} {mg : Str → Option Value} {fa : Addr} (X : K.In h) (G : h.Ns mainGlobals mg) (hfa : mg "law" = some (.ref fa))
    {f0 : Addr} {od0 an0 : Option Addr} {sl0 : Array (Option Value)} {oc0 kV0 dc0 pm0 cd0 ct0 : Value}
    (a0 : PySem.W.nsIn K mainGlobals "asked_base" = some (some (.ref f0)))
    (l0 : K.lookup f0 = some ⟨oc0, od0, .func (PySem.W.fnOf "asked_base" "asked_base" (defArgs s_askedbase) (defBody s_askedbase) (defScope s_askedbase) .none kV0 dc0 pm0 an0 cd0 ct0), sl0⟩)
    (e0 : PySem.W.codeIn K cd0 "asked_base" = true) (k0 : PySem.W.keepIn K (.ref f0) = true)
    {f1 : Addr} {od1 an1 : Option Addr} {sl1 : Array (Option Value)} {oc1 kV1 dc1 pm1 cd1 ct1 : Value}
    (a1 : PySem.W.nsIn K mainGlobals "asked_fraction" = some (some (.ref f1)))
    (l1 : K.lookup f1 = some ⟨oc1, od1, .func (PySem.W.fnOf "asked_fraction" "asked_fraction" (defArgs s_askedfraction) (defBody s_askedfraction) (defScope s_askedfraction) .none kV1 dc1 pm1 an1 cd1 ct1), sl1⟩)
    (e1 : PySem.W.codeIn K cd1 "asked_fraction" = true) (k1 : PySem.W.keepIn K (.ref f1) = true)
    {f2 : Addr} {od2 an2 : Option Addr} {sl2 : Array (Option Value)} {oc2 kV2 dc2 pm2 cd2 ct2 : Value}
    (a2 : PySem.W.nsIn K mainGlobals "divided" = some (some (.ref f2)))
    (l2 : K.lookup f2 = some ⟨oc2, od2, .func (PySem.W.fnOf "divided" "divided" (defArgs s_divided) (defBody s_divided) (defScope s_divided) .none kV2 dc2 pm2 an2 cd2 ct2), sl2⟩)
    (e2 : PySem.W.codeIn K cd2 "divided" = true) (k2 : PySem.W.keepIn K (.ref f2) = true)
    {f3 : Addr} {od3 an3 : Option Addr} {sl3 : Array (Option Value)} {oc3 kV3 dc3 pm3 cd3 ct3 : Value}
    (a3 : PySem.W.nsIn K mainGlobals "written" = some (some (.ref f3)))
    (l3 : K.lookup f3 = some ⟨oc3, od3, .func (PySem.W.fnOf "written" "written" (defArgs s_written) (defBody s_written) (defScope s_written) .none kV3 dc3 pm3 an3 cd3 ct3), sl3⟩)
    (e3 : PySem.W.codeIn K cd3 "written" = true) (k3 : PySem.W.keepIn K (.ref f3) = true)
    {f4 : Addr} {od4 an4 : Option Addr} {sl4 : Array (Option Value)} {oc4 kV4 dc4 pm4 cd4 ct4 : Value}
    (a4 : PySem.W.nsIn K mainGlobals "rest_at" = some (some (.ref f4)))
    (l4 : K.lookup f4 = some ⟨oc4, od4, .func (PySem.W.fnOf "rest_at" "rest_at" (defArgs s_restat) (defBody s_restat) (defScope s_restat) .none kV4 dc4 pm4 an4 cd4 ct4), sl4⟩)
    (e4 : PySem.W.codeIn K cd4 "rest_at" = true) (k4 : PySem.W.keepIn K (.ref f4) = true)
    {f5 : Addr} {od5 an5 : Option Addr} {sl5 : Array (Option Value)} {oc5 kV5 dc5 pm5 cd5 ct5 : Value}
    (a5 : PySem.W.nsIn K mainGlobals "figure_at" = some (some (.ref f5)))
    (l5 : K.lookup f5 = some ⟨oc5, od5, .func (PySem.W.fnOf "figure_at" "figure_at" (defArgs s_figureat) (defBody s_figureat) (defScope s_figureat) .none kV5 dc5 pm5 an5 cd5 ct5), sl5⟩)
    (e5 : PySem.W.codeIn K cd5 "figure_at" = true) (k5 : PySem.W.keepIn K (.ref f5) = true)
    {f6 : Addr} {od6 an6 : Option Addr} {sl6 : Array (Option Value)} {oc6 kV6 dc6 pm6 cd6 ct6 : Value}
    (a6 : PySem.W.nsIn K mainGlobals "_law_cell_at" = some (some (.ref f6)))
    (l6 : K.lookup f6 = some ⟨oc6, od6, .func (PySem.W.fnOf "_law_cell_at" "_law_cell_at" (defArgs s_xlawcellat) (defBody s_xlawcellat) (defScope s_xlawcellat) .none kV6 dc6 pm6 an6 cd6 ct6), sl6⟩)
    (e6 : PySem.W.codeIn K cd6 "_law_cell_at" = true) (k6 : PySem.W.keepIn K (.ref f6) = true)
    {f7 : Addr} {od7 an7 : Option Addr} {sl7 : Array (Option Value)} {oc7 kV7 dc7 pm7 cd7 ct7 : Value}
    (a7 : PySem.W.nsIn K mainGlobals "_law_whole" = some (some (.ref f7)))
    (l7 : K.lookup f7 = some ⟨oc7, od7, .func (PySem.W.fnOf "_law_whole" "_law_whole" (defArgs s_xlawwhole) (defBody s_xlawwhole) (defScope s_xlawwhole) .none kV7 dc7 pm7 an7 cd7 ct7), sl7⟩)
    (e7 : PySem.W.codeIn K cd7 "_law_whole" = true) (k7 : PySem.W.keepIn K (.ref f7) = true)
    {f8 : Addr} {od8 an8 : Option Addr} {sl8 : Array (Option Value)} {oc8 kV8 dc8 pm8 cd8 ct8 : Value}
    (a8 : PySem.W.nsIn K mainGlobals "_law_is_writing" = some (some (.ref f8)))
    (l8 : K.lookup f8 = some ⟨oc8, od8, .func (PySem.W.fnOf "_law_is_writing" "_law_is_writing" (defArgs s_xlawiswriting) (defBody s_xlawiswriting) (defScope s_xlawiswriting) .none kV8 dc8 pm8 an8 cd8 ct8), sl8⟩)
    (e8 : PySem.W.codeIn K cd8 "_law_is_writing" = true) (k8 : PySem.W.keepIn K (.ref f8) = true)
    {f9 : Addr} {od9 an9 : Option Addr} {sl9 : Array (Option Value)} {oc9 kV9 dc9 pm9 cd9 ct9 : Value}
    (a9 : PySem.W.nsIn K mainGlobals "_law_copy" = some (some (.ref f9)))
    (l9 : K.lookup f9 = some ⟨oc9, od9, .func (PySem.W.fnOf "_law_copy" "_law_copy" (defArgs s_xlawcopy) (defBody s_xlawcopy) (defScope s_xlawcopy) .none kV9 dc9 pm9 an9 cd9 ct9), sl9⟩)
    (e9 : PySem.W.codeIn K cd9 "_law_copy" = true) (k9 : PySem.W.keepIn K (.ref f9) = true)
    {f10 : Addr} {od10 an10 : Option Addr} {sl10 : Array (Option Value)} {oc10 kV10 dc10 pm10 cd10 ct10 : Value}
    (a10 : PySem.W.nsIn K mainGlobals "law" = some (some (.ref f10)))
    (l10 : K.lookup f10 = some ⟨oc10, od10, .func (PySem.W.fnOf "law" "law" (defArgs s_law) (defBody s_law) (defScope s_law) .none kV10 dc10 pm10 an10 cd10 ct10), sl10⟩)
    (e10 : PySem.W.codeIn K cd10 "law" = true) (k10 : PySem.W.keepIn K (.ref f10) = true)
    (z0 : PySem.W.nsIn K mainGlobals "len" = some none)
    (z1 : PySem.W.nsIn K mainGlobals "isinstance" = some none)
    (z2 : PySem.W.nsIn K mainGlobals "int" = some none)
    (z3 : PySem.W.nsIn K mainGlobals "bool" = some none)
    (z4 : PySem.W.nsIn K mainGlobals "tuple" = some none)
    (z5 : PySem.W.nsIn K mainGlobals "list" = some none)
    {tk0 : Tok} (y0 : PySem.W.nsIn K mainGlobals "GREATEST" = some (some (.int 1000000000000 tk0)))
    {tk1 : Tok} (y1 : PySem.W.nsIn K mainGlobals "MOST_BOTTOM" = some (some (.int 2000 tk1)))
    : ∃ fd : FuncData, (∀ (s : Shared) (v : Value), BindsTo s fd ⟨[v], []⟩ [("script", v)]) ∧ ∀ base : Heap, K.In base → base.Ns mainGlobals mg → FnOk l.prog w K mg base CX0 4 fa fd ["script"] (sp_law K) := by
  have e := hfa.symm.trans (PySem.W.mg_of X G a10)
  cases e
  have M : Md K mg := ⟨PySem.W.mg_none_of X G z0, PySem.W.mg_none_of X G z1, PySem.W.mg_none_of X G z2, PySem.W.mg_none_of X G z3, PySem.W.mg_none_of X G z4, PySem.W.mg_none_of X G z5, ⟨_, PySem.W.mg_of X G y0, ⟨_, rfl⟩⟩, ⟨_, PySem.W.mg_of X G y1, ⟨_, rfl⟩⟩⟩
  have F0 := fun_mk (st := s_askedbase) l0 e0 k0
  have b0 := F0.binds (ps := ["base"]) fun _ _ _ _ _ _ us hl => match us, hl with | [_], _ => rfl
  have F1 := fun_mk (st := s_askedfraction) l1 e1 k1
  have b1 := F1.binds (ps := ["base", "top", "bottom"]) fun _ _ _ _ _ _ us hl => match us, hl with | [_, _, _], _ => rfl
  have F2 := fun_mk (st := s_divided) l2 e2 k2
  have b2 := F2.binds (ps := ["base", "top", "bottom"]) fun _ _ _ _ _ _ us hl => match us, hl with | [_, _, _], _ => rfl
  have F3 := fun_mk (st := s_written) l3 e3 k3
  have b3 := F3.binds (ps := ["base", "top", "bottom"]) fun _ _ _ _ _ _ us hl => match us, hl with | [_, _, _], _ => rfl
  have F4 := fun_mk (st := s_restat) l4 e4 k4
  have b4 := F4.binds (ps := ["base", "top", "bottom", "place"]) fun _ _ _ _ _ _ us hl => match us, hl with | [_, _, _, _], _ => rfl
  have F5 := fun_mk (st := s_figureat) l5 e5 k5
  have b5 := F5.binds (ps := ["base", "top", "bottom", "place"]) fun _ _ _ _ _ _ us hl => match us, hl with | [_, _, _, _], _ => rfl
  have F6 := fun_mk (st := s_xlawcellat) l6 e6 k6
  have b6 := F6.binds (ps := ["script", "k"]) fun _ _ _ _ _ _ us hl => match us, hl with | [_, _], _ => rfl
  have F7 := fun_mk (st := s_xlawwhole) l7 e7 k7
  have b7 := F7.binds (ps := ["found"]) fun _ _ _ _ _ _ us hl => match us, hl with | [_], _ => rfl
  have F8 := fun_mk (st := s_xlawiswriting) l8 e8 k8
  have b8 := F8.binds (ps := ["found", "due"]) fun _ _ _ _ _ _ us hl => match us, hl with | [_, _], _ => rfl
  have F9 := fun_mk (st := s_xlawcopy) l9 e9 k9
  have b9 := F9.binds (ps := ["writing"]) fun _ _ _ _ _ _ us hl => match us, hl with | [_], _ => rfl
  have F10 := fun_mk (st := s_law) l10 e10 k10
  refine ⟨PySem.W.fnOf "law" "law" (defArgs s_law) (defBody s_law) (defScope s_law) .none kV10 dc10 pm10 an10 cd10 ct10, fun s v => .of_eq rfl, fun base _ _ => ?_⟩
  have c_askedbase : Cal l.prog w K mg base 1 "asked_base" (sp_askedbase K) [] := ⟨f0, _, _, [], ok_askedbase F0 M , PySem.W.mg_of X G a0, k0, b0, .nil⟩
  have c_askedfraction : Cal l.prog w K mg base 2 "asked_fraction" (sp_askedfraction K) [] := ⟨f1, _, _, [], ok_askedfraction F1 M c_askedbase, PySem.W.mg_of X G a1, k1, b1, .nil⟩
  have c_divided : Cal l.prog w K mg base 1 "divided" (sp_divided K) [] := ⟨f2, _, _, [], ok_divided F2 M , PySem.W.mg_of X G a2, k2, b2, .nil⟩
  have c_written : Cal l.prog w K mg base 3 "written" (sp_written K) [] := ⟨f3, _, _, [], ok_written F3 M c_askedfraction c_divided, PySem.W.mg_of X G a3, k3, b3, .nil⟩
  have c_restat : Cal l.prog w K mg base 1 "rest_at" (sp_restat K) [] := ⟨f4, _, _, [], ok_restat F4 M , PySem.W.mg_of X G a4, k4, b4, .nil⟩
  have c_figureat : Cal l.prog w K mg base 3 "figure_at" (sp_figureat K) [] := ⟨f5, _, _, [], ok_figureat F5 M c_askedfraction c_restat, PySem.W.mg_of X G a5, k5, b5, .nil⟩
  have c_xlawcellat : Cal l.prog w K mg base 1 "_law_cell_at" (sp_xlawcellat K) [] := ⟨f6, _, _, [], ok_xlawcellat F6 M , PySem.W.mg_of X G a6, k6, b6, .nil⟩
  have c_xlawwhole : Cal l.prog w K mg base 1 "_law_whole" (sp_xlawwhole K) [] := ⟨f7, _, _, [], ok_xlawwhole F7 M , PySem.W.mg_of X G a7, k7, b7, .nil⟩
  have c_xlawiswriting : Cal l.prog w K mg base 2 "_law_is_writing" (sp_xlawiswriting K) [] := ⟨f8, _, _, [], ok_xlawiswriting F8 M c_xlawwhole, PySem.W.mg_of X G a8, k8, b8, .nil⟩
  have c_xlawcopy : Cal l.prog w K mg base 1 "_law_copy" (sp_xlawcopy K) [] := ⟨f9, _, _, [], ok_xlawcopy F9 M , PySem.W.mg_of X G a9, k9, b9, .nil⟩
  exact ok_law F10 M c_written c_figureat c_xlawcellat c_xlawiswriting c_xlawcopy
end Rf
open PySem PySem.W PyProof.Rows
set_option maxHeartbeats 0 in
theorem PySem.Challenge.cw_ringfigures_k09_whole_a_figure_further_holds : PySem.Challenge.rw_ringfigures_k09_whole_a_figure_further.Holds := by
  w_on; o_law; k_head; (case hw => w_witness2)
  k_fill
  refine L2.walk_of (l := PySem.Challenge.rw_ringfigures_k09_whole_a_figure_further) (n := 63) (k := 4) (x := "script") (CX := fun _ => L2.CX0) (sp := fun w => Rf.sp_law _) rfl (by decide) rfl ⟨rfl, by decide, by decide⟩ (fun w h Y => PySem.W.kIn_of Y) ?F (fun _ _ a ns hl _ hS => ⟨a, ns, rfl, hS, hl, fun _ => rfl⟩) (fun _ _ _ _ _ h => h)
  case F =>
    intro w mg fa h KX G hmg
    refine' Rf.all_mk KX G hmg ?a0 ?l0 ?e0 ?k0 ?a1 ?l1 ?e1 ?k1 ?a2 ?l2 ?e2 ?k2 ?a3 ?l3 ?e3 ?k3 ?a4 ?l4 ?e4 ?k4 ?a5 ?l5 ?e5 ?k5 ?a6 ?l6 ?e6 ?k6 ?a7 ?l7 ?e7 ?k7 ?a8 ?l8 ?e8 ?k8 ?a9 ?l9 ?e9 ?k9 ?a10 ?l10 ?e10 ?k10 ?z0 ?z1 ?z2 ?z3 ?z4 ?z5 ?y0 ?y1
    (case a0 => k_is); (case l0 => k_is); (case e0 => k_is); (case k0 => k_is); (case a1 => k_is); (case l1 => k_is); (case e1 => k_is); (case k1 => k_is); (case a2 => k_is); (case l2 => k_is); (case e2 => k_is); (case k2 => k_is); (case a3 => k_is); (case l3 => k_is); (case e3 => k_is); (case k3 => k_is); (case a4 => k_is); (case l4 => k_is); (case e4 => k_is); (case k4 => k_is); (case a5 => k_is); (case l5 => k_is); (case e5 => k_is); (case k5 => k_is); (case a6 => k_is); (case l6 => k_is); (case e6 => k_is); (case k6 => k_is); (case a7 => k_is); (case l7 => k_is); (case e7 => k_is); (case k7 => k_is); (case a8 => k_is); (case l8 => k_is); (case e8 => k_is); (case k8 => k_is); (case a9 => k_is); (case l9 => k_is); (case e9 => k_is); (case k9 => k_is); (case a10 => k_is); (case l10 => k_is); (case e10 => k_is); (case k10 => k_is); (case z0 => k_is); (case z1 => k_is); (case z2 => k_is); (case z3 => k_is); (case z4 => k_is); (case z5 => k_is); (case y0 => k_is); (case y1 => k_is)
