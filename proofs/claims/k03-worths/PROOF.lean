import PyProof.Rows.All
import Wide.All
import OpenK.AllK
import Wide.FinOn
import PySem.Challenge.RW_ringfigures_k03_worths
import HandS.ForMost
import HandS.ForExc
import HandS.Wide
import HandS.IsInst
import HandS.Codes
import HandS.Style
import HandS.Evl
import HandS.Walk
import HandS.Zip
import HandS.Conv
set_option Elab.async false
set_option linter.all false
set_option maxRecDepth 100000
set_option maxHeartbeats 4000000
set_option maxRecDepth 100000
set_option maxHeartbeats 4000000
namespace Rf
open PySem PySem.Spec PyProof.Rows L2
/-! ### heaps -/
theorem same_new {H H' : Hp} {p : Addr} {o : HO} (s : Same H H') (h : H p = none) : Same H (upd H' p o) := fun b u e => by
  rw [upd_ne (ne_of_none e h)]
  exact s b u e
theorem same_upd {H : Hp} {p : Addr} {o : HO} (h : H p = none) : Same H (upd H p o) := same_new (Same.refl H) h
theorem ne_new {H : Hp} {d f : Addr} {o : HO} (h : upd H d o f = none) : f ≠ d := fun e => by
  rw [e, upd_same] at h
  cases h
theorem free_upd {H : Hp} {d f : Addr} {o : HO} (h : upd H d o f = none) : H f = none := by
  rw [upd_ne (ne_new h)] at h
  exact h
theorem same_ups {H H' : Hp} {d : Addr} {o : HO} (s : Same H H') (h : H' d = none) : Same H (upd H' d o) := s.trans (same_upd h)
theorem keyne {a b : Nat} (h : a ≠ b) : ¬ ((Sum.inl (a : Int) : Key) = Sum.inl (b : Int)) := fun q => h (by have := Sum.inl.inj q; omega)
theorem sz100 {n : Nat} (h : n ≤ 1000000) : n ≤ sizeLine := Nat.le_trans h (by decide)
theorem sz100lt {n : Nat} (h : n < 1000000) : n < sizeLine := Nat.lt_of_lt_of_le h (by decide)
theorem sqt {K : PySem.W.Frag} {H : Hp} {a : Addr} {xs : List V} (h : H a = some (.tup xs)) : SqT K H a xs := .inl (.inl h)
theorem sql {K : PySem.W.Frag} {H : Hp} {a : Addr} {xs : List V} (h : H a = some (.lst xs)) : SqL K H a xs := .inl (.inl h)
/-! ### floor division by any positive number, where the quotient is not long -/
def CDivP (i j : Int) : Prop := 0 < j ∧ Builtin.divisionGoesByPylong i j = false
theorem op_fdivP {X : Cx} : OpR X (binaryOp .FloorDiv) (rI CDivP fun i j => .int (i / j)) := opI fun i j _ _ _ _ _ hc q => by
  have h1 : (0 : Int) < j := hc.1
  exact floordiv_int (by omega) (by rw [Int.fdiv_eq_ediv_of_nonneg i (by omega)]; exact q) (.inl hc.2)
theorem cdivp_small {i j : Int} (h : 0 < j) (h2 : j < 1073741824) : CDivP i j := ⟨h, PyProof.noPylong_small (by omega)⟩
/-- a divisor that is not long -/
structure Wid (m : Nat) : Prop where
  lt : m.log2 < 9000
theorem cdivp_wide {i : Int} {m : Nat} (h0 : 0 < m) (h : Wid m) : CDivP i (m : Int) := ⟨by omega, PyProof.noPylong_of_log2 (by rw [Int.natAbs_natCast]; exact h.lt)⟩
theorem wid_of {m k : Nat} (h : m < 2 ^ k) (hk : k ≤ 9000) (h0 : 0 < k) : Wid m := ⟨Nat.lt_of_lt_of_le (PySem.Flt.log2_lt_of h0 h) hk⟩
theorem wid_small {m : Nat} (h : m < 1000000) : Wid m := wid_of (k := 30) (Nat.lt_of_lt_of_le h (by decide)) (by decide) (by decide)
theorem op_mulB {X : Cx} : OpR X (binaryOp .Mult) (rI IntMulOk fun i j => .int (i * j)) := opI fun _ _ _ _ _ _ _ hc q => mul_int q hc
theorem mulB_right {i j : Int} (h1 : -(2 ^ 64) < j) (h2 : j < 2 ^ 64) : IntMulOk i j := IntMulOk.of_right (intBits_le_64 (by omega) (by omega))
theorem mulB_left {i j : Int} (h1 : -(2 ^ 64) < i) (h2 : i < 2 ^ 64) : IntMulOk i j := IntMulOk.of_left (intBits_le_64 (by omega) (by omega))
/-! ### slices -/
theorem cut_take (xs : List V) (k : Nat) : cutV xs none (some (k : Int)) = xs.take k := by
  unfold cutV
  rw [HT.sIx_none, HT.sIx_nat, List.drop_zero, Nat.sub_zero, ← List.take_take, List.take_length]
theorem cut_drop (xs : List V) (k : Nat) : cutV xs (some (k : Int)) none = xs.drop k := by
  unfold cutV
  rw [HT.sIx_none, HT.sIx_nat]
  by_cases h : k ≤ xs.length
  · rw [Nat.min_eq_left h]
    exact List.take_of_length_le (by rw [List.length_drop]; exact Nat.le_refl _)
  · rw [Nat.min_eq_right (by omega), List.drop_eq_nil_of_le (Nat.le_refl _), List.drop_eq_nil_of_le (by omega), List.take_nil]
theorem take_map (l : List Int) (k : Nat) : (l.map V.int).take k = (l.take k).map V.int := (List.map_take).symm
theorem drop_map (l : List Int) (k : Nat) : (l.map V.int).drop k = (l.drop k).map V.int := (List.map_drop).symm
/-! ### ints as data -/
def dI (ns : List Int) : PyData := .list (ns.map PyData.int)
theorem eqv_ints : ∀ a b : List Int, PyData.eqvAll (a.map PyData.int) (b.map PyData.int) = decide (a = b)
  | [], [] => rfl
  | [], _ :: _ => rfl
  | _ :: _, [] => rfl
  | x :: a, y :: b => by
    show (PyData.eqv (.int x) (.int y) && PyData.eqvAll (a.map PyData.int) (b.map PyData.int)) = _
    rw [eqv_ints a b]
    show ((x == y) && decide (a = b)) = _
    by_cases h : x = y <;> by_cases h2 : a = b <;> simp [h, h2]
theorem eqv_dI (a b : List Int) : PyData.eqv (dI a) (dI b) = decide (a = b) := by
  unfold dI
  rw [PyData.eqv]
  exact eqv_ints a b
theorem canLay_ints : ∀ a : List Int, PyData.canLayAll0 (a.map PyData.int) = true
  | [] => rfl
  | x :: a => by
    show (PyData.canLay0 (.int x) && PyData.canLayAll0 (a.map PyData.int)) = true
    rw [canLay_ints a]
    rfl
theorem depth_ints : ∀ a : List Int, PyData.depthAll (a.map PyData.int) = 0
  | [] => rfl
  | x :: a => by
    show max (PyData.depth (.int x)) (PyData.depthAll (a.map PyData.int)) = 0
    rw [depth_ints a]
    rfl
theorem shaped_dI (a : List Int) : SeqAt.shaped (dI a) = true := by
  unfold SeqAt.shaped dI
  rw [show PyData.canLay0 (.list (a.map PyData.int)) = PyData.canLayAll0 (a.map PyData.int) from rfl, canLay_ints]
  rw [show PyData.depth (.list (a.map PyData.int)) = PyData.depthAll (a.map PyData.int) + 1 from rfl, depth_ints]
  rfl
theorem dpAll_ints {K : PySem.W.Frag} {H : Hp} : ∀ a : List Int, DpAll K H (a.map V.int) (a.map PyData.int)
  | [] => .nil
  | x :: a => .cons (.int x) (dpAll_ints a)
theorem dp_dI {K : PySem.W.Frag} {H : Hp} {p : Addr} {a : List Int} (h : SqL K H p (a.map V.int)) : Dp K H (.ref p) (dI a) := .lst h (dpAll_ints a)
/-! ### writings -/
/-- a whole number, figures ahead, a ring -/
structure Wr where
  w : Int
  a : List Int
  r : List Int
  deriving DecidableEq
def dW (x : Wr) : PyData := .tuple [.int x.w, dI x.a, dI x.r]
theorem eqv_dW (x y : Wr) : PyData.eqv (dW x) (dW y) = decide (x = y) := by
  unfold dW
  rw [PyData.eqv]
  show (PyData.eqv (.int x.w) (.int y.w) && (PyData.eqv (dI x.a) (dI y.a) && (PyData.eqv (dI x.r) (dI y.r) && true))) = _
  rw [eqv_dI, eqv_dI]
  show ((x.w == y.w) && _) = _
  obtain ⟨w1, a1, r1⟩ := x
  obtain ⟨w2, a2, r2⟩ := y
  by_cases h1 : w1 = w2 <;> by_cases h2 : a1 = a2 <;> by_cases h3 : r1 = r2 <;> simp [h1, h2, h3]
theorem shaped_dW (x : Wr) : SeqAt.shaped (dW x) = true := by
  unfold SeqAt.shaped dW dI
  show (PyData.canLay0 (.int x.w) && (PyData.canLayAll0 (x.a.map PyData.int) && (PyData.canLayAll0 (x.r.map PyData.int) && true)) && decide (max 0 (max (PyData.depthAll (x.a.map PyData.int) + 1) (max (PyData.depthAll (x.r.map PyData.int) + 1) 0)) + 1 ≤ 64)) = true
  rw [canLay_ints, canLay_ints, depth_ints, depth_ints]
  rfl
/-- the writing x stands at p, its lists at a and r -/
structure WrAt (H : Hp) (p a r : Addr) (x : Wr) : Prop where
  tp : H p = some (.tup [.int x.w, .ref a, .ref r])
  la : H a = some (.lst (x.a.map V.int))
  lr : H r = some (.lst (x.r.map V.int))
theorem WrAt.dp {K : PySem.W.Frag} {H : Hp} {p a r : Addr} {x : Wr} (h : WrAt H p a r x) : Dp K H (.ref p) (dW x) :=
  .tup (sqt h.tp) (.cons (.int x.w) (.cons (dp_dI (sql h.la)) (.cons (dp_dI (sql h.lr)) .nil)))
theorem WrAt.same {H H' : Hp} {p a r : Addr} {x : Wr} (h : WrAt H p a r x) (s : Same H H') : WrAt H' p a r x := ⟨s _ _ h.tp, s _ _ h.la, s _ _ h.lr⟩
/-- a new writing x at p: all that was stands, its objects are new and its lists are two -/
structure WrNew (H H' : Hp) (p a r : Addr) (x : Wr) : Prop where
  at' : WrAt H' p a r x
  same : Same H H'
  np : H p = none
  na : H a = none
  nr : H r = none
  ne : a ≠ r
/-! ### tests -/
theorem iteD {c : Prop} [Decidable c] {A B : Prop} (h1 : c → A) (h2 : ¬ c → B) : if decide c = true then A else B := by
  by_cases h : c
  · rw [if_pos (decide_eq_true h)]; exact h1 h
  · rw [if_neg (by rw [decide_eq_false h]; exact Bool.false_ne_true)]; exact h2 h
theorem iteDn {c : Prop} [Decidable c] {A B : Prop} (h1 : ¬ c → A) (h2 : c → B) : if (!decide c) = true then A else B := by
  by_cases h : c
  · rw [if_neg (by rw [decide_eq_true h]; exact Bool.false_ne_true)]; exact h2 h
  · rw [if_pos (by rw [decide_eq_false h]; rfl)]; exact h1 h
theorem iteE {i j : Int} {A B : Prop} (h1 : i = j → A) (h2 : i ≠ j → B) : if decide (V.int i = V.int j) = true then A else B := iteD (fun e => h1 (V.int.inj e)) (fun e => h2 fun q => e (by rw [q]))
theorem iteEn {i j : Int} {A B : Prop} (h1 : i ≠ j → A) (h2 : i = j → B) : if (!decide (V.int i = V.int j)) = true then A else B := iteDn (fun e => h1 fun q => e (by rw [q])) (fun e => h2 (V.int.inj e))
theorem iteB {b : Bool} {A B : Prop} (h1 : b = true → A) (h2 : b = false → B) : if b = true then A else B := by
  cases b with
  | true => rw [if_pos rfl]; exact h1 rfl
  | false => rw [if_neg Bool.false_ne_true]; exact h2 rfl
theorem atI_of {xs : List V} {z : Int} {j : Nat} {v : V} (e : z = (j : Int)) (h : xs[j]? = some v) : atI xs z = some v := by
  rw [e]
  exact atI_nat h
theorem map_get {ns : List Int} {k : Nat} {x : Int} (h : ns[k]? = some x) : (ns.map V.int)[k]? = some (.int x) := by
  rw [List.getElem?_map, h]; rfl
/-! ### where a value's kind is asked -/
theorem kit_int_int {K : PySem.W.Frag} : PySem.W.kitOne K (.type "int") (.type "int") = some true := kit_ty (by decide +kernel)
theorem kit_int_bool {K : PySem.W.Frag} : PySem.W.kitOne K (.type "int") (.type "bool") = some false := kit_ty (by decide +kernel)
theorem kit_tup {K : PySem.W.Frag} : PySem.W.kitOne K (.type "tuple") (.type "tuple") = some true := kit_ty (by decide +kernel)
theorem kit_lst {K : PySem.W.Frag} : PySem.W.kitOne K (.type "list") (.type "list") = some true := kit_ty (by decide +kernel)
theorem kit_bool {K : PySem.W.Frag} : PySem.W.kitOne K (.type "bool") (.type "bool") = some true := kit_ty (by decide +kernel)
theorem kit_str {K : PySem.W.Frag} : PySem.W.kitOne K (.type "str") (.type "str") = some true := kit_ty (by decide +kernel)
theorem kit_self {K : PySem.W.Frag} {n : String} : PySem.W.kitOne K (.type n) (.type n) = some true := kit_ty (by unfold kitB; rw [if_pos (by simp)])
end Rf

set_option maxHeartbeats 1000000
namespace Rf
/-! ### the rests of a division, and where they come again -/
/-- the rest behind k figures -/
def rs (b m r k : Nat) : Nat := r * b ^ k % m
/-- the k-th figure -/
def dg (b m r k : Nat) : Nat := rs b m r k * b / m
/-- n figures from the i-th on -/
def dgs (b m r i n : Nat) : List Int := (List.range n).map fun k => ((dg b m r (i + k) : Nat) : Int)
theorem rs_zero {b m r : Nat} (h : r < m) : rs b m r 0 = r := by
  unfold rs
  rw [Nat.pow_zero, Nat.mul_one, Nat.mod_eq_of_lt h]
theorem rs_lt {b m r k : Nat} (h : 0 < m) : rs b m r k < m := Nat.mod_lt _ h
theorem rs_succ (b m r k : Nat) : rs b m r (k + 1) = rs b m r k * b % m := by
  unfold rs
  rw [Nat.pow_succ, ← Nat.mul_assoc, Nat.mul_mod (r * b ^ k) b m, Nat.mul_mod (r * b ^ k % m) b m, Nat.mod_mod]
theorem dgs_len (b m r i n : Nat) : (dgs b m r i n).length = n := by
  unfold dgs
  rw [List.length_map, List.length_range]
theorem dgs_succ (b m r i n : Nat) : dgs b m r i (n + 1) = dgs b m r i n ++ [((dg b m r (i + n) : Nat) : Int)] := by
  unfold dgs
  rw [List.range_succ, List.map_append]
  rfl
theorem dgs_take (b m r n k : Nat) (h : k ≤ n) : (dgs b m r 0 n).take k = dgs b m r 0 k := by
  unfold dgs
  rw [← List.map_take, List.take_range, Nat.min_eq_left h]
theorem dgs_get (b m r i n k : Nat) (h : k < n) : (dgs b m r i n)[k]? = some ((dg b m r (i + k) : Nat) : Int) := by
  unfold dgs
  rw [List.getElem?_map, List.getElem?_range h]
  rfl
theorem dgs_drop (b m r n k : Nat) (h : k ≤ n) : (dgs b m r 0 n).drop k = dgs b m r k (n - k) := by
  apply List.ext_getElem?
  intro j
  rw [List.getElem?_drop]
  by_cases hj : j < n - k
  · rw [dgs_get _ _ _ _ _ _ hj, dgs_get _ _ _ _ _ _ (show k + j < n by omega), Nat.zero_add]
  · rw [List.getElem?_eq_none (by rw [dgs_len]; omega), List.getElem?_eq_none (by rw [dgs_len]; omega)]
/-- division of r by m in base b: s figures ahead, then a ring of l (none: l = 0) -/
structure DivAt (b m r s l : Nat) : Prop where
  pos : ∀ k, k < s + l → rs b m r k ≠ 0
  new : ∀ j k, j < k → k < s + l → rs b m r j ≠ rs b m r k
  fin : l = 0 → rs b m r s = 0
  rep : 0 < l → rs b m r (s + l) = rs b m r s
/-- the first n at which the division stops -/
def Stp (b m r n : Nat) : Prop := rs b m r n = 0 ∨ ∃ j, j < n ∧ rs b m r j = rs b m r n
theorem DivAt.stp {b m r s l : Nat} (h : DivAt b m r s l) : Stp b m r (s + l) := by
  by_cases hl : l = 0
  · subst hl; exact .inl (h.fin rfl)
  · exact .inr ⟨s, by omega, (h.rep (by omega)).symm⟩
theorem DivAt.not_stp {b m r s l n : Nat} (h : DivAt b m r s l) (hn : n < s + l) : ¬ Stp b m r n := fun q => by
  rcases q with q | ⟨j, hj, e⟩
  · exact h.pos n hn q
  · exact h.new j n hj hn e
theorem DivAt.unique {b m r s l s' l' : Nat} (h : DivAt b m r s l) (h' : DivAt b m r s' l') : s = s' ∧ l = l' := by
  have e : s + l = s' + l' := by
    rcases Nat.lt_trichotomy (s + l) (s' + l') with q | q | q
    · exact absurd h.stp (h'.not_stp q)
    · exact q
    · exact absurd h'.stp (h.not_stp q)
  by_cases hl : l = 0
  · by_cases hl' : l' = 0
    · omega
    · have h1 := h.fin hl
      have h2 := h'.rep (by omega)
      have h3 : s = s' + l' := by omega
      rw [← h3, h1] at h2
      exact absurd h2.symm (h'.pos s' (by omega))
  · by_cases hl' : l' = 0
    · have h1 := h'.fin hl'
      have h2 := h.rep (by omega)
      have h3 : s' = s + l := by omega
      rw [← h3, h1] at h2
      exact absurd h2.symm (h.pos s (by omega))
    · have h1 := h.rep (by omega)
      have h2 := h'.rep (by omega)
      rw [e] at h1
      have h3 : rs b m r s = rs b m r s' := h1.symm.trans h2
      rcases Nat.lt_trichotomy s s' with q | q | q
      · exact absurd h3 (h.new s s' q (by omega))
      · omega
      · exact absurd h3.symm (h'.new s' s q (by omega))
theorem exists_least (P : Nat → Prop) : ∀ n, P n → ∃ k, k ≤ n ∧ P k ∧ ∀ j, j < k → ¬ P j := fun n => by
  induction n using Nat.strongRecOn with
  | _ n ih =>
    intro h
    by_cases q : ∃ j, j < n ∧ P j
    · obtain ⟨j, hj, pj⟩ := q
      obtain ⟨k, hk, pk, lk⟩ := ih j hj pj
      exact ⟨k, by omega, pk, lk⟩
    · exact ⟨n, Nat.le_refl _, h, fun j hj pj => q ⟨j, hj, pj⟩⟩
/-- an injection of the numbers below n into those below m -/
theorem pigeon : ∀ (m n : Nat) (f : Nat → Nat), (∀ k, k < n → f k < m) → (∀ j k, j < k → k < n → f j ≠ f k) → n ≤ m
  | 0, n, f, h, _ => by
    cases n with
    | zero => exact Nat.le_refl _
    | succ n => exact absurd (h 0 (by omega)) (by omega)
  | m + 1, n, f, h, inj => by
    by_cases q : ∃ i, i < n ∧ f i = m
    · obtain ⟨i, hi, ei⟩ := q
      have key : n - 1 ≤ m := pigeon m (n - 1) (fun k => if k < i then f k else f (k + 1)) (fun k hk => by
          split
          · rename_i c
            have h1 := h k (by omega)
            have h2 := inj k i c hi
            omega
          · rename_i c
            have h1 := h (k + 1) (by omega)
            have h2 := inj i (k + 1) (by omega) (by omega)
            omega) (fun j k hjk hk => by
          split
          · split
            · exact inj j k hjk (by omega)
            · exact inj j (k + 1) (by omega) (by omega)
          · split
            · omega
            · exact inj (j + 1) (k + 1) (by omega) (by omega))
      omega
    · have key : n ≤ m := pigeon m n f (fun k hk => by
          have h1 := h k hk
          have h2 : f k ≠ m := fun e => q ⟨k, hk, e⟩
          omega) inj
      omega
theorem stp_exists {b m r : Nat} (hm : 0 < m) : ∃ n, n ≤ m ∧ Stp b m r n := by
  by_cases q : ∃ n, n ≤ m ∧ Stp b m r n
  · exact q
  · have h1 : m + 1 ≤ m := pigeon m (m + 1) (rs b m r) (fun k _ => rs_lt hm) (fun j k hjk hk e => q ⟨k, by omega, .inr ⟨j, hjk, e⟩⟩)
    omega
theorem divAt_of_stp {b m r n : Nat} (h : Stp b m r n) (hl : ∀ j, j < n → ¬ Stp b m r j) : ∃ s l, s + l = n ∧ DivAt b m r s l := by
  have hp : ∀ k, k < n → rs b m r k ≠ 0 := fun k hk e => hl k hk (.inl e)
  have hn : ∀ j k, j < k → k < n → rs b m r j ≠ rs b m r k := fun j k hjk hk e => hl k hk (.inr ⟨j, hjk, e⟩)
  by_cases h0 : rs b m r n = 0
  · exact ⟨n, 0, by omega, ⟨hp, hn, fun _ => h0, fun q => absurd q (by omega)⟩⟩
  · rcases h with h | ⟨j, hj, e⟩
    · exact absurd h h0
    · refine ⟨j, n - j, by omega, ⟨fun k hk => hp k (by omega), fun i k hik hk => hn i k hik (by omega), fun q => by omega, fun _ => ?_⟩⟩
      rw [show j + (n - j) = n by omega]
      exact e.symm
theorem divAt_exists {b m r : Nat} (hm : 0 < m) : ∃ s l, s + l ≤ m ∧ DivAt b m r s l := by
  obtain ⟨n, hn, h⟩ := stp_exists (b := b) (r := r) hm
  obtain ⟨k, hk, pk, lk⟩ := exists_least (Stp b m r) n h
  obtain ⟨s, l, e, d⟩ := divAt_of_stp pk lk
  exact ⟨s, l, by omega, d⟩
end Rf

set_option maxHeartbeats 1000000
namespace Rf
/-! ### figures come round -/
theorem rs_add (b m r i j : Nat) : rs b m r (i + j) = rs b m (rs b m r i) j := by
  unfold rs
  rw [Nat.pow_add, ← Nat.mul_assoc, Nat.mul_mod (r * b ^ i) (b ^ j) m, Nat.mul_mod (r * b ^ i % m) (b ^ j) m, Nat.mod_mod]
theorem DivAt.nought {b m r s l : Nat} (h : DivAt b m r s l) (hl : l = 0) (i : Nat) : rs b m r (s + i) = 0 := by
  rw [rs_add, h.fin hl]
  unfold rs
  rw [Nat.zero_mul, Nat.zero_mod]
theorem DivAt.round {b m r s l : Nat} (h : DivAt b m r s l) (hl : 0 < l) (i : Nat) : rs b m r (s + l + i) = rs b m r (s + i) := by
  rw [rs_add, h.rep hl, ← rs_add]
theorem DivAt.rounds {b m r s l : Nat} (h : DivAt b m r s l) (hl : 0 < l) (i : Nat) : ∀ n, rs b m r (s + (i + l * n)) = rs b m r (s + i)
  | 0 => by rw [Nat.mul_zero, Nat.add_zero]
  | n + 1 => by
    rw [show s + (i + l * (n + 1)) = s + l + (i + l * n) by rw [Nat.mul_add, Nat.mul_one]; omega, h.round hl]
    exact h.rounds hl i n
theorem DivAt.mod {b m r s l : Nat} (h : DivAt b m r s l) (hl : 0 < l) (i : Nat) : rs b m r (s + i) = rs b m r (s + i % l) := by
  have e := h.rounds hl (i % l) (i / l)
  rw [Nat.mod_add_div] at e
  exact e
/-- the figure at a place, by the writing -/
theorem DivAt.fig {b m r s l n : Nat} (h : DivAt b m r s l) (hn : s ≤ n) : dg b m r n = if l = 0 then 0 else dg b m r (s + (n - s) % l) := by
  unfold dg
  by_cases hl : l = 0
  · rw [if_pos hl, show n = s + (n - s) by omega, h.nought hl, Nat.zero_mul, Nat.zero_div]
  · rw [if_neg hl]
    have e := h.mod (by omega) (n - s)
    rw [show s + (n - s) = n by omega] at e
    rw [e]
/-! ### powers by squaring -/
theorem pow_half (F G m p : Nat) : (if p % 2 = 1 then F * G % m else F) * (G * G % m) ^ (p / 2) % m = F * G ^ p % m := by
  have e : G ^ p = (if p % 2 = 1 then G else 1) * (G * G) ^ (p / 2) := by
    rw [← Nat.pow_two, ← Nat.pow_mul]
    split
    · rename_i h
      rw [← Nat.pow_succ']
      congr 1
      omega
    · rename_i h
      rw [Nat.one_mul]
      congr 1
      omega
  rw [e, Nat.mul_mod, ← Nat.pow_mod, ← Nat.mul_mod, ← Nat.mul_assoc]
  split
  · rw [Nat.mul_mod (F * G % m), Nat.mod_mod, ← Nat.mul_mod]
  · rw [Nat.mul_one]
end Rf

set_option maxRecDepth 100000
set_option maxHeartbeats 4000000
namespace Rf
open PySem PySem.Spec PyProof.Rows L2
/-! ### comprehensions of values that are read off -/
theorem take_snoc {α : Type} {l : List α} {i : Nat} {x : α} (h : l[i]? = some x) : l.take (i + 1) = l.take i ++ [x] := by
  rw [List.take_add_one, h]; rfl
/-- over a list -/
theorem lc_vals {K : PySem.W.Frag} {a D : Addr} {xs : List V} {te : TE} {vs : List Nat} {σ : L2.St} {i : Nat} {H : Hp} {Qd : Hp → Prop} (g : V → V) (hS : SqL K H a xs) (nD : H D = none) (hlen : xs.length < 1000000)
    (hw : ∀ x, wipe ((wipe σ vs).set i (some x)) vs = wipe σ vs)
    (he : ∀ x, x ∈ xs → ∀ H' (Q : VK), Same H H' → (∀ H2, Same H' H2 → Q (g x) H2) → te ((wipe σ vs).set i (some x)) H' Q) (hd : ∀ H', Same H H' → H' D = some (.lst (xs.map g)) → Qd H') :
    ∃ W : Nat → Nat → Hp → Prop, (∃ m, W 0 m (upd H D (.lst []))) ∧ ∀ j m H, W j m H →
      ((Itl K a).stop j H ∧ Qd H) ∨ ((Itl K a).go j H ∧ ∃ Nx : Hp → Prop, (∀ H', Nx H' → ∃ m', m' < m ∧ W (j + 1) m' H') ∧ ∀ x H', (Itl K a).yld j H x H' → gName i x (wipe σ vs) H' fun σ2 H2 => wipe σ2 vs = wipe σ vs ∧ tYes σ2 H2 fun b H3 =>
        if b = true then te σ2 H3 fun y H4 => ∃ acc, H4 D = some (.lst acc) ∧ acc.length < sizeLine ∧ Nx (upd H4 D (.lst (acc ++ [y]))) else Nx H3) := by
  refine lc_list (K := K) (a := a) (xs := xs) (fun j H' => Same H H' ∧ H' D = some (.lst ((xs.take j).map g))) ⟨same_upd nD, upd_same⟩ (fun j H' _ ⟨s, _⟩ => s.seq hS) (fun j x H' hx ⟨s, hD⟩ => ?_) (fun H' ⟨s, hD⟩ => ?_)
  · refine ⟨hw x, ?_⟩
    show te ((wipe σ vs).set i (some x)) H' _
    refine he x (List.mem_of_getElem? hx) H' _ s fun H2 s2 => ⟨_, s2 _ _ hD, ?_, same_new (s.trans s2) nD, ?_⟩
    · rw [List.length_map, List.length_take]
      exact sz100lt (by omega)
    · rw [upd_same, take_snoc hx, List.map_append]
      rfl
  · rw [List.take_length] at hD
    exact hd H' s hD
/-- over range(n) -/
theorem lc_rng {D : Addr} {n : Nat} {te : TE} {vs : List Nat} {σ : L2.St} {i : Nat} {H : Hp} {Qd : Hp → Prop} (g : Nat → V) (nD : H D = none) (hlen : n < 1000000)
    (hw : ∀ x, wipe ((wipe σ vs).set i (some x)) vs = wipe σ vs)
    (he : ∀ k, k < n → ∀ H' (Q : VK), Same H H' → (∀ H2, Same H' H2 → Q (g k) H2) → te ((wipe σ vs).set i (some (.int (k : Int)))) H' Q) (hd : ∀ H', Same H H' → H' D = some (.lst ((List.range n).map g)) → Qd H') :
    ∃ W : Nat → Nat → Hp → Prop, (∃ m, W 0 m (upd H D (.lst []))) ∧ ∀ j m H, W j m H →
      ((Itr 0 n).stop j H ∧ Qd H) ∨ ((Itr 0 n).go j H ∧ ∃ Nx : Hp → Prop, (∀ H', Nx H' → ∃ m', m' < m ∧ W (j + 1) m' H') ∧ ∀ x H', (Itr 0 n).yld j H x H' → gName i x (wipe σ vs) H' fun σ2 H2 => wipe σ2 vs = wipe σ vs ∧ tYes σ2 H2 fun b H3 =>
        if b = true then te σ2 H3 fun y H4 => ∃ acc, H4 D = some (.lst acc) ∧ acc.length < sizeLine ∧ Nx (upd H4 D (.lst (acc ++ [y]))) else Nx H3) := by
  refine lc_range (lo := 0) (n := n) (fun j H' => Same H H' ∧ H' D = some (.lst ((List.range j).map g))) ⟨same_upd nD, upd_same⟩ (fun j H' hj ⟨s, hD⟩ => ?_) (fun H' ⟨s, hD⟩ => hd H' s hD)
  rw [Int.zero_add]
  refine ⟨hw _, ?_⟩
  show te ((wipe σ vs).set i (some (.int (j : Int)))) H' _
  refine he j hj H' _ s fun H2 s2 => ⟨_, s2 _ _ hD, ?_, same_new (s.trans s2) nD, ?_⟩
  · rw [List.length_map, List.length_range]
    exact sz100lt (by omega)
  · rw [upd_same, List.range_succ, List.map_append]
    rfl
/-- over zip of two lists of ints, the two names in the slots i and j -/
theorem lc_zips {K : PySem.W.Frag} {a b D : Addr} {xs ys : List Int} {te : TE} {vs : List Nat} {σ : L2.St} {i j : Nat} {H : Hp} {Qd : Hp → Prop} (g : Int → Int → V) (hS : SqL K H a (xs.map V.int)) (hT : SqL K H b (ys.map V.int)) (hl : xs.length = ys.length) (nD : H D = none) (hlen : xs.length < 1000000)
    (hw : ∀ x y, wipe (((wipe σ vs).set i (some x)).set j (some y)) vs = wipe σ vs)
    (he : ∀ x y, ∀ H' (Q : VK), Q (g x y) H' → te (((wipe σ vs).set i (some (.int x))).set j (some (.int y))) H' Q) (hd : ∀ H', Same H H' → H' D = some (.lst (List.zipWith g xs ys)) → Qd H') :
    ∃ W : Nat → Nat → Hp → Prop, (∃ m, W 0 m (upd H D (.lst []))) ∧ ∀ n m H, W n m H →
      ((Itz K a b).stop n H ∧ Qd H) ∨ ((Itz K a b).go n H ∧ ∃ Nx : Hp → Prop, (∀ H', Nx H' → ∃ m', m' < m ∧ W (n + 1) m' H') ∧ ∀ x H', (Itz K a b).yld n H x H' → gTup K 2 (gCons (gName i) (gCons (gName j) gNil)) x (wipe σ vs) H' fun σ2 H2 => wipe σ2 vs = wipe σ vs ∧ tYes σ2 H2 fun b H3 =>
        if b = true then te σ2 H3 fun y H4 => ∃ acc, H4 D = some (.lst acc) ∧ acc.length < sizeLine ∧ Nx (upd H4 D (.lst (acc ++ [y]))) else Nx H3) := by
  have W := walk_zip (K := K) (a := a) (b := b) (xs := xs.map V.int) (ys := ys.map V.int) (n := xs.length) (by rw [List.length_map, List.length_map, ← hl, Nat.min_self])
  refine lc_it W (fun n H' => Same H H' ∧ H' D = some (.lst (List.zipWith g (xs.take n) (ys.take n)))) ⟨same_upd nD, upd_same⟩ (fun n H' _ ⟨s, _⟩ => ⟨s.seq hS, s.seq hT⟩) (fun n v H1 H' hn ⟨s, hD⟩ hy => ?_) (fun H' ⟨s, hD⟩ => ?_)
  · obtain ⟨T, x, y, rfl, nT, rfl, hx, hy⟩ := hy
    dsimp only at hx hy
    rw [List.getElem?_map] at hx hy
    have hx' : xs[n]? = some xs[n] := List.getElem?_eq_getElem hn
    have hn2 : n < ys.length := by omega
    have hy' : ys[n]? = some ys[n] := List.getElem?_eq_getElem hn2
    rw [hx'] at hx
    rw [hy'] at hy
    have ex : V.int xs[n] = x := Option.some.inj hx
    have ey : V.int ys[n] = y := Option.some.inj hy
    subst ex ey
    refine ⟨T, _, rfl, sqt upd_same, rfl, _, _, rfl, _, _, rfl, rfl, hw _ _, ?_⟩
    show te (((wipe σ vs).set i (some (.int xs[n]))).set j (some (.int ys[n]))) _ _
    have nTD : D ≠ T := ne_of_none hD nT
    refine he _ _ _ _ ⟨_, (upd_ne nTD).trans hD, ?_, same_new (same_new s (s.free nT)) nD, ?_⟩
    · rw [List.length_zipWith, List.length_take, List.length_take]
      exact sz100lt (by omega)
    · rw [upd_same, take_snoc hx', take_snoc hy', List.zipWith_append (by rw [List.length_take, List.length_take]; omega)]
      rfl
  · rw [List.take_length, hl, List.take_length] at hD
    exact hd H' s hD
theorem mem_ints {ns : List Int} {x : V} (h : x ∈ ns.map V.int) : ∃ z, z ∈ ns ∧ x = .int z := by
  obtain ⟨z, hz, e⟩ := List.mem_map.mp h
  exact ⟨z, hz, e.symm⟩
theorem ixN_of {n j : Nat} {z : Int} (e : z = (j : Int)) (h : j < n) : ixN n z = some j := by
  unfold ixN
  rw [e, if_pos (by omega), if_pos (by omega), Int.toNat_natCast]
theorem map_setI (ns : List Int) (j : Nat) (v : Int) : (ns.map V.int).set j (.int v) = (ns.set j v).map V.int := (List.map_set).symm
theorem mem_set {ns : List Int} {j : Nat} {v x : Int} (h : x ∈ ns.set j v) : x = v ∨ x ∈ ns := by
  rcases List.mem_or_eq_of_mem_set h with h | h
  · exact .inr h
  · exact .inl h
/-- figures of a base -/
def Figs (b : Int) (ns : List Int) : Prop := ∀ x, x ∈ ns → 0 ≤ x ∧ x < b
theorem figs_nil {b : Int} : Figs b [] := fun x hx => by cases hx
theorem figs_take {b : Int} {ns : List Int} (h : Figs b ns) (k : Nat) : Figs b (ns.take k) := fun x hx => h x (List.mem_of_mem_take hx)
theorem figs_drop {b : Int} {ns : List Int} (h : Figs b ns) (k : Nat) : Figs b (ns.drop k) := fun x hx => h x (List.mem_of_mem_drop hx)
theorem figs_app {b : Int} {ns ms : List Int} (h : Figs b ns) (h2 : Figs b ms) : Figs b (ns ++ ms) := fun x hx => (List.mem_append.mp hx).elim (h x) (h2 x)
theorem figs_comp {b : Int} {ns : List Int} (h : Figs b ns) : Figs b (ns.map fun x => b - 1 - x) := fun x hx => by
  obtain ⟨z, hz, rfl⟩ := List.mem_map.mp hx
  have := h z hz
  omega
theorem figs_set {b : Int} {ns : List Int} {j : Nat} {v : Int} (h : Figs b ns) (hv : 0 ≤ v ∧ v < b) : Figs b (ns.set j v) := fun x hx => by
  rcases mem_set hx with e | e
  · rw [e]; exact hv
  · exact h x e
theorem figs_const {b v : Int} {ns : List Int} (hv : 0 ≤ v ∧ v < b) : Figs b (ns.map fun _ => v) := fun x hx => by
  obtain ⟨z, _, rfl⟩ := List.mem_map.mp hx
  exact hv
theorem figs_one {b v : Int} (hv : 0 ≤ v ∧ v < b) : Figs b [v] := fun x hx => by rw [List.mem_singleton.mp hx]; exact hv
theorem cut_lit (ns : List Int) (k : Nat) (z : Int) (e : z = (k : Int)) : cutV (ns.map V.int) none (some z) = (ns.take k).map V.int := by rw [e, cut_take, take_map]
theorem cut_litd (ns : List Int) (k : Nat) (z : Int) (e : z = (k : Int)) : cutV (ns.map V.int) (some z) none = (ns.drop k).map V.int := by rw [e, cut_drop, drop_map]
/-- a value's int -/
def iof : V → Int
  | .int z => z
  | _ => 0
theorem map_ints (f : Int → Int) (ns : List Int) : (ns.map V.int).map (fun v => V.int (f (iof v))) = (ns.map f).map V.int := by
  rw [List.map_map, List.map_map]
  rfl
theorem map_same (ns : List Int) : (ns.map V.int).map (fun v => v) = ns.map V.int := List.map_id' _
theorem rep_len {α : Type} (l : List α) : ∀ n : Nat, ((List.replicate n l).flatten).length = n * l.length
  | 0 => by rw [Nat.zero_mul]; rfl
  | n + 1 => by
    rw [List.replicate_succ, List.flatten_cons, List.length_append, rep_len l n, Nat.succ_mul, Nat.add_comm]
theorem figs_rep {b : Int} {ns : List Int} (h : Figs b ns) (n : Nat) : Figs b (List.replicate n ns).flatten := fun x hx => by
  obtain ⟨l, hl, hx⟩ := List.mem_flatten.mp hx
  rw [(List.mem_replicate.mp hl).2] at hx
  exact h x hx
theorem rep_map (ns : List Int) (n : Nat) : (List.replicate n (ns.map V.int)).flatten = ((List.replicate n ns).flatten).map V.int := by
  rw [List.map_flatten, List.map_replicate]
/-- a writing that may be handed in -/
structure WrOk (b : Int) (x : Wr) : Prop where
  w0 : 0 ≤ x.w
  w1 : x.w ≤ 1000000000000
  la : x.a.length ≤ 4000
  lr : x.r.length ≤ 4000
  fa : Figs b x.a
  fr : Figs b x.r
/-! ### pairs of ints as data -/
def dP (x y : Int) : PyData := .tuple [.int x, .int y]
theorem eqv_dP (x y x' y' : Int) : PyData.eqv (dP x y) (dP x' y') = decide (x = x' ∧ y = y') := by
  unfold dP
  rw [PyData.eqv]
  show ((x == x') && ((y == y') && true)) = _
  by_cases h1 : x = x' <;> by_cases h2 : y = y' <;> simp [h1, h2]
theorem shaped_dP (x y : Int) : SeqAt.shaped (dP x y) = true := rfl
theorem dp_dP {K : PySem.W.Frag} {H : Hp} {p : Addr} {x y : Int} (h : H p = some (.tup [.int x, .int y])) : Dp K H (.ref p) (dP x y) := .tup (sqt h) (.cons (.int x) (.cons (.int y) .nil))
theorem tyx_tup {K : PySem.W.Frag} {H : Hp} {p : Addr} {xs : List V} (h : H p = some (.tup xs)) : TyX K H (.ref p) (.type "tuple") := .base (.tup h)
theorem tyx_lst {K : PySem.W.Frag} {H : Hp} {p : Addr} {xs : List V} (h : H p = some (.lst xs)) : TyX K H (.ref p) (.type "list") := .base (.lst h)
end Rf

set_option maxHeartbeats 1000000
namespace Rf
/-! ### what figures tell -/
def numI (b : Int) (ns : List Int) : Int := ns.foldl (fun t f => t * b + f) 0
theorem num_from (b : Int) : ∀ (ns : List Int) (t : Int), ns.foldl (fun t f => t * b + f) t = t * b ^ ns.length + numI b ns
  | [], t => by
    show t = t * b ^ 0 + 0
    rw [Int.pow_zero]; omega
  | f :: ns, t => by
    have h1 := num_from b ns (t * b + f)
    have h2 := num_from b ns (0 * b + f)
    show ns.foldl (fun t f => t * b + f) (t * b + f) = t * b ^ (ns.length + 1) + ns.foldl (fun t f => t * b + f) (0 * b + f)
    rw [h1, h2, Int.pow_succ, Int.add_mul, Int.zero_mul, Int.zero_add, Int.mul_assoc, Int.mul_comm b (b ^ ns.length)]
    omega
theorem num_nil (b : Int) : numI b [] = 0 := rfl
theorem num_snoc (b : Int) (ns : List Int) (f : Int) : numI b (ns ++ [f]) = numI b ns * b + f := by
  unfold numI
  rw [List.foldl_append]
  rfl
theorem num_app (b : Int) (ns ms : List Int) : numI b (ns ++ ms) = numI b ns * b ^ ms.length + numI b ms := by
  have e : numI b (ns ++ ms) = ms.foldl (fun t f => t * b + f) (numI b ns) := by
    unfold numI
    rw [List.foldl_append]
  rw [e, num_from]
theorem num_cons (b f : Int) (ns : List Int) : numI b (f :: ns) = f * b ^ ns.length + numI b ns := by
  have e := num_app b [f] ns
  have e2 : numI b [f] = f := by
    show 0 * b + f = f
    omega
  rw [e2] at e
  exact e
theorem pow_posI {b : Int} (h : 0 < b) (n : Nat) : 0 < b ^ n := Int.pow_pos h
theorem num_ok {b : Int} (hb : 0 < b) : ∀ ns : List Int, (∀ x, x ∈ ns → 0 ≤ x ∧ x < b) → 0 ≤ numI b ns ∧ numI b ns < b ^ ns.length
  | [], _ => by
    show (0 : Int) ≤ 0 ∧ (0 : Int) < b ^ 0
    rw [Int.pow_zero]
    exact ⟨by decide, by decide⟩
  | f :: ns, h => by
    have ih := num_ok hb ns fun x hx => h x (List.mem_cons_of_mem _ hx)
    have hf := h f List.mem_cons_self
    have hp := pow_posI hb ns.length
    rw [num_cons, List.length_cons, Int.pow_succ]
    have h1 : 0 ≤ f * b ^ ns.length := Int.mul_nonneg hf.1 (Int.le_of_lt hp)
    have h2 : f * b ^ ns.length ≤ (b - 1) * b ^ ns.length := Int.mul_le_mul_of_nonneg_right (by omega) (Int.le_of_lt hp)
    have h3 : (b - 1) * b ^ ns.length = b ^ ns.length * b - b ^ ns.length := by rw [Int.sub_mul, Int.mul_comm, Int.one_mul]
    omega
theorem pow_ge1 {b : Int} (hb : 0 < b) (n : Nat) : 1 ≤ b ^ n := by
  have := pow_posI hb n
  omega
theorem pow_ge2 {b : Int} (hb : 2 ≤ b) {n : Nat} (hn : 0 < n) : 2 ≤ b ^ n := by
  obtain ⟨k, rfl⟩ : ∃ k, n = k + 1 := ⟨n - 1, by omega⟩
  rw [Int.pow_succ]
  have h1 := pow_ge1 (b := b) (by omega) k
  have h2 : 1 * b ≤ b ^ k * b := Int.mul_le_mul_of_nonneg_right h1 (by omega)
  omega
/-- a power of a base is below a power of two -/
theorem pow_lt2 {b : Int} (h0 : 0 ≤ b) (hb : b ≤ 64) (n : Nat) : b ^ n ≤ 2 ^ (6 * n) := by
  induction n with
  | zero => rw [Int.pow_zero, Nat.mul_zero, Int.pow_zero]; exact Int.le_refl _
  | succ n ih =>
    rw [Int.pow_succ, Nat.mul_succ, Int.pow_add]
    have h1 : (0 : Int) ≤ 2 ^ (6 * n) := Int.le_of_lt (Int.pow_pos (by decide))
    exact Int.mul_le_mul ih (by exact hb) h0 h1
/-! ### worths -/
def low (x y : Int) : Int × Int := (x / ((Nat.gcd x.toNat y.toNat : Nat) : Int), y / ((Nat.gcd x.toNat y.toNat : Nat) : Int))
/-- top and bottom of a writing -/
def wT (b w : Int) (a r : List Int) : Int := if r = [] then w * b ^ a.length + numI b a else (w * b ^ a.length + numI b a) * (b ^ r.length - 1) + numI b r
def wB (b : Int) (a r : List Int) : Int := if r = [] then b ^ a.length else b ^ a.length * (b ^ r.length - 1)
theorem wT_nn {b w : Int} {a r : List Int} (hb : 2 ≤ b) (hw : 0 ≤ w) (ha : ∀ x, x ∈ a → 0 ≤ x ∧ x < b) (hr : ∀ x, x ∈ r → 0 ≤ x ∧ x < b) : 0 ≤ wT b w a r := by
  have h1 := (num_ok (by omega) a ha).1
  have h2 := (num_ok (by omega) r hr).1
  have h3 : 0 ≤ w * b ^ a.length := Int.mul_nonneg hw (Int.le_of_lt (pow_posI (by omega) _))
  unfold wT
  split
  · omega
  · have h4 : 0 ≤ (w * b ^ a.length + numI b a) * (b ^ r.length - 1) := Int.mul_nonneg (by omega) (by have := pow_ge1 (b := b) (by omega) r.length; omega)
    omega
theorem wB_pos {b : Int} {a r : List Int} (hb : 2 ≤ b) : 0 < wB b a r := by
  unfold wB
  have h1 := pow_posI (b := b) (by omega) a.length
  split
  · exact h1
  · rename_i h
    have h2 := pow_ge2 hb (n := r.length) (List.length_pos_iff.mpr h)
    exact Int.mul_pos h1 (by omega)
end Rf

set_option maxRecDepth 100000
set_option maxHeartbeats 4000000
namespace Rf
open PySem PySem.Spec PyProof.Rows L2
/-! ### sizes of great numbers -/
theorem nabs_lt {i : Int} {m : Nat} (h0 : 0 ≤ i) (h : i < 2 ^ m) : i.natAbs < 2 ^ m := by
  have e : ((i.natAbs : Nat) : Int) = i := Int.natAbs_of_nonneg h0
  have e2 : (((2 ^ m : Nat)) : Int) = (2 : Int) ^ m := by rw [Int.natCast_pow]; rfl
  omega
theorem mulOk_of {i j : Int} {m n : Nat} (hi : 0 ≤ i) (hi2 : i < 2 ^ m) (hj : 0 ≤ j) (hj2 : j < 2 ^ n) (hm : 0 < m) (hn : 0 < n) (h : m + n ≤ 1000000) : IntMulOk i j := (wide_mul (nabs_lt hi hi2) (nabs_lt hj hj2) hm hn h).ok
theorem pow_mono2 {m n : Nat} (h : m ≤ n) : (2 : Int) ^ m ≤ 2 ^ n := by
  obtain ⟨k, rfl⟩ : ∃ k, n = m + k := ⟨n - m, by omega⟩
  rw [Int.pow_add]
  have h1 : (1 : Int) ≤ 2 ^ k := pow_ge1 (by decide) k
  have h2 : (0 : Int) ≤ 2 ^ m := Int.le_of_lt (Int.pow_pos (by decide))
  have h3 : (2 : Int) ^ m * 1 ≤ 2 ^ m * 2 ^ k := Int.mul_le_mul_of_nonneg_left h1 h2
  omega
theorem pow_ltb {b : Int} (h0 : 0 ≤ b) (hb : b ≤ 64) {n N : Nat} (h : n ≤ N) : b ^ n < 2 ^ (6 * N + 1) := by
  have h1 := pow_lt2 h0 hb n
  have h2 := pow_mono2 (show 6 * n ≤ 6 * N by omega)
  have h3 : (0 : Int) < 2 ^ (6 * N) := Int.pow_pos (by decide)
  rw [Int.pow_succ]
  omega
/-- the whole number and the figures ahead, as one number -/
theorem head_lt {b w : Int} {a : List Int} (hb : 2 ≤ b) (hb2 : b ≤ 36) (h0 : 0 ≤ w) (h1 : w ≤ 1000000000000) (la : a.length ≤ 4000) (fa : Figs b a) : 0 ≤ w * b ^ a.length + numI b a ∧ w * b ^ a.length + numI b a < 2 ^ 24041 := by
  have h2 := num_ok (by omega) a fa
  have h3 := pow_posI (b := b) (by omega) a.length
  have h4 : 0 ≤ w * b ^ a.length := Int.mul_nonneg h0 (Int.le_of_lt h3)
  have h5 : w * b ^ a.length + numI b a < (w + 1) * b ^ a.length := by rw [Int.add_mul, Int.one_mul]; omega
  have h6 := pow_lt2 (b := b) (by omega) (by omega) a.length
  have h40 : (2 : Int) ^ 40 = 1099511627776 := by decide
  have h7 : (w + 1) * b ^ a.length ≤ 2 ^ 40 * 2 ^ (6 * a.length) := Int.mul_le_mul (by omega) h6 (Int.le_of_lt h3) (by decide)
  rw [← Int.pow_add] at h7
  have h8 := pow_mono2 (show 40 + 6 * a.length ≤ 24041 by omega)
  omega
/-- what is asked of the divisions of a fraction taken to lowest terms -/
def LowOk (x y : Int) : Prop := CDivP x ((Nat.gcd x.toNat y.toNat : Nat) : Int) ∧ CDivP y ((Nat.gcd x.toNat y.toNat : Nat) : Int)
theorem lowOk_wide {x y : Int} (hy : 0 < y) (hw : Wid y.toNat) : LowOk x y := by
  have hg : 0 < Nat.gcd x.toNat y.toNat := Nat.gcd_pos_of_pos_right _ (by omega)
  have hl : Nat.gcd x.toNat y.toNat ≤ y.toNat := Nat.gcd_le_right _ (by omega)
  have hw2 : Wid (Nat.gcd x.toNat y.toNat) := by
    refine ⟨?_⟩
    have h1 := hw.lt
    have h2 : (Nat.gcd x.toNat y.toNat).log2 ≤ y.toNat.log2 := by
      rcases Nat.lt_or_ge y.toNat.log2 (Nat.gcd x.toNat y.toNat).log2 with q | q
      · have h3 := (Nat.log2_lt (by omega)).mp q
        have h4 := Nat.log2_self_le (n := Nat.gcd x.toNat y.toNat) (by omega)
        omega
      · exact q
    omega
  exact ⟨cdivp_wide hg hw2, cdivp_wide hg hw2⟩
/-- a writing of at most 124 figures ahead and 138 in the ring -/
theorem lowOk_wr {b w : Int} {a r : List Int} (hb : 2 ≤ b) (hb2 : b ≤ 36) (la : a.length ≤ 124) (lr : r.length ≤ 1200) : LowOk (wT b w a r) (wB b a r) := by
  have hp := wB_pos (a := a) (r := r) hb
  refine lowOk_wide hp (wid_of (k := 8000) ?_ (by decide) (by decide))
  have h1 := pow_lt2 (b := b) (by omega) (by omega) a.length
  have h2 := pow_lt2 (b := b) (by omega) (by omega) r.length
  have h3 := pow_posI (b := b) (by omega) a.length
  have h4 := pow_ge1 (b := b) (by omega) r.length
  have h5 : wB b a r ≤ 2 ^ (6 * a.length) * 2 ^ (6 * r.length) := by
    have h6 : b ^ a.length * b ^ r.length ≤ 2 ^ (6 * a.length) * 2 ^ (6 * r.length) := Int.mul_le_mul h1 h2 (by omega) (Int.le_of_lt (Int.pow_pos (by decide)))
    have h7 : b ^ a.length * 1 ≤ b ^ a.length * b ^ r.length := Int.mul_le_mul_of_nonneg_left h4 (Int.le_of_lt h3)
    unfold wB
    split
    · omega
    · rw [Int.mul_sub]; omega
  rw [← Int.pow_add] at h5
  have h8 := pow_mono2 (show 6 * a.length + 6 * r.length ≤ 7999 by omega)
  have h9 : (2 : Int) ^ 7999 < 2 ^ 8000 := by
    have e : (2 : Int) ^ (7999 + 1) = 2 ^ 7999 * 2 := Int.pow_succ 2 7999
    have e2 : (0 : Int) < 2 ^ 7999 := Int.pow_pos (by decide)
    rw [show (8000 : Nat) = 7999 + 1 from rfl, e]
    omega
  have h10 := nabs_lt (Int.le_of_lt hp) (show wB b a r < 2 ^ 8000 by omega)
  have e3 : (wB b a r).toNat = (wB b a r).natAbs := by omega
  rw [e3]
  exact h10
end Rf

namespace Rf
open PySem PySem.Spec PyProof.Rows L2
open C8 (Cal pe_c pe_gc)
local macro_rules | `(tactic| walk_at "side") => `(tactic| first
  | ((with_reducible show IntMulOk _ _); first | assumption | exact (show ∀ i : Int, IntMulOk i _ from by assumption) _ | (refine mulB_right ?_ ?_ <;> omega) | (refine mulB_left ?_ ?_ <;> omega))
  | ((with_reducible show CDivP _ _); first | assumption | exact (show ∀ i : Int, CDivP i _ from by assumption) _ | (refine cdivp_small ?_ ?_ <;> omega))
  | ((with_reducible show (_ : Int) < _); first | assumption | omega | decide)
  | ((with_reducible show scal _ _ = true); rfl)
  | ((with_reducible show _ ≤ sizeLine); first | exact sz100 (Nat.le_of_ble_eq_true rfl) | exact sz100 (by omega))
  | ((with_reducible show CPow _ _); dsimp only [CPow]; decide))
local macro_rules | `(tactic| walk_at "sq") => `(tactic| first | assumption | exact sql (by assumption) | exact sqt (by assumption) | exact sqt upd_same | exact sql upd_same)
local macro_rules | `(tactic| walk_at "call") => `(tactic| fail)
local macro_rules | `(tactic| walk_at "st1") => `(tactic| first
  | refine ⟨_, rfl, ?_⟩
  | refine ⟨_, _, rfl, rfl, ?_⟩
  | refine And.intro (by walk_at "side") ?_
  | refine ⟨_, _, rfl, .inl (by walk_at "sq"), ?_⟩
  | refine ⟨_, _, rfl, .inr (by walk_at "sq"), ?_⟩
  | refine And.intro rfl ?_
  | refine ⟨_, _, _, _, rfl, rfl, (by walk_at "sq"), rfl, ?_⟩
  | refine ⟨_, _, rfl, (by walk_at "sq"), rfl, ?_⟩
  | refine ⟨_, _, _, _, _, rfl, .ty _, (by first | exact tyx_tup (by assumption) | exact tyx_lst (by assumption)), (by first | exact kit_tup | exact kit_lst), ?_⟩
  | refine ⟨_, _, rfl, ?_⟩
  | walk_at "call")
local macro_rules | `(tactic| walk_at "st") => `(tactic| repeat walk_at "st1")
def topS (i : Nat) : Stmt := PySem.Challenge.pw_ringfigures_k03_worths.main.body.getD i (.Pass ⟨0, 0, 0, 0⟩)
/-- what the module's names hold -/
structure Md (K : PySem.W.Frag) (mg : Str → Option Value) : Prop where
  m_len : mg "len" = none
  m_range : mg "range" = none
  m_isinstance : mg "isinstance" = none
  m_int : mg "int" = none
  m_bool : mg "bool" = none
  m_list : mg "list" = none
  m_tuple : mg "tuple" = none
  g_GREATEST : ∃ u, mg "GREATEST" = some u ∧ RelV (.int 1000000000000) u
  g_MOST_FIGURES : ∃ u, mg "MOST_FIGURES" = some u ∧ RelV (.int 4000) u
abbrev s_askedbase : Stmt := topS 7
theorem sc_askedbase : FnScope ["base"] ["base"] (defScope s_askedbase) := ⟨rfl, rfl, rfl, by decide +kernel, rfl, by decide +kernel, by decide +kernel⟩
@[irreducible] def sp_askedbase (K : PySem.W.Frag) : Sp := fun vs H Q _ => ∃ (x : Int), vs = [.int x] ∧ 2 ≤ x ∧ x ≤ 36 ∧ Q .non H
theorem go_askedbase {K : PySem.W.Frag} {H : Hp} {x : Int} {Q : VK} {E : XK} (h1 : 2 ≤ x) (h2 : x ≤ 36) (q : Q .non H) : sp_askedbase K [.int x] H Q E := by
  unfold sp_askedbase; exact ⟨x, rfl, h1, h2, q⟩
local macro_rules | `(tactic| walk_at "call") => `(tactic| refine go_askedbase (by omega) (by omega) ?_)
section
variable {P : Program} {w : World} {K : PySem.W.Frag} {mg : Str → Option Value} {base : Heap}
theorem ok_askedbase {f : Addr} {fd : FuncData} (F : Fun K "asked_base" "asked_base" s_askedbase f fd) (M : Md K mg) : FnOk P w K mg base CX0 1 f fd ["base"] (sp_askedbase K) := by
  refine F.ok sc_askedbase (fun vs H Q E h => ?_) (fun cdv A outer s H vs Q E hr h => ?_)
  · unfold sp_askedbase at h; obtain ⟨x, rfl, h1, h2, q⟩ := h
    rfl
  · have hu := hu_of hr
    unfold sp_askedbase at h; obtain ⟨x, rfl, h1, h2, q⟩ := h
    refine ⟨_, (pss_one (ps_if (PW.pt (pw_or (pt_cmpR op_lt (pv 0) pe_int (nomark _)) (pw_or1 (pt_cmpR op_gt (pv 0) pe_int (nomark _)))))
        (pss_one ps_never) pss_nil)), ?_⟩
    walk_at "st"
    refine iteD (fun e => absurd e (by omega)) (fun _ => ?_)
    walk_at "st"
    refine iteD (fun e => absurd e (by omega)) (fun _ => ?_)
    exact q
end
abbrev s_askedfigures : Stmt := topS 8
theorem sc_askedfigures : FnScope ["base", "figures", "figure"] ["base", "figures"] (defScope s_askedfigures) := ⟨rfl, rfl, rfl, by decide +kernel, rfl, by decide +kernel, by decide +kernel⟩
@[irreducible] def sp_askedfigures (K : PySem.W.Frag) : Sp := fun vs H Q _ => ∃ (b : Int) (a : Addr) (ns : List Int), vs = [.int b, .ref a] ∧ SqL K H a (ns.map V.int) ∧ ns.length ≤ 4000 ∧ Figs b ns ∧ Q .non H
theorem go_askedfigures {K : PySem.W.Frag} {H : Hp} {b : Int} {a : Addr} {ns : List Int} {Q : VK} {E : XK} (hS : SqL K H a (ns.map V.int)) (hl : ns.length ≤ 4000) (hf : Figs b ns) (q : Q .non H) : sp_askedfigures K [.int b, .ref a] H Q E := by
  unfold sp_askedfigures; exact ⟨b, a, ns, rfl, hS, hl, hf, q⟩
section
variable {P : Program} {w : World} {K : PySem.W.Frag} {mg : Str → Option Value} {base : Heap}
theorem ok_askedfigures {f : Addr} {fd : FuncData} (F : Fun K "asked_figures" "asked_figures" s_askedfigures f fd) (M : Md K mg) : FnOk P w K mg base CX0 1 f fd ["base", "figures"] (sp_askedfigures K) := by
  refine F.ok sc_askedfigures (fun vs H Q E h => ?_) (fun cdv A outer s H vs Q E hr h => ?_)
  · unfold sp_askedfigures at h; obtain ⟨b, a, ns, rfl, hS, hl, hf, q⟩ := h
    rfl
  · have hu := hu_of hr
    unfold sp_askedfigures at h; obtain ⟨b, a, ns, rfl, hS, hl, hf, q⟩ := h
    refine ⟨_, (pss_cons (ps_if (pt_cmpR op_gt (pe_callB call_len_seq (by rfl) M.m_len PySem.boot_len (pa_cons (pv 1) pa_nil)) (pe_gc (by rfl) M.g_MOST_FIGURES) (nomark _))
        (pss_one ps_never) pss_nil)
      (pss_one (ps_for PassesOwn.never rfl (pi_list (pv 1)) (pg_name (i := 2) sc_askedfigures.nd rfl (.inl rfl))
        (pss_one (ps_if (PW.pt (pw_or (pt_cmpR op_lt (pv 2) pe_int (nomark _)) (pw_or1 (pt_cmpR op_ge (pv 2) (pv 0) (nomark _)))))
        (pss_one ps_never) pss_nil))))), ?_⟩
    walk_at "st"
    rw [List.length_map]
    refine iteD (fun e => absurd e (by omega)) (fun _ => ?_)
    walk_at "st"
    refine ⟨⟨_, hS⟩, for_list (K := K) (a := a) (xs := ns.map V.int) (fun i σ H' => ∃ y2, σ = [some (.int b), some (.ref a), y2] ∧ H = H') ⟨none, rfl, rfl⟩ (fun i σ H' _ ⟨_, _, e⟩ => e ▸ hS) (fun i x σ H' hi hv => ?_) (fun σ H' hv => ?_)⟩
    · obtain ⟨y2, rfl, rfl⟩ := hv
      obtain ⟨z, hz, rfl⟩ := mem_ints (List.mem_of_getElem? hi)
      have hz2 := hf z hz
      walk_at "st"
      refine iteD (fun e => absurd e (by omega)) (fun _ => ?_)
      walk_at "st"
      refine iteD (fun e => absurd e (by omega)) (fun _ => ?_)
      exact ⟨_, rfl, rfl⟩
    · obtain ⟨y2, rfl, rfl⟩ := hv
      exact q
end
abbrev s_askedwriting : Stmt := topS 9
theorem sc_askedwriting : FnScope ["base", "writing"] ["base", "writing"] (defScope s_askedwriting) := ⟨rfl, rfl, rfl, by decide +kernel, rfl, by decide +kernel, by decide +kernel⟩
@[irreducible] def sp_askedwriting (K : PySem.W.Frag) : Sp := fun vs H Q _ => ∃ (b : Int) (p a r : Addr) (x : Wr), vs = [.int b, .ref p] ∧ 2 ≤ b ∧ b ≤ 36 ∧ WrAt H p a r x ∧ WrOk b x ∧ Q .non H
theorem go_askedwriting {K : PySem.W.Frag} {H : Hp} {b : Int} {p a r : Addr} {x : Wr} {Q : VK} {E : XK} (h1 : 2 ≤ b) (h2 : b ≤ 36) (h : WrAt H p a r x) (ho : WrOk b x) (q : Q .non H) : sp_askedwriting K [.int b, .ref p] H Q E := by
  unfold sp_askedwriting; exact ⟨b, p, a, r, x, rfl, h1, h2, h, ho, q⟩
section
variable {P : Program} {w : World} {K : PySem.W.Frag} {mg : Str → Option Value} {base : Heap}
theorem ok_askedwriting {f : Addr} {fd : FuncData} (F : Fun K "asked_writing" "asked_writing" s_askedwriting f fd) (M : Md K mg) (c_askedbase : Cal P w K mg base 1 "asked_base" (sp_askedbase K) []) (c_askedfigures : Cal P w K mg base 1 "asked_figures" (sp_askedfigures K) []) : FnOk P w K mg base CX0 2 f fd ["base", "writing"] (sp_askedwriting K) := by
  refine F.ok sc_askedwriting (fun vs H Q E h => ?_) (fun cdv A outer s H vs Q E hr h => ?_)
  · unfold sp_askedwriting at h; obtain ⟨b, p, a, r, x, rfl, h1, h2, h, ho, q⟩ := h
    rfl
  · have hu := hu_of hr
    unfold sp_askedwriting at h; obtain ⟨b, p, a, r, x, rfl, h1, h2, h, ho, q⟩ := h
    have ht := h.tp
    have hw1 := ho.w0
    have hw2 := ho.w1
    refine ⟨_, (pss_cons (ps_expr (pe_c c_askedbase hr (by decide) (by rfl) (pa_cons (pv 0) pa_nil)))
      (pss_cons (ps_if (PW.pt (pw_or (pt_cmpR op_lt (pe_ix ix_tup (pv 1) pe_int (fun _ _ => rfl)) pe_int (nomark _)) (pw_or1 (pt_cmpR op_gt (pe_ix ix_tup (pv 1) pe_int (fun _ _ => rfl)) (pe_gc (by rfl) M.g_GREATEST) (nomark _)))))
        (pss_one ps_never) pss_nil)
      (pss_cons (ps_expr (pe_c c_askedfigures hr (by decide) (by rfl) (pa_cons (pv 0) (pa_cons (pe_ix ix_tup (pv 1) pe_int (fun _ _ => rfl)) pa_nil))))
      (pss_one (ps_expr (pe_c c_askedfigures hr (by decide) (by rfl) (pa_cons (pv 0) (pa_cons (pe_ix ix_tup (pv 1) pe_int (fun _ _ => rfl)) pa_nil)))))))), ?_⟩
    walk_at "st"
    refine iteD (fun e => absurd e (by omega)) (fun _ => ?_)
    walk_at "st"
    refine iteD (fun e => absurd e (by omega)) (fun _ => ?_)
    walk_at "st"
    refine go_askedfigures (sql h.la) ho.la ho.fa ?_
    walk_at "st"
    refine go_askedfigures (sql h.lr) ho.lr ho.fr ?_
    exact q
end
abbrev s_common : Stmt := topS 10
theorem sc_common : FnScope ["one", "other", "rest"] ["one", "other"] (defScope s_common) := ⟨rfl, rfl, rfl, by decide +kernel, rfl, by decide +kernel, by decide +kernel⟩
@[irreducible] def sp_common (K : PySem.W.Frag) : Sp := fun vs H Q _ => ∃ (x y : Int) (a c : Nat), vs = [.int x, .int y] ∧ x = a ∧ y = c ∧ Q (.int ((Nat.gcd a c : Nat) : Int)) H
theorem go_common {K : PySem.W.Frag} {H : Hp} {x y : Int} {Q : VK} {E : XK} (a c : Nat) (hx : x = a) (hy : y = c) (q : Q (.int ((Nat.gcd a c : Nat) : Int)) H) : sp_common K [.int x, .int y] H Q E := by
  unfold sp_common; exact ⟨x, y, a, c, rfl, hx, hy, q⟩
section
variable {P : Program} {w : World} {K : PySem.W.Frag} {mg : Str → Option Value} {base : Heap}
theorem ok_common {f : Addr} {fd : FuncData} (F : Fun K "common" "common" s_common f fd) (M : Md K mg) : FnOk P w K mg base CX0 1 f fd ["one", "other"] (sp_common K) := by
  refine F.ok sc_common (fun vs H Q E h => ?_) (fun cdv A outer s H vs Q E hr h => ?_)
  · unfold sp_common at h; obtain ⟨x, y, a, c, rfl, rfl, rfl, q⟩ := h
    rfl
  · have hu := hu_of hr
    unfold sp_common at h; obtain ⟨x, y, a, c, rfl, rfl, rfl, q⟩ := h
    refine ⟨_, (pss_cons (ps_while PassesOwn.never (pt_cmpR op_gt (pv 1) pe_int (nomark _))
        (pss_cons (ps_set (i := 2) sc_common.nd rfl (.inl rfl) (pe_op op_mod (pv 0) (pv 1)))
      (pss_cons (ps_set (i := 0) sc_common.nd rfl (.inl rfl) (pv 1))
      (pss_one (ps_set (i := 1) sc_common.nd rfl (.inl rfl) (pv 2))))))
      (pss_one (ps_ret (pv 0)))), ?_⟩
    refine ⟨fun μ σ H' => ∃ (A B : Nat) (y2 : Option V), μ = B ∧ Nat.gcd A B = Nat.gcd a c ∧ H = H' ∧ σ = [some (.int (A : Int)), some (.int (B : Int)), y2], ⟨c, a, c, none, rfl, rfl, rfl, rfl⟩, fun μ σ H' hW => ?_⟩
    obtain ⟨A, B, y2, e1, e2, rfl, rfl⟩ := hW
    walk_at "st"
    refine iteD (fun hp => ?_) (fun hp => ?_)
    · refine ⟨fun σ H' => H = H' ∧ ∃ y2, σ = [some (.int (B : Int)), some (.int ((A % B : Nat) : Int)), y2], fun σ H' hN => ?_, ?_⟩
      · obtain ⟨rfl, y3, rfl⟩ := hN
        refine ⟨A % B, ?_, B, A % B, y3, rfl, ?_, rfl, rfl⟩
        · rw [e1]; exact Nat.mod_lt _ (by omega)
        · rw [← e2, Nat.gcd_comm A B, Nat.gcd_rec B A, Nat.gcd_comm]
      · walk_at "st"
        exact ⟨_, rfl⟩
    · have hB : B = 0 := by omega
      rw [hB, Nat.gcd_zero_right] at e2
      rw [← e2] at q
      walk_at "st"
      exact q
end
abbrev s_lowest : Stmt := topS 11
theorem sc_lowest : FnScope ["top", "bottom", "part"] ["top", "bottom"] (defScope s_lowest) := ⟨rfl, rfl, rfl, by decide +kernel, rfl, by decide +kernel, by decide +kernel⟩
@[irreducible] def sp_lowest (K : PySem.W.Frag) : Sp := fun vs H Q _ => ∃ (x y : Int), vs = [.int x, .int y] ∧ 0 ≤ x ∧ 0 < y ∧ LowOk x y ∧ ∀ p, H p = none → Q (.ref p) (upd H p (.tup [.int (low x y).1, .int (low x y).2]))
theorem go_lowest {K : PySem.W.Frag} {H : Hp} {x y : Int} {Q : VK} {E : XK} (hx : 0 ≤ x) (hy : 0 < y) (hl : LowOk x y) (q : ∀ p, H p = none → Q (.ref p) (upd H p (.tup [.int (low x y).1, .int (low x y).2]))) : sp_lowest K [.int x, .int y] H Q E := by
  unfold sp_lowest; exact ⟨x, y, rfl, hx, hy, hl, q⟩
section
variable {P : Program} {w : World} {K : PySem.W.Frag} {mg : Str → Option Value} {base : Heap}
theorem ok_lowest {f : Addr} {fd : FuncData} (F : Fun K "lowest" "lowest" s_lowest f fd) (M : Md K mg) (c_common : Cal P w K mg base 1 "common" (sp_common K) []) : FnOk P w K mg base CX0 2 f fd ["top", "bottom"] (sp_lowest K) := by
  refine F.ok sc_lowest (fun vs H Q E h => ?_) (fun cdv A outer s H vs Q E hr h => ?_)
  · unfold sp_lowest at h; obtain ⟨x, y, rfl, hx, hy, hl, q⟩ := h
    rfl
  · have hu := hu_of hr
    unfold sp_lowest at h; obtain ⟨x, y, rfl, hx, hy, hl, q⟩ := h
    obtain ⟨l1, l2⟩ := hl
    have ex : x = ((x.toNat : Nat) : Int) := (Int.toNat_of_nonneg hx).symm
    have ey : y = ((y.toNat : Nat) : Int) := (Int.toNat_of_nonneg (by omega)).symm
    refine ⟨_, (pss_cons (ps_set (i := 2) sc_lowest.nd rfl (.inl rfl) (pe_c c_common hr (by decide) (by rfl) (pa_cons (pv 0) (pa_cons (pv 1) pa_nil))))
      (pss_one (ps_ret (pe_tup (pa_cons (pe_op op_fdivP (pv 0) (pv 2)) (pa_cons (pe_op op_fdivP (pv 1) (pv 2)) pa_nil)))))), ?_⟩
    walk_at "st"
    refine go_common x.toNat y.toNat ex ey ?_
    walk_at "st"
    exact q
end
abbrev s_numberof : Stmt := topS 12
theorem sc_numberof : FnScope ["base", "figures", "total", "figure"] ["base", "figures"] (defScope s_numberof) := ⟨rfl, rfl, rfl, by decide +kernel, rfl, by decide +kernel, by decide +kernel⟩
@[irreducible] def sp_numberof (K : PySem.W.Frag) : Sp := fun vs H Q _ => ∃ (b : Int) (a : Addr) (ns : List Int), vs = [.int b, .ref a] ∧ 0 ≤ b ∧ b ≤ 100 ∧ SqL K H a (ns.map V.int) ∧ Q (.int (numI b ns)) H
theorem go_numberof {K : PySem.W.Frag} {H : Hp} {b : Int} {a : Addr} {ns : List Int} {Q : VK} {E : XK} (h1 : 0 ≤ b) (h2 : b ≤ 100) (hS : SqL K H a (ns.map V.int)) (q : Q (.int (numI b ns)) H) : sp_numberof K [.int b, .ref a] H Q E := by
  unfold sp_numberof; exact ⟨b, a, ns, rfl, h1, h2, hS, q⟩
section
variable {P : Program} {w : World} {K : PySem.W.Frag} {mg : Str → Option Value} {base : Heap}
theorem ok_numberof {f : Addr} {fd : FuncData} (F : Fun K "number_of" "number_of" s_numberof f fd) (M : Md K mg) : FnOk P w K mg base CX0 1 f fd ["base", "figures"] (sp_numberof K) := by
  refine F.ok sc_numberof (fun vs H Q E h => ?_) (fun cdv A outer s H vs Q E hr h => ?_)
  · unfold sp_numberof at h; obtain ⟨b, a, ns, rfl, h1, h2, hS, q⟩ := h
    rfl
  · have hu := hu_of hr
    unfold sp_numberof at h; obtain ⟨b, a, ns, rfl, h1, h2, hS, q⟩ := h
    refine ⟨_, (pss_cons (ps_set (i := 2) sc_numberof.nd rfl (.inl rfl) pe_int)
      (pss_cons (ps_for PassesOwn.never rfl (pi_list (pv 1)) (pg_name (i := 3) sc_numberof.nd rfl (.inl rfl))
        (pss_one (ps_set (i := 2) sc_numberof.nd rfl (.inl rfl) (pe_op op_add (pe_op op_mulB (pv 2) (pv 0)) (pv 3)))))
      (pss_one (ps_ret (pv 2))))), ?_⟩
    walk_at "st"
    refine ⟨⟨_, hS⟩, for_list (K := K) (a := a) (xs := ns.map V.int) (fun i σ H' => H = H' ∧ ∃ y, σ = [some (.int b), some (.ref a), some (.int (numI b (ns.take i))), y]) ⟨rfl, none, rfl⟩ (fun i σ H' _ ⟨e, _⟩ => e ▸ hS) (fun i x σ H' hi hv => ?_) (fun σ H' hv => ?_)⟩
    · obtain ⟨rfl, y, rfl⟩ := hv
      rw [List.getElem?_map] at hi
      cases e : ns[i]? with
      | none => rw [e] at hi; cases hi
      | some u =>
        rw [e] at hi
        have e2 : V.int u = x := Option.some.inj hi
        subst e2
        rw [take_snoc e, num_snoc]
        walk_at "st"
        exact ⟨_, rfl⟩
    · obtain ⟨rfl, y, rfl⟩ := hv
      rw [List.length_map, List.take_length]
      walk_at "st"
      exact q
end
abbrev s_power : Stmt := topS 13
theorem sc_power : FnScope ["base", "many", "found", "k"] ["base", "many"] (defScope s_power) := ⟨rfl, rfl, rfl, by decide +kernel, rfl, by decide +kernel, by decide +kernel⟩
@[irreducible] def sp_power (K : PySem.W.Frag) : Sp := fun vs H Q _ => ∃ (b n : Int), vs = [.int b, .int n] ∧ 0 ≤ b ∧ b ≤ 100 ∧ 0 ≤ n ∧ n ≤ 100000 ∧ Q (.int (b ^ n.toNat)) H
theorem go_power {K : PySem.W.Frag} {H : Hp} {b n : Int} {Q : VK} {E : XK} (h1 : 0 ≤ b) (h2 : b ≤ 100) (h3 : 0 ≤ n) (h4 : n ≤ 100000) (q : Q (.int (b ^ n.toNat)) H) : sp_power K [.int b, .int n] H Q E := by
  unfold sp_power; exact ⟨b, n, rfl, h1, h2, h3, h4, q⟩
section
variable {P : Program} {w : World} {K : PySem.W.Frag} {mg : Str → Option Value} {base : Heap}
theorem ok_power {f : Addr} {fd : FuncData} (F : Fun K "power" "power" s_power f fd) (M : Md K mg) : FnOk P w K mg base CX0 1 f fd ["base", "many"] (sp_power K) := by
  refine F.ok sc_power (fun vs H Q E h => ?_) (fun cdv A outer s H vs Q E hr h => ?_)
  · unfold sp_power at h; obtain ⟨b, n, rfl, h1, h2, h3, h4, q⟩ := h
    rfl
  · have hu := hu_of hr
    unfold sp_power at h; obtain ⟨b, n, rfl, h1, h2, h3, h4, q⟩ := h
    refine ⟨_, (pss_cons (ps_set (i := 2) sc_power.nd rfl (.inl rfl) pe_int)
      (pss_cons (ps_for PassesOwn.never rfl (pi_range1 (by rfl) M.m_range (pa_cons (pv 1) pa_nil)) (pg_name (i := 3) sc_power.nd rfl (.inl rfl))
        (pss_one (ps_set (i := 2) sc_power.nd rfl (.inl rfl) (pe_op op_mulB (pv 2) (pv 0)))))
      (pss_one (ps_ret (pv 2))))), ?_⟩
    walk_at "st"
    refine ⟨by omega, by omega, for_range (lo := 0) (n := n.toNat) (fun i σ H' => H = H' ∧ ∃ y, σ = [some (.int b), some (.int n), some (.int (b ^ i)), y]) ⟨rfl, none, by rw [Int.pow_zero]; rfl⟩ (fun i σ H' hi hv => ?_) (fun σ H' hv => ?_)⟩
    · obtain ⟨rfl, y, rfl⟩ := hv
      rw [Int.pow_succ]
      walk_at "st"
      exact ⟨_, rfl⟩
    · obtain ⟨rfl, y, rfl⟩ := hv
      walk_at "st"
      exact q
end
abbrev s_worth : Stmt := topS 14
theorem sc_worth : FnScope ["base", "writing", "whole", "ahead", "ring", "first", "top", "turned"] ["base", "writing"] (defScope s_worth) := ⟨rfl, rfl, rfl, by decide +kernel, rfl, by decide +kernel, by decide +kernel⟩
@[irreducible] def sp_worth (K : PySem.W.Frag) : Sp := fun vs H Q _ => ∃ (b : Int) (p a r : Addr) (x : Wr), vs = [.int b, .ref p] ∧ 2 ≤ b ∧ b ≤ 36 ∧ WrAt H p a r x ∧ WrOk b x ∧ LowOk (wT b x.w x.a x.r) (wB b x.a x.r) ∧
  ∀ p', H p' = none → Q (.ref p') (upd H p' (.tup [.int (low (wT b x.w x.a x.r) (wB b x.a x.r)).1, .int (low (wT b x.w x.a x.r) (wB b x.a x.r)).2]))
theorem go_worth {K : PySem.W.Frag} {H : Hp} {b : Int} {p a r : Addr} {x : Wr} {Q : VK} {E : XK} (h1 : 2 ≤ b) (h2 : b ≤ 36) (h : WrAt H p a r x) (ho : WrOk b x) (hl : LowOk (wT b x.w x.a x.r) (wB b x.a x.r))
    (q : ∀ p', H p' = none → Q (.ref p') (upd H p' (.tup [.int (low (wT b x.w x.a x.r) (wB b x.a x.r)).1, .int (low (wT b x.w x.a x.r) (wB b x.a x.r)).2]))) : sp_worth K [.int b, .ref p] H Q E := by
  unfold sp_worth; exact ⟨b, p, a, r, x, rfl, h1, h2, h, ho, hl, q⟩
section
variable {P : Program} {w : World} {K : PySem.W.Frag} {mg : Str → Option Value} {base : Heap}
theorem ok_worth {f : Addr} {fd : FuncData} (F : Fun K "worth" "worth" s_worth f fd) (M : Md K mg) (c_askedwriting : Cal P w K mg base 2 "asked_writing" (sp_askedwriting K) []) (c_lowest : Cal P w K mg base 2 "lowest" (sp_lowest K) []) (c_numberof : Cal P w K mg base 1 "number_of" (sp_numberof K) []) (c_power : Cal P w K mg base 1 "power" (sp_power K) []) : FnOk P w K mg base CX0 3 f fd ["base", "writing"] (sp_worth K) := by
  refine F.ok sc_worth (fun vs H Q E h => ?_) (fun cdv A outer s H vs Q E hr h => ?_)
  · unfold sp_worth at h; obtain ⟨b, p, a, r, x, rfl, h1, h2, h, ho, hl, q⟩ := h
    rfl
  · have hu := hu_of hr
    unfold sp_worth at h; obtain ⟨b, p, a, r, x, rfl, h1, h2, h, ho, hl, q⟩ := h
    have ht := h.tp
    have ha := h.la
    have hr' := h.lr
    have hla := ho.la
    have hlr := ho.lr
    have hd := head_lt h1 h2 ho.w0 ho.w1 ho.la ho.fa
    have hpa := pow_posI (b := b) (by omega) x.a.length
    have hpl := pow_ltb (b := b) (n := x.a.length) (N := 4000) (by omega) (by omega) hla
    have hrl := pow_ltb (b := b) (n := x.r.length) (N := 4000) (by omega) (by omega) hlr
    have hrp := pow_ge1 (b := b) (by omega) x.r.length
    have m1 : IntMulOk x.w (b ^ x.a.length) := mulOk_of (m := 40) ho.w0 (by have h40 : (2 : Int) ^ 40 = 1099511627776 := by decide
                                                                            have := ho.w1
                                                                            omega) (Int.le_of_lt hpa) hpl (by decide) (by decide) (by decide)
    have m2 : IntMulOk (x.w * b ^ x.a.length + numI b x.a) (b ^ x.r.length - 1) := mulOk_of hd.1 hd.2 (by omega) (Int.lt_trans (Int.sub_lt_self _ (by decide)) hrl) (by decide) (by decide) (by decide)
    have m3 : IntMulOk (b ^ x.a.length) (b ^ x.r.length - 1) := mulOk_of (Int.le_of_lt hpa) hpl (by omega) (Int.lt_trans (Int.sub_lt_self _ (by decide)) hrl) (by decide) (by decide) (by decide)
    clear hpl hrl
    refine ⟨_, (pss_cons (ps_expr (pe_c c_askedwriting hr (by decide) (by rfl) (pa_cons (pv 0) (pa_cons (pv 1) pa_nil))))
      (pss_cons (ps_asg (pv 1) (pg_tup rfl (pgs_cons (pg_name (i := 2) sc_worth.nd rfl (.inl rfl)) (pgs_cons (pg_name (i := 3) sc_worth.nd rfl (.inl rfl)) (pgs_cons (pg_name (i := 4) sc_worth.nd rfl (.inl rfl)) pgs_nil)))))
      (pss_cons (ps_set (i := 5) sc_worth.nd rfl (.inl rfl) (pe_c c_power hr (by decide) (by rfl) (pa_cons (pv 0) (pa_cons (pe_callB call_len_seq (by rfl) M.m_len PySem.boot_len (pa_cons (pv 3) pa_nil)) pa_nil))))
      (pss_cons (ps_set (i := 6) sc_worth.nd rfl (.inl rfl) (pe_op op_add (pe_op op_mulB (pv 2) (pv 5)) (pe_c c_numberof hr (by decide) (by rfl) (pa_cons (pv 0) (pa_cons (pv 3) pa_nil)))))
      (pss_cons (ps_if (pt_cmpR op_eq (pe_callB call_len_seq (by rfl) M.m_len PySem.boot_len (pa_cons (pv 4) pa_nil)) pe_int (nomark _))
        (pss_one (ps_ret (pe_c c_lowest hr (by decide) (by rfl) (pa_cons (pv 6) (pa_cons (pv 5) pa_nil))))) pss_nil)
      (pss_cons (ps_set (i := 7) sc_worth.nd rfl (.inl rfl) (pe_op op_sub (pe_c c_power hr (by decide) (by rfl) (pa_cons (pv 0) (pa_cons (pe_callB call_len_seq (by rfl) M.m_len PySem.boot_len (pa_cons (pv 4) pa_nil)) pa_nil))) pe_int))
      (pss_one (ps_ret (pe_c c_lowest hr (by decide) (by rfl) (pa_cons (pe_op op_add (pe_op op_mulB (pv 6) (pv 7)) (pe_c c_numberof hr (by decide) (by rfl) (pa_cons (pv 0) (pa_cons (pv 4) pa_nil)))) (pa_cons (pe_op op_mulB (pv 5) (pv 7)) pa_nil))))))))))), ?_⟩
    walk_at "st"
    refine go_askedwriting h1 h2 h ho ?_
    walk_at "st"
    simp only [List.length_map]
    refine go_power (by omega) (by omega) (by omega) (by omega) ?_
    rw [Int.toNat_natCast]
    walk_at "st"
    refine go_numberof (by omega) (by omega) (sql ha) ?_
    walk_at "st"
    simp only [List.length_map]
    refine iteE (fun c => ?_) (fun c => ?_)
    · have hr0 : x.r = [] := List.eq_nil_of_length_eq_zero (by omega)
      have e1 : wT b x.w x.a x.r = x.w * b ^ x.a.length + numI b x.a := if_pos hr0
      have e2 : wB b x.a x.r = b ^ x.a.length := if_pos hr0
      rw [e1, e2] at q hl
      walk_at "st"
      exact go_lowest hd.1 hpa hl q
    · have hr0 : x.r ≠ [] := fun z => c (by rw [z]; rfl)
      have e1 : wT b x.w x.a x.r = (x.w * b ^ x.a.length + numI b x.a) * (b ^ x.r.length - 1) + numI b x.r := if_neg hr0
      have e2 : wB b x.a x.r = b ^ x.a.length * (b ^ x.r.length - 1) := if_neg hr0
      have p1 := wT_nn (a := x.a) (r := x.r) h1 ho.w0 ho.fa ho.fr
      have p2 := wB_pos (a := x.a) (r := x.r) h1
      rw [e1] at p1
      rw [e2] at p2
      rw [e1, e2] at q hl
      walk_at "st"
      simp only [List.length_map]
      refine go_power (by omega) (by omega) (by omega) (by omega) ?_
      rw [Int.toNat_natCast]
      walk_at "st"
      refine go_numberof (by omega) (by omega) (sql hr') ?_
      walk_at "st"
      exact go_lowest p1 p2 hl q
end
abbrev s_xlawcellat : Stmt := topS 16
theorem sc_xlawcellat : FnScope ["script", "k"] ["script", "k"] (defScope s_xlawcellat) := ⟨rfl, rfl, rfl, by decide +kernel, rfl, by decide +kernel, by decide +kernel⟩
/-- the k-th of the script's numbers, or 0 -/
def cl (ns : List Int) (k : Nat) : Int := ns.getD k 0
@[irreducible] def sp_xlawcellat (K : PySem.W.Frag) : Sp := fun vs H Q _ => ∃ (a : Addr) (ns : List Int) (x : Int), vs = [.ref a, .int x] ∧ 0 ≤ x ∧ SqL K H a (ns.map V.int) ∧ Q (.int (cl ns x.toNat)) H
theorem go_cell {K : PySem.W.Frag} {H : Hp} {a : Addr} {ns : List Int} {x : Int} {Q : VK} {E : XK} (hx : 0 ≤ x) (hS : SqL K H a (ns.map V.int)) (q : Q (.int (cl ns x.toNat)) H) : sp_xlawcellat K [.ref a, .int x] H Q E := by
  unfold sp_xlawcellat; exact ⟨a, ns, x, rfl, hx, hS, q⟩
local macro_rules | `(tactic| walk_at "call") => `(tactic| refine go_cell (by omega) (by walk_at "sq") ?_)
theorem cl_in {ns : List Int} {k : Nat} (h : k < ns.length) : cl ns k = ns[k] := by
  unfold cl; rw [List.getD_eq_getElem?_getD, List.getElem?_eq_getElem h]; rfl
theorem cl_out {ns : List Int} {k : Nat} (h : ns.length ≤ k) : cl ns k = 0 := by
  unfold cl; rw [List.getD_eq_getElem?_getD, List.getElem?_eq_none h]; rfl
section
variable {P : Program} {w : World} {K : PySem.W.Frag} {mg : Str → Option Value} {base : Heap}
theorem ok_xlawcellat {f : Addr} {fd : FuncData} (F : Fun K "_law_cell_at" "_law_cell_at" s_xlawcellat f fd) (M : Md K mg) : FnOk P w K mg base CX0 1 f fd ["script", "k"] (sp_xlawcellat K) := by
  refine F.ok sc_xlawcellat (fun vs H Q E h => ?_) (fun cdv A outer s H vs Q E hr h => ?_)
  · unfold sp_xlawcellat at h; obtain ⟨a, ns, x, rfl, hx, hS, q⟩ := h
    rfl
  · have hu := hu_of hr
    unfold sp_xlawcellat at h; obtain ⟨a, ns, x, rfl, hx, hS, q⟩ := h
    obtain ⟨k, rfl⟩ : ∃ k : Nat, x = (k : Int) := ⟨x.toNat, by omega⟩
    rw [Int.toNat_natCast] at q
    refine ⟨_, (pss_cons (ps_if (pt_cmpR op_lt (pv 1) (pe_callB call_len_seq (by rfl) M.m_len PySem.boot_len (pa_cons (pv 0) pa_nil)) (nomark _))
        (pss_one (ps_ret (pe_ix ix_list (pv 0) (pv 1) (fun _ _ => rfl)))) pss_nil)
      (pss_one (ps_ret pe_int))), ?_⟩
    walk_at "st"
    rw [List.length_map]
    refine iteD (fun e => ?_) (fun e => ?_)
    · have hk : k < ns.length := by omega
      walk_at "st"
      refine ⟨a, _, _, _, rfl, rfl, hS, atI_nat (map_get (List.getElem?_eq_getElem hk)), ?_⟩
      rw [← cl_in hk]
      exact q
    · rw [cl_out (by omega)] at q
      exact q
end
abbrev s_xlawdraw : Stmt := topS 17
theorem sc_xlawdraw : FnScope ["cell", "k", "bound", "stir"] ["cell", "k", "bound"] (defScope s_xlawdraw) := ⟨rfl, rfl, rfl, by decide +kernel, rfl, by decide +kernel, by decide +kernel⟩
def drA (c k : Int) : Int := (c % 2147483647 + 977 * k + 1) * 48271 % 2147483647
def drB (c k : Int) : Int := drA c k * drA c k % 2147483629
def drC (c k : Int) : Int := (drB c k + 40692 * (k + 3)) * 69621 % 2147483647
/-- a drawn number below b -/
def drw (c k b : Int) : Int := drC c k / 8 % b
theorem drw_ok (c k : Int) {b : Int} (h : 0 < b) : 0 ≤ drw c k b ∧ drw c k b < b := ⟨Int.emod_nonneg _ (by omega), Int.emod_lt_of_pos _ h⟩
@[irreducible] def sp_xlawdraw (K : PySem.W.Frag) : Sp := fun vs H Q _ => ∃ (c k b : Int), vs = [.int c, .int k, .int b] ∧ 0 ≤ k ∧ k < 1000000000 ∧ 0 < b ∧ Q (.int (drw c k b)) H
theorem go_xlawdraw {K : PySem.W.Frag} {H : Hp} {c k b : Int} {Q : VK} {E : XK} (h1 : 0 ≤ k) (h2 : k < 1000000000) (h3 : 0 < b) (q : Q (.int (drw c k b)) H) : sp_xlawdraw K [.int c, .int k, .int b] H Q E := by
  unfold sp_xlawdraw; exact ⟨c, k, b, rfl, h1, h2, h3, q⟩
section
variable {P : Program} {w : World} {K : PySem.W.Frag} {mg : Str → Option Value} {base : Heap}
theorem ok_xlawdraw {f : Addr} {fd : FuncData} (F : Fun K "_law_draw" "_law_draw" s_xlawdraw f fd) (M : Md K mg) : FnOk P w K mg base CX0 1 f fd ["cell", "k", "bound"] (sp_xlawdraw K) := by
  refine F.ok sc_xlawdraw (fun vs H Q E h => ?_) (fun cdv A outer s H vs Q E hr h => ?_)
  · unfold sp_xlawdraw at h; obtain ⟨c, k, b, rfl, h1, h2, h3, q⟩ := h
    rfl
  · have hu := hu_of hr
    unfold sp_xlawdraw at h; obtain ⟨c, k, b, rfl, h1, h2, h3, q⟩ := h
    have hA : 0 ≤ drA c k ∧ drA c k < 2147483647 := ⟨Int.emod_nonneg _ (by decide), Int.emod_lt_of_pos _ (by decide)⟩
    have m1 : IntMulOk (977 : Int) k := mulB_left (by decide) (by decide)
    have m3 : IntMulOk (drA c k) (drA c k) := mulB_right (by omega) (by omega)
    refine ⟨_, (Evl.pss_cut (ps_set (i := 3) sc_xlawdraw.nd rfl (.inl rfl) (pe_op op_mod (pe_op op_mulB (pe_op op_add (pe_op op_add (pe_op op_mod (pv 0) pe_int) (pe_op op_mulB pe_int (pv 1))) pe_int) pe_int) pe_int))
      (Evl.pss_cut (ps_set (i := 3) sc_xlawdraw.nd rfl (.inl rfl) (pe_op op_mod (pe_op op_mulB (pv 3) (pv 3)) pe_int))
      (Evl.pss_cut (ps_set (i := 3) sc_xlawdraw.nd rfl (.inl rfl) (pe_op op_mod (pe_op op_mulB (pe_op op_add (pv 3) (pe_op op_mulB pe_int (pe_op op_add (pv 1) pe_int))) pe_int) pe_int))
      (pss_one (ps_ret (pe_op op_mod (pe_op op_fdivP (pv 3) pe_int) (pv 2))))))), ?_⟩
    refine ⟨fun σ H' => H = H' ∧ σ = [some (.int c), some (.int k), some (.int b), some (.int (drA c k))], ?_, fun σ H' hM => ?_⟩
    · refine ⟨_, rfl, _, _, rfl, rfl, (show (0 : Int) < 2147483647 by decide), _, rfl, _, _, rfl, rfl, m1, _, _, rfl, rfl, _, _, rfl, rfl, _, _, rfl, rfl, mulB_right (by decide) (by decide), _, _, rfl, rfl, (show (0 : Int) < 2147483647 by decide), ?_⟩
      exact ⟨rfl, rfl⟩
    obtain ⟨rfl, rfl⟩ := hM
    refine ⟨fun σ H' => H = H' ∧ σ = [some (.int c), some (.int k), some (.int b), some (.int (drB c k))], ?_, fun σ H' hM => ?_⟩
    · refine ⟨_, rfl, _, rfl, _, _, rfl, rfl, m3, _, _, rfl, rfl, (show (0 : Int) < 2147483629 by decide), ?_⟩
      exact ⟨rfl, rfl⟩
    obtain ⟨rfl, rfl⟩ := hM
    refine ⟨fun σ H' => H = H' ∧ σ = [some (.int c), some (.int k), some (.int b), some (.int (drC c k))], ?_, fun σ H' hM => ?_⟩
    · refine ⟨_, rfl, _, rfl, _, _, rfl, rfl, _, _, rfl, rfl, mulB_left (by decide) (by decide), _, _, rfl, rfl, _, _, rfl, rfl, mulB_right (by decide) (by decide), _, _, rfl, rfl, (show (0 : Int) < 2147483647 by decide), ?_⟩
      exact ⟨rfl, rfl⟩
    obtain ⟨rfl, rfl⟩ := hM
    refine ⟨_, rfl, _, _, rfl, rfl, cdivp_small (by decide) (by decide), _, rfl, _, _, rfl, rfl, h3, ?_⟩
    exact q
end
abbrev s_xlawwhole : Stmt := topS 18
theorem sc_xlawwhole : FnScope ["found"] ["found"] (defScope s_xlawwhole) := ⟨rfl, rfl, rfl, by decide +kernel, rfl, by decide +kernel, by decide +kernel⟩
@[irreducible] def sp_xlawwhole (K : PySem.W.Frag) : Sp := fun vs H Q _ => ∃ i : Int, vs = [.int i] ∧ Q (.bl true) H
theorem go_whole {K : PySem.W.Frag} {H : Hp} {i : Int} {Q : VK} {E : XK} (q : Q (.bl true) H) : sp_xlawwhole K [.int i] H Q E := by
  unfold sp_xlawwhole; exact ⟨i, rfl, q⟩
local macro_rules | `(tactic| walk_at "call") => `(tactic| refine go_whole ?_)
section
variable {P : Program} {w : World} {K : PySem.W.Frag} {mg : Str → Option Value} {base : Heap}
theorem ok_xlawwhole {f : Addr} {fd : FuncData} (F : Fun K "_law_whole" "_law_whole" s_xlawwhole f fd) (M : Md K mg) : FnOk P w K mg base CX0 1 f fd ["found"] (sp_xlawwhole K) := by
  refine F.ok sc_xlawwhole (fun vs H Q E h => ?_) (fun cdv A outer s H vs Q E hr h => ?_)
  · unfold sp_xlawwhole at h; obtain ⟨i, rfl, q⟩ := h
    rfl
  · have hu := hu_of hr
    unfold sp_xlawwhole at h; obtain ⟨i, rfl, q⟩ := h
    refine ⟨_, (pss_one (ps_ret (pe_and (pe_callB call_isi (by rfl) M.m_isinstance (by decide +kernel) (pa_cons (pv 0) (pa_cons (pe_bltn (v := .ty "int") (by rfl) M.m_int (by decide +kernel) rfl) pa_nil))) (pe_one (pe_not (pe_callB call_isi (by rfl) M.m_isinstance (by decide +kernel) (pa_cons (pv 0) (pa_cons (pe_bltn (v := .ty "bool") (by rfl) M.m_bool (by decide +kernel) rfl) pa_nil)))))))), ?_⟩
    walk_at "st"
    refine ⟨_, _, _, _, _, rfl, .ty _, .base (.int i), kit_int_int, ?_⟩
    walk_at "st"
    refine ⟨_, _, _, _, _, rfl, .ty _, .base (.int i), kit_int_bool, ?_⟩
    walk_at "st"
    exact q
end
abbrev s_xlawcommon : Stmt := topS 19
theorem sc_xlawcommon : FnScope ["one", "other", "rest"] ["one", "other"] (defScope s_xlawcommon) := ⟨rfl, rfl, rfl, by decide +kernel, rfl, by decide +kernel, by decide +kernel⟩
@[irreducible] def sp_xlawcommon (K : PySem.W.Frag) : Sp := fun vs H Q _ => ∃ (x y : Int) (a c : Nat), vs = [.int x, .int y] ∧ x = a ∧ y = c ∧ Q (.int ((Nat.gcd a c : Nat) : Int)) H
theorem go_xlawcommon {K : PySem.W.Frag} {H : Hp} {x y : Int} {Q : VK} {E : XK} (a c : Nat) (hx : x = a) (hy : y = c) (q : Q (.int ((Nat.gcd a c : Nat) : Int)) H) : sp_xlawcommon K [.int x, .int y] H Q E := by
  unfold sp_xlawcommon; exact ⟨x, y, a, c, rfl, hx, hy, q⟩
section
variable {P : Program} {w : World} {K : PySem.W.Frag} {mg : Str → Option Value} {base : Heap}
theorem ok_xlawcommon {f : Addr} {fd : FuncData} (F : Fun K "_law_common" "_law_common" s_xlawcommon f fd) (M : Md K mg) : FnOk P w K mg base CX0 1 f fd ["one", "other"] (sp_xlawcommon K) := by
  refine F.ok sc_xlawcommon (fun vs H Q E h => ?_) (fun cdv A outer s H vs Q E hr h => ?_)
  · unfold sp_xlawcommon at h; obtain ⟨x, y, a, c, rfl, rfl, rfl, q⟩ := h
    rfl
  · have hu := hu_of hr
    unfold sp_xlawcommon at h; obtain ⟨x, y, a, c, rfl, rfl, rfl, q⟩ := h
    refine ⟨_, (pss_cons (ps_while PassesOwn.never (pt_cmpR op_gt (pv 1) pe_int (nomark _))
        (pss_cons (ps_set (i := 2) sc_xlawcommon.nd rfl (.inl rfl) (pe_op op_mod (pv 0) (pv 1)))
      (pss_cons (ps_set (i := 0) sc_xlawcommon.nd rfl (.inl rfl) (pv 1))
      (pss_one (ps_set (i := 1) sc_xlawcommon.nd rfl (.inl rfl) (pv 2))))))
      (pss_one (ps_ret (pv 0)))), ?_⟩
    refine ⟨fun μ σ H' => ∃ (A B : Nat) (y2 : Option V), μ = B ∧ Nat.gcd A B = Nat.gcd a c ∧ H = H' ∧ σ = [some (.int (A : Int)), some (.int (B : Int)), y2], ⟨c, a, c, none, rfl, rfl, rfl, rfl⟩, fun μ σ H' hW => ?_⟩
    obtain ⟨A, B, y2, e1, e2, rfl, rfl⟩ := hW
    walk_at "st"
    refine iteD (fun hp => ?_) (fun hp => ?_)
    · refine ⟨fun σ H' => H = H' ∧ ∃ y2, σ = [some (.int (B : Int)), some (.int ((A % B : Nat) : Int)), y2], fun σ H' hN => ?_, ?_⟩
      · obtain ⟨rfl, y3, rfl⟩ := hN
        refine ⟨A % B, ?_, B, A % B, y3, rfl, ?_, rfl, rfl⟩
        · rw [e1]; exact Nat.mod_lt _ (by omega)
        · rw [← e2, Nat.gcd_comm A B, Nat.gcd_rec B A, Nat.gcd_comm]
      · walk_at "st"
        exact ⟨_, rfl⟩
    · have hB : B = 0 := by omega
      rw [hB, Nat.gcd_zero_right] at e2
      rw [← e2] at q
      walk_at "st"
      exact q
end
abbrev s_xlawlowest : Stmt := topS 20
theorem sc_xlawlowest : FnScope ["top", "bottom", "part"] ["top", "bottom"] (defScope s_xlawlowest) := ⟨rfl, rfl, rfl, by decide +kernel, rfl, by decide +kernel, by decide +kernel⟩
@[irreducible] def sp_xlawlowest (K : PySem.W.Frag) : Sp := fun vs H Q _ => ∃ (x y : Int), vs = [.int x, .int y] ∧ 0 ≤ x ∧ 0 < y ∧ LowOk x y ∧ ∀ p, H p = none → Q (.ref p) (upd H p (.tup [.int (low x y).1, .int (low x y).2]))
theorem go_xlawlowest {K : PySem.W.Frag} {H : Hp} {x y : Int} {Q : VK} {E : XK} (hx : 0 ≤ x) (hy : 0 < y) (hl : LowOk x y) (q : ∀ p, H p = none → Q (.ref p) (upd H p (.tup [.int (low x y).1, .int (low x y).2]))) : sp_xlawlowest K [.int x, .int y] H Q E := by
  unfold sp_xlawlowest; exact ⟨x, y, rfl, hx, hy, hl, q⟩
section
variable {P : Program} {w : World} {K : PySem.W.Frag} {mg : Str → Option Value} {base : Heap}
theorem ok_xlawlowest {f : Addr} {fd : FuncData} (F : Fun K "_law_lowest" "_law_lowest" s_xlawlowest f fd) (M : Md K mg) (c_xlawcommon : Cal P w K mg base 1 "_law_common" (sp_xlawcommon K) []) : FnOk P w K mg base CX0 2 f fd ["top", "bottom"] (sp_xlawlowest K) := by
  refine F.ok sc_xlawlowest (fun vs H Q E h => ?_) (fun cdv A outer s H vs Q E hr h => ?_)
  · unfold sp_xlawlowest at h; obtain ⟨x, y, rfl, hx, hy, hl, q⟩ := h
    rfl
  · have hu := hu_of hr
    unfold sp_xlawlowest at h; obtain ⟨x, y, rfl, hx, hy, hl, q⟩ := h
    obtain ⟨l1, l2⟩ := hl
    have ex : x = ((x.toNat : Nat) : Int) := (Int.toNat_of_nonneg hx).symm
    have ey : y = ((y.toNat : Nat) : Int) := (Int.toNat_of_nonneg (by omega)).symm
    refine ⟨_, (pss_cons (ps_set (i := 2) sc_xlawlowest.nd rfl (.inl rfl) (pe_c c_xlawcommon hr (by decide) (by rfl) (pa_cons (pv 0) (pa_cons (pv 1) pa_nil))))
      (pss_one (ps_ret (pe_tup (pa_cons (pe_op op_fdivP (pv 0) (pv 2)) (pa_cons (pe_op op_fdivP (pv 1) (pv 2)) pa_nil)))))), ?_⟩
    walk_at "st"
    refine go_xlawcommon x.toNat y.toNat ex ey ?_
    walk_at "st"
    exact q
end
abbrev s_xlawfiguresby : Stmt := topS 21
theorem sc_xlawfiguresby : FnScope ["cell", "base", "many", "k"] ["cell", "base", "many"] (defScope s_xlawfiguresby) := ⟨rfl, rfl, rfl, by decide +kernel, rfl, by decide +kernel, by decide +kernel⟩
/-- so many drawn figures -/
def fgs (c b : Int) (n : Nat) : List Int := (List.range n).map fun k => drw c ((k : Nat) : Int) b
theorem fgs_len (c b : Int) (n : Nat) : (fgs c b n).length = n := by unfold fgs; rw [List.length_map, List.length_range]
theorem fgs_ok (c : Int) {b : Int} (n : Nat) (h : 0 < b) : ∀ x, x ∈ fgs c b n → 0 ≤ x ∧ x < b := fun x hx => by
  obtain ⟨k, _, rfl⟩ := List.mem_map.mp hx
  exact drw_ok c _ h
@[irreducible] def sp_xlawfiguresby (K : PySem.W.Frag) : Sp := fun vs H Q _ => ∃ (c b n : Int), vs = [.int c, .int b, .int n] ∧ 0 < b ∧ 0 ≤ n ∧ n ≤ 100000 ∧ ∀ H' p, Same H H' → H p = none → H' p = some (.lst ((fgs c b n.toNat).map V.int)) → Q (.ref p) H'
theorem go_xlawfiguresby {K : PySem.W.Frag} {H : Hp} {c b n : Int} {Q : VK} {E : XK} (h1 : 0 < b) (h2 : 0 ≤ n) (h3 : n ≤ 100000) (q : ∀ H' p, Same H H' → H p = none → H' p = some (.lst ((fgs c b n.toNat).map V.int)) → Q (.ref p) H') : sp_xlawfiguresby K [.int c, .int b, .int n] H Q E := by
  unfold sp_xlawfiguresby; exact ⟨c, b, n, rfl, h1, h2, h3, q⟩
theorem go_some {K : PySem.W.Frag} {H : Hp} {c b n : Int} {Q : VK} {E : XK} (h1 : 0 < b) (h2 : 0 ≤ n) (h3 : n ≤ 100000) (q : ∀ (rn : List Int) H' p, rn.length = n.toNat → Figs b rn → Same H H' → H p = none → H' p = some (.lst (rn.map V.int)) → Q (.ref p) H') : sp_xlawfiguresby K [.int c, .int b, .int n] H Q E :=
  go_xlawfiguresby h1 h2 h3 fun H' p s n' h => q _ H' p (fgs_len c b _) (fgs_ok c _ h1) s n' h
section
variable {P : Program} {w : World} {K : PySem.W.Frag} {mg : Str → Option Value} {base : Heap}
theorem ok_xlawfiguresby {f : Addr} {fd : FuncData} (F : Fun K "_law_figures_by" "_law_figures_by" s_xlawfiguresby f fd) (M : Md K mg) (c_xlawdraw : Cal P w K mg base 1 "_law_draw" (sp_xlawdraw K) []) : FnOk P w K mg base CX0 2 f fd ["cell", "base", "many"] (sp_xlawfiguresby K) := by
  refine F.ok sc_xlawfiguresby (fun vs H Q E h => ?_) (fun cdv A outer s H vs Q E hr h => ?_)
  · unfold sp_xlawfiguresby at h; obtain ⟨c, b, n, rfl, h1, h2, h3, q⟩ := h
    rfl
  · have hu := hu_of hr
    unfold sp_xlawfiguresby at h; obtain ⟨c, b, n, rfl, h1, h2, h3, q⟩ := h
    refine ⟨_, (pss_one (ps_ret (pe_lc (own := [("k", 3)]) (g := gName 3) (tt := tYes) rfl sc_xlawfiguresby.nd (pi_range1 (by rfl) M.m_range (pa_cons (pv 2) pa_nil)) (blkOk_by (own := [("k", 3)]) (N := ["cell", "base", "many", "k"]) (sc := defScope s_xlawfiguresby) (by decide +kernel)) (fun _ _ _ _ _ => (pg_name (i := 3) sc_xlawfiguresby.nd rfl (.inl rfl))) (fun _ _ _ _ _ => pts_nil) (fun _ _ _ _ _ => (pe_c c_xlawdraw hr (by decide) (by rfl) (pa_cons (pv 0) (pa_cons (pv 3) (pa_cons (pv 1) pa_nil)))))))), ?_⟩
    refine ⟨_, rfl, n, rfl, by omega, by omega, fun D nD => ?_⟩
    refine lc_rng (fun k => V.int (drw c ((k : Nat) : Int) b)) nD (by omega) (fun _ => rfl) (fun k hk H' Q' s q' => ?_) (fun H' s hD => q H' D s nD ?_)
    · walk_at "st"
      exact go_xlawdraw (by omega) (by omega) h1 (q' _ (Same.refl _))
    · rw [hD]; unfold fgs; rw [List.map_map]; rfl
end
abbrev s_xlawwritingby : Stmt := topS 22
theorem sc_xlawwritingby : FnScope ["script", "first", "base", "whole", "cell", "ahead", "ring", "way", "figure"] ["script", "first", "base"] (defScope s_xlawwritingby) := ⟨rfl, rfl, rfl, by decide +kernel, rfl, by decide +kernel, by decide +kernel⟩
def MidW (H : Hp) (a : Addr) (k b w c y : Int) (nA nR : Nat) : L2.St → Hp → Prop := fun σ H' => ∃ (pa pr : Addr) (A R : List Int), Same H H' ∧ H pa = none ∧ H pr = none ∧ pa ≠ pr ∧ H' pa = some (.lst (A.map V.int)) ∧ H' pr = some (.lst (R.map V.int)) ∧ A.length ≤ nA ∧ R.length ≤ nR ∧ Figs b A ∧ Figs b R ∧
  σ = [some (.ref a), some (.int k), some (.int b), some (.int w), some (.int c), some (.ref pa), some (.ref pr), some (.int y), none]
@[irreducible] def sp_xlawwritingby (K : PySem.W.Frag) : Sp := fun vs H Q _ => ∃ (a : Addr) (ns : List Int) (k b : Int), vs = [.ref a, .int k, .int b] ∧ 0 ≤ k ∧ 2 ≤ b ∧ b ≤ 36 ∧ SqL K H a (ns.map V.int) ∧
  ∀ H' p pa pr x, WrNew H H' p pa pr x → WrOk b x → x.a.length ≤ 124 → x.r.length ≤ 138 → Q (.ref p) H'
theorem go_xlawwritingby {K : PySem.W.Frag} {H : Hp} {a : Addr} {ns : List Int} {k b : Int} {Q : VK} {E : XK} (h0 : 0 ≤ k) (h1 : 2 ≤ b) (h2 : b ≤ 36) (hS : SqL K H a (ns.map V.int)) (q : ∀ H' p pa pr x, WrNew H H' p pa pr x → WrOk b x → x.a.length ≤ 124 → x.r.length ≤ 138 → Q (.ref p) H') : sp_xlawwritingby K [.ref a, .int k, .int b] H Q E := by
  unfold sp_xlawwritingby; exact ⟨a, ns, k, b, rfl, h0, h1, h2, hS, q⟩
section
variable {P : Program} {w : World} {K : PySem.W.Frag} {mg : Str → Option Value} {base : Heap}
theorem ok_xlawwritingby {f : Addr} {fd : FuncData} (F : Fun K "_law_writing_by" "_law_writing_by" s_xlawwritingby f fd) (M : Md K mg) (c_xlawcellat : Cal P w K mg base 1 "_law_cell_at" (sp_xlawcellat K) []) (c_xlawfiguresby : Cal P w K mg base 2 "_law_figures_by" (sp_xlawfiguresby K) []) : FnOk P w K mg base CX0 3 f fd ["script", "first", "base"] (sp_xlawwritingby K) := by
  refine F.ok sc_xlawwritingby (fun vs H Q E h => ?_) (fun cdv A outer s H vs Q E hr h => ?_)
  · unfold sp_xlawwritingby at h; obtain ⟨a, ns, k, b, rfl, h0, h1, h2, hS, q⟩ := h
    rfl
  · have hu := hu_of hr
    unfold sp_xlawwritingby at h; obtain ⟨a, ns, k, b, rfl, h0, h1, h2, hS, q⟩ := h
    refine ⟨_, (pss_cons (ps_set (i := 3) sc_xlawwritingby.nd rfl (.inl rfl) (pe_op op_mod (pe_c c_xlawcellat hr (by decide) (by rfl) (pa_cons (pv 0) (pa_cons (pv 1) pa_nil))) pe_int))
      (Evl.pss_cut (ps_if (pt_cmpR op_eq (pe_op op_mod (pe_op op_fdivP (pe_c c_xlawcellat hr (by decide) (by rfl) (pa_cons (pv 0) (pa_cons (pv 1) pa_nil))) pe_int) pe_int) pe_int (nomark _))
        (pss_one (ps_set (i := 3) sc_xlawwritingby.nd rfl (.inl rfl) (pe_op op_mod (pe_c c_xlawcellat hr (by decide) (by rfl) (pa_cons (pv 0) (pa_cons (pv 1) pa_nil))) (pe_op op_pow pe_int pe_int)))) pss_nil)
      (Evl.pss_cut (ps_if (pt_cmpR op_eq (pe_op op_mod (pe_op op_fdivP (pe_c c_xlawcellat hr (by decide) (by rfl) (pa_cons (pv 0) (pa_cons (pv 1) pa_nil))) pe_int) pe_int) pe_int (nomark _))
        (pss_one (ps_set (i := 3) sc_xlawwritingby.nd rfl (.inl rfl) (pe_op op_pow pe_int pe_int))) pss_nil)
      (pss_cons (ps_set (i := 4) sc_xlawwritingby.nd rfl (.inl rfl) (pe_c c_xlawcellat hr (by decide) (by rfl) (pa_cons (pv 0) (pa_cons (pe_op op_add (pv 1) pe_int) pa_nil))))
      (pss_cons (ps_set (i := 5) sc_xlawwritingby.nd rfl (.inl rfl) (pe_c c_xlawfiguresby hr (by decide) (by rfl) (pa_cons (pe_c c_xlawcellat hr (by decide) (by rfl) (pa_cons (pv 0) (pa_cons (pe_op op_add (pv 1) pe_int) pa_nil))) (pa_cons (pv 2) (pa_cons (pe_op op_mod (pv 4) pe_int) pa_nil)))))
      (pss_cons (ps_set (i := 6) sc_xlawwritingby.nd rfl (.inl rfl) (pe_c c_xlawfiguresby hr (by decide) (by rfl) (pa_cons (pe_c c_xlawcellat hr (by decide) (by rfl) (pa_cons (pv 0) (pa_cons (pe_op op_add (pv 1) pe_int) pa_nil))) (pa_cons (pv 2) (pa_cons (pe_op op_mod (pe_op op_fdivP (pv 4) pe_int) pe_int) pa_nil)))))
      (pss_cons (ps_set (i := 7) sc_xlawwritingby.nd rfl (.inl rfl) (pe_op op_mod (pe_op op_fdivP (pv 4) pe_int) pe_int))
      (pss_cons (ps_if (pt_cmpR op_eq (pe_op op_mod (pe_op op_fdivP (pv 4) pe_int) pe_int) pe_int (nomark _))
        (pss_cons (ps_set (i := 6) sc_xlawwritingby.nd rfl (.inl rfl) (pe_c c_xlawfiguresby hr (by decide) (by rfl) (pa_cons (pe_c c_xlawcellat hr (by decide) (by rfl) (pa_cons (pv 0) (pa_cons (pe_op op_add (pv 1) pe_int) pa_nil))) (pa_cons (pv 2) (pa_cons (pe_op op_add pe_int (pe_op op_mod (pe_op op_fdivP (pv 4) pe_int) pe_int)) pa_nil)))))
      (pss_cons (ps_set (i := 5) sc_xlawwritingby.nd rfl (.inl rfl) (pe_op op_cat (pe_op op_cat (pv 5) (pe_c c_xlawfiguresby hr (by decide) (by rfl) (pa_cons (pe_c c_xlawcellat hr (by decide) (by rfl) (pa_cons (pv 0) (pa_cons (pe_op op_add (pv 1) pe_int) pa_nil))) (pa_cons (pv 2) (pa_cons pe_int pa_nil))))) (pe_slice sl_list (pv 6) (po_some (pe_op op_mod (pv 4) pe_int)) po_none)))
      (pss_one (ps_ret (pe_tup (pa_cons (pv 3) (pa_cons (pv 5) (pa_cons (pe_op op_rep (pv 6) (pe_op op_add pe_int (pe_op op_mod (pv 4) pe_int))) pa_nil)))))))) pss_nil)
      (Evl.pss_cut (ps_if (pt_cmpR op_eq (pv 7) pe_int (nomark _))
        (pss_one (ps_setLc (i := 6) (own := [("figure", 8)]) (g := gName 8) (tt := tYes) rfl sc_xlawwritingby.nd rfl rfl (sw_true rfl rfl rfl (by decide +kernel)) (pi_list (pv 6)) (blkOk_by (own := [("figure", 8)]) (N := ["script", "first", "base", "whole", "cell", "ahead", "ring", "way", "figure"]) (sc := defScope s_xlawwritingby) (by decide +kernel)) (fun _ _ _ _ _ => (pg_name (i := 8) sc_xlawwritingby.nd rfl (.inl rfl))) (fun _ _ _ _ _ => pts_nil) (fun _ _ _ _ _ => (pe_op op_sub (pv 2) pe_int)))) pss_nil)
      (Evl.pss_cut (ps_if (pt_cmpR op_eq (pv 7) pe_int (nomark _))
        (pss_one (ps_setLc (i := 6) (own := [("figure", 8)]) (g := gName 8) (tt := tYes) rfl sc_xlawwritingby.nd rfl rfl (sw_true rfl rfl rfl (by decide +kernel)) (pi_list (pv 6)) (blkOk_by (own := [("figure", 8)]) (N := ["script", "first", "base", "whole", "cell", "ahead", "ring", "way", "figure"]) (sc := defScope s_xlawwritingby) (by decide +kernel)) (fun _ _ _ _ _ => (pg_name (i := 8) sc_xlawwritingby.nd rfl (.inl rfl))) (fun _ _ _ _ _ => pts_nil) (fun _ _ _ _ _ => pe_int))) pss_nil)
      (Evl.pss_cut (ps_if (pt_cmpR op_eq (pv 7) pe_int (nomark _))
        (pss_one (ps_set (i := 6) sc_xlawwritingby.nd rfl (.inl rfl) (pe_op op_cat (pv 6) (pv 6)))) pss_nil)
      (Evl.pss_cut (ps_if (pt_cmpR op_eq (pv 7) pe_int (nomark _))
        (pss_one (ps_set (i := 5) sc_xlawwritingby.nd rfl (.inl rfl) (pe_op op_cat (pv 5) (pe_slice sl_list (pv 6) (po_some pe_int) po_none)))) pss_nil)
      (Evl.pss_cut (ps_if (pt_cmpR op_eq (pv 7) pe_int (nomark _))
        (pss_cons (ps_set (i := 5) sc_xlawwritingby.nd rfl (.inl rfl) (pe_op op_cat (pv 5) (pe_lc (own := [("figure", 8)]) (g := gName 8) (tt := tYes) rfl sc_xlawwritingby.nd (pi_list (pv 6)) (blkOk_by (own := [("figure", 8)]) (N := ["script", "first", "base", "whole", "cell", "ahead", "ring", "way", "figure"]) (sc := defScope s_xlawwritingby) (by decide +kernel)) (fun _ _ _ _ _ => (pg_name (i := 8) sc_xlawwritingby.nd rfl (.inl rfl))) (fun _ _ _ _ _ => pts_nil) (fun _ _ _ _ _ => (pe_op op_sub (pv 2) pe_int)))))
      (pss_one (ps_set (i := 6) sc_xlawwritingby.nd rfl (.inl rfl) (pe_lst (pa_cons (pe_op op_sub (pv 2) pe_int) pa_nil))))) pss_nil)
      (Evl.pss_cut (ps_if (pt_cmpR op_eq (pv 7) pe_int (nomark _))
        (pss_cons (ps_set (i := 5) sc_xlawwritingby.nd rfl (.inl rfl) (pe_op op_cat (pv 5) (pe_lc (own := [("figure", 8)]) (g := gName 8) (tt := tYes) rfl sc_xlawwritingby.nd (pi_list (pv 6)) (blkOk_by (own := [("figure", 8)]) (N := ["script", "first", "base", "whole", "cell", "ahead", "ring", "way", "figure"]) (sc := defScope s_xlawwritingby) (by decide +kernel)) (fun _ _ _ _ _ => (pg_name (i := 8) sc_xlawwritingby.nd rfl (.inl rfl))) (fun _ _ _ _ _ => pts_nil) (fun _ _ _ _ _ => pe_int))))
      (pss_one (ps_set (i := 6) sc_xlawwritingby.nd rfl (.inl rfl) (pe_lst pa_nil)))) pss_nil)
      (Evl.pss_cut (ps_if (pt_cmpR op_eq (pv 7) pe_int (nomark _))
        (pss_one (ps_set (i := 6) sc_xlawwritingby.nd rfl (.inl rfl) (pe_op op_rep (pe_slice sl_list (pv 6) po_none (po_some pe_int)) (pe_op op_add pe_int (pe_op op_mod (pe_op op_fdivP (pv 4) pe_int) pe_int))))) pss_nil)
      (pss_one (ps_ret (pe_tup (pa_cons (pv 3) (pa_cons (pv 5) (pa_cons (pv 6) pa_nil))))))))))))))))))))), ?_⟩
    walk_at "st"
    refine ⟨fun σ H' => H = H' ∧ ∃ wh : Int, 0 ≤ wh ∧ wh ≤ 1000000000000 ∧ σ = [some (.ref a), some (.int k), some (.int b), some (.int wh), none, none, none, none, none], ?_, fun σ H' hM => ?_⟩
    · walk_at "st"
      refine iteE (fun c1 => ?_) (fun c1 => ?_)
      · walk_at "st"
        exact ⟨_, Int.emod_nonneg _ (by decide), Int.le_of_lt (Int.emod_lt_of_pos _ (by decide)), rfl⟩
      · exact ⟨rfl, _, Int.emod_nonneg _ (by decide), by show cl ns k.toNat % 40 ≤ _; omega, rfl⟩
    obtain ⟨rfl, wh, hw1, hw2, rfl⟩ := hM
    refine ⟨fun σ H' => H = H' ∧ ∃ wh : Int, 0 ≤ wh ∧ wh ≤ 1000000000000 ∧ σ = [some (.ref a), some (.int k), some (.int b), some (.int wh), none, none, none, none, none], ?_, fun σ H' hM => ?_⟩
    · walk_at "st"
      refine iteE (fun c1 => ?_) (fun c1 => ?_)
      · walk_at "st"
        exact ⟨_, by decide, by decide, rfl⟩
      · exact ⟨rfl, wh, hw1, hw2, rfl⟩
    clear hw1 hw2
    clear wh
    obtain ⟨rfl, wh, hw1, hw2, rfl⟩ := hM
    walk_at "st"
    generalize cl ns (k + 1).toNat = c
    refine go_some (by omega) (by omega) (by omega) (fun A0 H1 pa l1 f1 s1 n1 ha1 => ?_)
    have hS1 := s1.seq hS
    walk_at "st"
    refine go_some (by omega) (by omega) (by omega) (fun R0 H2 pr l2 f2 s2 n2 hr2 => ?_)
    have s12 := s1.trans s2
    have hS2 := s12.seq hS
    have ha2 := s2 _ _ ha1
    have nar : pa ≠ pr := ne_of_none ha1 n2
    have n2' := s1.free n2
    walk_at "st"
    refine iteE (fun c1 => ?_) (fun c1 => ?_)
    · -- the long ones
      walk_at "st"
      refine go_some (by omega) (by omega) (by omega) (fun R3 H3 p3 l3 f3 s3 n3 h3 => ?_)
      have s13 := s12.trans s3
      have hS3 := s13.seq hS
      have ha3 := s3 _ _ ha2
      have n3' := s12.free n3
      walk_at "st"
      refine go_some (by omega) (by omega) (by omega) (fun A4 H4 p4 l4 f4 s4 n4 h4 => ?_)
      have s14 := s13.trans s4
      have ha4 := s4 _ _ ha3
      have h34 := s4 _ _ h3
      refine ⟨pa, p4, _, _, rfl, rfl, ha4, h4, sz100 (by simp only [List.length_map]; omega), fun p5 np5 => ?_⟩
      rw [← List.map_append]
      have s15 := same_ups (o := .lst ((A0 ++ A4).map V.int)) s14 np5
      have h35 := (upd_ne (o := .lst ((A0 ++ A4).map V.int)) (ne_of_none h34 np5)).trans h34
      have h55 := upd_same (H := H4) (a := p5) (o := .lst ((A0 ++ A4).map V.int))
      have n5' := s14.free np5
      have f5 := figs_app f1 f4
      have l5 : (A0 ++ A4).length ≤ 55 := by rw [List.length_append]; omega
      generalize upd H4 p5 (.lst ((A0 ++ A4).map V.int)) = H5 at *
      generalize A0 ++ A4 = A5 at *
      walk_at "st"
      refine ⟨p3, _, rfl, sql h35, fun p6 np6 => ?_⟩
      rw [cut_litd R3 (c % 9).toNat _ (Int.toNat_of_nonneg (Int.emod_nonneg _ (by decide))).symm]
      have h56 := (upd_ne (o := .lst ((R3.drop (c % 9).toNat).map V.int)) (ne_of_none h55 np6)).trans h55
      have h36 := (upd_ne (o := .lst ((R3.drop (c % 9).toNat).map V.int)) (ne_of_none h35 np6)).trans h35
      have s16 := same_ups (o := .lst ((R3.drop (c % 9).toNat).map V.int)) s15 np6
      refine ⟨p5, p6, _, _, rfl, rfl, h56, upd_same, sz100 (by simp only [List.length_map, List.length_drop]; omega), fun p7 np7 => ?_⟩
      rw [← List.map_append]
      have s17 := same_ups (o := .lst ((A5 ++ R3.drop (c % 9).toNat).map V.int)) s16 np7
      have h37 := (upd_ne (o := .lst ((A5 ++ R3.drop (c % 9).toNat).map V.int)) (ne_of_none h36 np7)).trans h36
      have n7' := s16.free np7
      walk_at "st"
      refine ⟨p3, _, _, rfl, rfl, h37, by omega, by omega, sz100 ?_, fun p8 np8 => ?_⟩
      · rw [List.length_map]
        have : (1 + c % 2).toNat ≤ 2 := by omega
        exact Nat.le_trans (Nat.mul_le_mul_left _ this) (by omega)
      walk_at "st"
      intro p9 np9
      have np8' := free_upd np9
      have l8 : (R3.drop (c % 9).toNat).length ≤ 69 := by rw [List.length_drop]; omega
      have l9 : (List.replicate (1 + c % 2).toNat R3).flatten.length ≤ 138 := by
        rw [rep_len]
        have : (1 + c % 2).toNat ≤ 2 := by omega
        exact Nat.le_trans (Nat.mul_le_mul_right _ this) (by omega)
      have l10 : (A5 ++ R3.drop (c % 9).toNat).length ≤ 124 := by rw [List.length_append]; omega
      refine q _ p9 p7 p8 ⟨wh, A5 ++ R3.drop (c % 9).toNat, (List.replicate (1 + c % 2).toNat R3).flatten⟩ ⟨⟨upd_same, ?_, ?_⟩, same_ups (same_ups s17 np8) np9, s17.free np8', n7', s17.free np8, Ne.symm (ne_new np8)⟩ ⟨hw1, hw2, by exact Nat.le_trans l10 (by decide), by exact Nat.le_trans l9 (by decide), figs_app f5 (figs_drop f3 _), figs_rep f3 _⟩ l10 l9
      · rw [upd_ne (Ne.symm (ne_new np8')), upd_ne (Ne.symm (ne_new np8)), upd_same]
      · rw [upd_ne (Ne.symm (ne_new np9)), upd_same, rep_map]
    · refine ⟨MidW H a k b wh c (c / 42 % 8) 5 6, ?_, fun σ H' hM => ?_⟩
      · walk_at "st"
        refine iteE (fun c2 => ?_) (fun c2 => ?_)
        · walk_at "st"
          refine ⟨⟨_, sql hr2⟩, fun D nD => ?_⟩
          refine lc_vals (K := K) (fun v => V.int (b - 1)) (sql hr2) nD (by rw [List.length_map]; omega) (fun _ => rfl) (fun x hx H' Q' s q' => ?_) (fun H3 s3 hD => ?_)
          · walk_at "st"
            exact q' _ (Same.refl _)
          · rw [List.map_map] at hD
            exact ⟨pa, D, A0, R0.map (fun _ => b - 1), s12.trans s3, n1, s12.free nD, ne_of_none ha2 nD, s3 _ _ ha2, by rw [hD, List.map_map]; rfl, by omega, by rw [List.length_map]; omega, f1, figs_const ⟨by omega, by omega⟩, rfl⟩
        · exact ⟨pa, pr, A0, R0, s12, n1, n2', nar, ha2, hr2, by omega, by omega, f1, f2, rfl⟩
      clear s1 s2 s12 hS1 hS2 n1 n2 n2' nar ha1 ha2 hr2 f1 f2 l1 l2
      clear H1 H2 pa pr A0 R0
      obtain ⟨pa, pr, A, R, s1, na, nr, nar, ha, hr', la, lr, fa, fr, rfl⟩ := hM
      refine ⟨MidW H a k b wh c (c / 42 % 8) 5 6, ?_, fun σ H' hM => ?_⟩
      · walk_at "st"
        refine iteE (fun c2 => ?_) (fun c2 => ?_)
        · walk_at "st"
          refine ⟨⟨_, sql hr'⟩, fun D nD => ?_⟩
          refine lc_vals (K := K) (fun v => V.int 0) (sql hr') nD (by rw [List.length_map]; omega) (fun _ => rfl) (fun x hx H' Q' s q' => ?_) (fun H3 s3 hD => ?_)
          · walk_at "st"
            exact q' _ (Same.refl _)
          · rw [List.map_map] at hD
            exact ⟨pa, D, A, R.map (fun _ => 0), s1.trans s3, na, s1.free nD, ne_of_none ha nD, s3 _ _ ha, by rw [hD, List.map_map]; rfl, by omega, by rw [List.length_map]; omega, fa, figs_const ⟨by omega, by omega⟩, rfl⟩
        · exact ⟨pa, pr, A, R, s1, na, nr, nar, ha, hr', by omega, by omega, fa, fr, rfl⟩
      clear s1 na nr nar ha hr' la lr fa fr
      clear pa pr A R
      obtain ⟨pa, pr, A, R, s1, na, nr, nar, ha, hr', la, lr, fa, fr, rfl⟩ := hM
      refine ⟨MidW H a k b wh c (c / 42 % 8) 5 12, ?_, fun σ H' hM => ?_⟩
      · walk_at "st"
        refine iteE (fun c2 => ?_) (fun c2 => ?_)
        · walk_at "st"
          refine ⟨pr, pr, _, _, rfl, rfl, hr', hr', sz100 (by simp only [List.length_map]; omega), fun D nD => ?_⟩
          rw [← List.map_append]
          exact ⟨pa, D, A, R ++ R, same_ups s1 nD, na, s1.free nD, ne_of_none ha nD, (upd_ne (ne_of_none ha nD)).trans ha, upd_same, by omega, by rw [List.length_append]; omega, fa, figs_app fr fr, rfl⟩
        · exact ⟨pa, pr, A, R, s1, na, nr, nar, ha, hr', by omega, by omega, fa, fr, rfl⟩
      clear s1 na nr nar ha hr' la lr fa fr
      clear pa pr A R
      obtain ⟨pa, pr, A, R, s1, na, nr, nar, ha, hr', la, lr, fa, fr, rfl⟩ := hM
      refine ⟨MidW H a k b wh c (c / 42 % 8) 17 12, ?_, fun σ H' hM => ?_⟩
      · walk_at "st"
        refine iteE (fun c2 => ?_) (fun c2 => ?_)
        · walk_at "st"
          refine ⟨pr, _, rfl, sql hr', fun D nD => ?_⟩
          rw [cut_litd R 1 1 rfl]
          have h2a := (upd_ne (o := .lst ((R.drop 1).map V.int)) (ne_of_none ha nD)).trans ha
          have h2r := (upd_ne (o := .lst ((R.drop 1).map V.int)) (ne_of_none hr' nD)).trans hr'
          have s2 := same_ups (o := .lst ((R.drop 1).map V.int)) s1 nD
          refine ⟨pa, D, _, _, rfl, rfl, h2a, upd_same, sz100 (by simp only [List.length_map, List.length_drop]; omega), fun D2 nD2 => ?_⟩
          rw [← List.map_append]
          exact ⟨D2, pr, A ++ R.drop 1, R, same_ups s2 nD2, s2.free nD2, nr, Ne.symm (ne_of_none h2r nD2), upd_same, (upd_ne (ne_of_none h2r nD2)).trans h2r, by rw [List.length_append, List.length_drop]; omega, by omega, figs_app fa (figs_drop fr 1), fr, rfl⟩
        · exact ⟨pa, pr, A, R, s1, na, nr, nar, ha, hr', by omega, by omega, fa, fr, rfl⟩
      clear s1 na nr nar ha hr' la lr fa fr
      clear pa pr A R
      obtain ⟨pa, pr, A, R, s1, na, nr, nar, ha, hr', la, lr, fa, fr, rfl⟩ := hM
      refine ⟨MidW H a k b wh c (c / 42 % 8) 29 12, ?_, fun σ H' hM => ?_⟩
      · walk_at "st"
        refine iteE (fun c2 => ?_) (fun c2 => ?_)
        · walk_at "st"
          refine ⟨⟨_, sql hr'⟩, fun D nD => ?_⟩
          refine lc_vals (K := K) (fun v => V.int (b - 1)) (sql hr') nD (by rw [List.length_map]; omega) (fun _ => rfl) (fun x hx H' Q' s q' => ?_) (fun H3 s3 hD => ?_)
          · walk_at "st"
            exact q' _ (Same.refl _)
          · have hD' : H3 D = some (.lst ((R.map (fun _ => b - 1)).map V.int)) := by rw [hD, List.map_map, List.map_map]; rfl
            have ha3 := s3 _ _ ha
            refine ⟨pa, D, _, _, rfl, rfl, ha3, hD', sz100 (by simp only [List.length_map]; omega), fun D2 nD2 => ?_⟩
            rw [← List.map_append]
            have s4 := same_ups (o := .lst ((A ++ R.map (fun _ => b - 1)).map V.int)) (s1.trans s3) nD2
            walk_at "st"
            intro D3 nD3
            exact ⟨D2, D3, A ++ R.map (fun _ => b - 1), [b - 1], same_ups s4 nD3, (s1.trans s3).free nD2, s4.free nD3, Ne.symm (ne_new nD3), (upd_ne (Ne.symm (ne_new nD3))).trans upd_same, upd_same, by rw [List.length_append, List.length_map]; omega, by show 1 ≤ 12; decide, figs_app fa (figs_const ⟨by omega, by omega⟩), figs_one ⟨by omega, by omega⟩, rfl⟩
        · exact ⟨pa, pr, A, R, s1, na, nr, nar, ha, hr', by omega, by omega, fa, fr, rfl⟩
      clear s1 na nr nar ha hr' la lr fa fr
      clear pa pr A R
      obtain ⟨pa, pr, A, R, s1, na, nr, nar, ha, hr', la, lr, fa, fr, rfl⟩ := hM
      refine ⟨MidW H a k b wh c (c / 42 % 8) 41 12, ?_, fun σ H' hM => ?_⟩
      · walk_at "st"
        refine iteE (fun c2 => ?_) (fun c2 => ?_)
        · walk_at "st"
          refine ⟨⟨_, sql hr'⟩, fun D nD => ?_⟩
          refine lc_vals (K := K) (fun v => V.int 0) (sql hr') nD (by rw [List.length_map]; omega) (fun _ => rfl) (fun x hx H' Q' s q' => ?_) (fun H3 s3 hD => ?_)
          · walk_at "st"
            exact q' _ (Same.refl _)
          · have hD' : H3 D = some (.lst ((R.map (fun _ => (0 : Int))).map V.int)) := by rw [hD, List.map_map, List.map_map]; rfl
            have ha3 := s3 _ _ ha
            refine ⟨pa, D, _, _, rfl, rfl, ha3, hD', sz100 (by simp only [List.length_map]; omega), fun D2 nD2 => ?_⟩
            rw [← List.map_append]
            have s4 := same_ups (o := .lst ((A ++ R.map (fun _ => (0 : Int))).map V.int)) (s1.trans s3) nD2
            walk_at "st"
            intro D3 nD3
            exact ⟨D2, D3, A ++ R.map (fun _ => (0 : Int)), [], same_ups s4 nD3, (s1.trans s3).free nD2, s4.free nD3, Ne.symm (ne_new nD3), (upd_ne (Ne.symm (ne_new nD3))).trans upd_same, upd_same, by rw [List.length_append, List.length_map]; omega, by show 0 ≤ 12; decide, figs_app fa (figs_const ⟨by omega, by omega⟩), figs_nil, rfl⟩
        · exact ⟨pa, pr, A, R, s1, na, nr, nar, ha, hr', by omega, by omega, fa, fr, rfl⟩
      clear s1 na nr nar ha hr' la lr fa fr
      clear pa pr A R
      obtain ⟨pa, pr, A, R, s1, na, nr, nar, ha, hr', la, lr, fa, fr, rfl⟩ := hM
      have hS1 := s1.seq hS
      refine ⟨MidW H a k b wh c (c / 42 % 8) 41 14, ?_, fun σ H' hM => ?_⟩
      · walk_at "st"
        refine iteE (fun c2 => ?_) (fun c2 => ?_)
        · walk_at "st"
          refine ⟨pr, _, rfl, sql hr', fun D nD => ?_⟩
          rw [cut_lit R 2 2 rfl]
          have h2a := (upd_ne (o := .lst ((R.take 2).map V.int)) (ne_of_none ha nD)).trans ha
          have s2 := same_ups (o := .lst ((R.take 2).map V.int)) s1 nD
          have l2 : (R.take 2).length ≤ 2 := by rw [List.length_take]; omega
          have e7 : (3 + c / 336 % 5).toNat ≤ 7 := by omega
          walk_at "st"
          refine ⟨D, _, _, rfl, rfl, upd_same, by omega, by omega, sz100 ?_, fun D2 nD2 => ?_⟩
          · rw [List.length_map]
            exact Nat.le_trans (Nat.mul_le_mul l2 e7) (by decide)
          refine ⟨pa, D2, A, (List.replicate (3 + c / 336 % 5).toNat (R.take 2)).flatten, same_ups s2 nD2, na, s2.free nD2, ne_of_none h2a nD2, (upd_ne (ne_of_none h2a nD2)).trans h2a, ?_, la, ?_, fa, figs_rep (figs_take fr 2) _, rfl⟩
          · rw [upd_same, rep_map]
          · rw [rep_len]
            exact Nat.le_trans (Nat.mul_le_mul e7 l2) (by decide)
        · exact ⟨pa, pr, A, R, s1, na, nr, nar, ha, hr', by omega, by omega, fa, fr, rfl⟩
      clear s1 na nr nar ha hr' la lr fa fr hS1
      clear pa pr A R
      obtain ⟨pa, pr, A, R, s1, na, nr, nar, ha, hr', la, lr, fa, fr, rfl⟩ := hM
      walk_at "st"
      intro p np
      exact q _ p pa pr ⟨wh, A, R⟩ ⟨⟨upd_same, (upd_ne (ne_of_none ha np)).trans ha, (upd_ne (ne_of_none hr' np)).trans hr'⟩, same_ups s1 np, s1.free np, na, nr, nar⟩ ⟨hw1, hw2, by exact Nat.le_trans la (by decide), by exact Nat.le_trans lr (by decide), fa, fr⟩ (Nat.le_trans la (by decide)) (Nat.le_trans lr (by decide))
end
abbrev s_xlawcopy : Stmt := topS 23
theorem sc_xlawcopy : FnScope ["writing"] ["writing"] (defScope s_xlawcopy) := ⟨rfl, rfl, rfl, by decide +kernel, rfl, by decide +kernel, by decide +kernel⟩
@[irreducible] def sp_xlawcopy (K : PySem.W.Frag) : Sp := fun vs H Q _ => ∃ (p a r : Addr) (x : Wr), vs = [.ref p] ∧ WrAt H p a r x ∧ ∀ H' p' a' r', WrNew H H' p' a' r' x → Q (.ref p') H'
theorem go_xlawcopy {K : PySem.W.Frag} {H : Hp} {p a r : Addr} {x : Wr} {Q : VK} {E : XK} (h : WrAt H p a r x) (q : ∀ H' p' a' r', WrNew H H' p' a' r' x → Q (.ref p') H') : sp_xlawcopy K [.ref p] H Q E := by
  unfold sp_xlawcopy; exact ⟨p, a, r, x, rfl, h, q⟩
section
variable {P : Program} {w : World} {K : PySem.W.Frag} {mg : Str → Option Value} {base : Heap}
theorem ok_xlawcopy {f : Addr} {fd : FuncData} (F : Fun K "_law_copy" "_law_copy" s_xlawcopy f fd) (M : Md K mg) : FnOk P w K mg base CX0 1 f fd ["writing"] (sp_xlawcopy K) := by
  refine F.ok sc_xlawcopy (fun vs H Q E h => ?_) (fun cdv A outer s H vs Q E hr h => ?_)
  · unfold sp_xlawcopy at h; obtain ⟨p, a, r, x, rfl, h, q⟩ := h
    rfl
  · have hu := hu_of hr
    unfold sp_xlawcopy at h; obtain ⟨p, a, r, x, rfl, h, q⟩ := h
    have ht := h.tp
    have ha := h.la
    have hr' := h.lr
    refine ⟨_, (pss_one (ps_ret (pe_tup (pa_cons (pe_ix ix_tup (pv 0) pe_int (fun _ _ => rfl)) (pa_cons (pe_callTy call_list_of (by rfl) M.m_list (by decide +kernel) (pa_cons (pe_ix ix_tup (pv 0) pe_int (fun _ _ => rfl)) pa_nil)) (pa_cons (pe_callTy call_list_of (by rfl) M.m_list (by decide +kernel) (pa_cons (pe_ix ix_tup (pv 0) pe_int (fun _ _ => rfl)) pa_nil)) pa_nil)))))), ?_⟩
    walk_at "st"
    intro a2 na2
    have s1 := same_upd (o := .lst (x.a.map V.int)) na2
    have ht1 := s1 _ _ ht
    have hr1 := s1 _ _ hr'
    walk_at "st"
    intro r2 nr2
    have s2 := same_ups (o := .lst (x.r.map V.int)) s1 nr2
    walk_at "st"
    intro p2 np2
    have np3 := free_upd np2
    refine q _ p2 a2 r2 ⟨⟨upd_same, ?_, ?_⟩, same_ups s2 np2, free_upd np3, na2, free_upd nr2, Ne.symm (ne_new nr2)⟩
    · rw [upd_ne (Ne.symm (ne_new np3)), upd_ne (Ne.symm (ne_new nr2)), upd_same]
    · rw [upd_ne (Ne.symm (ne_new np2)), upd_same]
end
abbrev s_xlawworth : Stmt := topS 24
theorem sc_xlawworth : FnScope ["base", "writing", "whole", "ahead", "ring", "top", "bottom", "figure", "number", "size"] ["base", "writing"] (defScope s_xlawworth) := ⟨rfl, rfl, rfl, by decide +kernel, rfl, by decide +kernel, by decide +kernel⟩
@[irreducible] def sp_xlawworth (K : PySem.W.Frag) : Sp := fun vs H Q _ => ∃ (b : Int) (p a r : Addr) (x : Wr), vs = [.int b, .ref p] ∧ 2 ≤ b ∧ b ≤ 36 ∧ WrAt H p a r x ∧ WrOk b x ∧ LowOk (wT b x.w x.a x.r) (wB b x.a x.r) ∧
  ∀ H' p', Same H H' → H p' = none → H' p' = some (.tup [.int (low (wT b x.w x.a x.r) (wB b x.a x.r)).1, .int (low (wT b x.w x.a x.r) (wB b x.a x.r)).2]) → Q (.ref p') H'
theorem go_xlawworth {K : PySem.W.Frag} {H : Hp} {b : Int} {p a r : Addr} {x : Wr} {Q : VK} {E : XK} (h1 : 2 ≤ b) (h2 : b ≤ 36) (h : WrAt H p a r x) (ho : WrOk b x) (hl : LowOk (wT b x.w x.a x.r) (wB b x.a x.r))
    (q : ∀ H' p', Same H H' → H p' = none → H' p' = some (.tup [.int (low (wT b x.w x.a x.r) (wB b x.a x.r)).1, .int (low (wT b x.w x.a x.r) (wB b x.a x.r)).2]) → Q (.ref p') H') : sp_xlawworth K [.int b, .ref p] H Q E := by
  unfold sp_xlawworth; exact ⟨b, p, a, r, x, rfl, h1, h2, h, ho, hl, q⟩
section
variable {P : Program} {w : World} {K : PySem.W.Frag} {mg : Str → Option Value} {base : Heap}
theorem ok_xlawworth {f : Addr} {fd : FuncData} (F : Fun K "_law_worth" "_law_worth" s_xlawworth f fd) (M : Md K mg) (c_xlawlowest : Cal P w K mg base 2 "_law_lowest" (sp_xlawlowest K) []) : FnOk P w K mg base CX0 3 f fd ["base", "writing"] (sp_xlawworth K) := by
  refine F.ok sc_xlawworth (fun vs H Q E h => ?_) (fun cdv A outer s H vs Q E hr h => ?_)
  · unfold sp_xlawworth at h; obtain ⟨b, p, a, r, x, rfl, h1, h2, h, ho, hl, q⟩ := h
    rfl
  · have hu := hu_of hr
    unfold sp_xlawworth at h; obtain ⟨b, p, a, r, x, rfl, h1, h2, h, ho, hl, q⟩ := h
    have ht := h.tp
    have ha := h.la
    have hr' := h.lr
    have hla := ho.la
    have hlr := ho.lr
    have hd := head_lt h1 h2 ho.w0 ho.w1 ho.la ho.fa
    have hpa := pow_posI (b := b) (by omega) x.a.length
    have hpl := pow_ltb (b := b) (n := x.a.length) (N := 4000) (by omega) (by omega) hla
    have hrl := pow_ltb (b := b) (n := x.r.length) (N := 4000) (by omega) (by omega) hlr
    have hrp := pow_ge1 (b := b) (by omega) x.r.length
    have m2 : IntMulOk (x.w * b ^ x.a.length + numI b x.a) (b ^ x.r.length - 1) := mulOk_of hd.1 hd.2 (by omega) (Int.lt_trans (Int.sub_lt_self _ (by decide)) hrl) (by decide) (by decide) (by decide)
    have m3 : IntMulOk (b ^ x.a.length) (b ^ x.r.length - 1) := mulOk_of (Int.le_of_lt hpa) hpl (by omega) (Int.lt_trans (Int.sub_lt_self _ (by decide)) hrl) (by decide) (by decide) (by decide)
    clear hpl hrl
    refine ⟨_, (pss_cons (ps_asg (pv 1) (pg_tup rfl (pgs_cons (pg_name (i := 2) sc_xlawworth.nd rfl (.inl rfl)) (pgs_cons (pg_name (i := 3) sc_xlawworth.nd rfl (.inl rfl)) (pgs_cons (pg_name (i := 4) sc_xlawworth.nd rfl (.inl rfl)) pgs_nil)))))
      (pss_cons (ps_set (i := 5) sc_xlawworth.nd rfl (.inl rfl) (pv 2))
      (pss_cons (ps_set (i := 6) sc_xlawworth.nd rfl (.inl rfl) pe_int)
      (pss_cons (ps_for PassesOwn.never rfl (pi_list (pv 3)) (pg_name (i := 7) sc_xlawworth.nd rfl (.inl rfl))
        (pss_cons (ps_set (i := 5) sc_xlawworth.nd rfl (.inl rfl) (pe_op op_add (pe_op op_mulB (pv 5) (pv 0)) (pv 7)))
      (pss_one (ps_set (i := 6) sc_xlawworth.nd rfl (.inl rfl) (pe_op op_mulB (pv 6) (pv 0))))))
      (pss_cons (ps_if (pt_cmpR (op_eqD hr.units) (pv 4) (pe_lst pa_nil) (nomark _))
        (pss_one (ps_ret (pe_c c_xlawlowest hr (by decide) (by rfl) (pa_cons (pv 5) (pa_cons (pv 6) pa_nil))))) pss_nil)
      (pss_cons (ps_set (i := 8) sc_xlawworth.nd rfl (.inl rfl) pe_int)
      (pss_cons (ps_set (i := 9) sc_xlawworth.nd rfl (.inl rfl) pe_int)
      (pss_cons (ps_for PassesOwn.never rfl (pi_list (pv 4)) (pg_name (i := 7) sc_xlawworth.nd rfl (.inl rfl))
        (pss_cons (ps_set (i := 8) sc_xlawworth.nd rfl (.inl rfl) (pe_op op_add (pe_op op_mulB (pv 8) (pv 0)) (pv 7)))
      (pss_one (ps_set (i := 9) sc_xlawworth.nd rfl (.inl rfl) (pe_op op_mulB (pv 9) (pv 0))))))
      (pss_one (ps_ret (pe_c c_xlawlowest hr (by decide) (by rfl) (pa_cons (pe_op op_add (pe_op op_mulB (pv 5) (pe_op op_sub (pv 9) pe_int)) (pv 8)) (pa_cons (pe_op op_mulB (pv 6) (pe_op op_sub (pv 9) pe_int)) pa_nil))))))))))))), ?_⟩
    walk_at "st"
    refine ⟨⟨_, sql ha⟩, for_list (K := K) (a := a) (xs := x.a.map V.int) (fun i σ H' => H = H' ∧ ∃ y, σ = [some (.int b), some (.ref p), some (.int x.w), some (.ref a), some (.ref r), some (.int (x.w * b ^ (x.a.take i).length + numI b (x.a.take i))), some (.int (b ^ (x.a.take i).length)), y, none, none]) ⟨rfl, none, ?_⟩ (fun i σ H' _ ⟨e, _⟩ => e ▸ sql ha) (fun i v σ H' hi hv => ?_) (fun σ H' hv => ?_)⟩
    · show _ = [some (V.int b), some (V.ref p), some (V.int x.w), some (V.ref a), some (V.ref r), some (V.int (x.w * b ^ 0 + 0)), some (V.int (b ^ 0)), none, none, none]
      rw [Int.pow_zero, Int.mul_one, Int.add_zero]; rfl
    · obtain ⟨rfl, y, rfl⟩ := hv
      rw [List.getElem?_map] at hi
      cases e : x.a[i]? with
      | none => rw [e] at hi; cases hi
      | some u =>
        rw [e] at hi
        have e2 : V.int u = v := Option.some.inj hi
        subst e2
        have e3 : x.w * b ^ ((x.a.take i).length + 1) + (numI b (x.a.take i) * b + u) = (x.w * b ^ (x.a.take i).length + numI b (x.a.take i)) * b + u := by
          rw [Int.pow_succ, Int.add_mul, Int.mul_assoc]; omega
        rw [take_snoc e, num_snoc, List.length_append, List.length_singleton, e3, Int.pow_succ]
        walk_at "st"
        exact ⟨_, rfl⟩
    · obtain ⟨rfl, y, rfl⟩ := hv
      rw [List.length_map, List.take_length]
      walk_at "st"
      intro e ne
      have s1 := same_upd (o := .lst []) ne
      refine ⟨dI x.r, dI [], dp_dI (sql (s1 _ _ hr')), dp_dI (sql upd_same), shaped_dI _, shaped_dI _, ?_⟩
      rw [eqv_dI]
      walk_at "st"
      refine iteD (fun hr0 => ?_) (fun hr0 => ?_)
      · have e1 : wT b x.w x.a x.r = x.w * b ^ x.a.length + numI b x.a := if_pos hr0
        have e2 : wB b x.a x.r = b ^ x.a.length := if_pos hr0
        rw [e1, e2] at q hl
        walk_at "st"
        exact go_xlawlowest hd.1 hpa hl (fun p' np' => q _ p' (same_ups s1 np') (s1.free np') upd_same)
      · have e1 : wT b x.w x.a x.r = (x.w * b ^ x.a.length + numI b x.a) * (b ^ x.r.length - 1) + numI b x.r := if_neg hr0
        have e2 : wB b x.a x.r = b ^ x.a.length * (b ^ x.r.length - 1) := if_neg hr0
        have p1 := wT_nn (a := x.a) (r := x.r) h1 ho.w0 ho.fa ho.fr
        have p2 := wB_pos (a := x.a) (r := x.r) h1
        rw [e1] at p1
        rw [e2] at p2
        rw [e1, e2] at q hl
        have hr2 := s1 _ _ hr'
        walk_at "st"
        refine ⟨⟨_, sql hr2⟩, for_list (K := K) (a := r) (xs := x.r.map V.int) (fun i σ H' => upd H e (.lst []) = H' ∧ ∃ y, σ = [some (.int b), some (.ref p), some (.int x.w), some (.ref a), some (.ref r), some (.int (x.w * b ^ x.a.length + numI b x.a)), some (.int (b ^ x.a.length)), y, some (.int (numI b (x.r.take i))), some (.int (b ^ (x.r.take i).length))]) ⟨rfl, y, ?_⟩ (fun i σ H' _ ⟨e, _⟩ => e ▸ sql hr2) (fun i v σ H' hi hv => ?_) (fun σ H' hv => ?_)⟩
        · show _ = [some (V.int b), some (V.ref p), some (V.int x.w), some (V.ref a), some (V.ref r), some (V.int (x.w * b ^ x.a.length + numI b x.a)), some (V.int (b ^ x.a.length)), y, some (V.int 0), some (V.int (b ^ 0))]
          rw [Int.pow_zero]; rfl
        · obtain ⟨rfl, y, rfl⟩ := hv
          rw [List.getElem?_map] at hi
          cases e : x.r[i]? with
          | none => rw [e] at hi; cases hi
          | some u =>
            rw [e] at hi
            have e2 : V.int u = v := Option.some.inj hi
            subst e2
            rw [take_snoc e, num_snoc, List.length_append, List.length_singleton, Int.pow_succ]
            walk_at "st"
            exact ⟨_, rfl⟩
        · obtain ⟨rfl, y, rfl⟩ := hv
          rw [List.length_map, List.take_length]
          walk_at "st"
          exact go_xlawlowest p1 p2 hl (fun p' np' => q _ p' (same_ups s1 np') (s1.free np') upd_same)
end
abbrev s_law : Stmt := topS 25
theorem sc_law : FnScope ["script", "base", "writing", "handed", "found"] ["script"] (defScope s_law) := ⟨rfl, rfl, rfl, by decide +kernel, rfl, by decide +kernel, by decide +kernel⟩
def sp_law (K : PySem.W.Frag) : Sp := fun vs H Q _ => ∃ (a : Addr) (ns : List Int), vs = [.ref a] ∧ SqL K H a (ns.map V.int) ∧ ns.length ≤ 63 ∧ ∀ H', Q (.bl true) H'
section
variable {P : Program} {w : World} {K : PySem.W.Frag} {mg : Str → Option Value} {base : Heap}
theorem ok_law {f : Addr} {fd : FuncData} (F : Fun K "law" "law" s_law f fd) (M : Md K mg) (c_worth : Cal P w K mg base 3 "worth" (sp_worth K) []) (c_xlawcellat : Cal P w K mg base 1 "_law_cell_at" (sp_xlawcellat K) []) (c_xlawwhole : Cal P w K mg base 1 "_law_whole" (sp_xlawwhole K) []) (c_xlawwritingby : Cal P w K mg base 3 "_law_writing_by" (sp_xlawwritingby K) []) (c_xlawcopy : Cal P w K mg base 1 "_law_copy" (sp_xlawcopy K) []) (c_xlawworth : Cal P w K mg base 3 "_law_worth" (sp_xlawworth K) []) : FnOk P w K mg base CX0 4 f fd ["script"] (sp_law K) := by
  refine F.ok sc_law (fun vs H Q E h => ?_) (fun cdv A outer s H vs Q E hr h => ?_)
  · obtain ⟨a, ns, rfl, hS, hlen, q⟩ := h
    rfl
  · have hu := hu_of hr
    obtain ⟨a, ns, rfl, hS, hlen, q⟩ := h
    obtain ⟨b, hb, hb1, hb2⟩ : ∃ b : Int, 2 + cl ns 0 % 35 = b ∧ 2 ≤ b ∧ b ≤ 36 := ⟨_, rfl, by omega, by omega⟩
    refine ⟨_, (Evl.pss_cut (ps_set (i := 1) sc_law.nd rfl (.inl rfl) (pe_op op_add pe_int (pe_op op_mod (pe_c c_xlawcellat hr (by decide) (by rfl) (pa_cons (pv 0) (pa_cons pe_int pa_nil))) pe_int)))
      (pss_cons (ps_set (i := 2) sc_law.nd rfl (.inl rfl) (pe_c c_xlawwritingby hr (by decide) (by rfl) (pa_cons (pv 0) (pa_cons pe_int (pa_cons (pv 1) pa_nil)))))
      (pss_cons (ps_set (i := 3) sc_law.nd rfl (.inl rfl) (pe_c c_xlawcopy hr (by decide) (by rfl) (pa_cons (pv 2) pa_nil)))
      (pss_cons (ps_set (i := 4) sc_law.nd rfl (.inl rfl) (pe_c c_worth hr (by decide) (by rfl) (pa_cons (pv 1) (pa_cons (pv 3) pa_nil))))
      (pss_cons (ps_if (PW.pt (pw_or (pt_not (pt_val (pe_callB call_isi (by rfl) M.m_isinstance (by decide +kernel) (pa_cons (pv 4) (pa_cons (pe_bltn (v := .ty "tuple") (by rfl) M.m_tuple (by decide +kernel) rfl) pa_nil))))) (pw_or (pt_cmpR op_ne (pe_callB call_len_seq (by rfl) M.m_len PySem.boot_len (pa_cons (pv 4) pa_nil)) pe_int (nomark _)) (pw_or1 (pt_cmpR (op_neD hr.units) (pv 3) (pv 2) (nomark _))))))
        (pss_one (ps_ret pe_bl)) pss_nil)
      (pss_one (ps_ret (pe_and (pe_c c_xlawwhole hr (by decide) (by rfl) (pa_cons (pe_ix ix_tup (pv 4) pe_int (fun _ _ => rfl)) pa_nil)) (pe_and (pe_c c_xlawwhole hr (by decide) (by rfl) (pa_cons (pe_ix ix_tup (pv 4) pe_int (fun _ _ => rfl)) pa_nil)) (pe_one (pe_cmpR (op_eqD hr.units) (pv 4) (pe_c c_xlawworth hr (by decide) (by rfl) (pa_cons (pv 1) (pa_cons (pv 2) pa_nil))) (nomark _)))))))))))), ?_⟩
    refine ⟨fun σ H' => H = H' ∧ σ = [some (.ref a), some (.int b), none, none, none], ?_, fun σ H' hM => ?_⟩
    · walk_at "st"
      rw [← hb]; rfl
    obtain ⟨rfl, rfl⟩ := hM
    walk_at "st"
    refine go_xlawwritingby (by decide) hb1 hb2 hS (fun H1 p1 a1 r1 x w1 ok1 la lr => ?_)
    walk_at "st"
    refine go_xlawcopy w1.at' (fun H2 p2 a2 r2 w2 => ?_)
    walk_at "st"
    have hl : LowOk (wT b x.w x.a x.r) (wB b x.a x.r) := lowOk_wr hb1 hb2 la (Nat.le_trans lr (by decide))
    refine go_worth hb1 hb2 w2.at' ok1 hl (fun p3 np3 => ?_)
    have s3 := same_upd (o := .tup [.int (low (wT b x.w x.a x.r) (wB b x.a x.r)).1, .int (low (wT b x.w x.a x.r) (wB b x.a x.r)).2]) np3
    have t3 := upd_same (H := H2) (a := p3) (o := .tup [.int (low (wT b x.w x.a x.r) (wB b x.a x.r)).1, .int (low (wT b x.w x.a x.r) (wB b x.a x.r)).2])
    have v3 := w2.at'.same s3
    have u3 := (w1.at'.same w2.same).same s3
    generalize upd H2 p3 (.tup [.int (low (wT b x.w x.a x.r) (wB b x.a x.r)).1, .int (low (wT b x.w x.a x.r) (wB b x.a x.r)).2]) = H3 at *
    walk_at "st"
    refine ⟨dW x, dW x, v3.dp, u3.dp, shaped_dW _, shaped_dW _, ?_⟩
    rw [eqv_dW, decide_eq_true rfl]
    walk_at "st"
    refine go_xlawworth hb1 hb2 u3 ok1 hl (fun H4 p4 s4 n4 t4 => ?_)
    refine ⟨dP _ _, dP _ _, dp_dP (s4 _ _ t3), dp_dP t4, shaped_dP _ _, shaped_dP _ _, ?_⟩
    rw [eqv_dP, decide_eq_true ⟨rfl, rfl⟩]
    exact q _
end
/-! ### the end -/
theorem all_mk {l : PySem.W.OpenLaw} {w : World} {K : PySem.W.Frag} {h : Heap} {mg : Str → Option Value} {fa : Addr} (X : K.In h) (G : h.Ns mainGlobals mg) (hfa : mg "law" = some (.ref fa))
    {f0 : Addr} {od0 an0 : Option Addr} {sl0 : Array (Option Value)} {oc0 kV0 dc0 pm0 cd0 ct0 : Value}
    (a0 : PySem.W.nsIn K mainGlobals "asked_base" = some (some (.ref f0)))
    (l0 : K.lookup f0 = some ⟨oc0, od0, .func (PySem.W.fnOf "asked_base" "asked_base" (defArgs s_askedbase) (defBody s_askedbase) (defScope s_askedbase) .none kV0 dc0 pm0 an0 cd0 ct0), sl0⟩)
    (e0 : PySem.W.codeIn K cd0 "asked_base" = true) (k0 : PySem.W.keepIn K (.ref f0) = true)
    {f1 : Addr} {od1 an1 : Option Addr} {sl1 : Array (Option Value)} {oc1 kV1 dc1 pm1 cd1 ct1 : Value}
    (a1 : PySem.W.nsIn K mainGlobals "asked_figures" = some (some (.ref f1)))
    (l1 : K.lookup f1 = some ⟨oc1, od1, .func (PySem.W.fnOf "asked_figures" "asked_figures" (defArgs s_askedfigures) (defBody s_askedfigures) (defScope s_askedfigures) .none kV1 dc1 pm1 an1 cd1 ct1), sl1⟩)
    (e1 : PySem.W.codeIn K cd1 "asked_figures" = true) (k1 : PySem.W.keepIn K (.ref f1) = true)
    {f2 : Addr} {od2 an2 : Option Addr} {sl2 : Array (Option Value)} {oc2 kV2 dc2 pm2 cd2 ct2 : Value}
    (a2 : PySem.W.nsIn K mainGlobals "asked_writing" = some (some (.ref f2)))
    (l2 : K.lookup f2 = some ⟨oc2, od2, .func (PySem.W.fnOf "asked_writing" "asked_writing" (defArgs s_askedwriting) (defBody s_askedwriting) (defScope s_askedwriting) .none kV2 dc2 pm2 an2 cd2 ct2), sl2⟩)
    (e2 : PySem.W.codeIn K cd2 "asked_writing" = true) (k2 : PySem.W.keepIn K (.ref f2) = true)
    {f3 : Addr} {od3 an3 : Option Addr} {sl3 : Array (Option Value)} {oc3 kV3 dc3 pm3 cd3 ct3 : Value}
    (a3 : PySem.W.nsIn K mainGlobals "common" = some (some (.ref f3)))
    (l3 : K.lookup f3 = some ⟨oc3, od3, .func (PySem.W.fnOf "common" "common" (defArgs s_common) (defBody s_common) (defScope s_common) .none kV3 dc3 pm3 an3 cd3 ct3), sl3⟩)
    (e3 : PySem.W.codeIn K cd3 "common" = true) (k3 : PySem.W.keepIn K (.ref f3) = true)
    {f4 : Addr} {od4 an4 : Option Addr} {sl4 : Array (Option Value)} {oc4 kV4 dc4 pm4 cd4 ct4 : Value}
    (a4 : PySem.W.nsIn K mainGlobals "lowest" = some (some (.ref f4)))
    (l4 : K.lookup f4 = some ⟨oc4, od4, .func (PySem.W.fnOf "lowest" "lowest" (defArgs s_lowest) (defBody s_lowest) (defScope s_lowest) .none kV4 dc4 pm4 an4 cd4 ct4), sl4⟩)
    (e4 : PySem.W.codeIn K cd4 "lowest" = true) (k4 : PySem.W.keepIn K (.ref f4) = true)
    {f5 : Addr} {od5 an5 : Option Addr} {sl5 : Array (Option Value)} {oc5 kV5 dc5 pm5 cd5 ct5 : Value}
    (a5 : PySem.W.nsIn K mainGlobals "number_of" = some (some (.ref f5)))
    (l5 : K.lookup f5 = some ⟨oc5, od5, .func (PySem.W.fnOf "number_of" "number_of" (defArgs s_numberof) (defBody s_numberof) (defScope s_numberof) .none kV5 dc5 pm5 an5 cd5 ct5), sl5⟩)
    (e5 : PySem.W.codeIn K cd5 "number_of" = true) (k5 : PySem.W.keepIn K (.ref f5) = true)
    {f6 : Addr} {od6 an6 : Option Addr} {sl6 : Array (Option Value)} {oc6 kV6 dc6 pm6 cd6 ct6 : Value}
    (a6 : PySem.W.nsIn K mainGlobals "power" = some (some (.ref f6)))
    (l6 : K.lookup f6 = some ⟨oc6, od6, .func (PySem.W.fnOf "power" "power" (defArgs s_power) (defBody s_power) (defScope s_power) .none kV6 dc6 pm6 an6 cd6 ct6), sl6⟩)
    (e6 : PySem.W.codeIn K cd6 "power" = true) (k6 : PySem.W.keepIn K (.ref f6) = true)
    {f7 : Addr} {od7 an7 : Option Addr} {sl7 : Array (Option Value)} {oc7 kV7 dc7 pm7 cd7 ct7 : Value}
    (a7 : PySem.W.nsIn K mainGlobals "worth" = some (some (.ref f7)))
    (l7 : K.lookup f7 = some ⟨oc7, od7, .func (PySem.W.fnOf "worth" "worth" (defArgs s_worth) (defBody s_worth) (defScope s_worth) .none kV7 dc7 pm7 an7 cd7 ct7), sl7⟩)
    (e7 : PySem.W.codeIn K cd7 "worth" = true) (k7 : PySem.W.keepIn K (.ref f7) = true)
    {f8 : Addr} {od8 an8 : Option Addr} {sl8 : Array (Option Value)} {oc8 kV8 dc8 pm8 cd8 ct8 : Value}
    (a8 : PySem.W.nsIn K mainGlobals "_law_cell_at" = some (some (.ref f8)))
    (l8 : K.lookup f8 = some ⟨oc8, od8, .func (PySem.W.fnOf "_law_cell_at" "_law_cell_at" (defArgs s_xlawcellat) (defBody s_xlawcellat) (defScope s_xlawcellat) .none kV8 dc8 pm8 an8 cd8 ct8), sl8⟩)
    (e8 : PySem.W.codeIn K cd8 "_law_cell_at" = true) (k8 : PySem.W.keepIn K (.ref f8) = true)
    {f9 : Addr} {od9 an9 : Option Addr} {sl9 : Array (Option Value)} {oc9 kV9 dc9 pm9 cd9 ct9 : Value}
    (a9 : PySem.W.nsIn K mainGlobals "_law_draw" = some (some (.ref f9)))
    (l9 : K.lookup f9 = some ⟨oc9, od9, .func (PySem.W.fnOf "_law_draw" "_law_draw" (defArgs s_xlawdraw) (defBody s_xlawdraw) (defScope s_xlawdraw) .none kV9 dc9 pm9 an9 cd9 ct9), sl9⟩)
    (e9 : PySem.W.codeIn K cd9 "_law_draw" = true) (k9 : PySem.W.keepIn K (.ref f9) = true)
    {f10 : Addr} {od10 an10 : Option Addr} {sl10 : Array (Option Value)} {oc10 kV10 dc10 pm10 cd10 ct10 : Value}
    (a10 : PySem.W.nsIn K mainGlobals "_law_whole" = some (some (.ref f10)))
    (l10 : K.lookup f10 = some ⟨oc10, od10, .func (PySem.W.fnOf "_law_whole" "_law_whole" (defArgs s_xlawwhole) (defBody s_xlawwhole) (defScope s_xlawwhole) .none kV10 dc10 pm10 an10 cd10 ct10), sl10⟩)
    (e10 : PySem.W.codeIn K cd10 "_law_whole" = true) (k10 : PySem.W.keepIn K (.ref f10) = true)
    {f11 : Addr} {od11 an11 : Option Addr} {sl11 : Array (Option Value)} {oc11 kV11 dc11 pm11 cd11 ct11 : Value}
    (a11 : PySem.W.nsIn K mainGlobals "_law_common" = some (some (.ref f11)))
    (l11 : K.lookup f11 = some ⟨oc11, od11, .func (PySem.W.fnOf "_law_common" "_law_common" (defArgs s_xlawcommon) (defBody s_xlawcommon) (defScope s_xlawcommon) .none kV11 dc11 pm11 an11 cd11 ct11), sl11⟩)
    (e11 : PySem.W.codeIn K cd11 "_law_common" = true) (k11 : PySem.W.keepIn K (.ref f11) = true)
    {f12 : Addr} {od12 an12 : Option Addr} {sl12 : Array (Option Value)} {oc12 kV12 dc12 pm12 cd12 ct12 : Value}
    (a12 : PySem.W.nsIn K mainGlobals "_law_lowest" = some (some (.ref f12)))
    (l12 : K.lookup f12 = some ⟨oc12, od12, .func (PySem.W.fnOf "_law_lowest" "_law_lowest" (defArgs s_xlawlowest) (defBody s_xlawlowest) (defScope s_xlawlowest) .none kV12 dc12 pm12 an12 cd12 ct12), sl12⟩)
    (e12 : PySem.W.codeIn K cd12 "_law_lowest" = true) (k12 : PySem.W.keepIn K (.ref f12) = true)
    {f13 : Addr} {od13 an13 : Option Addr} {sl13 : Array (Option Value)} {oc13 kV13 dc13 pm13 cd13 ct13 : Value}
    (a13 : PySem.W.nsIn K mainGlobals "_law_figures_by" = some (some (.ref f13)))
    (l13 : K.lookup f13 = some ⟨oc13, od13, .func (PySem.W.fnOf "_law_figures_by" "_law_figures_by" (defArgs s_xlawfiguresby) (defBody s_xlawfiguresby) (defScope s_xlawfiguresby) .none kV13 dc13 pm13 an13 cd13 ct13), sl13⟩)
    (e13 : PySem.W.codeIn K cd13 "_law_figures_by" = true) (k13 : PySem.W.keepIn K (.ref f13) = true)
    {f14 : Addr} {od14 an14 : Option Addr} {sl14 : Array (Option Value)} {oc14 kV14 dc14 pm14 cd14 ct14 : Value}
    (a14 : PySem.W.nsIn K mainGlobals "_law_writing_by" = some (some (.ref f14)))
    (l14 : K.lookup f14 = some ⟨oc14, od14, .func (PySem.W.fnOf "_law_writing_by" "_law_writing_by" (defArgs s_xlawwritingby) (defBody s_xlawwritingby) (defScope s_xlawwritingby) .none kV14 dc14 pm14 an14 cd14 ct14), sl14⟩)
    (e14 : PySem.W.codeIn K cd14 "_law_writing_by" = true) (k14 : PySem.W.keepIn K (.ref f14) = true)
    {f15 : Addr} {od15 an15 : Option Addr} {sl15 : Array (Option Value)} {oc15 kV15 dc15 pm15 cd15 ct15 : Value}
    (a15 : PySem.W.nsIn K mainGlobals "_law_copy" = some (some (.ref f15)))
    (l15 : K.lookup f15 = some ⟨oc15, od15, .func (PySem.W.fnOf "_law_copy" "_law_copy" (defArgs s_xlawcopy) (defBody s_xlawcopy) (defScope s_xlawcopy) .none kV15 dc15 pm15 an15 cd15 ct15), sl15⟩)
    (e15 : PySem.W.codeIn K cd15 "_law_copy" = true) (k15 : PySem.W.keepIn K (.ref f15) = true)
    {f16 : Addr} {od16 an16 : Option Addr} {sl16 : Array (Option Value)} {oc16 kV16 dc16 pm16 cd16 ct16 : Value}
    (a16 : PySem.W.nsIn K mainGlobals "_law_worth" = some (some (.ref f16)))
    (l16 : K.lookup f16 = some ⟨oc16, od16, .func (PySem.W.fnOf "_law_worth" "_law_worth" (defArgs s_xlawworth) (defBody s_xlawworth) (defScope s_xlawworth) .none kV16 dc16 pm16 an16 cd16 ct16), sl16⟩)
    (e16 : PySem.W.codeIn K cd16 "_law_worth" = true) (k16 : PySem.W.keepIn K (.ref f16) = true)
    {f17 : Addr} {od17 an17 : Option Addr} {sl17 : Array (Option Value)} {oc17 kV17 dc17 pm17 cd17 ct17 : Value}
    (a17 : PySem.W.nsIn K mainGlobals "law" = some (some (.ref f17)))
    (l17 : K.lookup f17 = some ⟨oc17, od17, .func (PySem.W.fnOf "law" "law" (defArgs s_law) (defBody s_law) (defScope s_law) .none kV17 dc17 pm17 an17 cd17 ct17), sl17⟩)
    (e17 : PySem.W.codeIn K cd17 "law" = true) (k17 : PySem.W.keepIn K (.ref f17) = true)
    (z0 : PySem.W.nsIn K mainGlobals "len" = some none)
    (z1 : PySem.W.nsIn K mainGlobals "range" = some none)
    (z2 : PySem.W.nsIn K mainGlobals "isinstance" = some none)
    (z3 : PySem.W.nsIn K mainGlobals "int" = some none)
    (z4 : PySem.W.nsIn K mainGlobals "bool" = some none)
    (z5 : PySem.W.nsIn K mainGlobals "list" = some none)
    (z6 : PySem.W.nsIn K mainGlobals "tuple" = some none)
    {tk0 : Tok} (y0 : PySem.W.nsIn K mainGlobals "GREATEST" = some (some (.int 1000000000000 tk0)))
    {tk1 : Tok} (y1 : PySem.W.nsIn K mainGlobals "MOST_FIGURES" = some (some (.int 4000 tk1)))
    : ∃ fd : FuncData, (∀ (s : Shared) (v : Value), BindsTo s fd ⟨[v], []⟩ [("script", v)]) ∧ ∀ base : Heap, K.In base → base.Ns mainGlobals mg → FnOk l.prog w K mg base CX0 4 fa fd ["script"] (sp_law K) := by
  have e := hfa.symm.trans (PySem.W.mg_of X G a17)
  cases e
  have M : Md K mg := ⟨PySem.W.mg_none_of X G z0, PySem.W.mg_none_of X G z1, PySem.W.mg_none_of X G z2, PySem.W.mg_none_of X G z3, PySem.W.mg_none_of X G z4, PySem.W.mg_none_of X G z5, PySem.W.mg_none_of X G z6, ⟨_, PySem.W.mg_of X G y0, ⟨_, rfl⟩⟩, ⟨_, PySem.W.mg_of X G y1, ⟨_, rfl⟩⟩⟩
  have F0 := fun_mk (st := s_askedbase) l0 e0 k0
  have b0 := F0.binds (ps := ["base"]) fun _ _ _ _ _ _ us hl => match us, hl with | [_], _ => rfl
  have F1 := fun_mk (st := s_askedfigures) l1 e1 k1
  have b1 := F1.binds (ps := ["base", "figures"]) fun _ _ _ _ _ _ us hl => match us, hl with | [_, _], _ => rfl
  have F2 := fun_mk (st := s_askedwriting) l2 e2 k2
  have b2 := F2.binds (ps := ["base", "writing"]) fun _ _ _ _ _ _ us hl => match us, hl with | [_, _], _ => rfl
  have F3 := fun_mk (st := s_common) l3 e3 k3
  have b3 := F3.binds (ps := ["one", "other"]) fun _ _ _ _ _ _ us hl => match us, hl with | [_, _], _ => rfl
  have F4 := fun_mk (st := s_lowest) l4 e4 k4
  have b4 := F4.binds (ps := ["top", "bottom"]) fun _ _ _ _ _ _ us hl => match us, hl with | [_, _], _ => rfl
  have F5 := fun_mk (st := s_numberof) l5 e5 k5
  have b5 := F5.binds (ps := ["base", "figures"]) fun _ _ _ _ _ _ us hl => match us, hl with | [_, _], _ => rfl
  have F6 := fun_mk (st := s_power) l6 e6 k6
  have b6 := F6.binds (ps := ["base", "many"]) fun _ _ _ _ _ _ us hl => match us, hl with | [_, _], _ => rfl
  have F7 := fun_mk (st := s_worth) l7 e7 k7
  have b7 := F7.binds (ps := ["base", "writing"]) fun _ _ _ _ _ _ us hl => match us, hl with | [_, _], _ => rfl
  have F8 := fun_mk (st := s_xlawcellat) l8 e8 k8
  have b8 := F8.binds (ps := ["script", "k"]) fun _ _ _ _ _ _ us hl => match us, hl with | [_, _], _ => rfl
  have F9 := fun_mk (st := s_xlawdraw) l9 e9 k9
  have b9 := F9.binds (ps := ["cell", "k", "bound"]) fun _ _ _ _ _ _ us hl => match us, hl with | [_, _, _], _ => rfl
  have F10 := fun_mk (st := s_xlawwhole) l10 e10 k10
  have b10 := F10.binds (ps := ["found"]) fun _ _ _ _ _ _ us hl => match us, hl with | [_], _ => rfl
  have F11 := fun_mk (st := s_xlawcommon) l11 e11 k11
  have b11 := F11.binds (ps := ["one", "other"]) fun _ _ _ _ _ _ us hl => match us, hl with | [_, _], _ => rfl
  have F12 := fun_mk (st := s_xlawlowest) l12 e12 k12
  have b12 := F12.binds (ps := ["top", "bottom"]) fun _ _ _ _ _ _ us hl => match us, hl with | [_, _], _ => rfl
  have F13 := fun_mk (st := s_xlawfiguresby) l13 e13 k13
  have b13 := F13.binds (ps := ["cell", "base", "many"]) fun _ _ _ _ _ _ us hl => match us, hl with | [_, _, _], _ => rfl
  have F14 := fun_mk (st := s_xlawwritingby) l14 e14 k14
  have b14 := F14.binds (ps := ["script", "first", "base"]) fun _ _ _ _ _ _ us hl => match us, hl with | [_, _, _], _ => rfl
  have F15 := fun_mk (st := s_xlawcopy) l15 e15 k15
  have b15 := F15.binds (ps := ["writing"]) fun _ _ _ _ _ _ us hl => match us, hl with | [_], _ => rfl
  have F16 := fun_mk (st := s_xlawworth) l16 e16 k16
  have b16 := F16.binds (ps := ["base", "writing"]) fun _ _ _ _ _ _ us hl => match us, hl with | [_, _], _ => rfl
  have F17 := fun_mk (st := s_law) l17 e17 k17
  refine ⟨PySem.W.fnOf "law" "law" (defArgs s_law) (defBody s_law) (defScope s_law) .none kV17 dc17 pm17 an17 cd17 ct17, fun s v => .of_eq rfl, fun base _ _ => ?_⟩
  have c_askedbase : Cal l.prog w K mg base 1 "asked_base" (sp_askedbase K) [] := ⟨f0, _, _, [], ok_askedbase F0 M , PySem.W.mg_of X G a0, k0, b0, .nil⟩
  have c_askedfigures : Cal l.prog w K mg base 1 "asked_figures" (sp_askedfigures K) [] := ⟨f1, _, _, [], ok_askedfigures F1 M , PySem.W.mg_of X G a1, k1, b1, .nil⟩
  have c_askedwriting : Cal l.prog w K mg base 2 "asked_writing" (sp_askedwriting K) [] := ⟨f2, _, _, [], ok_askedwriting F2 M c_askedbase c_askedfigures, PySem.W.mg_of X G a2, k2, b2, .nil⟩
  have c_common : Cal l.prog w K mg base 1 "common" (sp_common K) [] := ⟨f3, _, _, [], ok_common F3 M , PySem.W.mg_of X G a3, k3, b3, .nil⟩
  have c_lowest : Cal l.prog w K mg base 2 "lowest" (sp_lowest K) [] := ⟨f4, _, _, [], ok_lowest F4 M c_common, PySem.W.mg_of X G a4, k4, b4, .nil⟩
  have c_numberof : Cal l.prog w K mg base 1 "number_of" (sp_numberof K) [] := ⟨f5, _, _, [], ok_numberof F5 M , PySem.W.mg_of X G a5, k5, b5, .nil⟩
  have c_power : Cal l.prog w K mg base 1 "power" (sp_power K) [] := ⟨f6, _, _, [], ok_power F6 M , PySem.W.mg_of X G a6, k6, b6, .nil⟩
  have c_worth : Cal l.prog w K mg base 3 "worth" (sp_worth K) [] := ⟨f7, _, _, [], ok_worth F7 M c_askedwriting c_lowest c_numberof c_power, PySem.W.mg_of X G a7, k7, b7, .nil⟩
  have c_xlawcellat : Cal l.prog w K mg base 1 "_law_cell_at" (sp_xlawcellat K) [] := ⟨f8, _, _, [], ok_xlawcellat F8 M , PySem.W.mg_of X G a8, k8, b8, .nil⟩
  have c_xlawdraw : Cal l.prog w K mg base 1 "_law_draw" (sp_xlawdraw K) [] := ⟨f9, _, _, [], ok_xlawdraw F9 M , PySem.W.mg_of X G a9, k9, b9, .nil⟩
  have c_xlawwhole : Cal l.prog w K mg base 1 "_law_whole" (sp_xlawwhole K) [] := ⟨f10, _, _, [], ok_xlawwhole F10 M , PySem.W.mg_of X G a10, k10, b10, .nil⟩
  have c_xlawcommon : Cal l.prog w K mg base 1 "_law_common" (sp_xlawcommon K) [] := ⟨f11, _, _, [], ok_xlawcommon F11 M , PySem.W.mg_of X G a11, k11, b11, .nil⟩
  have c_xlawlowest : Cal l.prog w K mg base 2 "_law_lowest" (sp_xlawlowest K) [] := ⟨f12, _, _, [], ok_xlawlowest F12 M c_xlawcommon, PySem.W.mg_of X G a12, k12, b12, .nil⟩
  have c_xlawfiguresby : Cal l.prog w K mg base 2 "_law_figures_by" (sp_xlawfiguresby K) [] := ⟨f13, _, _, [], ok_xlawfiguresby F13 M c_xlawdraw, PySem.W.mg_of X G a13, k13, b13, .nil⟩
  have c_xlawwritingby : Cal l.prog w K mg base 3 "_law_writing_by" (sp_xlawwritingby K) [] := ⟨f14, _, _, [], ok_xlawwritingby F14 M c_xlawcellat c_xlawfiguresby, PySem.W.mg_of X G a14, k14, b14, .nil⟩
  have c_xlawcopy : Cal l.prog w K mg base 1 "_law_copy" (sp_xlawcopy K) [] := ⟨f15, _, _, [], ok_xlawcopy F15 M , PySem.W.mg_of X G a15, k15, b15, .nil⟩
  have c_xlawworth : Cal l.prog w K mg base 3 "_law_worth" (sp_xlawworth K) [] := ⟨f16, _, _, [], ok_xlawworth F16 M c_xlawlowest, PySem.W.mg_of X G a16, k16, b16, .nil⟩
  exact ok_law F17 M c_worth c_xlawcellat c_xlawwhole c_xlawwritingby c_xlawcopy c_xlawworth
end Rf
open PySem PySem.W PyProof.Rows
set_option maxHeartbeats 0 in
theorem PySem.Challenge.cw_ringfigures_k03_worths_holds : PySem.Challenge.rw_ringfigures_k03_worths.Holds := by
  w_on; o_law; k_head; (case hw => w_witness2)
  k_fill
  refine L2.walk_of (l := PySem.Challenge.rw_ringfigures_k03_worths) (n := 63) (k := 4) (x := "script") (CX := fun _ => L2.CX0) (sp := fun w => Rf.sp_law _) rfl (by decide) rfl ⟨rfl, by decide, by decide⟩ (fun w h Y => PySem.W.kIn_of Y) ?F (fun _ _ a ns hl _ hS => ⟨a, ns, rfl, hS, hl, fun _ => rfl⟩) (fun _ _ _ _ _ h => h)
  case F =>
    intro w mg fa h KX G hmg
    refine' Rf.all_mk KX G hmg ?a0 ?l0 ?e0 ?k0 ?a1 ?l1 ?e1 ?k1 ?a2 ?l2 ?e2 ?k2 ?a3 ?l3 ?e3 ?k3 ?a4 ?l4 ?e4 ?k4 ?a5 ?l5 ?e5 ?k5 ?a6 ?l6 ?e6 ?k6 ?a7 ?l7 ?e7 ?k7 ?a8 ?l8 ?e8 ?k8 ?a9 ?l9 ?e9 ?k9 ?a10 ?l10 ?e10 ?k10 ?a11 ?l11 ?e11 ?k11 ?a12 ?l12 ?e12 ?k12 ?a13 ?l13 ?e13 ?k13 ?a14 ?l14 ?e14 ?k14 ?a15 ?l15 ?e15 ?k15 ?a16 ?l16 ?e16 ?k16 ?a17 ?l17 ?e17 ?k17 ?z0 ?z1 ?z2 ?z3 ?z4 ?z5 ?z6 ?y0 ?y1
    (case a0 => k_is); (case l0 => k_is); (case e0 => k_is); (case k0 => k_is); (case a1 => k_is); (case l1 => k_is); (case e1 => k_is); (case k1 => k_is); (case a2 => k_is); (case l2 => k_is); (case e2 => k_is); (case k2 => k_is); (case a3 => k_is); (case l3 => k_is); (case e3 => k_is); (case k3 => k_is); (case a4 => k_is); (case l4 => k_is); (case e4 => k_is); (case k4 => k_is); (case a5 => k_is); (case l5 => k_is); (case e5 => k_is); (case k5 => k_is); (case a6 => k_is); (case l6 => k_is); (case e6 => k_is); (case k6 => k_is); (case a7 => k_is); (case l7 => k_is); (case e7 => k_is); (case k7 => k_is); (case a8 => k_is); (case l8 => k_is); (case e8 => k_is); (case k8 => k_is); (case a9 => k_is); (case l9 => k_is); (case e9 => k_is); (case k9 => k_is); (case a10 => k_is); (case l10 => k_is); (case e10 => k_is); (case k10 => k_is); (case a11 => k_is); (case l11 => k_is); (case e11 => k_is); (case k11 => k_is); (case a12 => k_is); (case l12 => k_is); (case e12 => k_is); (case k12 => k_is); (case a13 => k_is); (case l13 => k_is); (case e13 => k_is); (case k13 => k_is); (case a14 => k_is); (case l14 => k_is); (case e14 => k_is); (case k14 => k_is); (case a15 => k_is); (case l15 => k_is); (case e15 => k_is); (case k15 => k_is); (case a16 => k_is); (case l16 => k_is); (case e16 => k_is); (case k16 => k_is); (case a17 => k_is); (case l17 => k_is); (case e17 => k_is); (case k17 => k_is); (case z0 => k_is); (case z1 => k_is); (case z2 => k_is); (case z3 => k_is); (case z4 => k_is); (case z5 => k_is); (case z6 => k_is); (case y0 => k_is); (case y1 => k_is)
