import PyProof.Rows.All
import Wide.All
import OpenK.AllK
import Wide.FinOn
import PySem.Challenge.RW_ringfigures_k11_whole_rings_of_primes_fo
import HandS.ForMost
import HandS.ForExc
import HandS.Wide
import HandS.IsInst
import HandS.Codes
import HandS.Style
import HandS.Evl
import HandS.Walk
import HandS.Zip
import HandS.Conv
set_option Elab.async false
set_option linter.all false
set_option maxRecDepth 100000
set_option maxHeartbeats 4000000
set_option maxRecDepth 100000
set_option maxHeartbeats 4000000
namespace Rf
open PySem PySem.Spec PyProof.Rows L2
/-! ### heaps -/
theorem same_new {H H' : Hp} {p : Addr} {o : HO} (s : Same H H') (h : H p = none) : Same H (upd H' p o) := fun b u e => by
  rw [upd_ne (ne_of_none e h)]
  exact s b u e
theorem same_upd {H : Hp} {p : Addr} {o : HO} (h : H p = none) : Same H (upd H p o) := same_new (Same.refl H) h
theorem ne_new {H : Hp} {d f : Addr} {o : HO} (h : upd H d o f = none) : f ≠ d := fun e => by
  rw [e, upd_same] at h
  cases h
theorem free_upd {H : Hp} {d f : Addr} {o : HO} (h : upd H d o f = none) : H f = none := by
  rw [upd_ne (ne_new h)] at h
  exact h
theorem same_ups {H H' : Hp} {d : Addr} {o : HO} (s : Same H H') (h : H' d = none) : Same H (upd H' d o) := s.trans (same_upd h)
theorem keyne {a b : Nat} (h : a ≠ b) : ¬ ((Sum.inl (a : Int) : Key) = Sum.inl (b : Int)) := fun q => h (by have := Sum.inl.inj q; omega)
theorem sz100 {n : Nat} (h : n ≤ 1000000) : n ≤ sizeLine := Nat.le_trans h (by decide)
theorem sz100lt {n : Nat} (h : n < 1000000) : n < sizeLine := Nat.lt_of_lt_of_le h (by decide)
theorem sqt {K : PySem.W.Frag} {H : Hp} {a : Addr} {xs : List V} (h : H a = some (.tup xs)) : SqT K H a xs := .inl (.inl h)
theorem sql {K : PySem.W.Frag} {H : Hp} {a : Addr} {xs : List V} (h : H a = some (.lst xs)) : SqL K H a xs := .inl (.inl h)
/-! ### floor division by any positive number, where the quotient is not long -/
def CDivP (i j : Int) : Prop := 0 < j ∧ Builtin.divisionGoesByPylong i j = false
theorem op_fdivP {X : Cx} : OpR X (binaryOp .FloorDiv) (rI CDivP fun i j => .int (i / j)) := opI fun i j _ _ _ _ _ hc q => by
  have h1 : (0 : Int) < j := hc.1
  exact floordiv_int (by omega) (by rw [Int.fdiv_eq_ediv_of_nonneg i (by omega)]; exact q) (.inl hc.2)
theorem cdivp_small {i j : Int} (h : 0 < j) (h2 : j < 1073741824) : CDivP i j := ⟨h, PyProof.noPylong_small (by omega)⟩
/-- a divisor that is not long -/
structure Wid (m : Nat) : Prop where
  lt : m.log2 < 9000
theorem cdivp_wide {i : Int} {m : Nat} (h0 : 0 < m) (h : Wid m) : CDivP i (m : Int) := ⟨by omega, PyProof.noPylong_of_log2 (by rw [Int.natAbs_natCast]; exact h.lt)⟩
theorem wid_of {m k : Nat} (h : m < 2 ^ k) (hk : k ≤ 9000) (h0 : 0 < k) : Wid m := ⟨Nat.lt_of_lt_of_le (PySem.Flt.log2_lt_of h0 h) hk⟩
theorem wid_small {m : Nat} (h : m < 1000000) : Wid m := wid_of (k := 30) (Nat.lt_of_lt_of_le h (by decide)) (by decide) (by decide)
theorem op_mulB {X : Cx} : OpR X (binaryOp .Mult) (rI IntMulOk fun i j => .int (i * j)) := opI fun _ _ _ _ _ _ _ hc q => mul_int q hc
theorem mulB_right {i j : Int} (h1 : -(2 ^ 64) < j) (h2 : j < 2 ^ 64) : IntMulOk i j := IntMulOk.of_right (intBits_le_64 (by omega) (by omega))
theorem mulB_left {i j : Int} (h1 : -(2 ^ 64) < i) (h2 : i < 2 ^ 64) : IntMulOk i j := IntMulOk.of_left (intBits_le_64 (by omega) (by omega))
/-! ### slices -/
theorem cut_take (xs : List V) (k : Nat) : cutV xs none (some (k : Int)) = xs.take k := by
  unfold cutV
  rw [HT.sIx_none, HT.sIx_nat, List.drop_zero, Nat.sub_zero, ← List.take_take, List.take_length]
theorem cut_drop (xs : List V) (k : Nat) : cutV xs (some (k : Int)) none = xs.drop k := by
  unfold cutV
  rw [HT.sIx_none, HT.sIx_nat]
  by_cases h : k ≤ xs.length
  · rw [Nat.min_eq_left h]
    exact List.take_of_length_le (by rw [List.length_drop]; exact Nat.le_refl _)
  · rw [Nat.min_eq_right (by omega), List.drop_eq_nil_of_le (Nat.le_refl _), List.drop_eq_nil_of_le (by omega), List.take_nil]
theorem take_map (l : List Int) (k : Nat) : (l.map V.int).take k = (l.take k).map V.int := (List.map_take).symm
theorem drop_map (l : List Int) (k : Nat) : (l.map V.int).drop k = (l.drop k).map V.int := (List.map_drop).symm
/-! ### ints as data -/
def dI (ns : List Int) : PyData := .list (ns.map PyData.int)
theorem eqv_ints : ∀ a b : List Int, PyData.eqvAll (a.map PyData.int) (b.map PyData.int) = decide (a = b)
  | [], [] => rfl
  | [], _ :: _ => rfl
  | _ :: _, [] => rfl
  | x :: a, y :: b => by
    show (PyData.eqv (.int x) (.int y) && PyData.eqvAll (a.map PyData.int) (b.map PyData.int)) = _
    rw [eqv_ints a b]
    show ((x == y) && decide (a = b)) = _
    by_cases h : x = y <;> by_cases h2 : a = b <;> simp [h, h2]
theorem eqv_dI (a b : List Int) : PyData.eqv (dI a) (dI b) = decide (a = b) := by
  unfold dI
  rw [PyData.eqv]
  exact eqv_ints a b
theorem canLay_ints : ∀ a : List Int, PyData.canLayAll0 (a.map PyData.int) = true
  | [] => rfl
  | x :: a => by
    show (PyData.canLay0 (.int x) && PyData.canLayAll0 (a.map PyData.int)) = true
    rw [canLay_ints a]
    rfl
theorem depth_ints : ∀ a : List Int, PyData.depthAll (a.map PyData.int) = 0
  | [] => rfl
  | x :: a => by
    show max (PyData.depth (.int x)) (PyData.depthAll (a.map PyData.int)) = 0
    rw [depth_ints a]
    rfl
theorem shaped_dI (a : List Int) : SeqAt.shaped (dI a) = true := by
  unfold SeqAt.shaped dI
  rw [show PyData.canLay0 (.list (a.map PyData.int)) = PyData.canLayAll0 (a.map PyData.int) from rfl, canLay_ints]
  rw [show PyData.depth (.list (a.map PyData.int)) = PyData.depthAll (a.map PyData.int) + 1 from rfl, depth_ints]
  rfl
theorem dpAll_ints {K : PySem.W.Frag} {H : Hp} : ∀ a : List Int, DpAll K H (a.map V.int) (a.map PyData.int)
  | [] => .nil
  | x :: a => .cons (.int x) (dpAll_ints a)
theorem dp_dI {K : PySem.W.Frag} {H : Hp} {p : Addr} {a : List Int} (h : SqL K H p (a.map V.int)) : Dp K H (.ref p) (dI a) := .lst h (dpAll_ints a)
/-! ### writings -/
/-- a whole number, figures ahead, a ring -/
structure Wr where
  w : Int
  a : List Int
  r : List Int
  deriving DecidableEq
def dW (x : Wr) : PyData := .tuple [.int x.w, dI x.a, dI x.r]
theorem eqv_dW (x y : Wr) : PyData.eqv (dW x) (dW y) = decide (x = y) := by
  unfold dW
  rw [PyData.eqv]
  show (PyData.eqv (.int x.w) (.int y.w) && (PyData.eqv (dI x.a) (dI y.a) && (PyData.eqv (dI x.r) (dI y.r) && true))) = _
  rw [eqv_dI, eqv_dI]
  show ((x.w == y.w) && _) = _
  obtain ⟨w1, a1, r1⟩ := x
  obtain ⟨w2, a2, r2⟩ := y
  by_cases h1 : w1 = w2 <;> by_cases h2 : a1 = a2 <;> by_cases h3 : r1 = r2 <;> simp [h1, h2, h3]
theorem shaped_dW (x : Wr) : SeqAt.shaped (dW x) = true := by
  unfold SeqAt.shaped dW dI
  show (PyData.canLay0 (.int x.w) && (PyData.canLayAll0 (x.a.map PyData.int) && (PyData.canLayAll0 (x.r.map PyData.int) && true)) && decide (max 0 (max (PyData.depthAll (x.a.map PyData.int) + 1) (max (PyData.depthAll (x.r.map PyData.int) + 1) 0)) + 1 ≤ 64)) = true
  rw [canLay_ints, canLay_ints, depth_ints, depth_ints]
  rfl
/-- the writing x stands at p, its lists at a and r -/
structure WrAt (H : Hp) (p a r : Addr) (x : Wr) : Prop where
  tp : H p = some (.tup [.int x.w, .ref a, .ref r])
  la : H a = some (.lst (x.a.map V.int))
  lr : H r = some (.lst (x.r.map V.int))
theorem WrAt.dp {K : PySem.W.Frag} {H : Hp} {p a r : Addr} {x : Wr} (h : WrAt H p a r x) : Dp K H (.ref p) (dW x) :=
  .tup (sqt h.tp) (.cons (.int x.w) (.cons (dp_dI (sql h.la)) (.cons (dp_dI (sql h.lr)) .nil)))
theorem WrAt.same {H H' : Hp} {p a r : Addr} {x : Wr} (h : WrAt H p a r x) (s : Same H H') : WrAt H' p a r x := ⟨s _ _ h.tp, s _ _ h.la, s _ _ h.lr⟩
/-- a new writing x at p: all that was stands, its objects are new and its lists are two -/
structure WrNew (H H' : Hp) (p a r : Addr) (x : Wr) : Prop where
  at' : WrAt H' p a r x
  same : Same H H'
  np : H p = none
  na : H a = none
  nr : H r = none
  ne : a ≠ r
/-! ### tests -/
theorem iteD {c : Prop} [Decidable c] {A B : Prop} (h1 : c → A) (h2 : ¬ c → B) : if decide c = true then A else B := by
  by_cases h : c
  · rw [if_pos (decide_eq_true h)]; exact h1 h
  · rw [if_neg (by rw [decide_eq_false h]; exact Bool.false_ne_true)]; exact h2 h
theorem iteDn {c : Prop} [Decidable c] {A B : Prop} (h1 : ¬ c → A) (h2 : c → B) : if (!decide c) = true then A else B := by
  by_cases h : c
  · rw [if_neg (by rw [decide_eq_true h]; exact Bool.false_ne_true)]; exact h2 h
  · rw [if_pos (by rw [decide_eq_false h]; rfl)]; exact h1 h
theorem iteE {i j : Int} {A B : Prop} (h1 : i = j → A) (h2 : i ≠ j → B) : if decide (V.int i = V.int j) = true then A else B := iteD (fun e => h1 (V.int.inj e)) (fun e => h2 fun q => e (by rw [q]))
theorem iteEn {i j : Int} {A B : Prop} (h1 : i ≠ j → A) (h2 : i = j → B) : if (!decide (V.int i = V.int j)) = true then A else B := iteDn (fun e => h1 fun q => e (by rw [q])) (fun e => h2 (V.int.inj e))
theorem iteB {b : Bool} {A B : Prop} (h1 : b = true → A) (h2 : b = false → B) : if b = true then A else B := by
  cases b with
  | true => rw [if_pos rfl]; exact h1 rfl
  | false => rw [if_neg Bool.false_ne_true]; exact h2 rfl
theorem atI_of {xs : List V} {z : Int} {j : Nat} {v : V} (e : z = (j : Int)) (h : xs[j]? = some v) : atI xs z = some v := by
  rw [e]
  exact atI_nat h
theorem map_get {ns : List Int} {k : Nat} {x : Int} (h : ns[k]? = some x) : (ns.map V.int)[k]? = some (.int x) := by
  rw [List.getElem?_map, h]; rfl
/-! ### where a value's kind is asked -/
theorem kit_int_int {K : PySem.W.Frag} : PySem.W.kitOne K (.type "int") (.type "int") = some true := kit_ty (by decide +kernel)
theorem kit_int_bool {K : PySem.W.Frag} : PySem.W.kitOne K (.type "int") (.type "bool") = some false := kit_ty (by decide +kernel)
theorem kit_tup {K : PySem.W.Frag} : PySem.W.kitOne K (.type "tuple") (.type "tuple") = some true := kit_ty (by decide +kernel)
theorem kit_lst {K : PySem.W.Frag} : PySem.W.kitOne K (.type "list") (.type "list") = some true := kit_ty (by decide +kernel)
theorem kit_bool {K : PySem.W.Frag} : PySem.W.kitOne K (.type "bool") (.type "bool") = some true := kit_ty (by decide +kernel)
theorem kit_str {K : PySem.W.Frag} : PySem.W.kitOne K (.type "str") (.type "str") = some true := kit_ty (by decide +kernel)
theorem kit_self {K : PySem.W.Frag} {n : String} : PySem.W.kitOne K (.type n) (.type n) = some true := kit_ty (by unfold kitB; rw [if_pos (by simp)])
end Rf

set_option maxHeartbeats 1000000
namespace Rf
/-! ### the rests of a division, and where they come again -/
/-- the rest behind k figures -/
def rs (b m r k : Nat) : Nat := r * b ^ k % m
/-- the k-th figure -/
def dg (b m r k : Nat) : Nat := rs b m r k * b / m
/-- n figures from the i-th on -/
def dgs (b m r i n : Nat) : List Int := (List.range n).map fun k => ((dg b m r (i + k) : Nat) : Int)
theorem rs_zero {b m r : Nat} (h : r < m) : rs b m r 0 = r := by
  unfold rs
  rw [Nat.pow_zero, Nat.mul_one, Nat.mod_eq_of_lt h]
theorem rs_lt {b m r k : Nat} (h : 0 < m) : rs b m r k < m := Nat.mod_lt _ h
theorem rs_succ (b m r k : Nat) : rs b m r (k + 1) = rs b m r k * b % m := by
  unfold rs
  rw [Nat.pow_succ, ← Nat.mul_assoc, Nat.mul_mod (r * b ^ k) b m, Nat.mul_mod (r * b ^ k % m) b m, Nat.mod_mod]
theorem dgs_len (b m r i n : Nat) : (dgs b m r i n).length = n := by
  unfold dgs
  rw [List.length_map, List.length_range]
theorem dgs_succ (b m r i n : Nat) : dgs b m r i (n + 1) = dgs b m r i n ++ [((dg b m r (i + n) : Nat) : Int)] := by
  unfold dgs
  rw [List.range_succ, List.map_append]
  rfl
theorem dgs_take (b m r n k : Nat) (h : k ≤ n) : (dgs b m r 0 n).take k = dgs b m r 0 k := by
  unfold dgs
  rw [← List.map_take, List.take_range, Nat.min_eq_left h]
theorem dgs_get (b m r i n k : Nat) (h : k < n) : (dgs b m r i n)[k]? = some ((dg b m r (i + k) : Nat) : Int) := by
  unfold dgs
  rw [List.getElem?_map, List.getElem?_range h]
  rfl
theorem dgs_drop (b m r n k : Nat) (h : k ≤ n) : (dgs b m r 0 n).drop k = dgs b m r k (n - k) := by
  apply List.ext_getElem?
  intro j
  rw [List.getElem?_drop]
  by_cases hj : j < n - k
  · rw [dgs_get _ _ _ _ _ _ hj, dgs_get _ _ _ _ _ _ (show k + j < n by omega), Nat.zero_add]
  · rw [List.getElem?_eq_none (by rw [dgs_len]; omega), List.getElem?_eq_none (by rw [dgs_len]; omega)]
/-- division of r by m in base b: s figures ahead, then a ring of l (none: l = 0) -/
structure DivAt (b m r s l : Nat) : Prop where
  pos : ∀ k, k < s + l → rs b m r k ≠ 0
  new : ∀ j k, j < k → k < s + l → rs b m r j ≠ rs b m r k
  fin : l = 0 → rs b m r s = 0
  rep : 0 < l → rs b m r (s + l) = rs b m r s
/-- the first n at which the division stops -/
def Stp (b m r n : Nat) : Prop := rs b m r n = 0 ∨ ∃ j, j < n ∧ rs b m r j = rs b m r n
theorem DivAt.stp {b m r s l : Nat} (h : DivAt b m r s l) : Stp b m r (s + l) := by
  by_cases hl : l = 0
  · subst hl; exact .inl (h.fin rfl)
  · exact .inr ⟨s, by omega, (h.rep (by omega)).symm⟩
theorem DivAt.not_stp {b m r s l n : Nat} (h : DivAt b m r s l) (hn : n < s + l) : ¬ Stp b m r n := fun q => by
  rcases q with q | ⟨j, hj, e⟩
  · exact h.pos n hn q
  · exact h.new j n hj hn e
theorem DivAt.unique {b m r s l s' l' : Nat} (h : DivAt b m r s l) (h' : DivAt b m r s' l') : s = s' ∧ l = l' := by
  have e : s + l = s' + l' := by
    rcases Nat.lt_trichotomy (s + l) (s' + l') with q | q | q
    · exact absurd h.stp (h'.not_stp q)
    · exact q
    · exact absurd h'.stp (h.not_stp q)
  by_cases hl : l = 0
  · by_cases hl' : l' = 0
    · omega
    · have h1 := h.fin hl
      have h2 := h'.rep (by omega)
      have h3 : s = s' + l' := by omega
      rw [← h3, h1] at h2
      exact absurd h2.symm (h'.pos s' (by omega))
  · by_cases hl' : l' = 0
    · have h1 := h'.fin hl'
      have h2 := h.rep (by omega)
      have h3 : s' = s + l := by omega
      rw [← h3, h1] at h2
      exact absurd h2.symm (h.pos s (by omega))
    · have h1 := h.rep (by omega)
      have h2 := h'.rep (by omega)
      rw [e] at h1
      have h3 : rs b m r s = rs b m r s' := h1.symm.trans h2
      rcases Nat.lt_trichotomy s s' with q | q | q
      · exact absurd h3 (h.new s s' q (by omega))
      · omega
      · exact absurd h3.symm (h'.new s' s q (by omega))
theorem exists_least (P : Nat → Prop) : ∀ n, P n → ∃ k, k ≤ n ∧ P k ∧ ∀ j, j < k → ¬ P j := fun n => by
  induction n using Nat.strongRecOn with
  | _ n ih =>
    intro h
    by_cases q : ∃ j, j < n ∧ P j
    · obtain ⟨j, hj, pj⟩ := q
      obtain ⟨k, hk, pk, lk⟩ := ih j hj pj
      exact ⟨k, by omega, pk, lk⟩
    · exact ⟨n, Nat.le_refl _, h, fun j hj pj => q ⟨j, hj, pj⟩⟩
/-- an injection of the numbers below n into those below m -/
theorem pigeon : ∀ (m n : Nat) (f : Nat → Nat), (∀ k, k < n → f k < m) → (∀ j k, j < k → k < n → f j ≠ f k) → n ≤ m
  | 0, n, f, h, _ => by
    cases n with
    | zero => exact Nat.le_refl _
    | succ n => exact absurd (h 0 (by omega)) (by omega)
  | m + 1, n, f, h, inj => by
    by_cases q : ∃ i, i < n ∧ f i = m
    · obtain ⟨i, hi, ei⟩ := q
      have key : n - 1 ≤ m := pigeon m (n - 1) (fun k => if k < i then f k else f (k + 1)) (fun k hk => by
          split
          · rename_i c
            have h1 := h k (by omega)
            have h2 := inj k i c hi
            omega
          · rename_i c
            have h1 := h (k + 1) (by omega)
            have h2 := inj i (k + 1) (by omega) (by omega)
            omega) (fun j k hjk hk => by
          split
          · split
            · exact inj j k hjk (by omega)
            · exact inj j (k + 1) (by omega) (by omega)
          · split
            · omega
            · exact inj (j + 1) (k + 1) (by omega) (by omega))
      omega
    · have key : n ≤ m := pigeon m n f (fun k hk => by
          have h1 := h k hk
          have h2 : f k ≠ m := fun e => q ⟨k, hk, e⟩
          omega) inj
      omega
theorem stp_exists {b m r : Nat} (hm : 0 < m) : ∃ n, n ≤ m ∧ Stp b m r n := by
  by_cases q : ∃ n, n ≤ m ∧ Stp b m r n
  · exact q
  · have h1 : m + 1 ≤ m := pigeon m (m + 1) (rs b m r) (fun k _ => rs_lt hm) (fun j k hjk hk e => q ⟨k, by omega, .inr ⟨j, hjk, e⟩⟩)
    omega
theorem divAt_of_stp {b m r n : Nat} (h : Stp b m r n) (hl : ∀ j, j < n → ¬ Stp b m r j) : ∃ s l, s + l = n ∧ DivAt b m r s l := by
  have hp : ∀ k, k < n → rs b m r k ≠ 0 := fun k hk e => hl k hk (.inl e)
  have hn : ∀ j k, j < k → k < n → rs b m r j ≠ rs b m r k := fun j k hjk hk e => hl k hk (.inr ⟨j, hjk, e⟩)
  by_cases h0 : rs b m r n = 0
  · exact ⟨n, 0, by omega, ⟨hp, hn, fun _ => h0, fun q => absurd q (by omega)⟩⟩
  · rcases h with h | ⟨j, hj, e⟩
    · exact absurd h h0
    · refine ⟨j, n - j, by omega, ⟨fun k hk => hp k (by omega), fun i k hik hk => hn i k hik (by omega), fun q => by omega, fun _ => ?_⟩⟩
      rw [show j + (n - j) = n by omega]
      exact e.symm
theorem divAt_exists {b m r : Nat} (hm : 0 < m) : ∃ s l, s + l ≤ m ∧ DivAt b m r s l := by
  obtain ⟨n, hn, h⟩ := stp_exists (b := b) (r := r) hm
  obtain ⟨k, hk, pk, lk⟩ := exists_least (Stp b m r) n h
  obtain ⟨s, l, e, d⟩ := divAt_of_stp pk lk
  exact ⟨s, l, by omega, d⟩
end Rf

set_option maxHeartbeats 1000000
namespace Rf
/-! ### figures come round -/
theorem rs_add (b m r i j : Nat) : rs b m r (i + j) = rs b m (rs b m r i) j := by
  unfold rs
  rw [Nat.pow_add, ← Nat.mul_assoc, Nat.mul_mod (r * b ^ i) (b ^ j) m, Nat.mul_mod (r * b ^ i % m) (b ^ j) m, Nat.mod_mod]
theorem DivAt.nought {b m r s l : Nat} (h : DivAt b m r s l) (hl : l = 0) (i : Nat) : rs b m r (s + i) = 0 := by
  rw [rs_add, h.fin hl]
  unfold rs
  rw [Nat.zero_mul, Nat.zero_mod]
theorem DivAt.round {b m r s l : Nat} (h : DivAt b m r s l) (hl : 0 < l) (i : Nat) : rs b m r (s + l + i) = rs b m r (s + i) := by
  rw [rs_add, h.rep hl, ← rs_add]
theorem DivAt.rounds {b m r s l : Nat} (h : DivAt b m r s l) (hl : 0 < l) (i : Nat) : ∀ n, rs b m r (s + (i + l * n)) = rs b m r (s + i)
  | 0 => by rw [Nat.mul_zero, Nat.add_zero]
  | n + 1 => by
    rw [show s + (i + l * (n + 1)) = s + l + (i + l * n) by rw [Nat.mul_add, Nat.mul_one]; omega, h.round hl]
    exact h.rounds hl i n
theorem DivAt.mod {b m r s l : Nat} (h : DivAt b m r s l) (hl : 0 < l) (i : Nat) : rs b m r (s + i) = rs b m r (s + i % l) := by
  have e := h.rounds hl (i % l) (i / l)
  rw [Nat.mod_add_div] at e
  exact e
/-- the figure at a place, by the writing -/
theorem DivAt.fig {b m r s l n : Nat} (h : DivAt b m r s l) (hn : s ≤ n) : dg b m r n = if l = 0 then 0 else dg b m r (s + (n - s) % l) := by
  unfold dg
  by_cases hl : l = 0
  · rw [if_pos hl, show n = s + (n - s) by omega, h.nought hl, Nat.zero_mul, Nat.zero_div]
  · rw [if_neg hl]
    have e := h.mod (by omega) (n - s)
    rw [show s + (n - s) = n by omega] at e
    rw [e]
/-! ### powers by squaring -/
theorem pow_half (F G m p : Nat) : (if p % 2 = 1 then F * G % m else F) * (G * G % m) ^ (p / 2) % m = F * G ^ p % m := by
  have e : G ^ p = (if p % 2 = 1 then G else 1) * (G * G) ^ (p / 2) := by
    rw [← Nat.pow_two, ← Nat.pow_mul]
    split
    · rename_i h
      rw [← Nat.pow_succ']
      congr 1
      omega
    · rename_i h
      rw [Nat.one_mul]
      congr 1
      omega
  rw [e, Nat.mul_mod, ← Nat.pow_mod, ← Nat.mul_mod, ← Nat.mul_assoc]
  split
  · rw [Nat.mul_mod (F * G % m), Nat.mod_mod, ← Nat.mul_mod]
  · rw [Nat.mul_one]
end Rf

set_option maxHeartbeats 1000000
namespace Rf
/-! ### lengths of a bottom -/
/-- what is left of m when k factors b are taken out as far as they go -/
def lft (b m k : Nat) : Nat := m / Nat.gcd m (b ^ k)
theorem gcd_step (b m k : Nat) (hm : 0 < m) : Nat.gcd m (b ^ (k + 1)) = Nat.gcd m (b ^ k) * Nat.gcd (lft b m k) b := by
  have hg : 0 < Nat.gcd m (b ^ k) := Nat.gcd_pos_of_pos_left _ hm
  obtain ⟨m', hm'⟩ := Nat.gcd_dvd_left m (b ^ k)
  obtain ⟨c, hc⟩ := Nat.gcd_dvd_right m (b ^ k)
  have co : Nat.Coprime m' c := by
    have h1 : Nat.gcd (m / Nat.gcd m (b ^ k)) (b ^ k / Nat.gcd m (b ^ k)) = 1 := Nat.coprime_div_gcd_div_gcd hg
    have e1 : m / Nat.gcd m (b ^ k) = m' := Nat.div_eq_of_eq_mul_right hg hm'
    have e2 : b ^ k / Nat.gcd m (b ^ k) = c := Nat.div_eq_of_eq_mul_right hg hc
    rw [e1, e2] at h1
    exact h1
  have e1 : lft b m k = m' := Nat.div_eq_of_eq_mul_right hg hm'
  have e3 : b ^ (k + 1) = Nat.gcd m (b ^ k) * (c * b) := by rw [Nat.pow_succ, ← Nat.mul_assoc, ← hc]
  rw [e1]
  have e4 : Nat.gcd m (b ^ (k + 1)) = Nat.gcd (Nat.gcd m (b ^ k) * m') (Nat.gcd m (b ^ k) * (c * b)) := by
    rw [← hm', ← e3]
  rw [e4, Nat.gcd_mul_left, Nat.Coprime.gcd_mul_left_cancel_right b co.symm]
theorem lft_zero (b m : Nat) : lft b m 0 = m := by
  unfold lft
  rw [Nat.pow_zero, Nat.gcd_one_right, Nat.div_one]
theorem lft_pos {b m k : Nat} (hm : 0 < m) : 0 < lft b m k := Nat.div_pos (Nat.le_of_dvd hm (Nat.gcd_dvd_left _ _)) (Nat.gcd_pos_of_pos_left _ hm)
theorem lft_succ {b m k : Nat} (hm : 0 < m) : lft b m (k + 1) = lft b m k / Nat.gcd (lft b m k) b := by
  unfold lft
  rw [gcd_step b m k hm, Nat.div_div_eq_div_mul]
  rfl
theorem lft_le (b m k : Nat) : lft b m k ≤ m := Nat.div_le_self _ _
theorem lft_stay {b m s : Nat} (hm : 0 < m) (h : Nat.gcd (lft b m s) b = 1) : ∀ i, lft b m (s + i) = lft b m s
  | 0 => rfl
  | i + 1 => by
    rw [← Nat.add_assoc, lft_succ hm, lft_stay hm h i, h, Nat.div_one]
/-- m goes into x * y just where what is left of m by x goes into y -/
theorem dvd_left {m x y : Nat} (hm : 0 < m) : m ∣ x * y ↔ m / Nat.gcd m x ∣ y := by
  have hg : 0 < Nat.gcd m x := Nat.gcd_pos_of_pos_left _ hm
  obtain ⟨m', hm'⟩ := Nat.gcd_dvd_left m x
  obtain ⟨c, hc⟩ := Nat.gcd_dvd_right m x
  have e1 : m / Nat.gcd m x = m' := Nat.div_eq_of_eq_mul_right hg hm'
  have co : Nat.Coprime m' c := by
    have h1 : Nat.gcd (m / Nat.gcd m x) (x / Nat.gcd m x) = 1 := Nat.coprime_div_gcd_div_gcd hg
    have e2 : x / Nat.gcd m x = c := Nat.div_eq_of_eq_mul_right hg hc
    rw [e1, e2] at h1
    exact h1
  rw [e1]
  constructor
  · intro h
    have h2 : Nat.gcd m x * m' ∣ Nat.gcd m x * (c * y) := by
      rw [← hm', ← Nat.mul_assoc, ← hc]
      exact h
    have h3 : m' ∣ c * y := Nat.dvd_of_mul_dvd_mul_left hg h2
    exact co.dvd_of_dvd_mul_left h3
  · intro h
    have h2 : Nat.gcd m x * m' ∣ Nat.gcd m x * (c * y) := Nat.mul_dvd_mul_left _ (Nat.dvd_trans h (Nat.dvd_mul_left y c))
    rw [← hm', ← Nat.mul_assoc, ← hc] at h2
    exact h2
/-- equal rests -/
theorem mod_eq_iff {x y m : Nat} (h : x ≤ y) : x % m = y % m ↔ m ∣ y - x := by
  constructor
  · intro e
    exact Nat.dvd_of_mod_eq_zero (Nat.sub_mod_eq_zero_of_mod_eq e.symm)
  · intro e
    obtain ⟨c, hc⟩ := e
    have h2 : y = x + m * c := by omega
    rw [h2, Nat.add_mul_mod_self_left]
theorem rs_eq_iff {b m r j n : Nat} (hb : 0 < b) (hm : 0 < m) (hr : Nat.Coprime r m) : rs b m r j = rs b m r (j + n) ↔ lft b m j ∣ b ^ n - 1 := by
  unfold rs lft
  have h1 : r * b ^ j ≤ r * b ^ (j + n) := Nat.mul_le_mul_left _ (Nat.pow_le_pow_right hb (by omega))
  rw [mod_eq_iff h1, ← dvd_left hm]
  have e : r * b ^ (j + n) - r * b ^ j = r * (b ^ j * (b ^ n - 1)) := by
    rw [Nat.pow_add, ← Nat.mul_sub, Nat.mul_sub (b ^ j), Nat.mul_one]
  rw [e]
  constructor
  · intro h
    exact hr.symm.dvd_of_dvd_mul_left h
  · intro h
    exact Nat.dvd_trans h (Nat.dvd_mul_left _ _)
theorem rs_zero_iff {b m r k : Nat} (hm : 0 < m) (hr : Nat.Coprime r m) : rs b m r k = 0 ↔ lft b m k = 1 := by
  unfold rs lft
  have hg : 0 < Nat.gcd m (b ^ k) := Nat.gcd_pos_of_pos_left _ hm
  constructor
  · intro h
    have h1 : m ∣ r * b ^ k := Nat.dvd_of_mod_eq_zero h
    have h2 : m ∣ b ^ k := hr.symm.dvd_of_dvd_mul_left h1
    rw [Nat.gcd_eq_left h2, Nat.div_self hm]
  · intro h
    have h1 : m = Nat.gcd m (b ^ k) := by
      have := Nat.div_mul_cancel (Nat.gcd_dvd_left m (b ^ k))
      rw [h, Nat.one_mul] at this
      exact this.symm
    have h2 : m ∣ b ^ k := by
      rw [h1]
      exact Nat.gcd_dvd_right _ _
    exact Nat.mod_eq_zero_of_dvd (Nat.dvd_trans h2 (Nat.dvd_mul_left _ _))
/-- the lengths of the bottom m -/
structure LenAt (b m s l : Nat) : Prop where
  more : ∀ j, j < s → 1 < Nat.gcd (lft b m j) b
  done : Nat.gcd (lft b m s) b = 1
  one : lft b m s = 1 → l = 0
  ring : lft b m s ≠ 1 → 0 < l ∧ b ^ l % lft b m s = 1 ∧ ∀ n, 0 < n → n < l → b ^ n % lft b m s ≠ 1
theorem pow_one_iff {b q n : Nat} (hb : 0 < b) (hq : 1 < q) : b ^ n % q = 1 ↔ q ∣ b ^ n - 1 := by
  have h1 : 1 ≤ b ^ n := Nat.pow_pos hb
  rw [← mod_eq_iff h1, Nat.mod_eq_of_lt hq]
  exact eq_comm
theorem co_of_pow {b q n : Nat} (hb : 0 < b) (hn : 0 < n) (h : q ∣ b ^ n - 1) : Nat.gcd q b = 1 := by
  have h1 : Nat.gcd q b ∣ b ^ n - 1 := Nat.dvd_trans (Nat.gcd_dvd_left _ _) h
  have h2 : Nat.gcd q b ∣ b ^ n := Nat.dvd_trans (Nat.gcd_dvd_right q b) (by obtain ⟨k, rfl⟩ : ∃ k, n = k + 1 := ⟨n - 1, by omega⟩; rw [Nat.pow_succ]; exact Nat.dvd_mul_left b (b ^ k))
  have h3 : 1 ≤ b ^ n := Nat.pow_pos hb
  have h4 : Nat.gcd q b ∣ b ^ n - (b ^ n - 1) := Nat.dvd_sub h2 h1
  rw [show b ^ n - (b ^ n - 1) = 1 by omega] at h4
  exact Nat.dvd_one.mp h4
theorem LenAt.div {b m r s l : Nat} (h : LenAt b m s l) (hb : 0 < b) (hm : 0 < m) (hr : Nat.Coprime r m) : DivAt b m r s l := by
  have hst := lft_stay hm h.done
  have hz : ∀ k, k < s + l → lft b m k ≠ 1 := fun k hk e => by
    by_cases hks : k < s
    · have := h.more k hks
      rw [e, Nat.gcd_one_left] at this
      omega
    · have e2 := hst (k - s)
      rw [show s + (k - s) = k by omega, e] at e2
      have := h.one e2.symm
      omega
  refine ⟨fun k hk e => hz k hk ((rs_zero_iff hm hr).mp e), fun j k hjk hk e => ?_, fun hl => ?_, fun hl => ?_⟩
  · rw [show k = j + (k - j) by omega, rs_eq_iff hb hm hr] at e
    have hco := co_of_pow hb (show 0 < k - j by omega) e
    by_cases hjs : j < s
    · have := h.more j hjs
      omega
    · have e2 := hst (j - s)
      rw [show s + (j - s) = j by omega] at e2
      rw [e2] at e
      have h1 : lft b m s ≠ 1 := fun z => by
        have := h.one z
        omega
      have hq : 1 < lft b m s := by
        have := lft_pos (b := b) (k := s) hm
        omega
      exact (h.ring h1).2.2 (k - j) (by omega) (by omega) ((pow_one_iff hb hq).mpr e)
  · refine (rs_zero_iff hm hr).mpr ?_
    by_cases h1 : lft b m s = 1
    · exact h1
    · have := (h.ring h1).1
      omega
  · have h1 : lft b m s ≠ 1 := fun z => by
      have := h.one z
      omega
    have hq : 1 < lft b m s := by
      have := lft_pos (b := b) (k := s) hm
      omega
    exact ((rs_eq_iff hb hm hr).mpr ((pow_one_iff hb hq).mp (h.ring h1).2.1)).symm
theorem lft_dec {b m k : Nat} (hm : 0 < m) (h : 1 < Nat.gcd (lft b m k) b) : lft b m (k + 1) < lft b m k := by
  rw [lft_succ hm]
  exact Nat.div_lt_self (lft_pos hm) h
theorem done_exists {b m : Nat} (hm : 0 < m) : ∃ s, s ≤ m ∧ Nat.gcd (lft b m s) b = 1 ∧ ∀ j, j < s → 1 < Nat.gcd (lft b m j) b := by
  have key : ∀ k, (∀ j, j < k → 1 < Nat.gcd (lft b m j) b) → lft b m k + k ≤ m := fun k => by
    induction k with
    | zero => intro _; rw [lft_zero]; omega
    | succ k ih =>
      intro h
      have h1 := ih fun j hj => h j (by omega)
      have h2 := lft_dec hm (h k (by omega))
      omega
  have ge1 : ∀ j, 1 ≤ Nat.gcd (lft b m j) b := fun j => Nat.gcd_pos_of_pos_left _ (lft_pos hm)
  by_cases q : ∃ j, j ≤ m ∧ Nat.gcd (lft b m j) b = 1
  · obtain ⟨j, hj, e⟩ := q
    obtain ⟨k, hk, pk, lk⟩ := exists_least (fun j => Nat.gcd (lft b m j) b = 1) j e
    exact ⟨k, by omega, pk, fun j hj => by have := lk j hj; have := ge1 j; omega⟩
  · have h1 := key (m + 1) fun j hj => by
      have := ge1 j
      have : Nat.gcd (lft b m j) b ≠ 1 := fun e => q ⟨j, by omega, e⟩
      omega
    have := lft_pos (b := b) (k := m + 1) hm
    omega
theorem ord_exists {b q : Nat} (hb : 0 < b) (hq : 1 < q) (hc : Nat.gcd q b = 1) : ∃ l, 0 < l ∧ l ≤ q ∧ b ^ l % q = 1 ∧ ∀ n, 0 < n → n < l → b ^ n % q ≠ 1 := by
  have hq0 : 0 < q := by omega
  have hr : Nat.Coprime 1 q := Nat.coprime_one_left q
  obtain ⟨n, hn, h⟩ := stp_exists (b := b) (r := 1) hq0
  have hlz : lft b q 0 = q := lft_zero b q
  have hst : ∀ i, lft b q i = q := fun i => by
    have := lft_stay (b := b) (s := 0) hq0 (by rw [hlz]; exact hc) i
    rw [Nat.zero_add, hlz] at this
    exact this
  have ex : ∃ k, k ≤ q ∧ 0 < k ∧ b ^ k % q = 1 := by
    rcases h with h | ⟨j, hj, e⟩
    · have := (rs_zero_iff hq0 hr).mp h
      rw [hst] at this
      omega
    · rw [show n = j + (n - j) by omega, rs_eq_iff hb hq0 hr, hst] at e
      exact ⟨n - j, by omega, by omega, (pow_one_iff hb hq).mpr e⟩
  obtain ⟨k, hk, h0, h1⟩ := ex
  obtain ⟨l, hl, ⟨pl0, pl1⟩, ll⟩ := exists_least (fun k => 0 < k ∧ b ^ k % q = 1) k ⟨h0, h1⟩
  exact ⟨l, pl0, by omega, pl1, fun n hn0 hnl e => ll n hnl ⟨hn0, e⟩⟩
theorem lenAt_exists {b m : Nat} (hb : 0 < b) (hm : 0 < m) : ∃ s l, s ≤ m ∧ l ≤ m ∧ LenAt b m s l := by
  obtain ⟨s, hs, hd, hmore⟩ := done_exists (b := b) hm
  by_cases h1 : lft b m s = 1
  · exact ⟨s, 0, hs, by omega, ⟨hmore, hd, fun _ => rfl, fun z => absurd h1 z⟩⟩
  · have hq : 1 < lft b m s := by
      have := lft_pos (b := b) (k := s) hm
      omega
    obtain ⟨l, l0, ll, l1, l2⟩ := ord_exists hb hq hd
    have := lft_le b m s
    exact ⟨s, l, hs, by omega, ⟨hmore, hd, fun z => absurd z h1, fun _ => ⟨l0, l1, l2⟩⟩⟩
theorem co_one (m : Nat) (hm : 0 < m) : Nat.Coprime (1 % m) m := by
  by_cases h : m = 1
  · rw [h]; rfl
  · rw [Nat.mod_eq_of_lt (by omega)]
    exact Nat.coprime_one_left m
end Rf

set_option maxRecDepth 100000
set_option maxHeartbeats 4000000
namespace Rf
open PySem PySem.Spec PyProof.Rows L2
/-! ### comprehensions of values that are read off -/
theorem take_snoc {α : Type} {l : List α} {i : Nat} {x : α} (h : l[i]? = some x) : l.take (i + 1) = l.take i ++ [x] := by
  rw [List.take_add_one, h]; rfl
/-- over a list -/
theorem lc_vals {K : PySem.W.Frag} {a D : Addr} {xs : List V} {te : TE} {vs : List Nat} {σ : L2.St} {i : Nat} {H : Hp} {Qd : Hp → Prop} (g : V → V) (hS : SqL K H a xs) (nD : H D = none) (hlen : xs.length < 1000000)
    (hw : ∀ x, wipe ((wipe σ vs).set i (some x)) vs = wipe σ vs)
    (he : ∀ x, x ∈ xs → ∀ H' (Q : VK), Same H H' → (∀ H2, Same H' H2 → Q (g x) H2) → te ((wipe σ vs).set i (some x)) H' Q) (hd : ∀ H', Same H H' → H' D = some (.lst (xs.map g)) → Qd H') :
    ∃ W : Nat → Nat → Hp → Prop, (∃ m, W 0 m (upd H D (.lst []))) ∧ ∀ j m H, W j m H →
      ((Itl K a).stop j H ∧ Qd H) ∨ ((Itl K a).go j H ∧ ∃ Nx : Hp → Prop, (∀ H', Nx H' → ∃ m', m' < m ∧ W (j + 1) m' H') ∧ ∀ x H', (Itl K a).yld j H x H' → gName i x (wipe σ vs) H' fun σ2 H2 => wipe σ2 vs = wipe σ vs ∧ tYes σ2 H2 fun b H3 =>
        if b = true then te σ2 H3 fun y H4 => ∃ acc, H4 D = some (.lst acc) ∧ acc.length < sizeLine ∧ Nx (upd H4 D (.lst (acc ++ [y]))) else Nx H3) := by
  refine lc_list (K := K) (a := a) (xs := xs) (fun j H' => Same H H' ∧ H' D = some (.lst ((xs.take j).map g))) ⟨same_upd nD, upd_same⟩ (fun j H' _ ⟨s, _⟩ => s.seq hS) (fun j x H' hx ⟨s, hD⟩ => ?_) (fun H' ⟨s, hD⟩ => ?_)
  · refine ⟨hw x, ?_⟩
    show te ((wipe σ vs).set i (some x)) H' _
    refine he x (List.mem_of_getElem? hx) H' _ s fun H2 s2 => ⟨_, s2 _ _ hD, ?_, same_new (s.trans s2) nD, ?_⟩
    · rw [List.length_map, List.length_take]
      exact sz100lt (by omega)
    · rw [upd_same, take_snoc hx, List.map_append]
      rfl
  · rw [List.take_length] at hD
    exact hd H' s hD
/-- over range(n) -/
theorem lc_rng {D : Addr} {n : Nat} {te : TE} {vs : List Nat} {σ : L2.St} {i : Nat} {H : Hp} {Qd : Hp → Prop} (g : Nat → V) (nD : H D = none) (hlen : n < 1000000)
    (hw : ∀ x, wipe ((wipe σ vs).set i (some x)) vs = wipe σ vs)
    (he : ∀ k, k < n → ∀ H' (Q : VK), Same H H' → (∀ H2, Same H' H2 → Q (g k) H2) → te ((wipe σ vs).set i (some (.int (k : Int)))) H' Q) (hd : ∀ H', Same H H' → H' D = some (.lst ((List.range n).map g)) → Qd H') :
    ∃ W : Nat → Nat → Hp → Prop, (∃ m, W 0 m (upd H D (.lst []))) ∧ ∀ j m H, W j m H →
      ((Itr 0 n).stop j H ∧ Qd H) ∨ ((Itr 0 n).go j H ∧ ∃ Nx : Hp → Prop, (∀ H', Nx H' → ∃ m', m' < m ∧ W (j + 1) m' H') ∧ ∀ x H', (Itr 0 n).yld j H x H' → gName i x (wipe σ vs) H' fun σ2 H2 => wipe σ2 vs = wipe σ vs ∧ tYes σ2 H2 fun b H3 =>
        if b = true then te σ2 H3 fun y H4 => ∃ acc, H4 D = some (.lst acc) ∧ acc.length < sizeLine ∧ Nx (upd H4 D (.lst (acc ++ [y]))) else Nx H3) := by
  refine lc_range (lo := 0) (n := n) (fun j H' => Same H H' ∧ H' D = some (.lst ((List.range j).map g))) ⟨same_upd nD, upd_same⟩ (fun j H' hj ⟨s, hD⟩ => ?_) (fun H' ⟨s, hD⟩ => hd H' s hD)
  rw [Int.zero_add]
  refine ⟨hw _, ?_⟩
  show te ((wipe σ vs).set i (some (.int (j : Int)))) H' _
  refine he j hj H' _ s fun H2 s2 => ⟨_, s2 _ _ hD, ?_, same_new (s.trans s2) nD, ?_⟩
  · rw [List.length_map, List.length_range]
    exact sz100lt (by omega)
  · rw [upd_same, List.range_succ, List.map_append]
    rfl
/-- over zip of two lists of ints, the two names in the slots i and j -/
theorem lc_zips {K : PySem.W.Frag} {a b D : Addr} {xs ys : List Int} {te : TE} {vs : List Nat} {σ : L2.St} {i j : Nat} {H : Hp} {Qd : Hp → Prop} (g : Int → Int → V) (hS : SqL K H a (xs.map V.int)) (hT : SqL K H b (ys.map V.int)) (hl : xs.length = ys.length) (nD : H D = none) (hlen : xs.length < 1000000)
    (hw : ∀ x y, wipe (((wipe σ vs).set i (some x)).set j (some y)) vs = wipe σ vs)
    (he : ∀ x y, ∀ H' (Q : VK), Q (g x y) H' → te (((wipe σ vs).set i (some (.int x))).set j (some (.int y))) H' Q) (hd : ∀ H', Same H H' → H' D = some (.lst (List.zipWith g xs ys)) → Qd H') :
    ∃ W : Nat → Nat → Hp → Prop, (∃ m, W 0 m (upd H D (.lst []))) ∧ ∀ n m H, W n m H →
      ((Itz K a b).stop n H ∧ Qd H) ∨ ((Itz K a b).go n H ∧ ∃ Nx : Hp → Prop, (∀ H', Nx H' → ∃ m', m' < m ∧ W (n + 1) m' H') ∧ ∀ x H', (Itz K a b).yld n H x H' → gTup K 2 (gCons (gName i) (gCons (gName j) gNil)) x (wipe σ vs) H' fun σ2 H2 => wipe σ2 vs = wipe σ vs ∧ tYes σ2 H2 fun b H3 =>
        if b = true then te σ2 H3 fun y H4 => ∃ acc, H4 D = some (.lst acc) ∧ acc.length < sizeLine ∧ Nx (upd H4 D (.lst (acc ++ [y]))) else Nx H3) := by
  have W := walk_zip (K := K) (a := a) (b := b) (xs := xs.map V.int) (ys := ys.map V.int) (n := xs.length) (by rw [List.length_map, List.length_map, ← hl, Nat.min_self])
  refine lc_it W (fun n H' => Same H H' ∧ H' D = some (.lst (List.zipWith g (xs.take n) (ys.take n)))) ⟨same_upd nD, upd_same⟩ (fun n H' _ ⟨s, _⟩ => ⟨s.seq hS, s.seq hT⟩) (fun n v H1 H' hn ⟨s, hD⟩ hy => ?_) (fun H' ⟨s, hD⟩ => ?_)
  · obtain ⟨T, x, y, rfl, nT, rfl, hx, hy⟩ := hy
    dsimp only at hx hy
    rw [List.getElem?_map] at hx hy
    have hx' : xs[n]? = some xs[n] := List.getElem?_eq_getElem hn
    have hn2 : n < ys.length := by omega
    have hy' : ys[n]? = some ys[n] := List.getElem?_eq_getElem hn2
    rw [hx'] at hx
    rw [hy'] at hy
    have ex : V.int xs[n] = x := Option.some.inj hx
    have ey : V.int ys[n] = y := Option.some.inj hy
    subst ex ey
    refine ⟨T, _, rfl, sqt upd_same, rfl, _, _, rfl, _, _, rfl, rfl, hw _ _, ?_⟩
    show te (((wipe σ vs).set i (some (.int xs[n]))).set j (some (.int ys[n]))) _ _
    have nTD : D ≠ T := ne_of_none hD nT
    refine he _ _ _ _ ⟨_, (upd_ne nTD).trans hD, ?_, same_new (same_new s (s.free nT)) nD, ?_⟩
    · rw [List.length_zipWith, List.length_take, List.length_take]
      exact sz100lt (by omega)
    · rw [upd_same, take_snoc hx', take_snoc hy', List.zipWith_append (by rw [List.length_take, List.length_take]; omega)]
      rfl
  · rw [List.take_length, hl, List.take_length] at hD
    exact hd H' s hD
theorem mem_ints {ns : List Int} {x : V} (h : x ∈ ns.map V.int) : ∃ z, z ∈ ns ∧ x = .int z := by
  obtain ⟨z, hz, e⟩ := List.mem_map.mp h
  exact ⟨z, hz, e.symm⟩
theorem ixN_of {n j : Nat} {z : Int} (e : z = (j : Int)) (h : j < n) : ixN n z = some j := by
  unfold ixN
  rw [e, if_pos (by omega), if_pos (by omega), Int.toNat_natCast]
theorem map_setI (ns : List Int) (j : Nat) (v : Int) : (ns.map V.int).set j (.int v) = (ns.set j v).map V.int := (List.map_set).symm
theorem mem_set {ns : List Int} {j : Nat} {v x : Int} (h : x ∈ ns.set j v) : x = v ∨ x ∈ ns := by
  rcases List.mem_or_eq_of_mem_set h with h | h
  · exact .inr h
  · exact .inl h
/-- figures of a base -/
def Figs (b : Int) (ns : List Int) : Prop := ∀ x, x ∈ ns → 0 ≤ x ∧ x < b
theorem figs_nil {b : Int} : Figs b [] := fun x hx => by cases hx
theorem figs_take {b : Int} {ns : List Int} (h : Figs b ns) (k : Nat) : Figs b (ns.take k) := fun x hx => h x (List.mem_of_mem_take hx)
theorem figs_drop {b : Int} {ns : List Int} (h : Figs b ns) (k : Nat) : Figs b (ns.drop k) := fun x hx => h x (List.mem_of_mem_drop hx)
theorem figs_app {b : Int} {ns ms : List Int} (h : Figs b ns) (h2 : Figs b ms) : Figs b (ns ++ ms) := fun x hx => (List.mem_append.mp hx).elim (h x) (h2 x)
theorem figs_comp {b : Int} {ns : List Int} (h : Figs b ns) : Figs b (ns.map fun x => b - 1 - x) := fun x hx => by
  obtain ⟨z, hz, rfl⟩ := List.mem_map.mp hx
  have := h z hz
  omega
theorem figs_set {b : Int} {ns : List Int} {j : Nat} {v : Int} (h : Figs b ns) (hv : 0 ≤ v ∧ v < b) : Figs b (ns.set j v) := fun x hx => by
  rcases mem_set hx with e | e
  · rw [e]; exact hv
  · exact h x e
theorem figs_const {b v : Int} {ns : List Int} (hv : 0 ≤ v ∧ v < b) : Figs b (ns.map fun _ => v) := fun x hx => by
  obtain ⟨z, _, rfl⟩ := List.mem_map.mp hx
  exact hv
theorem figs_one {b v : Int} (hv : 0 ≤ v ∧ v < b) : Figs b [v] := fun x hx => by rw [List.mem_singleton.mp hx]; exact hv
theorem cut_lit (ns : List Int) (k : Nat) (z : Int) (e : z = (k : Int)) : cutV (ns.map V.int) none (some z) = (ns.take k).map V.int := by rw [e, cut_take, take_map]
theorem cut_litd (ns : List Int) (k : Nat) (z : Int) (e : z = (k : Int)) : cutV (ns.map V.int) (some z) none = (ns.drop k).map V.int := by rw [e, cut_drop, drop_map]
/-- a value's int -/
def iof : V → Int
  | .int z => z
  | _ => 0
theorem map_ints (f : Int → Int) (ns : List Int) : (ns.map V.int).map (fun v => V.int (f (iof v))) = (ns.map f).map V.int := by
  rw [List.map_map, List.map_map]
  rfl
theorem map_same (ns : List Int) : (ns.map V.int).map (fun v => v) = ns.map V.int := List.map_id' _
theorem rep_len {α : Type} (l : List α) : ∀ n : Nat, ((List.replicate n l).flatten).length = n * l.length
  | 0 => by rw [Nat.zero_mul]; rfl
  | n + 1 => by
    rw [List.replicate_succ, List.flatten_cons, List.length_append, rep_len l n, Nat.succ_mul, Nat.add_comm]
theorem figs_rep {b : Int} {ns : List Int} (h : Figs b ns) (n : Nat) : Figs b (List.replicate n ns).flatten := fun x hx => by
  obtain ⟨l, hl, hx⟩ := List.mem_flatten.mp hx
  rw [(List.mem_replicate.mp hl).2] at hx
  exact h x hx
theorem rep_map (ns : List Int) (n : Nat) : (List.replicate n (ns.map V.int)).flatten = ((List.replicate n ns).flatten).map V.int := by
  rw [List.map_flatten, List.map_replicate]
/-- a writing that may be handed in -/
structure WrOk (b : Int) (x : Wr) : Prop where
  w0 : 0 ≤ x.w
  w1 : x.w ≤ 1000000000000
  la : x.a.length ≤ 4000
  lr : x.r.length ≤ 4000
  fa : Figs b x.a
  fr : Figs b x.r
/-! ### pairs of ints as data -/
def dP (x y : Int) : PyData := .tuple [.int x, .int y]
theorem eqv_dP (x y x' y' : Int) : PyData.eqv (dP x y) (dP x' y') = decide (x = x' ∧ y = y') := by
  unfold dP
  rw [PyData.eqv]
  show ((x == x') && ((y == y') && true)) = _
  by_cases h1 : x = x' <;> by_cases h2 : y = y' <;> simp [h1, h2]
theorem shaped_dP (x y : Int) : SeqAt.shaped (dP x y) = true := rfl
theorem dp_dP {K : PySem.W.Frag} {H : Hp} {p : Addr} {x y : Int} (h : H p = some (.tup [.int x, .int y])) : Dp K H (.ref p) (dP x y) := .tup (sqt h) (.cons (.int x) (.cons (.int y) .nil))
theorem tyx_tup {K : PySem.W.Frag} {H : Hp} {p : Addr} {xs : List V} (h : H p = some (.tup xs)) : TyX K H (.ref p) (.type "tuple") := .base (.tup h)
theorem tyx_lst {K : PySem.W.Frag} {H : Hp} {p : Addr} {xs : List V} (h : H p = some (.lst xs)) : TyX K H (.ref p) (.type "list") := .base (.lst h)
end Rf

set_option maxHeartbeats 1000000
namespace Rf
/-! ### rings of primes -/
/-- what trial division asks -/
def Pr (n : Nat) : Prop := 2 ≤ n ∧ ∀ d, 2 ≤ d → d * d ≤ n → n % d ≠ 0
theorem Pr.only {p : Nat} (h : Pr p) {d : Nat} (hd : d ∣ p) : d = 1 ∨ d = p := by
  obtain ⟨e, he⟩ := hd
  have hp := h.1
  by_cases h1 : d = 1
  · exact .inl h1
  by_cases h2 : e = 1
  · right; rw [he, h2, Nat.mul_one]
  exfalso
  have hd0 : d ≠ 0 := fun z => by rw [z, Nat.zero_mul] at he; omega
  have he0 : e ≠ 0 := fun z => by rw [z, Nat.mul_zero] at he; omega
  by_cases hle : d ≤ e
  · exact h.2 d (by omega) (by rw [he]; exact Nat.mul_le_mul_left _ hle) (by rw [he]; exact Nat.mul_mod_right _ _)
  · exact h.2 e (by omega) (by rw [he]; exact Nat.mul_le_mul_right _ (by omega)) (by rw [he]; exact Nat.mul_mod_left _ _)
theorem Pr.co {p x : Nat} (h : Pr p) (hx : x % p ≠ 0) : Nat.gcd p x = 1 := by
  rcases h.only (Nat.gcd_dvd_left p x) with e | e
  · exact e
  · exfalso
    have : p ∣ x := by rw [← e]; exact Nat.gcd_dvd_right p x
    exact hx (Nat.mod_eq_zero_of_dvd this)
def prB (p : Nat) : Bool := decide (2 ≤ p) && (List.range 45).all fun d => decide (d < 2) || decide (p < d * d) || (p % d != 0)
def fermatB : Bool := (List.range 1988).all fun p => !prB p || (List.range 37).all fun b => (b % p == 0) || (b ^ (p - 1) % p == 1)
theorem fermatB_true : fermatB = true := by decide +kernel
theorem pr_prB {p : Nat} (h : Pr p) : prB p = true := by
  unfold prB
  rw [Bool.and_eq_true]
  refine ⟨decide_eq_true h.1, List.all_eq_true.mpr fun d _ => ?_⟩
  by_cases h1 : d < 2
  · rw [decide_eq_true h1]; rfl
  by_cases h2 : p < d * d
  · rw [decide_eq_true h2, Bool.or_true]; rfl
  · have := h.2 d (by omega) (by omega)
    rw [Bool.or_eq_true]
    exact .inr (by simpa using this)
theorem fermat {b p : Nat} (h : Pr p) (hp : p < 1988) (hb : b < 37) (hbp : b % p ≠ 0) : b ^ (p - 1) % p = 1 := by
  have h1 := List.all_eq_true.mp fermatB_true p (List.mem_range.mpr hp)
  rw [pr_prB h] at h1
  have h2 := List.all_eq_true.mp h1 b (List.mem_range.mpr hb)
  rw [Bool.or_eq_true] at h2
  rcases h2 with q | q
  · exact absurd (by simpa using q) hbp
  · simpa using q
theorem pr_1987 : Pr 1987 := by
  refine ⟨by decide, fun d h1 h2 h3 => ?_⟩
  have hd : d < 45 := by
    rcases Nat.lt_or_ge d 45 with q | q
    · exact q
    · have := Nat.mul_le_mul q q
      omega
  have h4 : (List.range 45).all (fun d => decide (d < 2) || (1987 % d != 0)) = true := by decide +kernel
  have h5 := List.all_eq_true.mp h4 d (List.mem_range.mpr hd)
  rw [decide_eq_false (by omega), Bool.false_or] at h5
  simp at h5
  exact h5 h3
/-- the order goes into every number at which the power is one -/
theorem ord_dvd {b p l n : Nat} (hp : 1 < p) (hl : 0 < l) (h1 : b ^ l % p = 1) (hmin : ∀ k, 0 < k → k < l → b ^ k % p ≠ 1) (hn : b ^ n % p = 1) : n % l = 0 := by
  have e : b ^ n % p = b ^ (n % l) % p := by
    conv => lhs; rw [← Nat.div_add_mod n l]
    rw [Nat.pow_add, Nat.pow_mul, Nat.mul_mod, Nat.pow_mod, h1, Nat.one_pow, Nat.mod_eq_of_lt hp, Nat.one_mul, Nat.mod_mod]
  rcases Nat.eq_zero_or_pos (n % l) with q | q
  · exact q
  · exact absurd (e.symm.trans hn) (hmin _ q (Nat.mod_lt _ hl))
/-- a prime that doesn't go into the base: no figure ahead, and what is known of the ring -/
theorem prime_len {b p s l : Nat} (h : Pr p) (hp : p < 1988) (hb : b < 37) (hb0 : 0 < b) (hbp : b % p ≠ 0) (hL : LenAt b p s l) : s = 0 ∧ 0 < l ∧ (p - 1) % l = 0 ∧ b ^ l % p = 1 ∧ ∀ n, 0 < n → n < l → b ^ n % p ≠ 1 := by
  have hs : s = 0 := by
    rcases Nat.eq_zero_or_pos s with q | q
    · exact q
    · have := hL.more 0 q
      rw [lft_zero, h.co hbp] at this
      omega
  subst hs
  have h2 := h.1
  have hr := hL.ring (by rw [lft_zero]; omega)
  rw [lft_zero] at hr
  exact ⟨rfl, hr.1, ord_dvd (by omega) hr.1 hr.2.1 hr.2.2 (fermat h hp hb hbp), hr.2.1, hr.2.2⟩
/-- a prime that goes into the base: one figure and no ring -/
theorem prime_in {b p s l : Nat} (h : Pr p) (hbp : b % p = 0) (hL : LenAt b p s l) : s = 1 ∧ l = 0 := by
  have h2 := h.1
  have hg : Nat.gcd p b = p := Nat.gcd_eq_left (Nat.dvd_of_mod_eq_zero hbp)
  have e1 : lft b p 1 = 1 := by
    rw [show (1 : Nat) = 0 + 1 from rfl, lft_succ (by omega), lft_zero, hg, Nat.div_self (by omega)]
  have hs0 : s ≠ 0 := fun z => by
    have := hL.done
    rw [z, lft_zero, hg] at this
    omega
  have hs1 : s = 1 := by
    by_cases q : 1 < s
    · have := hL.more 1 q
      rw [e1, Nat.gcd_one_left] at this
      omega
    · omega
  subst hs1
  exact ⟨rfl, hL.one e1⟩
theorem half_neg {b p l : Nat} (h : Pr p) (hl : 0 < l) (he : l % 2 = 0) (h1 : b ^ l % p = 1) (hmin : ∀ n, 0 < n → n < l → b ^ n % p ≠ 1) : b ^ (l / 2) % p = p - 1 := by
  have h2 := h.1
  have hne := hmin (l / 2) (by omega) (by omega)
  have hsq : (b ^ (l / 2) % p) * (b ^ (l / 2) % p) % p = 1 := by
    rw [← Nat.mul_mod, ← Nat.pow_add, show l / 2 + l / 2 = l by omega, h1]
  have hlt : b ^ (l / 2) % p < p := Nat.mod_lt _ (by omega)
  generalize b ^ (l / 2) % p = x at *
  have hx0 : x ≠ 0 := fun z => by rw [z] at hsq; simp at hsq
  obtain ⟨y, rfl⟩ : ∃ y, x = y + 1 := ⟨x - 1, by omega⟩
  have hy0 : y ≠ 0 := fun z => hne (by omega)
  have hd : p ∣ y * (y + 2) := by
    have e : (y + 1) * (y + 1) = y * (y + 2) + 1 := by simp only [Nat.add_mul, Nat.mul_add]; omega
    rw [e] at hsq
    have h3 := Nat.div_add_mod (y * (y + 2) + 1) p
    rw [hsq] at h3
    exact ⟨(y * (y + 2) + 1) / p, by omega⟩
  have hc : Nat.Coprime p y := h.co (by rw [Nat.mod_eq_of_lt (by omega)]; exact hy0)
  have hd2 : p ∣ y + 2 := hc.dvd_of_dvd_mul_left hd
  have := Nat.le_of_dvd (by omega) hd2
  omega
/-- two figures half a ring apart come to the greatest one -/
theorem half_figs {b p r l k : Nat} (h : Pr p) (hb : 0 < b) (hbp : b % p ≠ 0) (hr : r % p ≠ 0) (hl : 0 < l) (he : l % 2 = 0) (h1 : b ^ l % p = 1) (hmin : ∀ n, 0 < n → n < l → b ^ n % p ≠ 1) : dg b p r k + dg b p r (k + l / 2) = b - 1 := by
  have h2 := h.1
  have hh := half_neg h hl he h1 hmin
  have co : ∀ n, rs b p r n ≠ 0 := fun n z => by
    unfold rs at z
    have hd := Nat.dvd_of_mod_eq_zero z
    have c1 : Nat.Coprime p r := h.co hr
    have c2 : Nat.Coprime p (b ^ n) := Nat.Coprime.pow_right _ (h.co hbp)
    have h3 : p ∣ b ^ n := c1.dvd_of_dvd_mul_left hd
    have h4 : p ∣ 1 := c2.dvd_of_dvd_mul_left (by rw [Nat.mul_one]; exact h3)
    have := Nat.le_of_dvd (by decide) h4
    omega
  have hk := co k
  have hk1 := co (k + 1)
  have hlt : rs b p r k < p := rs_lt (by omega)
  have e1 : rs b p r (k + l / 2) = p - rs b p r k := by
    rw [rs_add]
    generalize rs b p r k = x at *
    unfold rs
    rw [Nat.mul_mod, hh, Nat.mod_eq_of_lt hlt]
    have e : x * (p - 1) = p * (x - 1) + (p - x) := by
      obtain ⟨y, rfl⟩ : ∃ y, x = y + 1 := ⟨x - 1, by omega⟩
      obtain ⟨z, rfl⟩ : ∃ z, p = z + 1 := ⟨p - 1, by omega⟩
      rw [Nat.add_sub_cancel, Nat.add_sub_cancel, Nat.add_mul, Nat.add_mul, Nat.mul_comm z y]
      omega
    rw [e, Nat.mul_add_mod, Nat.mod_eq_of_lt (by omega)]
  rw [rs_succ] at hk1
  unfold dg
  rw [e1]
  generalize rs b p r k = x at *
  have h3 := Nat.div_add_mod (x * b) p
  have h4 := Nat.mod_lt (x * b) (show 0 < p by omega)
  have hq : x * b / p < b := by
    rw [Nat.div_lt_iff_lt_mul (by omega), Nat.mul_comm b]
    exact Nat.mul_lt_mul_of_pos_right hlt hb
  generalize x * b / p = q at *
  generalize x * b % p = e at *
  have e5 : (p - x) * b = (p - e) + p * (b - 1 - q) := by
    have q1 : (p - x) * b = p * b - x * b := Nat.sub_mul ..
    have q2 : p * b = p * q + p * 1 + p * (b - 1 - q) := by rw [← Nat.mul_add, ← Nat.mul_add]; congr 1; omega
    rw [q1, q2, ← h3]
    omega
  rw [e5, Nat.add_mul_div_left _ _ (by omega), Nat.div_eq_of_lt (by omega)]
  omega
theorem dgs_ok {b m p i n : Nat} (hb : 0 < b) (hm : 0 < m) : ∀ x, x ∈ dgs b m p i n → 0 ≤ x ∧ x < (b : Int) := fun x hx => by
  unfold dgs at hx
  obtain ⟨k, _, rfl⟩ := List.mem_map.mp hx
  refine ⟨Int.natCast_nonneg _, ?_⟩
  have h : dg b m p (i + k) < b := by
    unfold dg
    rw [Nat.div_lt_iff_lt_mul hm, Nat.mul_comm b]
    exact Nat.mul_lt_mul_of_pos_right (rs_lt hm) hb
  omega
end Rf

namespace Rf
open PySem PySem.Spec PyProof.Rows L2
open C8 (Cal pe_c pe_gc)
local macro_rules | `(tactic| walk_at "side") => `(tactic| first
  | ((with_reducible show IntMulOk _ _); first | assumption | exact (show ∀ i : Int, IntMulOk i _ from by assumption) _ | (refine mulB_right ?_ ?_ <;> omega) | (refine mulB_left ?_ ?_ <;> omega))
  | ((with_reducible show CDivP _ _); first | assumption | exact (show ∀ i : Int, CDivP i _ from by assumption) _ | (refine cdivp_small ?_ ?_ <;> omega))
  | ((with_reducible show (_ : Int) < _); first | assumption | omega | decide)
  | ((with_reducible show scal _ _ = true); rfl)
  | ((with_reducible show _ ≤ sizeLine); first | exact sz100 (Nat.le_of_ble_eq_true rfl) | exact sz100 (by omega))
  | ((with_reducible show CPow _ _); dsimp only [CPow]; decide))
local macro_rules | `(tactic| walk_at "sq") => `(tactic| first | assumption | exact sql (by assumption) | exact sqt (by assumption) | exact sqt upd_same | exact sql upd_same)
local macro_rules | `(tactic| walk_at "call") => `(tactic| fail)
local macro_rules | `(tactic| walk_at "st1") => `(tactic| first
  | refine ⟨_, rfl, ?_⟩
  | refine ⟨_, _, rfl, rfl, ?_⟩
  | refine And.intro (by walk_at "side") ?_
  | refine ⟨_, _, rfl, .inl (by walk_at "sq"), ?_⟩
  | refine ⟨_, _, rfl, .inr (by walk_at "sq"), ?_⟩
  | refine And.intro rfl ?_
  | refine ⟨_, _, _, _, rfl, rfl, (by walk_at "sq"), rfl, ?_⟩
  | refine ⟨_, _, rfl, (by walk_at "sq"), rfl, ?_⟩
  | refine ⟨_, _, _, _, _, rfl, .ty _, (by first | exact tyx_tup (by assumption) | exact tyx_lst (by assumption)), (by first | exact kit_tup | exact kit_lst), ?_⟩
  | refine ⟨_, _, rfl, ?_⟩
  | walk_at "call")
local macro_rules | `(tactic| walk_at "st") => `(tactic| repeat walk_at "st1")
def topS (i : Nat) : Stmt := PySem.Challenge.pw_ringfigures_k11_whole_rings_of_primes_fo.main.body.getD i (.Pass ⟨0, 0, 0, 0⟩)
/-- what the module's names hold -/
structure Md (K : PySem.W.Frag) (mg : Str → Option Value) : Prop where
  m_len : mg "len" = none
  m_all : mg "all" = none
  m_zip : mg "zip" = none
  m_range : mg "range" = none
  m_list : mg "list" = none
  g_GREATEST : ∃ u, mg "GREATEST" = some u ∧ RelV (.int 1000000000000) u
  g_MOST_BOTTOM : ∃ u, mg "MOST_BOTTOM" = some u ∧ RelV (.int 2000) u
  g_MOST_FIGURES : ∃ u, mg "MOST_FIGURES" = some u ∧ RelV (.int 4000) u
abbrev s_askedbase : Stmt := topS 9
theorem sc_askedbase : FnScope ["base"] ["base"] (defScope s_askedbase) := ⟨rfl, rfl, rfl, by decide +kernel, rfl, by decide +kernel, by decide +kernel⟩
@[irreducible] def sp_askedbase (K : PySem.W.Frag) : Sp := fun vs H Q _ => ∃ (x : Int), vs = [.int x] ∧ 2 ≤ x ∧ x ≤ 36 ∧ Q .non H
theorem go_askedbase {K : PySem.W.Frag} {H : Hp} {x : Int} {Q : VK} {E : XK} (h1 : 2 ≤ x) (h2 : x ≤ 36) (q : Q .non H) : sp_askedbase K [.int x] H Q E := by
  unfold sp_askedbase; exact ⟨x, rfl, h1, h2, q⟩
local macro_rules | `(tactic| walk_at "call") => `(tactic| refine go_askedbase (by omega) (by omega) ?_)
section
variable {P : Program} {w : World} {K : PySem.W.Frag} {mg : Str → Option Value} {base : Heap}
theorem ok_askedbase {f : Addr} {fd : FuncData} (F : Fun K "asked_base" "asked_base" s_askedbase f fd) (M : Md K mg) : FnOk P w K mg base CX0 1 f fd ["base"] (sp_askedbase K) := by
  refine F.ok sc_askedbase (fun vs H Q E h => ?_) (fun cdv A outer s H vs Q E hr h => ?_)
  · unfold sp_askedbase at h; obtain ⟨x, rfl, h1, h2, q⟩ := h
    rfl
  · have hu := hu_of hr
    unfold sp_askedbase at h; obtain ⟨x, rfl, h1, h2, q⟩ := h
    refine ⟨_, (pss_one (ps_if (PW.pt (pw_or (pt_cmpR op_lt (pv 0) pe_int (nomark _)) (pw_or1 (pt_cmpR op_gt (pv 0) pe_int (nomark _)))))
        (pss_one ps_never) pss_nil)), ?_⟩
    walk_at "st"
    refine iteD (fun e => absurd e (by omega)) (fun _ => ?_)
    walk_at "st"
    refine iteD (fun e => absurd e (by omega)) (fun _ => ?_)
    exact q
end
abbrev s_askedfraction : Stmt := topS 10
theorem sc_askedfraction : FnScope ["base", "top", "bottom"] ["base", "top", "bottom"] (defScope s_askedfraction) := ⟨rfl, rfl, rfl, by decide +kernel, rfl, by decide +kernel, by decide +kernel⟩
@[irreducible] def sp_askedfraction (K : PySem.W.Frag) : Sp := fun vs H Q _ => ∃ (x y z : Int), vs = [.int x, .int y, .int z] ∧ 2 ≤ x ∧ x ≤ 36 ∧ 0 ≤ y ∧ y ≤ 1000000000000 ∧ 1 ≤ z ∧ z ≤ 2000 ∧ Q .non H
theorem go_askedfraction {K : PySem.W.Frag} {H : Hp} {x y z : Int} {Q : VK} {E : XK} (h1 : 2 ≤ x) (h2 : x ≤ 36) (h3 : 0 ≤ y) (h4 : y ≤ 1000000000000) (h5 : 1 ≤ z) (h6 : z ≤ 2000) (q : Q .non H) : sp_askedfraction K [.int x, .int y, .int z] H Q E := by
  unfold sp_askedfraction; exact ⟨x, y, z, rfl, h1, h2, h3, h4, h5, h6, q⟩
local macro_rules | `(tactic| walk_at "call") => `(tactic| refine go_askedfraction (by omega) (by omega) (by omega) (by omega) (by omega) (by omega) ?_)
section
variable {P : Program} {w : World} {K : PySem.W.Frag} {mg : Str → Option Value} {base : Heap}
theorem ok_askedfraction {f : Addr} {fd : FuncData} (F : Fun K "asked_fraction" "asked_fraction" s_askedfraction f fd) (M : Md K mg) (c_askedbase : Cal P w K mg base 1 "asked_base" (sp_askedbase K) []) : FnOk P w K mg base CX0 2 f fd ["base", "top", "bottom"] (sp_askedfraction K) := by
  refine F.ok sc_askedfraction (fun vs H Q E h => ?_) (fun cdv A outer s H vs Q E hr h => ?_)
  · unfold sp_askedfraction at h; obtain ⟨x, y, z, rfl, h1, h2, h3, h4, h5, h6, q⟩ := h
    rfl
  · have hu := hu_of hr
    unfold sp_askedfraction at h; obtain ⟨x, y, z, rfl, h1, h2, h3, h4, h5, h6, q⟩ := h
    refine ⟨_, (pss_cons (ps_expr (pe_c c_askedbase hr (by decide) (by rfl) (pa_cons (pv 0) pa_nil)))
      (pss_one (ps_if (PW.pt (pw_or (pt_cmpR op_lt (pv 1) pe_int (nomark _)) (pw_or (pt_cmpR op_gt (pv 1) (pe_gc (by rfl) M.g_GREATEST) (nomark _)) (pw_or (pt_cmpR op_lt (pv 2) pe_int (nomark _)) (pw_or1 (pt_cmpR op_gt (pv 2) (pe_gc (by rfl) M.g_MOST_BOTTOM) (nomark _)))))))
        (pss_one ps_never) pss_nil))), ?_⟩
    walk_at "st"
    refine iteD (fun e => absurd e (by omega)) (fun _ => ?_)
    walk_at "st"
    refine iteD (fun e => absurd e (by omega)) (fun _ => ?_)
    walk_at "st"
    refine iteD (fun e => absurd e (by omega)) (fun _ => ?_)
    walk_at "st"
    refine iteD (fun e => absurd e (by omega)) (fun _ => ?_)
    exact q
end
abbrev s_askedfigures : Stmt := topS 11
theorem sc_askedfigures : FnScope ["base", "figures", "figure"] ["base", "figures"] (defScope s_askedfigures) := ⟨rfl, rfl, rfl, by decide +kernel, rfl, by decide +kernel, by decide +kernel⟩
@[irreducible] def sp_askedfigures (K : PySem.W.Frag) : Sp := fun vs H Q _ => ∃ (b : Int) (a : Addr) (ns : List Int), vs = [.int b, .ref a] ∧ SqL K H a (ns.map V.int) ∧ ns.length ≤ 4000 ∧ Figs b ns ∧ Q .non H
theorem go_askedfigures {K : PySem.W.Frag} {H : Hp} {b : Int} {a : Addr} {ns : List Int} {Q : VK} {E : XK} (hS : SqL K H a (ns.map V.int)) (hl : ns.length ≤ 4000) (hf : Figs b ns) (q : Q .non H) : sp_askedfigures K [.int b, .ref a] H Q E := by
  unfold sp_askedfigures; exact ⟨b, a, ns, rfl, hS, hl, hf, q⟩
section
variable {P : Program} {w : World} {K : PySem.W.Frag} {mg : Str → Option Value} {base : Heap}
theorem ok_askedfigures {f : Addr} {fd : FuncData} (F : Fun K "asked_figures" "asked_figures" s_askedfigures f fd) (M : Md K mg) : FnOk P w K mg base CX0 1 f fd ["base", "figures"] (sp_askedfigures K) := by
  refine F.ok sc_askedfigures (fun vs H Q E h => ?_) (fun cdv A outer s H vs Q E hr h => ?_)
  · unfold sp_askedfigures at h; obtain ⟨b, a, ns, rfl, hS, hl, hf, q⟩ := h
    rfl
  · have hu := hu_of hr
    unfold sp_askedfigures at h; obtain ⟨b, a, ns, rfl, hS, hl, hf, q⟩ := h
    refine ⟨_, (pss_cons (ps_if (pt_cmpR op_gt (pe_callB call_len_seq (by rfl) M.m_len PySem.boot_len (pa_cons (pv 1) pa_nil)) (pe_gc (by rfl) M.g_MOST_FIGURES) (nomark _))
        (pss_one ps_never) pss_nil)
      (pss_one (ps_for PassesOwn.never rfl (pi_list (pv 1)) (pg_name (i := 2) sc_askedfigures.nd rfl (.inl rfl))
        (pss_one (ps_if (PW.pt (pw_or (pt_cmpR op_lt (pv 2) pe_int (nomark _)) (pw_or1 (pt_cmpR op_ge (pv 2) (pv 0) (nomark _)))))
        (pss_one ps_never) pss_nil))))), ?_⟩
    walk_at "st"
    rw [List.length_map]
    refine iteD (fun e => absurd e (by omega)) (fun _ => ?_)
    walk_at "st"
    refine ⟨⟨_, hS⟩, for_list (K := K) (a := a) (xs := ns.map V.int) (fun i σ H' => ∃ y2, σ = [some (.int b), some (.ref a), y2] ∧ H = H') ⟨none, rfl, rfl⟩ (fun i σ H' _ ⟨_, _, e⟩ => e ▸ hS) (fun i x σ H' hi hv => ?_) (fun σ H' hv => ?_)⟩
    · obtain ⟨y2, rfl, rfl⟩ := hv
      obtain ⟨z, hz, rfl⟩ := mem_ints (List.mem_of_getElem? hi)
      have hz2 := hf z hz
      walk_at "st"
      refine iteD (fun e => absurd e (by omega)) (fun _ => ?_)
      walk_at "st"
      refine iteD (fun e => absurd e (by omega)) (fun _ => ?_)
      exact ⟨_, rfl, rfl⟩
    · obtain ⟨y2, rfl, rfl⟩ := hv
      exact q
end
abbrev s_common : Stmt := topS 12
theorem sc_common : FnScope ["one", "other", "rest"] ["one", "other"] (defScope s_common) := ⟨rfl, rfl, rfl, by decide +kernel, rfl, by decide +kernel, by decide +kernel⟩
@[irreducible] def sp_common (K : PySem.W.Frag) : Sp := fun vs H Q _ => ∃ (x y : Int) (a c : Nat), vs = [.int x, .int y] ∧ x = a ∧ y = c ∧ Q (.int ((Nat.gcd a c : Nat) : Int)) H
theorem go_common {K : PySem.W.Frag} {H : Hp} {x y : Int} {Q : VK} {E : XK} (a c : Nat) (hx : x = a) (hy : y = c) (q : Q (.int ((Nat.gcd a c : Nat) : Int)) H) : sp_common K [.int x, .int y] H Q E := by
  unfold sp_common; exact ⟨x, y, a, c, rfl, hx, hy, q⟩
section
variable {P : Program} {w : World} {K : PySem.W.Frag} {mg : Str → Option Value} {base : Heap}
theorem ok_common {f : Addr} {fd : FuncData} (F : Fun K "common" "common" s_common f fd) (M : Md K mg) : FnOk P w K mg base CX0 1 f fd ["one", "other"] (sp_common K) := by
  refine F.ok sc_common (fun vs H Q E h => ?_) (fun cdv A outer s H vs Q E hr h => ?_)
  · unfold sp_common at h; obtain ⟨x, y, a, c, rfl, rfl, rfl, q⟩ := h
    rfl
  · have hu := hu_of hr
    unfold sp_common at h; obtain ⟨x, y, a, c, rfl, rfl, rfl, q⟩ := h
    refine ⟨_, (pss_cons (ps_while PassesOwn.never (pt_cmpR op_gt (pv 1) pe_int (nomark _))
        (pss_cons (ps_set (i := 2) sc_common.nd rfl (.inl rfl) (pe_op op_mod (pv 0) (pv 1)))
      (pss_cons (ps_set (i := 0) sc_common.nd rfl (.inl rfl) (pv 1))
      (pss_one (ps_set (i := 1) sc_common.nd rfl (.inl rfl) (pv 2))))))
      (pss_one (ps_ret (pv 0)))), ?_⟩
    refine ⟨fun μ σ H' => ∃ (A B : Nat) (y2 : Option V), μ = B ∧ Nat.gcd A B = Nat.gcd a c ∧ H = H' ∧ σ = [some (.int (A : Int)), some (.int (B : Int)), y2], ⟨c, a, c, none, rfl, rfl, rfl, rfl⟩, fun μ σ H' hW => ?_⟩
    obtain ⟨A, B, y2, e1, e2, rfl, rfl⟩ := hW
    walk_at "st"
    refine iteD (fun hp => ?_) (fun hp => ?_)
    · refine ⟨fun σ H' => H = H' ∧ ∃ y2, σ = [some (.int (B : Int)), some (.int ((A % B : Nat) : Int)), y2], fun σ H' hN => ?_, ?_⟩
      · obtain ⟨rfl, y3, rfl⟩ := hN
        refine ⟨A % B, ?_, B, A % B, y3, rfl, ?_, rfl, rfl⟩
        · rw [e1]; exact Nat.mod_lt _ (by omega)
        · rw [← e2, Nat.gcd_comm A B, Nat.gcd_rec B A, Nat.gcd_comm]
      · walk_at "st"
        exact ⟨_, rfl⟩
    · have hB : B = 0 := by omega
      rw [hB, Nat.gcd_zero_right] at e2
      rw [← e2] at q
      walk_at "st"
      exact q
end
abbrev s_divided : Stmt := topS 13
theorem sc_divided : FnScope ["base", "top", "bottom", "rest", "places", "figures"] ["base", "top", "bottom"] (defScope s_divided) := ⟨rfl, rfl, rfl, by decide +kernel, rfl, by decide +kernel, by decide +kernel⟩
@[irreducible] def sp_divided (K : PySem.W.Frag) : Sp := fun vs H Q _ => ∃ (x y z : Int) (b t m s l : Nat), vs = [.int x, .int y, .int z] ∧ x = b ∧ y = t ∧ z = m ∧ 0 < m ∧ b < 100 ∧ Wid m ∧ DivAt b m (t % m) s l ∧ s + l ≤ 100000 ∧
  ∀ H' p a r, WrNew H H' p a r ⟨((t / m : Nat) : Int), dgs b m (t % m) 0 s, dgs b m (t % m) s l⟩ → Q (.ref p) H'
theorem go_divided {K : PySem.W.Frag} {H : Hp} {x y z : Int} {Q : VK} {E : XK} (b t m s l : Nat) (hx : x = b) (hy : y = t) (hz : z = m) (hm : 0 < m) (hb : b < 100) (hw : Wid m) (hd : DivAt b m (t % m) s l) (hn : s + l ≤ 100000)
    (q : ∀ H' p a r, WrNew H H' p a r ⟨((t / m : Nat) : Int), dgs b m (t % m) 0 s, dgs b m (t % m) s l⟩ → Q (.ref p) H') : sp_divided K [.int x, .int y, .int z] H Q E := by
  unfold sp_divided; exact ⟨x, y, z, b, t, m, s, l, rfl, hx, hy, hz, hm, hb, hw, hd, hn, q⟩
section
variable {P : Program} {w : World} {K : PySem.W.Frag} {mg : Str → Option Value} {base : Heap}
theorem ok_divided {f : Addr} {fd : FuncData} (F : Fun K "divided" "divided" s_divided f fd) (M : Md K mg) : FnOk P w K mg base CX0 1 f fd ["base", "top", "bottom"] (sp_divided K) := by
  refine F.ok sc_divided (fun vs H Q E h => ?_) (fun cdv A outer s H vs Q E hr h => ?_)
  · unfold sp_divided at h; obtain ⟨x, y, z, b, t, m, s, l, rfl, rfl, rfl, rfl, hm, hb, hw, hd, hn, q⟩ := h
    rfl
  · have hu := hu_of hr
    unfold sp_divided at h; obtain ⟨x, y, z, b, t, m, s, l, rfl, rfl, rfl, rfl, hm, hb, hw, hd, hn, q⟩ := h
    have hmi : (0 : Int) < (m : Int) := by omega
    have cd : ∀ i : Int, CDivP i (m : Int) := fun i => cdivp_wide hm hw
    have mb : ∀ i : Int, IntMulOk i (b : Int) := fun i => mulB_right (by omega) (by omega)
    have e0 : (t : Int) % (m : Int) = ((rs b m (t % m) 0 : Nat) : Int) := by rw [rs_zero (Nat.mod_lt _ hm)]; rfl
    have eq : (t : Int) / (m : Int) = ((t / m : Nat) : Int) := rfl
    refine ⟨_, (pss_cons (ps_set (i := 3) sc_divided.nd rfl (.inl rfl) (pe_op op_mod (pv 1) (pv 2)))
      (pss_cons (ps_set (i := 4) sc_divided.nd rfl (.inl rfl) pe_dnewK)
      (pss_cons (ps_set (i := 5) sc_divided.nd rfl (.inl rfl) (pe_lst pa_nil))
      (pss_cons (ps_while PassesOwn.never (PW.pt (pw_and (pt_cmpR op_gt (pv 3) pe_int (nomark _)) (pw_and1 (pt_cmp (pc_dnotin hu (pv 3) (pv 4))))))
        (pss_cons (ps_dput hu (pv 4) (pv 3) (pe_callB call_len_seq (by rfl) M.m_len PySem.boot_len (pa_cons (pv 5) pa_nil)) rfl)
      (pss_cons (ps_expr (pe_bm PySem.F.plainAttrs_list PySem.F.slot_list_append PySem.F.type_list_append mt_append (pv 5) (pa_cons (pe_op op_fdivP (pe_op op_mulB (pv 3) (pv 0)) (pv 2)) pa_nil)))
      (pss_one (ps_set (i := 3) sc_divided.nd rfl (.inl rfl) (pe_op op_mod (pe_op op_mulB (pv 3) (pv 0)) (pv 2)))))))
      (pss_cons (ps_if (pt_cmpR op_eq (pv 3) pe_int (nomark _))
        (pss_one (ps_ret (pe_tup (pa_cons (pe_op op_fdivP (pv 1) (pv 2)) (pa_cons (pv 5) (pa_cons (pe_lst pa_nil) pa_nil)))))) pss_nil)
      (pss_one (ps_ret (pe_tup (pa_cons (pe_op op_fdivP (pv 1) (pv 2)) (pa_cons (pe_slice sl_list (pv 5) po_none (po_some (pe_dget hu (pv 4) (pv 3) (fun _ _ => rfl)))) (pa_cons (pe_slice sl_list (pv 5) (po_some (pe_dget hu (pv 4) (pv 3) (fun _ _ => rfl))) po_none) pa_nil))))))))))), ?_⟩
    walk_at "st"
    intro d nd
    walk_at "st"
    intro f nf
    have nd2 : H d = none := nd
    have nf2 : H f = none := free_upd nf
    have ndf : f ≠ d := ne_new nf
    refine ⟨fun μ σ H' => ∃ n kvs, n ≤ s + l ∧ μ = s + l - n ∧ σ = [some (.int b), some (.int t), some (.int m), some (.int ((rs b m (t % m) n : Nat) : Int)), some (.ref d), some (.ref f)] ∧ Same H H' ∧ H' d = some (.dK kvs) ∧ kvs.length = n ∧
        (∀ k, k < n → valV kvs (Sum.inl ((rs b m (t % m) k : Nat) : Int) : Key) = some (.int (k : Int))) ∧ (∀ z : Nat, (∀ k, k < n → rs b m (t % m) k ≠ z) → valV kvs (Sum.inl (z : Int) : Key) = none) ∧ H' f = some (.lst ((dgs b m (t % m) 0 n).map V.int)),
      ⟨s + l, 0, [], Nat.zero_le _, rfl, ?_, same_new (same_new (Same.refl H) nd2) nf2, ?_, rfl, fun k hk => by omega, fun z _ => rfl, ?_⟩, fun μ σ H' hW => ?_⟩
    · rw [← e0]; rfl
    · rw [upd_ne (Ne.symm ndf), upd_same]
    · exact upd_same
    obtain ⟨n, kvs, hnl, rfl, rfl, sm, hD, hk, hin, hout, hF⟩ := hW
    have hSq : SqL K H' f ((dgs b m (t % m) 0 n).map V.int) := sql hF
    have hlen : ((dgs b m (t % m) 0 n).map V.int).length = n := by rw [List.length_map, dgs_len]
    walk_at "st"
    by_cases hlt : n < s + l
    · -- one more figure
      have hp := hd.pos n hlt
      have hv : valV kvs (Sum.inl ((rs b m (t % m) n : Nat) : Int) : Key) = none := hout _ fun k hk' e => hd.new k n hk' hlt e
      refine iteD (fun _ => ?_) (fun e => absurd e (by omega))
      walk_at "st"
      refine ⟨d, _, rfl, DGet.k (k := Sum.inl ((rs b m (t % m) n : Nat) : Int)) hD, _, rfl, ?_⟩
      rw [hv]
      refine ⟨fun σ2 H2 => σ2 = [some (.int b), some (.int t), some (.int m), some (.int ((rs b m (t % m) (n + 1) : Nat) : Int)), some (.ref d), some (.ref f)] ∧ Same H H2 ∧ H2 d = some (.dK (kvs ++ [(Sum.inl ((rs b m (t % m) n : Nat) : Int), .int (n : Int))])) ∧ H2 f = some (.lst ((dgs b m (t % m) 0 (n + 1)).map V.int)),
        fun σ2 H2 ⟨e1, e2, e3, e4⟩ => ⟨s + l - (n + 1), by omega, n + 1, _, by omega, rfl, e1, e2, e3, by rw [List.length_append, hk]; rfl, fun k hk' => ?_, fun z hz => ?_, e4⟩, ?_⟩
      · rw [valV_snoc _ _ _ _ hv]
        by_cases hkn : k = n
        · subst hkn; rw [if_pos rfl]
        · rw [if_neg (keyne (hd.new k n (by omega) hlt)), hin k (by omega)]
      · rw [valV_snoc _ _ _ _ hv, if_neg (keyne fun q => hz n (by omega) q.symm), hout z fun k hk' => hz k (by omega)]
      · -- places[rest] = len(figures)
        refine ⟨_, rfl, f, _, rfl, .inl hSq, ?_⟩
        rw [hlen]
        refine ⟨_, rfl, _, rfl, d, _, rfl, DPut.k (k := Sum.inl ((rs b m (t % m) n : Nat) : Int)) hD (sz100lt (by omega)), ?_⟩
        rw [putK_new _ hv]
        have hF2 : (upd H' d (.dK (kvs ++ [(Sum.inl ((rs b m (t % m) n : Nat) : Int), V.int (n : Int))]))) f = some (.lst ((dgs b m (t % m) 0 n).map V.int)) := by rw [upd_ne ndf]; exact hF
        -- figures.append(..)
        refine ⟨_, rfl, .inl ⟨rfl, _, sql hF2⟩, ?_⟩
        walk_at "st"
        refine ⟨f, _, _, rfl, rfl, hF2, by rw [hlen]; exact sz100lt (by omega), ?_⟩
        walk_at "st"
        refine ⟨?_, same_new (same_new sm nd2) nf2, ?_, ?_⟩
        · rw [rs_succ]; rfl
        · rw [upd_ne (Ne.symm ndf), upd_same]
        · rw [upd_same, dgs_succ, List.map_append, Nat.zero_add]; rfl
    · have hns : n = s + l := by omega
      subst hns
      by_cases hl : l = 0
      · -- nothing is left
        subst hl
        have h0 := hd.fin rfl
        rw [Nat.add_zero] at *
        rw [h0]
        refine iteD (fun e => absurd e (by decide)) (fun _ => ?_)
        walk_at "st"
        intro g ng
        walk_at "st"
        intro p np
        have ngf : g ≠ f := fun z => by rw [z, hF] at ng; cases ng
        refine q _ p f g ⟨⟨upd_same, ?_, ?_⟩, same_new (same_new sm (sm.free ng)) (sm.free (free_upd np)), sm.free (free_upd np), nf2, sm.free ng, Ne.symm ngf⟩
        · rw [upd_ne (fun z => ?_), upd_ne (Ne.symm ngf)]
          · exact hF
          · rw [z] at hF; rw [free_upd np] at hF; cases hF
        · rw [upd_ne (Ne.symm (ne_new np)), upd_same]; rfl
      · have hrep := hd.rep (by omega)
        have hs0 := hd.pos s (by omega)
        have hv : valV kvs (Sum.inl ((rs b m (t % m) s : Nat) : Int) : Key) = some (.int (s : Int)) := hin s (by omega)
        rw [hrep]
        refine iteD (fun _ => ?_) (fun e => absurd e (by omega))
        walk_at "st"
        refine ⟨d, _, rfl, DGet.k (k := Sum.inl ((rs b m (t % m) s : Nat) : Int)) hD, _, rfl, ?_⟩
        rw [hv]
        walk_at "st"
        refine iteE (fun e => absurd e (by omega)) (fun _ => ?_)
        walk_at "st"
        have hg : DGet H' d (.int ((rs b m (t % m) s : Nat) : Int)) (some (.int (s : Int))) := by
          rw [← hv]; exact DGet.k (k := Sum.inl ((rs b m (t % m) s : Nat) : Int)) hD
        refine ⟨_, _, rfl, hg, _, rfl, f, _, rfl, hSq, fun a na => ?_⟩
        rw [cut_take, take_map, dgs_take _ _ _ _ _ (by omega)]
        have naf : a ≠ f := fun z => by rw [z, hF] at na; cases na
        have nad : a ≠ d := fun z => by rw [z, hD] at na; cases na
        walk_at "st"
        have hF1 := hF
        have hg1 : DGet (upd H' a (.lst ((dgs b m (t % m) 0 s).map V.int))) d (.int ((rs b m (t % m) s : Nat) : Int)) (some (.int (s : Int))) := by
          rw [← hv]; exact DGet.k (k := Sum.inl ((rs b m (t % m) s : Nat) : Int)) (by rw [upd_ne (Ne.symm nad)]; exact hD)
        have hSq1 : SqL K (upd H' a (.lst ((dgs b m (t % m) 0 s).map V.int))) f ((dgs b m (t % m) 0 (s + l)).map V.int) := sql (by rw [upd_ne (Ne.symm naf)]; exact hF)
        refine ⟨_, _, rfl, hg1, _, rfl, f, _, rfl, hSq1, fun g ng => ?_⟩
        rw [cut_drop, drop_map, dgs_drop _ _ _ _ _ (by omega), Nat.add_sub_cancel_left]
        walk_at "st"
        intro p np
        have np1 := free_upd np
        have np2 := free_upd np1
        refine q _ p a g ⟨⟨upd_same, ?_, ?_⟩, same_new (same_new (same_new sm (sm.free na)) (sm.free (free_upd ng))) (sm.free np2), sm.free np2, sm.free na, sm.free (free_upd ng), Ne.symm (ne_new ng)⟩
        · rw [upd_ne (Ne.symm (ne_new np1)), upd_ne (Ne.symm (ne_new ng)), upd_same]
        · rw [upd_ne (Ne.symm (ne_new np)), upd_same]
end
abbrev s_written : Stmt := topS 14
theorem sc_written : FnScope ["base", "top", "bottom"] ["base", "top", "bottom"] (defScope s_written) := ⟨rfl, rfl, rfl, by decide +kernel, rfl, by decide +kernel, by decide +kernel⟩
@[irreducible] def sp_written (K : PySem.W.Frag) : Sp := fun vs H Q _ => ∃ (x y z : Int) (b t m s l : Nat), vs = [.int x, .int y, .int z] ∧ x = b ∧ y = t ∧ z = m ∧ 2 ≤ b ∧ b ≤ 36 ∧ t ≤ 1000000000000 ∧ 1 ≤ m ∧ m ≤ 2000 ∧ DivAt b m (t % m) s l ∧
  ∀ H' p a r, WrNew H H' p a r ⟨((t / m : Nat) : Int), dgs b m (t % m) 0 s, dgs b m (t % m) s l⟩ → Q (.ref p) H'
theorem go_written {K : PySem.W.Frag} {H : Hp} {x y z : Int} {Q : VK} {E : XK} (b t m s l : Nat) (hx : x = b) (hy : y = t) (hz : z = m) (h1 : 2 ≤ b) (h2 : b ≤ 36) (h3 : t ≤ 1000000000000) (h4 : 1 ≤ m) (h5 : m ≤ 2000) (hd : DivAt b m (t % m) s l)
    (q : ∀ H' p a r, WrNew H H' p a r ⟨((t / m : Nat) : Int), dgs b m (t % m) 0 s, dgs b m (t % m) s l⟩ → Q (.ref p) H') : sp_written K [.int x, .int y, .int z] H Q E := by
  unfold sp_written; exact ⟨x, y, z, b, t, m, s, l, rfl, hx, hy, hz, h1, h2, h3, h4, h5, hd, q⟩
theorem DivAt.le {b m r s l : Nat} (h : DivAt b m r s l) (hm : 0 < m) : s + l ≤ m := by
  obtain ⟨s', l', hl, h'⟩ := divAt_exists (b := b) (r := r) hm
  obtain ⟨e1, e2⟩ := h.unique h'
  omega
section
variable {P : Program} {w : World} {K : PySem.W.Frag} {mg : Str → Option Value} {base : Heap}
theorem ok_written {f : Addr} {fd : FuncData} (F : Fun K "written" "written" s_written f fd) (M : Md K mg) (c_askedfraction : Cal P w K mg base 2 "asked_fraction" (sp_askedfraction K) []) (c_divided : Cal P w K mg base 1 "divided" (sp_divided K) []) : FnOk P w K mg base CX0 3 f fd ["base", "top", "bottom"] (sp_written K) := by
  refine F.ok sc_written (fun vs H Q E h => ?_) (fun cdv A outer s H vs Q E hr h => ?_)
  · unfold sp_written at h; obtain ⟨x, y, z, b, t, m, s, l, rfl, rfl, rfl, rfl, h1, h2, h3, h4, h5, hd, q⟩ := h
    rfl
  · have hu := hu_of hr
    unfold sp_written at h; obtain ⟨x, y, z, b, t, m, s, l, rfl, rfl, rfl, rfl, h1, h2, h3, h4, h5, hd, q⟩ := h
    refine ⟨_, (pss_cons (ps_expr (pe_c c_askedfraction hr (by decide) (by rfl) (pa_cons (pv 0) (pa_cons (pv 1) (pa_cons (pv 2) pa_nil)))))
      (pss_one (ps_ret (pe_c c_divided hr (by decide) (by rfl) (pa_cons (pv 0) (pa_cons (pv 1) (pa_cons (pv 2) pa_nil))))))), ?_⟩
    walk_at "st"
    have := hd.le h4
    exact go_divided b t m s l rfl rfl rfl (by omega) (by omega) (wid_small (by omega)) hd (by omega) q
end
abbrev s_lengths : Stmt := topS 16
theorem sc_lengths : FnScope ["base", "bottom", "ahead", "left", "part", "ring", "rest"] ["base", "bottom"] (defScope s_lengths) := ⟨rfl, rfl, rfl, by decide +kernel, rfl, by decide +kernel, by decide +kernel⟩
@[irreducible] def sp_lengths (K : PySem.W.Frag) : Sp := fun vs H Q _ => ∃ (x y : Int) (b m s l : Nat), vs = [.int x, .int y] ∧ x = b ∧ y = m ∧ 2 ≤ b ∧ b ≤ 36 ∧ 1 ≤ m ∧ m ≤ 2000 ∧ LenAt b m s l ∧ ∀ p, H p = none → Q (.ref p) (upd H p (.tup [.int (s : Int), .int (l : Int)]))
theorem go_lengths {K : PySem.W.Frag} {H : Hp} {x y : Int} {Q : VK} {E : XK} (b m s l : Nat) (hx : x = b) (hy : y = m) (h1 : 2 ≤ b) (h2 : b ≤ 36) (h3 : 1 ≤ m) (h4 : m ≤ 2000) (hL : LenAt b m s l) (q : ∀ p, H p = none → Q (.ref p) (upd H p (.tup [.int (s : Int), .int (l : Int)]))) : sp_lengths K [.int x, .int y] H Q E := by
  unfold sp_lengths; exact ⟨x, y, b, m, s, l, rfl, hx, hy, h1, h2, h3, h4, hL, q⟩
section
variable {P : Program} {w : World} {K : PySem.W.Frag} {mg : Str → Option Value} {base : Heap}
theorem ok_lengths {f : Addr} {fd : FuncData} (F : Fun K "lengths" "lengths" s_lengths f fd) (M : Md K mg) (c_askedfraction : Cal P w K mg base 2 "asked_fraction" (sp_askedfraction K) []) (c_common : Cal P w K mg base 1 "common" (sp_common K) []) : FnOk P w K mg base CX0 3 f fd ["base", "bottom"] (sp_lengths K) := by
  refine F.ok sc_lengths (fun vs H Q E h => ?_) (fun cdv A outer s H vs Q E hr h => ?_)
  · unfold sp_lengths at h; obtain ⟨x, y, b, m, s, l, rfl, rfl, rfl, h1, h2, h3, h4, hL, q⟩ := h
    rfl
  · have hu := hu_of hr
    unfold sp_lengths at h; obtain ⟨x, y, b, m, s, l, rfl, rfl, rfl, h1, h2, h3, h4, hL, q⟩ := h
    refine ⟨_, (pss_cons (ps_expr (pe_c c_askedfraction hr (by decide) (by rfl) (pa_cons (pv 0) (pa_cons pe_int (pa_cons (pv 1) pa_nil)))))
      (pss_cons (ps_set (i := 2) sc_lengths.nd rfl (.inl rfl) pe_int)
      (pss_cons (ps_set (i := 3) sc_lengths.nd rfl (.inl rfl) (pv 1))
      (pss_cons (ps_set (i := 4) sc_lengths.nd rfl (.inl rfl) (pe_c c_common hr (by decide) (by rfl) (pa_cons (pv 3) (pa_cons (pv 0) pa_nil))))
      (pss_cons (ps_while PassesOwn.never (pt_cmpR op_gt (pv 4) pe_int (nomark _))
        (pss_cons (ps_set (i := 3) sc_lengths.nd rfl (.inl rfl) (pe_op op_fdivP (pv 3) (pv 4)))
      (pss_cons (ps_set (i := 2) sc_lengths.nd rfl (.inl rfl) (pe_op op_add (pv 2) pe_int))
      (pss_one (ps_set (i := 4) sc_lengths.nd rfl (.inl rfl) (pe_c c_common hr (by decide) (by rfl) (pa_cons (pv 3) (pa_cons (pv 0) pa_nil))))))))
      (pss_cons (ps_if (pt_cmpR op_eq (pv 3) pe_int (nomark _))
        (pss_one (ps_ret (pe_tup (pa_cons (pv 2) (pa_cons pe_int pa_nil))))) pss_nil)
      (pss_cons (ps_set (i := 5) sc_lengths.nd rfl (.inl rfl) pe_int)
      (pss_cons (ps_set (i := 6) sc_lengths.nd rfl (.inl rfl) (pe_op op_mod (pv 0) (pv 3)))
      (pss_cons (ps_while PassesOwn.never (pt_cmpR op_ne (pv 6) pe_int (nomark _))
        (pss_cons (ps_set (i := 6) sc_lengths.nd rfl (.inl rfl) (pe_op op_mod (pe_op op_mulB (pv 6) (pv 0)) (pv 3)))
      (pss_one (ps_set (i := 5) sc_lengths.nd rfl (.inl rfl) (pe_op op_add (pv 5) pe_int)))))
      (pss_one (ps_ret (pe_tup (pa_cons (pv 2) (pa_cons (pv 5) pa_nil)))))))))))))), ?_⟩
    walk_at "st"
    refine go_common m b rfl rfl ?_
    walk_at "st"
    refine ⟨fun μ σ H' => ∃ (k : Nat), k ≤ s ∧ μ = s - k ∧ H = H' ∧ σ = [some (.int (b : Int)), some (.int (m : Int)), some (.int (k : Int)), some (.int ((lft b m k : Nat) : Int)), some (.int ((Nat.gcd (lft b m k) b : Nat) : Int)), none, none], ⟨s, 0, by omega, rfl, rfl, ?_⟩, fun μ σ H' hW => ?_⟩
    · rw [lft_zero]; rfl
    obtain ⟨k, hk, rfl, rfl, rfl⟩ := hW
    have hp := lft_pos (b := b) (k := k) h3
    have hle := lft_le b m k
    walk_at "st"
    by_cases hks : k < s
    · have hg := hL.more k hks
      have hgle : Nat.gcd (lft b m k) b ≤ lft b m k := Nat.gcd_le_left _ hp
      refine iteD (fun _ => ?_) (fun e => absurd e (by omega))
      refine ⟨fun σ H' => H = H' ∧ σ = [some (.int (b : Int)), some (.int (m : Int)), some (.int ((k + 1 : Nat) : Int)), some (.int ((lft b m (k + 1) : Nat) : Int)), some (.int ((Nat.gcd (lft b m (k + 1)) b : Nat) : Int)), none, none], fun σ H' hN => ?_, ?_⟩
      · obtain ⟨rfl, rfl⟩ := hN
        exact ⟨s - (k + 1), by omega, k + 1, by omega, rfl, rfl, rfl⟩
      · walk_at "st"
        refine go_common (lft b m (k + 1)) b (by rw [lft_succ h3]; rfl) rfl ?_
        walk_at "st"
        rw [lft_succ h3]
        rfl
    · have hks2 : k = s := by omega
      subst hks2
      have hd := hL.done
      rw [hd]
      walk_at "st"
      refine iteE (fun c => ?_) (fun c => ?_)
      · have e1 := hL.one (by omega)
        rw [e1] at q
        walk_at "st"
        exact q
      · have hne : lft b m k ≠ 1 := by omega
        obtain ⟨l0, l1, l2⟩ := hL.ring hne
        have hq : 1 < lft b m k := by omega
        walk_at "st"
        refine ⟨fun μ σ H' => ∃ n : Nat, 1 ≤ n ∧ n ≤ l ∧ μ = l - n ∧ H = H' ∧ σ = [some (.int (b : Int)), some (.int (m : Int)), some (.int (k : Int)), some (.int ((lft b m k : Nat) : Int)), some (.int 1), some (.int (n : Int)), some (.int ((b ^ n % lft b m k : Nat) : Int))], ⟨l - 1, 1, by omega, by omega, rfl, rfl, ?_⟩, fun μ σ H' hW => ?_⟩
        · rw [Nat.pow_one]; rfl
        obtain ⟨n, n1, n2, rfl, rfl, rfl⟩ := hW
        walk_at "st"
        by_cases hn : n < l
        · have hne := l2 n n1 hn
          refine iteEn (fun _ => ?_) (fun e => absurd e (by omega))
          refine ⟨fun σ H' => H = H' ∧ σ = [some (.int (b : Int)), some (.int (m : Int)), some (.int (k : Int)), some (.int ((lft b m k : Nat) : Int)), some (.int 1), some (.int ((n + 1 : Nat) : Int)), some (.int ((b ^ (n + 1) % lft b m k : Nat) : Int))], fun σ H' hN => ?_, ?_⟩
          · obtain ⟨rfl, rfl⟩ := hN
            exact ⟨l - (n + 1), by omega, n + 1, by omega, by omega, rfl, rfl, rfl⟩
          · have e3 : b ^ (n + 1) % lft b m k = b ^ n % lft b m k * b % lft b m k := by
              rw [Nat.pow_succ, Nat.mul_mod (b ^ n) b, Nat.mul_mod (b ^ n % lft b m k) b, Nat.mod_mod]
            rw [e3]
            have hlt : b ^ n % lft b m k < lft b m k := Nat.mod_lt _ hp
            walk_at "st"
            rfl
        · have e3 : n = l := by omega
          subst e3
          rw [l1]
          walk_at "st"
          exact q
end
abbrev s_folds : Stmt := topS 17
theorem sc_folds : FnScope ["base", "ring", "half", "one", "other"] ["base", "ring"] (defScope s_folds) := ⟨rfl, rfl, rfl, by decide +kernel, rfl, by decide +kernel, by decide +kernel⟩
/-- an even number of figures, two or more, each with its fellow the greatest one -/
def flB (b : Int) (ns : List Int) : Bool := decide (ns.length % 2 = 0 ∧ ns.length ≠ 0 ∧ ns.take (ns.length / 2) = (ns.drop (ns.length / 2)).map (fun x => b - 1 - x))
@[irreducible] def sp_folds (K : PySem.W.Frag) : Sp := fun vs H Q _ => ∃ (b : Int) (a : Addr) (ns : List Int), vs = [.int b, .ref a] ∧ 2 ≤ b ∧ b ≤ 36 ∧ SqL K H a (ns.map V.int) ∧ ns.length ≤ 4000 ∧ Figs b ns ∧ ∀ H', Same H H' → Q (.bl (flB b ns)) H'
theorem go_folds {K : PySem.W.Frag} {H : Hp} {b : Int} {a : Addr} {ns : List Int} {Q : VK} {E : XK} (h1 : 2 ≤ b) (h2 : b ≤ 36) (hS : SqL K H a (ns.map V.int)) (hl : ns.length ≤ 4000) (hf : Figs b ns) (q : ∀ H', Same H H' → Q (.bl (flB b ns)) H') : sp_folds K [.int b, .ref a] H Q E := by
  unfold sp_folds; exact ⟨b, a, ns, rfl, h1, h2, hS, hl, hf, q⟩
theorem zip_all (b : Int) : ∀ xs ys : List Int, xs.length = ys.length → (List.zipWith (fun x y => decide (x + y = b - 1)) xs ys).all id = decide (xs = ys.map (fun x => b - 1 - x))
  | [], [], _ => rfl
  | x :: xs, y :: ys, h => by
    have ih := zip_all b xs ys (by simpa using h)
    rw [List.zipWith_cons_cons, List.all_cons, ih, List.map_cons]
    by_cases h1 : x + y = b - 1
    · have h2 : x = b - 1 - y := by omega
      simp [h1, h2]
    · have h2 : ¬ x = b - 1 - y := by omega
      simp [h1, h2]
section
variable {P : Program} {w : World} {K : PySem.W.Frag} {mg : Str → Option Value} {base : Heap}
theorem ok_folds {f : Addr} {fd : FuncData} (F : Fun K "folds" "folds" s_folds f fd) (M : Md K mg) (c_askedbase : Cal P w K mg base 1 "asked_base" (sp_askedbase K) []) (c_askedfigures : Cal P w K mg base 1 "asked_figures" (sp_askedfigures K) []) : FnOk P w K mg base CX0 2 f fd ["base", "ring"] (sp_folds K) := by
  refine F.ok sc_folds (fun vs H Q E h => ?_) (fun cdv A outer s H vs Q E hr h => ?_)
  · unfold sp_folds at h; obtain ⟨b, a, ns, rfl, h1, h2, hS, hl, hf, q⟩ := h
    rfl
  · have hu := hu_of hr
    unfold sp_folds at h; obtain ⟨b, a, ns, rfl, h1, h2, hS, hl, hf, q⟩ := h
    refine ⟨_, (pss_cons (ps_expr (pe_c c_askedbase hr (by decide) (by rfl) (pa_cons (pv 0) pa_nil)))
      (pss_cons (ps_expr (pe_c c_askedfigures hr (by decide) (by rfl) (pa_cons (pv 0) (pa_cons (pv 1) pa_nil))))
      (pss_cons (ps_set (i := 2) sc_folds.nd rfl (.inl rfl) (pe_op op_fdivP (pe_callB call_len_seq (by rfl) M.m_len PySem.boot_len (pa_cons (pv 1) pa_nil)) pe_int))
      (pss_cons (ps_if (PW.pt (pw_or (pt_cmpR op_eq (pe_op op_mod (pe_callB call_len_seq (by rfl) M.m_len PySem.boot_len (pa_cons (pv 1) pa_nil)) pe_int) pe_int (nomark _)) (pw_or1 (pt_cmpR op_eq (pv 2) pe_int (nomark _)))))
        (pss_one (ps_ret pe_bl)) pss_nil)
      (pss_one (ps_ret (pe_callB (cr_all rfl) (by rfl) M.m_all (by decide +kernel) (pa_cons (pe_lc (own := [("one", 3), ("other", 4)]) (g := gTup K 2 (gCons (gName 3) (gCons (gName 4) gNil))) (tt := tYes) rfl sc_folds.nd (pi_zip (by rfl) M.m_zip (pa_cons (pe_slice sl_list (pv 1) po_none (po_some (pv 2))) (pa_cons (pe_slice sl_list (pv 1) (po_some (pv 2)) po_none) pa_nil))) (blkOk_by (own := [("one", 3), ("other", 4)]) (N := ["base", "ring", "half", "one", "other"]) (sc := defScope s_folds) (by decide +kernel)) (fun _ _ _ _ _ => (pg_tup rfl (by exact (pgs_cons (pg_name (i := 3) sc_folds.nd rfl (.inl rfl)) (pgs_cons (pg_name (i := 4) sc_folds.nd rfl (.inl rfl)) pgs_nil))))) (fun _ _ _ _ _ => pts_nil) (fun _ _ _ _ _ => (pe_cmpR op_eq (pe_op op_add (pv 3) (pv 4)) (pe_op op_sub (pv 0) pe_int) (nomark _)))) pa_nil)))))))), ?_⟩
    walk_at "st"
    refine go_askedfigures hS hl hf ?_
    walk_at "st"
    simp only [List.length_map]
    refine iteE (fun c => ?_) (fun c => ?_)
    · walk_at "st"
      have e : flB b ns = false := decide_eq_false (fun z => by omega)
      have q2 := q H (Same.refl _)
      rw [e] at q2
      exact q2
    · walk_at "st"
      have eh : (ns.length : Int) / 2 = ((ns.length / 2 : Nat) : Int) := rfl
      refine iteE (fun c2 => ?_) (fun c2 => ?_)
      · walk_at "st"
        have e : flB b ns = false := decide_eq_false (fun z => by omega)
        have q2 := q H (Same.refl _)
        rw [e] at q2
        exact q2
      · walk_at "st"
        refine ⟨a, _, rfl, hS, fun p1 np1 => ?_⟩
        rw [eh, cut_take, take_map]
        have s1 := same_upd (o := .lst ((ns.take (ns.length / 2)).map V.int)) np1
        have hS1 := s1.seq hS
        walk_at "st"
        refine ⟨a, _, rfl, hS1, fun p2 np2 => ?_⟩
        rw [cut_drop, drop_map]
        have s2 := same_ups (o := .lst ((ns.drop (ns.length / 2)).map V.int)) s1 np2
        have h1p : SqL K (upd (upd H p1 (.lst ((ns.take (ns.length / 2)).map V.int))) p2 (.lst ((ns.drop (ns.length / 2)).map V.int))) p1 ((ns.take (ns.length / 2)).map V.int) := sql (by rw [upd_ne (Ne.symm (ne_new np2)), upd_same])
        have hlen : (ns.take (ns.length / 2)).length = (ns.drop (ns.length / 2)).length := by rw [List.length_take, List.length_drop]; omega
        refine ⟨p1, p2, _, _, rfl, h1p, sql upd_same, fun D nD => ?_⟩
        refine lc_zips (K := K) (i := 3) (j := 4) (fun x y => V.bl (decide (x + y = b - 1))) h1p (sql upd_same) hlen nD (by rw [List.length_take]; omega) (fun _ _ => rfl) (fun x y H' Q' q' => ?_) (fun H' s hD => ?_)
        · walk_at "st"
          have e1 : decide (V.int (x + y) = V.int (b - 1)) = decide (x + y = b - 1) := by
            by_cases h : x + y = b - 1
            · rw [decide_eq_true h, decide_eq_true (by rw [h])]
            · rw [decide_eq_false h, decide_eq_false (fun z => h (V.int.inj z))]
          rw [e1]
          exact q'
        · have em : List.zipWith (fun x y => V.bl (decide (x + y = b - 1))) (ns.take (ns.length / 2)) (ns.drop (ns.length / 2)) = (List.zipWith (fun x y => decide (x + y = b - 1)) (ns.take (ns.length / 2)) (ns.drop (ns.length / 2))).map V.bl := by
            rw [List.map_zipWith]
          rw [em] at hD
          refine ⟨D, _, rfl, sql hD, ?_⟩
          rw [zip_all _ _ _ hlen]
          have e2 : decide (ns.take (ns.length / 2) = (ns.drop (ns.length / 2)).map (fun x => b - 1 - x)) = flB b ns := by
            unfold flB
            rw [decide_eq_decide]
            exact ⟨fun z => ⟨by omega, by omega, z⟩, fun z => z.2.2⟩
          rw [e2]
          exact q H' (s2.trans s)
end
abbrev s_xlawcellat : Stmt := topS 19
theorem sc_xlawcellat : FnScope ["script", "k"] ["script", "k"] (defScope s_xlawcellat) := ⟨rfl, rfl, rfl, by decide +kernel, rfl, by decide +kernel, by decide +kernel⟩
/-- the k-th of the script's numbers, or 0 -/
def cl (ns : List Int) (k : Nat) : Int := ns.getD k 0
@[irreducible] def sp_xlawcellat (K : PySem.W.Frag) : Sp := fun vs H Q _ => ∃ (a : Addr) (ns : List Int) (x : Int), vs = [.ref a, .int x] ∧ 0 ≤ x ∧ SqL K H a (ns.map V.int) ∧ Q (.int (cl ns x.toNat)) H
theorem go_cell {K : PySem.W.Frag} {H : Hp} {a : Addr} {ns : List Int} {x : Int} {Q : VK} {E : XK} (hx : 0 ≤ x) (hS : SqL K H a (ns.map V.int)) (q : Q (.int (cl ns x.toNat)) H) : sp_xlawcellat K [.ref a, .int x] H Q E := by
  unfold sp_xlawcellat; exact ⟨a, ns, x, rfl, hx, hS, q⟩
local macro_rules | `(tactic| walk_at "call") => `(tactic| refine go_cell (by omega) (by walk_at "sq") ?_)
theorem cl_in {ns : List Int} {k : Nat} (h : k < ns.length) : cl ns k = ns[k] := by
  unfold cl; rw [List.getD_eq_getElem?_getD, List.getElem?_eq_getElem h]; rfl
theorem cl_out {ns : List Int} {k : Nat} (h : ns.length ≤ k) : cl ns k = 0 := by
  unfold cl; rw [List.getD_eq_getElem?_getD, List.getElem?_eq_none h]; rfl
section
variable {P : Program} {w : World} {K : PySem.W.Frag} {mg : Str → Option Value} {base : Heap}
theorem ok_xlawcellat {f : Addr} {fd : FuncData} (F : Fun K "_law_cell_at" "_law_cell_at" s_xlawcellat f fd) (M : Md K mg) : FnOk P w K mg base CX0 1 f fd ["script", "k"] (sp_xlawcellat K) := by
  refine F.ok sc_xlawcellat (fun vs H Q E h => ?_) (fun cdv A outer s H vs Q E hr h => ?_)
  · unfold sp_xlawcellat at h; obtain ⟨a, ns, x, rfl, hx, hS, q⟩ := h
    rfl
  · have hu := hu_of hr
    unfold sp_xlawcellat at h; obtain ⟨a, ns, x, rfl, hx, hS, q⟩ := h
    obtain ⟨k, rfl⟩ : ∃ k : Nat, x = (k : Int) := ⟨x.toNat, by omega⟩
    rw [Int.toNat_natCast] at q
    refine ⟨_, (pss_cons (ps_if (pt_cmpR op_lt (pv 1) (pe_callB call_len_seq (by rfl) M.m_len PySem.boot_len (pa_cons (pv 0) pa_nil)) (nomark _))
        (pss_one (ps_ret (pe_ix ix_list (pv 0) (pv 1) (fun _ _ => rfl)))) pss_nil)
      (pss_one (ps_ret pe_int))), ?_⟩
    walk_at "st"
    rw [List.length_map]
    refine iteD (fun e => ?_) (fun e => ?_)
    · have hk : k < ns.length := by omega
      walk_at "st"
      refine ⟨a, _, _, _, rfl, rfl, hS, atI_nat (map_get (List.getElem?_eq_getElem hk)), ?_⟩
      rw [← cl_in hk]
      exact q
    · rw [cl_out (by omega)] at q
      exact q
end
abbrev s_xlawisprime : Stmt := topS 20
theorem sc_xlawisprime : FnScope ["number", "part"] ["number"] (defScope s_xlawisprime) := ⟨rfl, rfl, rfl, by decide +kernel, rfl, by decide +kernel, by decide +kernel⟩
@[irreducible] def sp_xlawisprime (K : PySem.W.Frag) : Sp := fun vs H Q _ => ∃ (x : Int) (n : Nat), vs = [.int x] ∧ x = n ∧ n < 100000 ∧ ∀ v : Bool, (v = true ↔ Pr n) → Q (.bl v) H
theorem go_xlawisprime {K : PySem.W.Frag} {H : Hp} {x : Int} {Q : VK} {E : XK} (n : Nat) (hx : x = n) (hn : n < 100000) (q : ∀ v : Bool, (v = true ↔ Pr n) → Q (.bl v) H) : sp_xlawisprime K [.int x] H Q E := by
  unfold sp_xlawisprime; exact ⟨x, n, rfl, hx, hn, q⟩
section
variable {P : Program} {w : World} {K : PySem.W.Frag} {mg : Str → Option Value} {base : Heap}
theorem ok_xlawisprime {f : Addr} {fd : FuncData} (F : Fun K "_law_is_prime" "_law_is_prime" s_xlawisprime f fd) (M : Md K mg) : FnOk P w K mg base CX0 1 f fd ["number"] (sp_xlawisprime K) := by
  refine F.ok sc_xlawisprime (fun vs H Q E h => ?_) (fun cdv A outer s H vs Q E hr h => ?_)
  · unfold sp_xlawisprime at h; obtain ⟨x, n, rfl, rfl, hn, q⟩ := h
    rfl
  · have hu := hu_of hr
    unfold sp_xlawisprime at h; obtain ⟨x, n, rfl, rfl, hn, q⟩ := h
    refine ⟨_, (pss_cons (ps_if (pt_cmpR op_lt (pv 0) pe_int (nomark _))
        (pss_one (ps_ret pe_bl)) pss_nil)
      (pss_cons (ps_set (i := 1) sc_xlawisprime.nd rfl (.inl rfl) pe_int)
      (pss_cons (ps_while PassesOwn.never (pt_cmpR op_le (pe_op op_mulB (pv 1) (pv 1)) (pv 0) (nomark _))
        (pss_cons (ps_if (pt_cmpR op_eq (pe_op op_mod (pv 0) (pv 1)) pe_int (nomark _))
        (pss_one (ps_ret pe_bl)) pss_nil)
      (pss_one (ps_set (i := 1) sc_xlawisprime.nd rfl (.inl rfl) (pe_op op_add (pv 1) pe_int)))))
      (pss_one (ps_ret pe_bl))))), ?_⟩
    walk_at "st"
    refine iteD (fun c => ?_) (fun c => ?_)
    · walk_at "st"
      exact q false ⟨fun z => (by cases z), fun z => absurd z.1 (by omega)⟩
    · walk_at "st"
      refine ⟨fun μ σ H' => ∃ d : Nat, 2 ≤ d ∧ d ≤ n + 1 ∧ μ = n + 1 - d ∧ H = H' ∧ σ = [some (.int (n : Int)), some (.int (d : Int))] ∧ ∀ e, 2 ≤ e → e < d → n % e ≠ 0, ⟨_, 2, by omega, by omega, rfl, rfl, rfl, fun e h1 h2 => by omega⟩, fun μ σ H' hW => ?_⟩
      obtain ⟨d, hd1, hd2, rfl, rfl, rfl, hmin⟩ := hW
      walk_at "st"
      refine iteD (fun c2 => ?_) (fun c2 => ?_)
      · rw [← Int.natCast_mul] at c2
        have hdn : d < n := by
          have : d * 2 ≤ d * d := Nat.mul_le_mul_left d hd1
          omega
        refine ⟨fun σ2 H2 => H = H2 ∧ σ2 = [some (.int (n : Int)), some (.int ((d + 1 : Nat) : Int))] ∧ n % d ≠ 0, fun σ2 H2 ⟨e1, e2, e3⟩ => ⟨n + 1 - (d + 1), by omega, d + 1, by omega, by omega, rfl, e1, e2, fun e h1 h2 => ?_⟩, ?_⟩
        · by_cases h3 : e = d
          · rw [h3]; exact e3
          · exact hmin e h1 (by omega)
        · walk_at "st"
          refine iteE (fun c3 => ?_) (fun c3 => ?_)
          · walk_at "st"
            refine q false ⟨fun z => (by cases z), fun z => absurd ?_ (z.2 d hd1 (by omega))⟩
            exact_mod_cast c3
          · walk_at "st"
            exact fun z => c3 (by exact_mod_cast z)
      · rw [← Int.natCast_mul] at c2
        walk_at "st"
        refine q true ⟨fun _ => ⟨by omega, fun e h1 h2 => ?_⟩, fun _ => rfl⟩
        by_cases h3 : e < d
        · exact hmin e h1 h3
        · have : d * d ≤ e * e := Nat.mul_le_mul (by omega) (by omega)
          omega
end
abbrev s_law : Stmt := topS 21
theorem sc_law : FnScope ["script", "base", "prime", "top", "whole", "ahead", "ring", "half", "k"] ["script"] (defScope s_law) := ⟨rfl, rfl, rfl, by decide +kernel, rfl, by decide +kernel, by decide +kernel⟩
def sp_law (K : PySem.W.Frag) : Sp := fun vs H Q _ => ∃ (a : Addr) (ns : List Int), vs = [.ref a] ∧ SqL K H a (ns.map V.int) ∧ ns.length ≤ 63 ∧ ∀ H', Q (.bl true) H'
section
variable {P : Program} {w : World} {K : PySem.W.Frag} {mg : Str → Option Value} {base : Heap}
theorem ok_law {f : Addr} {fd : FuncData} (F : Fun K "law" "law" s_law f fd) (M : Md K mg) (c_written : Cal P w K mg base 3 "written" (sp_written K) []) (c_lengths : Cal P w K mg base 3 "lengths" (sp_lengths K) []) (c_folds : Cal P w K mg base 2 "folds" (sp_folds K) []) (c_xlawcellat : Cal P w K mg base 1 "_law_cell_at" (sp_xlawcellat K) []) (c_xlawisprime : Cal P w K mg base 1 "_law_is_prime" (sp_xlawisprime K) []) : FnOk P w K mg base CX0 4 f fd ["script"] (sp_law K) := by
  refine F.ok sc_law (fun vs H Q E h => ?_) (fun cdv A outer s H vs Q E hr h => ?_)
  · obtain ⟨a, ns, rfl, hS, hlen, q⟩ := h
    rfl
  · have hu := hu_of hr
    obtain ⟨a, ns, rfl, hS, hlen, q⟩ := h
    obtain ⟨b, hb, hb1, hb2⟩ : ∃ b : Nat, 2 + cl ns 0 % 35 = (b : Int) ∧ 2 ≤ b ∧ b ≤ 36 := ⟨(2 + cl ns 0 % 35).toNat, by omega, by omega, by omega⟩
    obtain ⟨T, hT, hT2⟩ : ∃ T : Nat, cl ns 3 % 1000000000000 = (T : Int) ∧ T < 1000000000000 := ⟨(cl ns 3 % 1000000000000).toNat, by omega, by omega⟩
    have e12 : (10 : Int) ^ (12 : Int).toNat = 1000000000000 := by decide
    refine ⟨_, (Evl.pss_cut (ps_set (i := 1) sc_law.nd rfl (.inl rfl) (pe_op op_add pe_int (pe_op op_mod (pe_c c_xlawcellat hr (by decide) (by rfl) (pa_cons (pv 0) (pa_cons pe_int pa_nil))) pe_int)))
      (pss_cons (ps_set (i := 2) sc_law.nd rfl (.inl rfl) (pe_op op_add pe_int (pe_op op_mod (pe_c c_xlawcellat hr (by decide) (by rfl) (pa_cons (pv 0) (pa_cons pe_int pa_nil))) pe_int)))
      (Evl.pss_cut (ps_if (pt_cmpR op_eq (pe_op op_mod (pe_c c_xlawcellat hr (by decide) (by rfl) (pa_cons (pv 0) (pa_cons pe_int pa_nil))) pe_int) pe_int (nomark _))
        (pss_one (ps_set (i := 2) sc_law.nd rfl (.inl rfl) (pe_op op_add pe_int (pe_op op_mod (pe_c c_xlawcellat hr (by decide) (by rfl) (pa_cons (pv 0) (pa_cons pe_int pa_nil))) pe_int)))) pss_nil)
      (Evl.pss_cut (ps_while PassesOwn.never (pt_not (pt_val (pe_c c_xlawisprime hr (by decide) (by rfl) (pa_cons (pv 2) pa_nil))))
        (pss_one (ps_set (i := 2) sc_law.nd rfl (.inl rfl) (pe_op op_add (pv 2) pe_int))))
      (pss_cons (ps_set (i := 3) sc_law.nd rfl (.inl rfl) (pe_op op_mod (pe_c c_xlawcellat hr (by decide) (by rfl) (pa_cons (pv 0) (pa_cons pe_int pa_nil))) (pe_op op_pow pe_int pe_int)))
      (Evl.pss_cut (ps_if (pt_cmpR op_eq (pe_op op_mod (pv 3) (pv 2)) pe_int (nomark _))
        (pss_one (ps_set (i := 3) sc_law.nd rfl (.inl rfl) (pe_op op_add (pv 3) pe_int))) pss_nil)
      (pss_cons (ps_asg (pe_c c_written hr (by decide) (by rfl) (pa_cons (pv 1) (pa_cons (pv 3) (pa_cons (pv 2) pa_nil)))) (pg_tup rfl (pgs_cons (pg_name (i := 4) sc_law.nd rfl (.inl rfl)) (pgs_cons (pg_name (i := 5) sc_law.nd rfl (.inl rfl)) (pgs_cons (pg_name (i := 6) sc_law.nd rfl (.inl rfl)) pgs_nil)))))
      (pss_cons (ps_if (PW.pt (pw_or (pt_cmpR op_ne (pv 4) (pe_op op_fdivP (pv 3) (pv 2)) (nomark _)) (pw_or1 (pt_cmpR (op_neD hr.units) (pe_c c_lengths hr (by decide) (by rfl) (pa_cons (pv 1) (pa_cons (pv 2) pa_nil))) (pe_tup (pa_cons (pe_callB call_len_seq (by rfl) M.m_len PySem.boot_len (pa_cons (pv 5) pa_nil)) (pa_cons (pe_callB call_len_seq (by rfl) M.m_len PySem.boot_len (pa_cons (pv 6) pa_nil)) pa_nil))) (nomark _)))))
        (pss_one (ps_ret pe_bl)) pss_nil)
      (pss_cons (ps_if (pt_cmpR op_eq (pe_op op_mod (pv 1) (pv 2)) pe_int (nomark _))
        (pss_one (ps_ret (pe_and (pe_cmpR op_eq (pe_callB call_len_seq (by rfl) M.m_len PySem.boot_len (pa_cons (pv 5) pa_nil)) pe_int (nomark _)) (pe_and (pe_cmpR (op_eqD hr.units) (pv 6) (pe_lst pa_nil) (nomark _)) (pe_one (pe_cmpR op_isBl (pe_c c_folds hr (by decide) (by rfl) (pa_cons (pv 1) (pa_cons (pe_callTy call_list_of (by rfl) M.m_list (by decide +kernel) (pa_cons (pv 6) pa_nil)) pa_nil))) pe_bl (nomark _))))))) pss_nil)
      (pss_cons (ps_if (PW.pt (pw_or (pt_cmpR (op_neD hr.units) (pv 5) (pe_lst pa_nil) (nomark _)) (pw_or (pt_cmpR (op_eqD hr.units) (pv 6) (pe_lst pa_nil) (nomark _)) (pw_or1 (pt_cmpR op_ne (pe_op op_mod (pe_op op_sub (pv 2) pe_int) (pe_callB call_len_seq (by rfl) M.m_len PySem.boot_len (pa_cons (pv 6) pa_nil))) pe_int (nomark _))))))
        (pss_one (ps_ret pe_bl)) pss_nil)
      (pss_cons (ps_if (pt_cmpR op_eq (pe_op op_mod (pe_callB call_len_seq (by rfl) M.m_len PySem.boot_len (pa_cons (pv 6) pa_nil)) pe_int) pe_int (nomark _))
        (pss_one (ps_ret (pe_cmpR op_isBl (pe_c c_folds hr (by decide) (by rfl) (pa_cons (pv 1) (pa_cons (pe_callTy call_list_of (by rfl) M.m_list (by decide +kernel) (pa_cons (pv 6) pa_nil)) pa_nil))) pe_bl (nomark _)))) pss_nil)
      (pss_cons (ps_set (i := 7) sc_law.nd rfl (.inl rfl) (pe_op op_fdivP (pe_callB call_len_seq (by rfl) M.m_len PySem.boot_len (pa_cons (pv 6) pa_nil)) pe_int))
      (Evl.pss_cut (ps_for PassesOwn.never rfl (pi_range1 (by rfl) M.m_range (pa_cons (pv 7) pa_nil)) (pg_name (i := 8) sc_law.nd rfl (.inl rfl))
        (pss_one (ps_if (pt_cmpR op_ne (pe_op op_add (pe_ix ix_list (pv 6) (pv 8) (fun _ _ => rfl)) (pe_ix ix_list (pv 6) (pe_op op_add (pv 8) (pv 7)) (fun _ _ => rfl))) (pe_op op_sub (pv 1) pe_int) (nomark _))
        (pss_one (ps_ret pe_bl)) pss_nil)))
      (pss_one (ps_ret (pe_cmpR op_isBl (pe_c c_folds hr (by decide) (by rfl) (pa_cons (pv 1) (pa_cons (pe_callTy call_list_of (by rfl) M.m_list (by decide +kernel) (pa_cons (pv 6) pa_nil)) pa_nil))) pe_bl (nomark _))))))))))))))))), ?_⟩
    refine ⟨fun σ H' => H = H' ∧ σ = [some (.ref a), some (.int (b : Int)), none, none, none, none, none, none, none], ?_, fun σ H' hM => ?_⟩
    · walk_at "st"
      rw [← hb]; rfl
    obtain ⟨rfl, rfl⟩ := hM
    walk_at "st"
    refine ⟨fun σ H' => H = H' ∧ ∃ p : Nat, 2 ≤ p ∧ p ≤ 1987 ∧ σ = [some (.ref a), some (.int (b : Int)), some (.int (p : Int)), none, none, none, none, none, none], ?_, fun σ H' hM => ?_⟩
    · walk_at "st"
      refine iteE (fun c => ?_) (fun c => ?_)
      · walk_at "st"
        exact ⟨(2 + cl ns 1 % 40).toNat, by omega, by omega, by rw [Int.toNat_of_nonneg (by omega)]; rfl⟩
      · exact ⟨rfl, (2 + cl ns 1 % 1985).toNat, by omega, by omega, by rw [Int.toNat_of_nonneg (by omega)]; rfl⟩
    obtain ⟨rfl, p0, p1, p2, rfl⟩ := hM
    refine ⟨fun σ H' => H = H' ∧ ∃ p : Nat, Pr p ∧ p ≤ 1987 ∧ σ = [some (.ref a), some (.int (b : Int)), some (.int (p : Int)), none, none, none, none, none, none], ?_, fun σ H' hM => ?_⟩
    · refine ⟨fun μ σ H' => ∃ p : Nat, 2 ≤ p ∧ p ≤ 1987 ∧ μ = 1987 - p ∧ H = H' ∧ σ = [some (.ref a), some (.int (b : Int)), some (.int (p : Int)), none, none, none, none, none, none], ⟨_, p0, p1, p2, rfl, rfl, rfl⟩, fun μ σ H' hW => ?_⟩
      clear p1 p2 p0
      obtain ⟨p, p1, p2, rfl, rfl, rfl⟩ := hW
      walk_at "st"
      refine go_xlawisprime p rfl (by omega) (fun v hv => ?_)
      walk_at "st"
      cases v
      · have hnp : ¬ Pr p := fun z => by have := hv.mpr z; cases this
        have hlt : p < 1987 := by
          rcases Nat.lt_or_ge p 1987 with z | z
          · exact z
          · exact absurd (by rw [show p = 1987 by omega]; exact pr_1987) hnp
        refine ⟨fun σ2 H2 => H = H2 ∧ σ2 = [some (.ref a), some (.int (b : Int)), some (.int ((p + 1 : Nat) : Int)), none, none, none, none, none, none], fun σ2 H2 ⟨e1, e2⟩ => ⟨1987 - (p + 1), by omega, p + 1, by omega, by omega, rfl, e1, e2⟩, ?_⟩
        walk_at "st"
        rfl
      · exact ⟨rfl, p, hv.mp rfl, p2, rfl⟩
    clear p1 p2 p0
    obtain ⟨rfl, p, hp, p2, rfl⟩ := hM
    have p1 := hp.1
    walk_at "st"
    refine ⟨fun σ H' => H = H' ∧ ∃ t : Nat, t ≤ 1000000000000 ∧ t % p ≠ 0 ∧ σ = [some (.ref a), some (.int (b : Int)), some (.int (p : Int)), some (.int (t : Int)), none, none, none, none, none], ?_, fun σ H' hM => ?_⟩
    · walk_at "st"
      rw [e12]
      refine iteE (fun c => ?_) (fun c => ?_)
      · have c' : T % p = 0 := by
          have : ((T : Int)) % (p : Int) = 0 := by rw [← hT]; exact c
          exact_mod_cast this
        walk_at "st"
        refine ⟨T + 1, by omega, ?_, ?_⟩
        · rw [Nat.add_mod, c', Nat.zero_add, Nat.mod_mod, Nat.mod_eq_of_lt (by omega)]
          decide
        · show [some (V.ref a), some (V.int (b : Int)), some (V.int (p : Int)), some (V.int (cl ns 3 % 1000000000000 + 1)), none, none, none, none, none] = _
          rw [hT]
          rfl
      · have c' : T % p ≠ 0 := fun z => c (by
          show cl ns 3 % 1000000000000 % (p : Int) = 0
          rw [hT]
          exact_mod_cast z)
        refine ⟨rfl, T, by omega, c', ?_⟩
        show [some (V.ref a), some (V.int (b : Int)), some (V.int (p : Int)), some (V.int (cl ns 3 % 1000000000000)), none, none, none, none, none] = _
        rw [hT]
    clear hT hT2 T
    obtain ⟨rfl, t, ht, htp, rfl⟩ := hM
    obtain ⟨s, l, _, _, hL⟩ := lenAt_exists (b := b) (m := p) (by omega) (by omega)
    have hco : Nat.Coprime (t % p) p := by
      show Nat.gcd (t % p) p = 1
      rw [Nat.gcd_comm]
      exact hp.co (by rw [Nat.mod_mod]; exact htp)
    have hd : DivAt b p (t % p) s l := hL.div (by omega) (by omega) hco
    have hsl := hd.le (by omega)
    walk_at "st"
    refine go_written b t p s l rfl rfl rfl hb1 hb2 ht (by omega) (by omega) hd (fun H1 p1 a1 r1 w1 => ?_)
    have h1t := w1.at'.tp
    have h1a := w1.at'.la
    have h1r := w1.at'.lr
    walk_at "st"
    refine iteDn (c := V.int ((t / p : Nat) : Int) = V.int ((t : Int) / (p : Int))) (fun c => absurd rfl c) (fun _ => ?_)
    walk_at "st"
    refine go_lengths b p s l rfl rfl hb1 hb2 (by omega) (by omega) hL (fun p2 np2 => ?_)
    have s2 := same_upd (o := .tup [V.int (s : Int), V.int (l : Int)]) np2
    have t2 := upd_same (H := H1) (a := p2) (o := .tup [V.int (s : Int), V.int (l : Int)])
    have h2a := s2 _ _ h1a
    have h2r := s2 _ _ h1r
    have s02 := w1.same.trans s2
    generalize upd H1 p2 (.tup [V.int (s : Int), V.int (l : Int)]) = H2 at *
    walk_at "st"
    simp only [List.length_map, dgs_len]
    intro p3 np3
    have s3 := same_upd (o := .tup [V.int (s : Int), V.int (l : Int)]) np3
    have t3 := upd_same (H := H2) (a := p3) (o := .tup [V.int (s : Int), V.int (l : Int)])
    have t23 := s3 _ _ t2
    have h3a := s3 _ _ h2a
    have h3r := s3 _ _ h2r
    have s03 := s02.trans s3
    generalize upd H2 p3 (.tup [V.int (s : Int), V.int (l : Int)]) = H3 at *
    refine ⟨dP _ _, dP _ _, dp_dP t23, dp_dP t3, shaped_dP _ _, shaped_dP _ _, ?_⟩
    rw [eqv_dP, decide_eq_true ⟨rfl, rfl⟩]
    walk_at "st"
    refine iteE (fun c => ?_) (fun c => ?_)
    · have hbp : b % p = 0 := by exact_mod_cast c
      obtain ⟨es, el⟩ := prime_in hp hbp hL
      subst es el
      walk_at "st"
      intro z4 n4
      have s4 := same_upd (o := .lst []) n4
      have t4 := upd_same (H := H3) (a := z4) (o := .lst [])
      have h4r := s4 _ _ h3r
      generalize upd H3 z4 (.lst []) = H4 at *
      have er : dgs b p (t % p) 1 0 = [] := rfl
      have w1r : (Wr.mk ((t / p : Nat) : Int) (dgs b p (t % p) 0 1) (dgs b p (t % p) 1 0)).r = [] := rfl
      refine ⟨dI [], dI [], dp_dI (sql h4r), dp_dI (sql t4), shaped_dI _, shaped_dI _, ?_⟩
      rw [eqv_dI, decide_eq_true rfl]
      walk_at "st"
      intro p5 n5
      have s5 := same_upd (o := .lst []) n5
      have t5 := upd_same (H := H4) (a := p5) (o := .lst [])
      refine go_folds (b := (b : Int)) (ns := []) (by omega) (by omega) (sql t5) (by decide) figs_nil (fun H6 s6 => ?_)
      rw [show flB (b : Int) [] = false from rfl]
      walk_at "st"
      exact q _
    · have hbp : b % p ≠ 0 := fun z => c (by exact_mod_cast z)
      obtain ⟨es, hl, hpl, ho1, homin⟩ := prime_len hp (by omega) (by omega) (by omega) hbp hL
      subst es
      have eR : ∀ k, k < l → (dgs b p (t % p) 0 l)[k]? = some ((dg b p (t % p) k : Nat) : Int) := fun k hk => by rw [dgs_get _ _ _ _ _ _ hk, Nat.zero_add]
      have lR : (dgs b p (t % p) 0 l).length = l := dgs_len ..
      have fR : Figs (b : Int) (dgs b p (t % p) 0 l) := dgs_ok (by omega) (by omega)
      walk_at "st"
      intro z4 n4
      have s4 := same_upd (o := .lst []) n4
      have t4 := upd_same (H := H3) (a := z4) (o := .lst [])
      have h4a := s4 _ _ h3a
      have h4r := s4 _ _ h3r
      have s04 := s03.trans s4
      generalize upd H3 z4 (.lst []) = H4 at *
      refine ⟨dI [], dI [], dp_dI (sql h4a), dp_dI (sql t4), shaped_dI _, shaped_dI _, ?_⟩
      rw [eqv_dI, decide_eq_true rfl]
      walk_at "st"
      intro z5 n5
      have s5 := same_upd (o := .lst []) n5
      have t5 := upd_same (H := H4) (a := z5) (o := .lst [])
      have h5r := s5 _ _ h4r
      have s05 := s04.trans s5
      generalize upd H4 z5 (.lst []) = H5 at *
      obtain ⟨R, hR⟩ : ∃ R, R = dgs b p (t % p) 0 l := ⟨_, rfl⟩
      have h5R : H5 r1 = some (.lst (R.map V.int)) := by rw [hR]; exact h5r
      rw [← hR] at eR lR fR
      clear h5r
      refine ⟨dI R, dI [], dp_dI (sql h5R), dp_dI (sql t5), shaped_dI _, shaped_dI _, ?_⟩
      rw [eqv_dI, decide_eq_false (fun z => by rw [z] at lR; simp at lR; omega)]
      walk_at "st"
      refine ⟨by show (0 : Int) < _; rw [List.length_map, lR]; omega, ?_⟩
      have em : ((p : Int) - 1) % ((R.map V.int).length : Int) = 0 := by
        rw [List.length_map, lR, show (p : Int) - 1 = ((p - 1 : Nat) : Int) by omega]
        exact_mod_cast hpl
      walk_at "st"
      refine iteDn (c := V.int (((p : Int) - 1) % ((R.map V.int).length : Int)) = V.int 0) (fun z => absurd (by rw [em]) z) (fun _ => ?_)
      walk_at "st"
      simp only [List.length_map, lR]
      refine iteE (fun c2 => ?_) (fun c2 => ?_)
      · walk_at "st"
        intro p6 n6
        have t6 := upd_same (H := H5) (a := p6) (o := .lst (R.map V.int))
        refine go_folds (b := (b : Int)) (ns := R) (by omega) (by omega) (sql t6) (by omega) fR (fun H7 s7 => ?_)
        have efl : flB (b : Int) R = false := decide_eq_false (fun z => by have := z.1; rw [lR] at this; omega)
        rw [efl]
        walk_at "st"
        exact q _
      · have hev : l % 2 = 0 := by omega
        walk_at "st"
        have el2 : ((R.map V.int).length : Int) / 2 = ((l / 2 : Nat) : Int) := by rw [List.length_map, lR]; rfl
        refine ⟨fun σ H' => Same H5 H' ∧ ∃ y, σ = [some (.ref a), some (.int (b : Int)), some (.int (p : Int)), some (.int (t : Int)), some (.int ((t / p : Nat) : Int)), some (.ref a1), some (.ref r1), some (.int ((l / 2 : Nat) : Int)), y], ?_, fun σ H' hM => ?_⟩
        · walk_at "st"
          rw [el2, Int.toNat_natCast]
          refine ⟨by omega, by omega, ?_⟩
          refine for_range (D := { nx := fun σ H' => Same H5 H' ∧ ∃ y, σ = [some (.ref a), some (.int (b : Int)), some (.int (p : Int)), some (.int (t : Int)), some (.int ((t / p : Nat) : Int)), some (.ref a1), some (.ref r1), some (.int ((l / 2 : Nat) : Int)), y], rt := Q }) (lo := 0) (n := l / 2) (fun i σ H' => H5 = H' ∧ ∃ y, σ = [some (.ref a), some (.int (b : Int)), some (.int (p : Int)), some (.int (t : Int)), some (.int ((t / p : Nat) : Int)), some (.ref a1), some (.ref r1), some (.int ((l / 2 : Nat) : Int)), y]) ?_ ?_ ?_
          · exact ⟨rfl, _, by rw [← el2]; rfl⟩
          · intro i σ H1' hi hv
            obtain ⟨rfl, y, rfl⟩ := hv
            walk_at "st"
            refine ⟨r1, _, _, _, rfl, rfl, sql h5R, atI_of (j := i) (by omega) (map_get (eR i (by omega))), ?_⟩
            walk_at "st"
            refine ⟨r1, _, _, _, rfl, rfl, sql h5R, atI_of (j := i + l / 2) (by omega) (map_get (eR (i + l / 2) (by omega))), ?_⟩
            walk_at "st"
            have hf := half_figs (r := t % p) (k := i) hp (by omega) hbp (by rw [Nat.mod_mod]; exact htp) hl hev ho1 homin
            refine iteEn (fun z => absurd ?_ z) (fun _ => ?_)
            · rw [← Int.natCast_add, hf, Int.natCast_sub (by omega)]; rfl
            · walk_at "st"
              exact ⟨_, rfl⟩
          · intro σ H1' hv
            obtain ⟨rfl, y, rfl⟩ := hv
            exact ⟨Same.refl _, y, rfl⟩
        obtain ⟨s6, y6, rfl⟩ := hM
        have h6R := s6 _ _ h5R
        walk_at "st"
        intro p6 n6
        have t6 := upd_same (H := H') (a := p6) (o := .lst (R.map V.int))
        refine go_folds (b := (b : Int)) (ns := R) (by omega) (by omega) (sql t6) (by omega) fR (fun H7 s7 => ?_)
        have efl : flB (b : Int) R = true := decide_eq_true (by
          refine ⟨by omega, by omega, ?_⟩
          rw [lR]
          apply List.ext_getElem?
          intro k
          by_cases hk : k < l / 2
          · have hf := half_figs (r := t % p) (k := k) hp (by omega) hbp (by rw [Nat.mod_mod]; exact htp) hl hev ho1 homin
            rw [List.getElem?_take_of_lt hk, List.getElem?_map, List.getElem?_drop, eR k (by omega), eR (l / 2 + k) (by omega), Nat.add_comm (l / 2)]
            show some ((dg b p (t % p) k : Nat) : Int) = some ((b : Int) - 1 - ((dg b p (t % p) (k + l / 2) : Nat) : Int))
            congr 1
            omega
          · rw [List.getElem?_eq_none (by rw [List.length_take]; omega), List.getElem?_eq_none (by rw [List.length_map, List.length_drop]; omega)])
        rw [efl]
        walk_at "st"
        exact q _
end
/-! ### the end -/
theorem all_mk {l : PySem.W.OpenLaw} {w : World} {K : PySem.W.Frag} {h : Heap} {mg : Str → Option Value} {fa : Addr} (X : K.In h) (G : h.Ns mainGlobals mg) (hfa : mg "law" = some (.ref fa))
    {f0 : Addr} {od0 an0 : Option Addr} {sl0 : Array (Option Value)} {oc0 kV0 dc0 pm0 cd0 ct0 : Value}
    (a0 : PySem.W.nsIn K mainGlobals "asked_base" = some (some (.ref f0)))
    (l0 : K.lookup f0 = some ⟨oc0, od0, .func (PySem.W.fnOf "asked_base" "asked_base" (defArgs s_askedbase) (defBody s_askedbase) (defScope s_askedbase) .none kV0 dc0 pm0 an0 cd0 ct0), sl0⟩)
    (e0 : PySem.W.codeIn K cd0 "asked_base" = true) (k0 : PySem.W.keepIn K (.ref f0) = true)
    {f1 : Addr} {od1 an1 : Option Addr} {sl1 : Array (Option Value)} {oc1 kV1 dc1 pm1 cd1 ct1 : Value}
    (a1 : PySem.W.nsIn K mainGlobals "asked_fraction" = some (some (.ref f1)))
    (l1 : K.lookup f1 = some ⟨oc1, od1, .func (PySem.W.fnOf "asked_fraction" "asked_fraction" (defArgs s_askedfraction) (defBody s_askedfraction) (defScope s_askedfraction) .none kV1 dc1 pm1 an1 cd1 ct1), sl1⟩)
    (e1 : PySem.W.codeIn K cd1 "asked_fraction" = true) (k1 : PySem.W.keepIn K (.ref f1) = true)
    {f2 : Addr} {od2 an2 : Option Addr} {sl2 : Array (Option Value)} {oc2 kV2 dc2 pm2 cd2 ct2 : Value}
    (a2 : PySem.W.nsIn K mainGlobals "asked_figures" = some (some (.ref f2)))
    (l2 : K.lookup f2 = some ⟨oc2, od2, .func (PySem.W.fnOf "asked_figures" "asked_figures" (defArgs s_askedfigures) (defBody s_askedfigures) (defScope s_askedfigures) .none kV2 dc2 pm2 an2 cd2 ct2), sl2⟩)
    (e2 : PySem.W.codeIn K cd2 "asked_figures" = true) (k2 : PySem.W.keepIn K (.ref f2) = true)
    {f3 : Addr} {od3 an3 : Option Addr} {sl3 : Array (Option Value)} {oc3 kV3 dc3 pm3 cd3 ct3 : Value}
    (a3 : PySem.W.nsIn K mainGlobals "common" = some (some (.ref f3)))
    (l3 : K.lookup f3 = some ⟨oc3, od3, .func (PySem.W.fnOf "common" "common" (defArgs s_common) (defBody s_common) (defScope s_common) .none kV3 dc3 pm3 an3 cd3 ct3), sl3⟩)
    (e3 : PySem.W.codeIn K cd3 "common" = true) (k3 : PySem.W.keepIn K (.ref f3) = true)
    {f4 : Addr} {od4 an4 : Option Addr} {sl4 : Array (Option Value)} {oc4 kV4 dc4 pm4 cd4 ct4 : Value}
    (a4 : PySem.W.nsIn K mainGlobals "divided" = some (some (.ref f4)))
    (l4 : K.lookup f4 = some ⟨oc4, od4, .func (PySem.W.fnOf "divided" "divided" (defArgs s_divided) (defBody s_divided) (defScope s_divided) .none kV4 dc4 pm4 an4 cd4 ct4), sl4⟩)
    (e4 : PySem.W.codeIn K cd4 "divided" = true) (k4 : PySem.W.keepIn K (.ref f4) = true)
    {f5 : Addr} {od5 an5 : Option Addr} {sl5 : Array (Option Value)} {oc5 kV5 dc5 pm5 cd5 ct5 : Value}
    (a5 : PySem.W.nsIn K mainGlobals "written" = some (some (.ref f5)))
    (l5 : K.lookup f5 = some ⟨oc5, od5, .func (PySem.W.fnOf "written" "written" (defArgs s_written) (defBody s_written) (defScope s_written) .none kV5 dc5 pm5 an5 cd5 ct5), sl5⟩)
    (e5 : PySem.W.codeIn K cd5 "written" = true) (k5 : PySem.W.keepIn K (.ref f5) = true)
    {f6 : Addr} {od6 an6 : Option Addr} {sl6 : Array (Option Value)} {oc6 kV6 dc6 pm6 cd6 ct6 : Value}
    (a6 : PySem.W.nsIn K mainGlobals "lengths" = some (some (.ref f6)))
    (l6 : K.lookup f6 = some ⟨oc6, od6, .func (PySem.W.fnOf "lengths" "lengths" (defArgs s_lengths) (defBody s_lengths) (defScope s_lengths) .none kV6 dc6 pm6 an6 cd6 ct6), sl6⟩)
    (e6 : PySem.W.codeIn K cd6 "lengths" = true) (k6 : PySem.W.keepIn K (.ref f6) = true)
    {f7 : Addr} {od7 an7 : Option Addr} {sl7 : Array (Option Value)} {oc7 kV7 dc7 pm7 cd7 ct7 : Value}
    (a7 : PySem.W.nsIn K mainGlobals "folds" = some (some (.ref f7)))
    (l7 : K.lookup f7 = some ⟨oc7, od7, .func (PySem.W.fnOf "folds" "folds" (defArgs s_folds) (defBody s_folds) (defScope s_folds) .none kV7 dc7 pm7 an7 cd7 ct7), sl7⟩)
    (e7 : PySem.W.codeIn K cd7 "folds" = true) (k7 : PySem.W.keepIn K (.ref f7) = true)
    {f8 : Addr} {od8 an8 : Option Addr} {sl8 : Array (Option Value)} {oc8 kV8 dc8 pm8 cd8 ct8 : Value}
    (a8 : PySem.W.nsIn K mainGlobals "_law_cell_at" = some (some (.ref f8)))
    (l8 : K.lookup f8 = some ⟨oc8, od8, .func (PySem.W.fnOf "_law_cell_at" "_law_cell_at" (defArgs s_xlawcellat) (defBody s_xlawcellat) (defScope s_xlawcellat) .none kV8 dc8 pm8 an8 cd8 ct8), sl8⟩)
    (e8 : PySem.W.codeIn K cd8 "_law_cell_at" = true) (k8 : PySem.W.keepIn K (.ref f8) = true)
    {f9 : Addr} {od9 an9 : Option Addr} {sl9 : Array (Option Value)} {oc9 kV9 dc9 pm9 cd9 ct9 : Value}
    (a9 : PySem.W.nsIn K mainGlobals "_law_is_prime" = some (some (.ref f9)))
    (l9 : K.lookup f9 = some ⟨oc9, od9, .func (PySem.W.fnOf "_law_is_prime" "_law_is_prime" (defArgs s_xlawisprime) (defBody s_xlawisprime) (defScope s_xlawisprime) .none kV9 dc9 pm9 an9 cd9 ct9), sl9⟩)
    (e9 : PySem.W.codeIn K cd9 "_law_is_prime" = true) (k9 : PySem.W.keepIn K (.ref f9) = true)
    {f10 : Addr} {od10 an10 : Option Addr} {sl10 : Array (Option Value)} {oc10 kV10 dc10 pm10 cd10 ct10 : Value}
    (a10 : PySem.W.nsIn K mainGlobals "law" = some (some (.ref f10)))
    (l10 : K.lookup f10 = some ⟨oc10, od10, .func (PySem.W.fnOf "law" "law" (defArgs s_law) (defBody s_law) (defScope s_law) .none kV10 dc10 pm10 an10 cd10 ct10), sl10⟩)
    (e10 : PySem.W.codeIn K cd10 "law" = true) (k10 : PySem.W.keepIn K (.ref f10) = true)
    (z0 : PySem.W.nsIn K mainGlobals "len" = some none)
    (z1 : PySem.W.nsIn K mainGlobals "all" = some none)
    (z2 : PySem.W.nsIn K mainGlobals "zip" = some none)
    (z3 : PySem.W.nsIn K mainGlobals "range" = some none)
    (z4 : PySem.W.nsIn K mainGlobals "list" = some none)
    {tk0 : Tok} (y0 : PySem.W.nsIn K mainGlobals "GREATEST" = some (some (.int 1000000000000 tk0)))
    {tk1 : Tok} (y1 : PySem.W.nsIn K mainGlobals "MOST_BOTTOM" = some (some (.int 2000 tk1)))
    {tk2 : Tok} (y2 : PySem.W.nsIn K mainGlobals "MOST_FIGURES" = some (some (.int 4000 tk2)))
    : ∃ fd : FuncData, (∀ (s : Shared) (v : Value), BindsTo s fd ⟨[v], []⟩ [("script", v)]) ∧ ∀ base : Heap, K.In base → base.Ns mainGlobals mg → FnOk l.prog w K mg base CX0 4 fa fd ["script"] (sp_law K) := by
  have e := hfa.symm.trans (PySem.W.mg_of X G a10)
  cases e
  have M : Md K mg := ⟨PySem.W.mg_none_of X G z0, PySem.W.mg_none_of X G z1, PySem.W.mg_none_of X G z2, PySem.W.mg_none_of X G z3, PySem.W.mg_none_of X G z4, ⟨_, PySem.W.mg_of X G y0, ⟨_, rfl⟩⟩, ⟨_, PySem.W.mg_of X G y1, ⟨_, rfl⟩⟩, ⟨_, PySem.W.mg_of X G y2, ⟨_, rfl⟩⟩⟩
  have F0 := fun_mk (st := s_askedbase) l0 e0 k0
  have b0 := F0.binds (ps := ["base"]) fun _ _ _ _ _ _ us hl => match us, hl with | [_], _ => rfl
  have F1 := fun_mk (st := s_askedfraction) l1 e1 k1
  have b1 := F1.binds (ps := ["base", "top", "bottom"]) fun _ _ _ _ _ _ us hl => match us, hl with | [_, _, _], _ => rfl
  have F2 := fun_mk (st := s_askedfigures) l2 e2 k2
  have b2 := F2.binds (ps := ["base", "figures"]) fun _ _ _ _ _ _ us hl => match us, hl with | [_, _], _ => rfl
  have F3 := fun_mk (st := s_common) l3 e3 k3
  have b3 := F3.binds (ps := ["one", "other"]) fun _ _ _ _ _ _ us hl => match us, hl with | [_, _], _ => rfl
  have F4 := fun_mk (st := s_divided) l4 e4 k4
  have b4 := F4.binds (ps := ["base", "top", "bottom"]) fun _ _ _ _ _ _ us hl => match us, hl with | [_, _, _], _ => rfl
  have F5 := fun_mk (st := s_written) l5 e5 k5
  have b5 := F5.binds (ps := ["base", "top", "bottom"]) fun _ _ _ _ _ _ us hl => match us, hl with | [_, _, _], _ => rfl
  have F6 := fun_mk (st := s_lengths) l6 e6 k6
  have b6 := F6.binds (ps := ["base", "bottom"]) fun _ _ _ _ _ _ us hl => match us, hl with | [_, _], _ => rfl
  have F7 := fun_mk (st := s_folds) l7 e7 k7
  have b7 := F7.binds (ps := ["base", "ring"]) fun _ _ _ _ _ _ us hl => match us, hl with | [_, _], _ => rfl
  have F8 := fun_mk (st := s_xlawcellat) l8 e8 k8
  have b8 := F8.binds (ps := ["script", "k"]) fun _ _ _ _ _ _ us hl => match us, hl with | [_, _], _ => rfl
  have F9 := fun_mk (st := s_xlawisprime) l9 e9 k9
  have b9 := F9.binds (ps := ["number"]) fun _ _ _ _ _ _ us hl => match us, hl with | [_], _ => rfl
  have F10 := fun_mk (st := s_law) l10 e10 k10
  refine ⟨PySem.W.fnOf "law" "law" (defArgs s_law) (defBody s_law) (defScope s_law) .none kV10 dc10 pm10 an10 cd10 ct10, fun s v => .of_eq rfl, fun base _ _ => ?_⟩
  have c_askedbase : Cal l.prog w K mg base 1 "asked_base" (sp_askedbase K) [] := ⟨f0, _, _, [], ok_askedbase F0 M , PySem.W.mg_of X G a0, k0, b0, .nil⟩
  have c_askedfraction : Cal l.prog w K mg base 2 "asked_fraction" (sp_askedfraction K) [] := ⟨f1, _, _, [], ok_askedfraction F1 M c_askedbase, PySem.W.mg_of X G a1, k1, b1, .nil⟩
  have c_askedfigures : Cal l.prog w K mg base 1 "asked_figures" (sp_askedfigures K) [] := ⟨f2, _, _, [], ok_askedfigures F2 M , PySem.W.mg_of X G a2, k2, b2, .nil⟩
  have c_common : Cal l.prog w K mg base 1 "common" (sp_common K) [] := ⟨f3, _, _, [], ok_common F3 M , PySem.W.mg_of X G a3, k3, b3, .nil⟩
  have c_divided : Cal l.prog w K mg base 1 "divided" (sp_divided K) [] := ⟨f4, _, _, [], ok_divided F4 M , PySem.W.mg_of X G a4, k4, b4, .nil⟩
  have c_written : Cal l.prog w K mg base 3 "written" (sp_written K) [] := ⟨f5, _, _, [], ok_written F5 M c_askedfraction c_divided, PySem.W.mg_of X G a5, k5, b5, .nil⟩
  have c_lengths : Cal l.prog w K mg base 3 "lengths" (sp_lengths K) [] := ⟨f6, _, _, [], ok_lengths F6 M c_askedfraction c_common, PySem.W.mg_of X G a6, k6, b6, .nil⟩
  have c_folds : Cal l.prog w K mg base 2 "folds" (sp_folds K) [] := ⟨f7, _, _, [], ok_folds F7 M c_askedbase c_askedfigures, PySem.W.mg_of X G a7, k7, b7, .nil⟩
  have c_xlawcellat : Cal l.prog w K mg base 1 "_law_cell_at" (sp_xlawcellat K) [] := ⟨f8, _, _, [], ok_xlawcellat F8 M , PySem.W.mg_of X G a8, k8, b8, .nil⟩
  have c_xlawisprime : Cal l.prog w K mg base 1 "_law_is_prime" (sp_xlawisprime K) [] := ⟨f9, _, _, [], ok_xlawisprime F9 M , PySem.W.mg_of X G a9, k9, b9, .nil⟩
  exact ok_law F10 M c_written c_lengths c_folds c_xlawcellat c_xlawisprime
end Rf
open PySem PySem.W PyProof.Rows
set_option maxHeartbeats 0 in
theorem PySem.Challenge.cw_ringfigures_k11_whole_rings_of_primes_fo_holds : PySem.Challenge.rw_ringfigures_k11_whole_rings_of_primes_fo.Holds := by
  w_on; o_law; k_head; (case hw => w_witness2)
  k_fill
  refine L2.walk_of (l := PySem.Challenge.rw_ringfigures_k11_whole_rings_of_primes_fo) (n := 63) (k := 4) (x := "script") (CX := fun _ => L2.CX0) (sp := fun w => Rf.sp_law _) rfl (by decide) rfl ⟨rfl, by decide, by decide⟩ (fun w h Y => PySem.W.kIn_of Y) ?F (fun _ _ a ns hl _ hS => ⟨a, ns, rfl, hS, hl, fun _ => rfl⟩) (fun _ _ _ _ _ h => h)
  case F =>
    intro w mg fa h KX G hmg
    refine' Rf.all_mk KX G hmg ?a0 ?l0 ?e0 ?k0 ?a1 ?l1 ?e1 ?k1 ?a2 ?l2 ?e2 ?k2 ?a3 ?l3 ?e3 ?k3 ?a4 ?l4 ?e4 ?k4 ?a5 ?l5 ?e5 ?k5 ?a6 ?l6 ?e6 ?k6 ?a7 ?l7 ?e7 ?k7 ?a8 ?l8 ?e8 ?k8 ?a9 ?l9 ?e9 ?k9 ?a10 ?l10 ?e10 ?k10 ?z0 ?z1 ?z2 ?z3 ?z4 ?y0 ?y1 ?y2
    (case a0 => k_is); (case l0 => k_is); (case e0 => k_is); (case k0 => k_is); (case a1 => k_is); (case l1 => k_is); (case e1 => k_is); (case k1 => k_is); (case a2 => k_is); (case l2 => k_is); (case e2 => k_is); (case k2 => k_is); (case a3 => k_is); (case l3 => k_is); (case e3 => k_is); (case k3 => k_is); (case a4 => k_is); (case l4 => k_is); (case e4 => k_is); (case k4 => k_is); (case a5 => k_is); (case l5 => k_is); (case e5 => k_is); (case k5 => k_is); (case a6 => k_is); (case l6 => k_is); (case e6 => k_is); (case k6 => k_is); (case a7 => k_is); (case l7 => k_is); (case e7 => k_is); (case k7 => k_is); (case a8 => k_is); (case l8 => k_is); (case e8 => k_is); (case k8 => k_is); (case a9 => k_is); (case l9 => k_is); (case e9 => k_is); (case k9 => k_is); (case a10 => k_is); (case l10 => k_is); (case e10 => k_is); (case k10 => k_is); (case z0 => k_is); (case z1 => k_is); (case z2 => k_is); (case z3 => k_is); (case z4 => k_is); (case y0 => k_is); (case y1 => k_is); (case y2 => k_is)
