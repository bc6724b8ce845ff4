import PyProof.Rows.All
import Wide.All
import OpenK.AllK
import Wide.FinOn
import PySem.Challenge.RW_ringfigures_k14_texts
import HandS.ForMost
import HandS.ForExc
import HandS.Wide
import HandS.IsInst
import HandS.Codes
import HandS.Style
import HandS.Evl
import HandS.Walk
import HandS.Zip
import HandS.Conv
import KE.KRevIter
import PyProof.ListRange
import HandS.Rev
import HandS.Text
import HandS.Replace
import HandS.NoneIn
set_option Elab.async false
set_option linter.all false
set_option maxRecDepth 100000
set_option maxHeartbeats 4000000
set_option maxRecDepth 100000
set_option maxHeartbeats 4000000
namespace Rf
open PySem PySem.Spec PyProof.Rows L2
/-! ### heaps -/
theorem same_new {H H' : Hp} {p : Addr} {o : HO} (s : Same H H') (h : H p = none) : Same H (upd H' p o) := fun b u e => by
  rw [upd_ne (ne_of_none e h)]
  exact s b u e
theorem same_upd {H : Hp} {p : Addr} {o : HO} (h : H p = none) : Same H (upd H p o) := same_new (Same.refl H) h
theorem ne_new {H : Hp} {d f : Addr} {o : HO} (h : upd H d o f = none) : f ≠ d := fun e => by
  rw [e, upd_same] at h
  cases h
theorem free_upd {H : Hp} {d f : Addr} {o : HO} (h : upd H d o f = none) : H f = none := by
  rw [upd_ne (ne_new h)] at h
  exact h
theorem same_ups {H H' : Hp} {d : Addr} {o : HO} (s : Same H H') (h : H' d = none) : Same H (upd H' d o) := s.trans (same_upd h)
theorem keyne {a b : Nat} (h : a ≠ b) : ¬ ((Sum.inl (a : Int) : Key) = Sum.inl (b : Int)) := fun q => h (by have := Sum.inl.inj q; omega)
theorem sz100 {n : Nat} (h : n ≤ 1000000) : n ≤ sizeLine := Nat.le_trans h (by decide)
theorem sz100lt {n : Nat} (h : n < 1000000) : n < sizeLine := Nat.lt_of_lt_of_le h (by decide)
theorem sqt {K : PySem.W.Frag} {H : Hp} {a : Addr} {xs : List V} (h : H a = some (.tup xs)) : SqT K H a xs := .inl (.inl h)
theorem sql {K : PySem.W.Frag} {H : Hp} {a : Addr} {xs : List V} (h : H a = some (.lst xs)) : SqL K H a xs := .inl (.inl h)
/-! ### floor division by any positive number, where the quotient is not long -/
def CDivP (i j : Int) : Prop := 0 < j ∧ Builtin.divisionGoesByPylong i j = false
theorem op_fdivP {X : Cx} : OpR X (binaryOp .FloorDiv) (rI CDivP fun i j => .int (i / j)) := opI fun i j _ _ _ _ _ hc q => by
  have h1 : (0 : Int) < j := hc.1
  exact floordiv_int (by omega) (by rw [Int.fdiv_eq_ediv_of_nonneg i (by omega)]; exact q) (.inl hc.2)
theorem cdivp_small {i j : Int} (h : 0 < j) (h2 : j < 1073741824) : CDivP i j := ⟨h, PyProof.noPylong_small (by omega)⟩
/-- a divisor that is not long -/
structure Wid (m : Nat) : Prop where
  lt : m.log2 < 9000
theorem cdivp_wide {i : Int} {m : Nat} (h0 : 0 < m) (h : Wid m) : CDivP i (m : Int) := ⟨by omega, PyProof.noPylong_of_log2 (by rw [Int.natAbs_natCast]; exact h.lt)⟩
theorem wid_of {m k : Nat} (h : m < 2 ^ k) (hk : k ≤ 9000) (h0 : 0 < k) : Wid m := ⟨Nat.lt_of_lt_of_le (PySem.Flt.log2_lt_of h0 h) hk⟩
theorem wid_small {m : Nat} (h : m < 1000000) : Wid m := wid_of (k := 30) (Nat.lt_of_lt_of_le h (by decide)) (by decide) (by decide)
theorem op_mulB {X : Cx} : OpR X (binaryOp .Mult) (rI IntMulOk fun i j => .int (i * j)) := opI fun _ _ _ _ _ _ _ hc q => mul_int q hc
theorem mulB_right {i j : Int} (h1 : -(2 ^ 64) < j) (h2 : j < 2 ^ 64) : IntMulOk i j := IntMulOk.of_right (intBits_le_64 (by omega) (by omega))
theorem mulB_left {i j : Int} (h1 : -(2 ^ 64) < i) (h2 : i < 2 ^ 64) : IntMulOk i j := IntMulOk.of_left (intBits_le_64 (by omega) (by omega))
/-! ### slices -/
theorem cut_take (xs : List V) (k : Nat) : cutV xs none (some (k : Int)) = xs.take k := by
  unfold cutV
  rw [HT.sIx_none, HT.sIx_nat, List.drop_zero, Nat.sub_zero, ← List.take_take, List.take_length]
theorem cut_drop (xs : List V) (k : Nat) : cutV xs (some (k : Int)) none = xs.drop k := by
  unfold cutV
  rw [HT.sIx_none, HT.sIx_nat]
  by_cases h : k ≤ xs.length
  · rw [Nat.min_eq_left h]
    exact List.take_of_length_le (by rw [List.length_drop]; exact Nat.le_refl _)
  · rw [Nat.min_eq_right (by omega), List.drop_eq_nil_of_le (Nat.le_refl _), List.drop_eq_nil_of_le (by omega), List.take_nil]
theorem take_map (l : List Int) (k : Nat) : (l.map V.int).take k = (l.take k).map V.int := (List.map_take).symm
theorem drop_map (l : List Int) (k : Nat) : (l.map V.int).drop k = (l.drop k).map V.int := (List.map_drop).symm
/-! ### ints as data -/
def dI (ns : List Int) : PyData := .list (ns.map PyData.int)
theorem eqv_ints : ∀ a b : List Int, PyData.eqvAll (a.map PyData.int) (b.map PyData.int) = decide (a = b)
  | [], [] => rfl
  | [], _ :: _ => rfl
  | _ :: _, [] => rfl
  | x :: a, y :: b => by
    show (PyData.eqv (.int x) (.int y) && PyData.eqvAll (a.map PyData.int) (b.map PyData.int)) = _
    rw [eqv_ints a b]
    show ((x == y) && decide (a = b)) = _
    by_cases h : x = y <;> by_cases h2 : a = b <;> simp [h, h2]
theorem eqv_dI (a b : List Int) : PyData.eqv (dI a) (dI b) = decide (a = b) := by
  unfold dI
  rw [PyData.eqv]
  exact eqv_ints a b
theorem canLay_ints : ∀ a : List Int, PyData.canLayAll0 (a.map PyData.int) = true
  | [] => rfl
  | x :: a => by
    show (PyData.canLay0 (.int x) && PyData.canLayAll0 (a.map PyData.int)) = true
    rw [canLay_ints a]
    rfl
theorem depth_ints : ∀ a : List Int, PyData.depthAll (a.map PyData.int) = 0
  | [] => rfl
  | x :: a => by
    show max (PyData.depth (.int x)) (PyData.depthAll (a.map PyData.int)) = 0
    rw [depth_ints a]
    rfl
theorem shaped_dI (a : List Int) : SeqAt.shaped (dI a) = true := by
  unfold SeqAt.shaped dI
  rw [show PyData.canLay0 (.list (a.map PyData.int)) = PyData.canLayAll0 (a.map PyData.int) from rfl, canLay_ints]
  rw [show PyData.depth (.list (a.map PyData.int)) = PyData.depthAll (a.map PyData.int) + 1 from rfl, depth_ints]
  rfl
theorem dpAll_ints {K : PySem.W.Frag} {H : Hp} : ∀ a : List Int, DpAll K H (a.map V.int) (a.map PyData.int)
  | [] => .nil
  | x :: a => .cons (.int x) (dpAll_ints a)
theorem dp_dI {K : PySem.W.Frag} {H : Hp} {p : Addr} {a : List Int} (h : SqL K H p (a.map V.int)) : Dp K H (.ref p) (dI a) := .lst h (dpAll_ints a)
/-! ### writings -/
/-- a whole number, figures ahead, a ring -/
structure Wr where
  w : Int
  a : List Int
  r : List Int
  deriving DecidableEq
def dW (x : Wr) : PyData := .tuple [.int x.w, dI x.a, dI x.r]
theorem eqv_dW (x y : Wr) : PyData.eqv (dW x) (dW y) = decide (x = y) := by
  unfold dW
  rw [PyData.eqv]
  show (PyData.eqv (.int x.w) (.int y.w) && (PyData.eqv (dI x.a) (dI y.a) && (PyData.eqv (dI x.r) (dI y.r) && true))) = _
  rw [eqv_dI, eqv_dI]
  show ((x.w == y.w) && _) = _
  obtain ⟨w1, a1, r1⟩ := x
  obtain ⟨w2, a2, r2⟩ := y
  by_cases h1 : w1 = w2 <;> by_cases h2 : a1 = a2 <;> by_cases h3 : r1 = r2 <;> simp [h1, h2, h3]
theorem shaped_dW (x : Wr) : SeqAt.shaped (dW x) = true := by
  unfold SeqAt.shaped dW dI
  show (PyData.canLay0 (.int x.w) && (PyData.canLayAll0 (x.a.map PyData.int) && (PyData.canLayAll0 (x.r.map PyData.int) && true)) && decide (max 0 (max (PyData.depthAll (x.a.map PyData.int) + 1) (max (PyData.depthAll (x.r.map PyData.int) + 1) 0)) + 1 ≤ 64)) = true
  rw [canLay_ints, canLay_ints, depth_ints, depth_ints]
  rfl
/-- the writing x stands at p, its lists at a and r -/
structure WrAt (H : Hp) (p a r : Addr) (x : Wr) : Prop where
  tp : H p = some (.tup [.int x.w, .ref a, .ref r])
  la : H a = some (.lst (x.a.map V.int))
  lr : H r = some (.lst (x.r.map V.int))
theorem WrAt.dp {K : PySem.W.Frag} {H : Hp} {p a r : Addr} {x : Wr} (h : WrAt H p a r x) : Dp K H (.ref p) (dW x) :=
  .tup (sqt h.tp) (.cons (.int x.w) (.cons (dp_dI (sql h.la)) (.cons (dp_dI (sql h.lr)) .nil)))
theorem WrAt.same {H H' : Hp} {p a r : Addr} {x : Wr} (h : WrAt H p a r x) (s : Same H H') : WrAt H' p a r x := ⟨s _ _ h.tp, s _ _ h.la, s _ _ h.lr⟩
/-- a new writing x at p: all that was stands, its objects are new and its lists are two -/
structure WrNew (H H' : Hp) (p a r : Addr) (x : Wr) : Prop where
  at' : WrAt H' p a r x
  same : Same H H'
  np : H p = none
  na : H a = none
  nr : H r = none
  ne : a ≠ r
/-! ### tests -/
theorem iteD {c : Prop} [Decidable c] {A B : Prop} (h1 : c → A) (h2 : ¬ c → B) : if decide c = true then A else B := by
  by_cases h : c
  · rw [if_pos (decide_eq_true h)]; exact h1 h
  · rw [if_neg (by rw [decide_eq_false h]; exact Bool.false_ne_true)]; exact h2 h
theorem iteDn {c : Prop} [Decidable c] {A B : Prop} (h1 : ¬ c → A) (h2 : c → B) : if (!decide c) = true then A else B := by
  by_cases h : c
  · rw [if_neg (by rw [decide_eq_true h]; exact Bool.false_ne_true)]; exact h2 h
  · rw [if_pos (by rw [decide_eq_false h]; rfl)]; exact h1 h
theorem iteE {i j : Int} {A B : Prop} (h1 : i = j → A) (h2 : i ≠ j → B) : if decide (V.int i = V.int j) = true then A else B := iteD (fun e => h1 (V.int.inj e)) (fun e => h2 fun q => e (by rw [q]))
theorem iteEn {i j : Int} {A B : Prop} (h1 : i ≠ j → A) (h2 : i = j → B) : if (!decide (V.int i = V.int j)) = true then A else B := iteDn (fun e => h1 fun q => e (by rw [q])) (fun e => h2 (V.int.inj e))
theorem iteB {b : Bool} {A B : Prop} (h1 : b = true → A) (h2 : b = false → B) : if b = true then A else B := by
  cases b with
  | true => rw [if_pos rfl]; exact h1 rfl
  | false => rw [if_neg Bool.false_ne_true]; exact h2 rfl
theorem atI_of {xs : List V} {z : Int} {j : Nat} {v : V} (e : z = (j : Int)) (h : xs[j]? = some v) : atI xs z = some v := by
  rw [e]
  exact atI_nat h
theorem map_get {ns : List Int} {k : Nat} {x : Int} (h : ns[k]? = some x) : (ns.map V.int)[k]? = some (.int x) := by
  rw [List.getElem?_map, h]; rfl
/-! ### where a value's kind is asked -/
theorem kit_int_int {K : PySem.W.Frag} : PySem.W.kitOne K (.type "int") (.type "int") = some true := kit_ty (by decide +kernel)
theorem kit_int_bool {K : PySem.W.Frag} : PySem.W.kitOne K (.type "int") (.type "bool") = some false := kit_ty (by decide +kernel)
theorem kit_tup {K : PySem.W.Frag} : PySem.W.kitOne K (.type "tuple") (.type "tuple") = some true := kit_ty (by decide +kernel)
theorem kit_lst {K : PySem.W.Frag} : PySem.W.kitOne K (.type "list") (.type "list") = some true := kit_ty (by decide +kernel)
theorem kit_bool {K : PySem.W.Frag} : PySem.W.kitOne K (.type "bool") (.type "bool") = some true := kit_ty (by decide +kernel)
theorem kit_str {K : PySem.W.Frag} : PySem.W.kitOne K (.type "str") (.type "str") = some true := kit_ty (by decide +kernel)
theorem kit_self {K : PySem.W.Frag} {n : String} : PySem.W.kitOne K (.type n) (.type n) = some true := kit_ty (by unfold kitB; rw [if_pos (by simp)])
end Rf

set_option maxHeartbeats 1000000
namespace Rf
/-! ### the rests of a division, and where they come again -/
/-- the rest behind k figures -/
def rs (b m r k : Nat) : Nat := r * b ^ k % m
/-- the k-th figure -/
def dg (b m r k : Nat) : Nat := rs b m r k * b / m
/-- n figures from the i-th on -/
def dgs (b m r i n : Nat) : List Int := (List.range n).map fun k => ((dg b m r (i + k) : Nat) : Int)
theorem rs_zero {b m r : Nat} (h : r < m) : rs b m r 0 = r := by
  unfold rs
  rw [Nat.pow_zero, Nat.mul_one, Nat.mod_eq_of_lt h]
theorem rs_lt {b m r k : Nat} (h : 0 < m) : rs b m r k < m := Nat.mod_lt _ h
theorem rs_succ (b m r k : Nat) : rs b m r (k + 1) = rs b m r k * b % m := by
  unfold rs
  rw [Nat.pow_succ, ← Nat.mul_assoc, Nat.mul_mod (r * b ^ k) b m, Nat.mul_mod (r * b ^ k % m) b m, Nat.mod_mod]
theorem dgs_len (b m r i n : Nat) : (dgs b m r i n).length = n := by
  unfold dgs
  rw [List.length_map, List.length_range]
theorem dgs_succ (b m r i n : Nat) : dgs b m r i (n + 1) = dgs b m r i n ++ [((dg b m r (i + n) : Nat) : Int)] := by
  unfold dgs
  rw [List.range_succ, List.map_append]
  rfl
theorem dgs_take (b m r n k : Nat) (h : k ≤ n) : (dgs b m r 0 n).take k = dgs b m r 0 k := by
  unfold dgs
  rw [← List.map_take, List.take_range, Nat.min_eq_left h]
theorem dgs_get (b m r i n k : Nat) (h : k < n) : (dgs b m r i n)[k]? = some ((dg b m r (i + k) : Nat) : Int) := by
  unfold dgs
  rw [List.getElem?_map, List.getElem?_range h]
  rfl
theorem dgs_drop (b m r n k : Nat) (h : k ≤ n) : (dgs b m r 0 n).drop k = dgs b m r k (n - k) := by
  apply List.ext_getElem?
  intro j
  rw [List.getElem?_drop]
  by_cases hj : j < n - k
  · rw [dgs_get _ _ _ _ _ _ hj, dgs_get _ _ _ _ _ _ (show k + j < n by omega), Nat.zero_add]
  · rw [List.getElem?_eq_none (by rw [dgs_len]; omega), List.getElem?_eq_none (by rw [dgs_len]; omega)]
/-- division of r by m in base b: s figures ahead, then a ring of l (none: l = 0) -/
structure DivAt (b m r s l : Nat) : Prop where
  pos : ∀ k, k < s + l → rs b m r k ≠ 0
  new : ∀ j k, j < k → k < s + l → rs b m r j ≠ rs b m r k
  fin : l = 0 → rs b m r s = 0
  rep : 0 < l → rs b m r (s + l) = rs b m r s
/-- the first n at which the division stops -/
def Stp (b m r n : Nat) : Prop := rs b m r n = 0 ∨ ∃ j, j < n ∧ rs b m r j = rs b m r n
theorem DivAt.stp {b m r s l : Nat} (h : DivAt b m r s l) : Stp b m r (s + l) := by
  by_cases hl : l = 0
  · subst hl; exact .inl (h.fin rfl)
  · exact .inr ⟨s, by omega, (h.rep (by omega)).symm⟩
theorem DivAt.not_stp {b m r s l n : Nat} (h : DivAt b m r s l) (hn : n < s + l) : ¬ Stp b m r n := fun q => by
  rcases q with q | ⟨j, hj, e⟩
  · exact h.pos n hn q
  · exact h.new j n hj hn e
theorem DivAt.unique {b m r s l s' l' : Nat} (h : DivAt b m r s l) (h' : DivAt b m r s' l') : s = s' ∧ l = l' := by
  have e : s + l = s' + l' := by
    rcases Nat.lt_trichotomy (s + l) (s' + l') with q | q | q
    · exact absurd h.stp (h'.not_stp q)
    · exact q
    · exact absurd h'.stp (h.not_stp q)
  by_cases hl : l = 0
  · by_cases hl' : l' = 0
    · omega
    · have h1 := h.fin hl
      have h2 := h'.rep (by omega)
      have h3 : s = s' + l' := by omega
      rw [← h3, h1] at h2
      exact absurd h2.symm (h'.pos s' (by omega))
  · by_cases hl' : l' = 0
    · have h1 := h'.fin hl'
      have h2 := h.rep (by omega)
      have h3 : s' = s + l := by omega
      rw [← h3, h1] at h2
      exact absurd h2.symm (h.pos s (by omega))
    · have h1 := h.rep (by omega)
      have h2 := h'.rep (by omega)
      rw [e] at h1
      have h3 : rs b m r s = rs b m r s' := h1.symm.trans h2
      rcases Nat.lt_trichotomy s s' with q | q | q
      · exact absurd h3 (h.new s s' q (by omega))
      · omega
      · exact absurd h3.symm (h'.new s' s q (by omega))
theorem exists_least (P : Nat → Prop) : ∀ n, P n → ∃ k, k ≤ n ∧ P k ∧ ∀ j, j < k → ¬ P j := fun n => by
  induction n using Nat.strongRecOn with
  | _ n ih =>
    intro h
    by_cases q : ∃ j, j < n ∧ P j
    · obtain ⟨j, hj, pj⟩ := q
      obtain ⟨k, hk, pk, lk⟩ := ih j hj pj
      exact ⟨k, by omega, pk, lk⟩
    · exact ⟨n, Nat.le_refl _, h, fun j hj pj => q ⟨j, hj, pj⟩⟩
/-- an injection of the numbers below n into those below m -/
theorem pigeon : ∀ (m n : Nat) (f : Nat → Nat), (∀ k, k < n → f k < m) → (∀ j k, j < k → k < n → f j ≠ f k) → n ≤ m
  | 0, n, f, h, _ => by
    cases n with
    | zero => exact Nat.le_refl _
    | succ n => exact absurd (h 0 (by omega)) (by omega)
  | m + 1, n, f, h, inj => by
    by_cases q : ∃ i, i < n ∧ f i = m
    · obtain ⟨i, hi, ei⟩ := q
      have key : n - 1 ≤ m := pigeon m (n - 1) (fun k => if k < i then f k else f (k + 1)) (fun k hk => by
          split
          · rename_i c
            have h1 := h k (by omega)
            have h2 := inj k i c hi
            omega
          · rename_i c
            have h1 := h (k + 1) (by omega)
            have h2 := inj i (k + 1) (by omega) (by omega)
            omega) (fun j k hjk hk => by
          split
          · split
            · exact inj j k hjk (by omega)
            · exact inj j (k + 1) (by omega) (by omega)
          · split
            · omega
            · exact inj (j + 1) (k + 1) (by omega) (by omega))
      omega
    · have key : n ≤ m := pigeon m n f (fun k hk => by
          have h1 := h k hk
          have h2 : f k ≠ m := fun e => q ⟨k, hk, e⟩
          omega) inj
      omega
theorem stp_exists {b m r : Nat} (hm : 0 < m) : ∃ n, n ≤ m ∧ Stp b m r n := by
  by_cases q : ∃ n, n ≤ m ∧ Stp b m r n
  · exact q
  · have h1 : m + 1 ≤ m := pigeon m (m + 1) (rs b m r) (fun k _ => rs_lt hm) (fun j k hjk hk e => q ⟨k, by omega, .inr ⟨j, hjk, e⟩⟩)
    omega
theorem divAt_of_stp {b m r n : Nat} (h : Stp b m r n) (hl : ∀ j, j < n → ¬ Stp b m r j) : ∃ s l, s + l = n ∧ DivAt b m r s l := by
  have hp : ∀ k, k < n → rs b m r k ≠ 0 := fun k hk e => hl k hk (.inl e)
  have hn : ∀ j k, j < k → k < n → rs b m r j ≠ rs b m r k := fun j k hjk hk e => hl k hk (.inr ⟨j, hjk, e⟩)
  by_cases h0 : rs b m r n = 0
  · exact ⟨n, 0, by omega, ⟨hp, hn, fun _ => h0, fun q => absurd q (by omega)⟩⟩
  · rcases h with h | ⟨j, hj, e⟩
    · exact absurd h h0
    · refine ⟨j, n - j, by omega, ⟨fun k hk => hp k (by omega), fun i k hik hk => hn i k hik (by omega), fun q => by omega, fun _ => ?_⟩⟩
      rw [show j + (n - j) = n by omega]
      exact e.symm
theorem divAt_exists {b m r : Nat} (hm : 0 < m) : ∃ s l, s + l ≤ m ∧ DivAt b m r s l := by
  obtain ⟨n, hn, h⟩ := stp_exists (b := b) (r := r) hm
  obtain ⟨k, hk, pk, lk⟩ := exists_least (Stp b m r) n h
  obtain ⟨s, l, e, d⟩ := divAt_of_stp pk lk
  exact ⟨s, l, by omega, d⟩
end Rf

set_option maxHeartbeats 1000000
namespace Rf
/-! ### figures come round -/
theorem rs_add (b m r i j : Nat) : rs b m r (i + j) = rs b m (rs b m r i) j := by
  unfold rs
  rw [Nat.pow_add, ← Nat.mul_assoc, Nat.mul_mod (r * b ^ i) (b ^ j) m, Nat.mul_mod (r * b ^ i % m) (b ^ j) m, Nat.mod_mod]
theorem DivAt.nought {b m r s l : Nat} (h : DivAt b m r s l) (hl : l = 0) (i : Nat) : rs b m r (s + i) = 0 := by
  rw [rs_add, h.fin hl]
  unfold rs
  rw [Nat.zero_mul, Nat.zero_mod]
theorem DivAt.round {b m r s l : Nat} (h : DivAt b m r s l) (hl : 0 < l) (i : Nat) : rs b m r (s + l + i) = rs b m r (s + i) := by
  rw [rs_add, h.rep hl, ← rs_add]
theorem DivAt.rounds {b m r s l : Nat} (h : DivAt b m r s l) (hl : 0 < l) (i : Nat) : ∀ n, rs b m r (s + (i + l * n)) = rs b m r (s + i)
  | 0 => by rw [Nat.mul_zero, Nat.add_zero]
  | n + 1 => by
    rw [show s + (i + l * (n + 1)) = s + l + (i + l * n) by rw [Nat.mul_add, Nat.mul_one]; omega, h.round hl]
    exact h.rounds hl i n
theorem DivAt.mod {b m r s l : Nat} (h : DivAt b m r s l) (hl : 0 < l) (i : Nat) : rs b m r (s + i) = rs b m r (s + i % l) := by
  have e := h.rounds hl (i % l) (i / l)
  rw [Nat.mod_add_div] at e
  exact e
/-- the figure at a place, by the writing -/
theorem DivAt.fig {b m r s l n : Nat} (h : DivAt b m r s l) (hn : s ≤ n) : dg b m r n = if l = 0 then 0 else dg b m r (s + (n - s) % l) := by
  unfold dg
  by_cases hl : l = 0
  · rw [if_pos hl, show n = s + (n - s) by omega, h.nought hl, Nat.zero_mul, Nat.zero_div]
  · rw [if_neg hl]
    have e := h.mod (by omega) (n - s)
    rw [show s + (n - s) = n by omega] at e
    rw [e]
/-! ### powers by squaring -/
theorem pow_half (F G m p : Nat) : (if p % 2 = 1 then F * G % m else F) * (G * G % m) ^ (p / 2) % m = F * G ^ p % m := by
  have e : G ^ p = (if p % 2 = 1 then G else 1) * (G * G) ^ (p / 2) := by
    rw [← Nat.pow_two, ← Nat.pow_mul]
    split
    · rename_i h
      rw [← Nat.pow_succ']
      congr 1
      omega
    · rename_i h
      rw [Nat.one_mul]
      congr 1
      omega
  rw [e, Nat.mul_mod, ← Nat.pow_mod, ← Nat.mul_mod, ← Nat.mul_assoc]
  split
  · rw [Nat.mul_mod (F * G % m), Nat.mod_mod, ← Nat.mul_mod]
  · rw [Nat.mul_one]
end Rf

set_option maxHeartbeats 1000000
namespace Rf
/-! ### lengths of a bottom -/
/-- what is left of m when k factors b are taken out as far as they go -/
def lft (b m k : Nat) : Nat := m / Nat.gcd m (b ^ k)
theorem gcd_step (b m k : Nat) (hm : 0 < m) : Nat.gcd m (b ^ (k + 1)) = Nat.gcd m (b ^ k) * Nat.gcd (lft b m k) b := by
  have hg : 0 < Nat.gcd m (b ^ k) := Nat.gcd_pos_of_pos_left _ hm
  obtain ⟨m', hm'⟩ := Nat.gcd_dvd_left m (b ^ k)
  obtain ⟨c, hc⟩ := Nat.gcd_dvd_right m (b ^ k)
  have co : Nat.Coprime m' c := by
    have h1 : Nat.gcd (m / Nat.gcd m (b ^ k)) (b ^ k / Nat.gcd m (b ^ k)) = 1 := Nat.coprime_div_gcd_div_gcd hg
    have e1 : m / Nat.gcd m (b ^ k) = m' := Nat.div_eq_of_eq_mul_right hg hm'
    have e2 : b ^ k / Nat.gcd m (b ^ k) = c := Nat.div_eq_of_eq_mul_right hg hc
    rw [e1, e2] at h1
    exact h1
  have e1 : lft b m k = m' := Nat.div_eq_of_eq_mul_right hg hm'
  have e3 : b ^ (k + 1) = Nat.gcd m (b ^ k) * (c * b) := by rw [Nat.pow_succ, ← Nat.mul_assoc, ← hc]
  rw [e1]
  have e4 : Nat.gcd m (b ^ (k + 1)) = Nat.gcd (Nat.gcd m (b ^ k) * m') (Nat.gcd m (b ^ k) * (c * b)) := by
    rw [← hm', ← e3]
  rw [e4, Nat.gcd_mul_left, Nat.Coprime.gcd_mul_left_cancel_right b co.symm]
theorem lft_zero (b m : Nat) : lft b m 0 = m := by
  unfold lft
  rw [Nat.pow_zero, Nat.gcd_one_right, Nat.div_one]
theorem lft_pos {b m k : Nat} (hm : 0 < m) : 0 < lft b m k := Nat.div_pos (Nat.le_of_dvd hm (Nat.gcd_dvd_left _ _)) (Nat.gcd_pos_of_pos_left _ hm)
theorem lft_succ {b m k : Nat} (hm : 0 < m) : lft b m (k + 1) = lft b m k / Nat.gcd (lft b m k) b := by
  unfold lft
  rw [gcd_step b m k hm, Nat.div_div_eq_div_mul]
  rfl
theorem lft_le (b m k : Nat) : lft b m k ≤ m := Nat.div_le_self _ _
theorem lft_stay {b m s : Nat} (hm : 0 < m) (h : Nat.gcd (lft b m s) b = 1) : ∀ i, lft b m (s + i) = lft b m s
  | 0 => rfl
  | i + 1 => by
    rw [← Nat.add_assoc, lft_succ hm, lft_stay hm h i, h, Nat.div_one]
/-- m goes into x * y just where what is left of m by x goes into y -/
theorem dvd_left {m x y : Nat} (hm : 0 < m) : m ∣ x * y ↔ m / Nat.gcd m x ∣ y := by
  have hg : 0 < Nat.gcd m x := Nat.gcd_pos_of_pos_left _ hm
  obtain ⟨m', hm'⟩ := Nat.gcd_dvd_left m x
  obtain ⟨c, hc⟩ := Nat.gcd_dvd_right m x
  have e1 : m / Nat.gcd m x = m' := Nat.div_eq_of_eq_mul_right hg hm'
  have co : Nat.Coprime m' c := by
    have h1 : Nat.gcd (m / Nat.gcd m x) (x / Nat.gcd m x) = 1 := Nat.coprime_div_gcd_div_gcd hg
    have e2 : x / Nat.gcd m x = c := Nat.div_eq_of_eq_mul_right hg hc
    rw [e1, e2] at h1
    exact h1
  rw [e1]
  constructor
  · intro h
    have h2 : Nat.gcd m x * m' ∣ Nat.gcd m x * (c * y) := by
      rw [← hm', ← Nat.mul_assoc, ← hc]
      exact h
    have h3 : m' ∣ c * y := Nat.dvd_of_mul_dvd_mul_left hg h2
    exact co.dvd_of_dvd_mul_left h3
  · intro h
    have h2 : Nat.gcd m x * m' ∣ Nat.gcd m x * (c * y) := Nat.mul_dvd_mul_left _ (Nat.dvd_trans h (Nat.dvd_mul_left y c))
    rw [← hm', ← Nat.mul_assoc, ← hc] at h2
    exact h2
/-- equal rests -/
theorem mod_eq_iff {x y m : Nat} (h : x ≤ y) : x % m = y % m ↔ m ∣ y - x := by
  constructor
  · intro e
    exact Nat.dvd_of_mod_eq_zero (Nat.sub_mod_eq_zero_of_mod_eq e.symm)
  · intro e
    obtain ⟨c, hc⟩ := e
    have h2 : y = x + m * c := by omega
    rw [h2, Nat.add_mul_mod_self_left]
theorem rs_eq_iff {b m r j n : Nat} (hb : 0 < b) (hm : 0 < m) (hr : Nat.Coprime r m) : rs b m r j = rs b m r (j + n) ↔ lft b m j ∣ b ^ n - 1 := by
  unfold rs lft
  have h1 : r * b ^ j ≤ r * b ^ (j + n) := Nat.mul_le_mul_left _ (Nat.pow_le_pow_right hb (by omega))
  rw [mod_eq_iff h1, ← dvd_left hm]
  have e : r * b ^ (j + n) - r * b ^ j = r * (b ^ j * (b ^ n - 1)) := by
    rw [Nat.pow_add, ← Nat.mul_sub, Nat.mul_sub (b ^ j), Nat.mul_one]
  rw [e]
  constructor
  · intro h
    exact hr.symm.dvd_of_dvd_mul_left h
  · intro h
    exact Nat.dvd_trans h (Nat.dvd_mul_left _ _)
theorem rs_zero_iff {b m r k : Nat} (hm : 0 < m) (hr : Nat.Coprime r m) : rs b m r k = 0 ↔ lft b m k = 1 := by
  unfold rs lft
  have hg : 0 < Nat.gcd m (b ^ k) := Nat.gcd_pos_of_pos_left _ hm
  constructor
  · intro h
    have h1 : m ∣ r * b ^ k := Nat.dvd_of_mod_eq_zero h
    have h2 : m ∣ b ^ k := hr.symm.dvd_of_dvd_mul_left h1
    rw [Nat.gcd_eq_left h2, Nat.div_self hm]
  · intro h
    have h1 : m = Nat.gcd m (b ^ k) := by
      have := Nat.div_mul_cancel (Nat.gcd_dvd_left m (b ^ k))
      rw [h, Nat.one_mul] at this
      exact this.symm
    have h2 : m ∣ b ^ k := by
      rw [h1]
      exact Nat.gcd_dvd_right _ _
    exact Nat.mod_eq_zero_of_dvd (Nat.dvd_trans h2 (Nat.dvd_mul_left _ _))
/-- the lengths of the bottom m -/
structure LenAt (b m s l : Nat) : Prop where
  more : ∀ j, j < s → 1 < Nat.gcd (lft b m j) b
  done : Nat.gcd (lft b m s) b = 1
  one : lft b m s = 1 → l = 0
  ring : lft b m s ≠ 1 → 0 < l ∧ b ^ l % lft b m s = 1 ∧ ∀ n, 0 < n → n < l → b ^ n % lft b m s ≠ 1
theorem pow_one_iff {b q n : Nat} (hb : 0 < b) (hq : 1 < q) : b ^ n % q = 1 ↔ q ∣ b ^ n - 1 := by
  have h1 : 1 ≤ b ^ n := Nat.pow_pos hb
  rw [← mod_eq_iff h1, Nat.mod_eq_of_lt hq]
  exact eq_comm
theorem co_of_pow {b q n : Nat} (hb : 0 < b) (hn : 0 < n) (h : q ∣ b ^ n - 1) : Nat.gcd q b = 1 := by
  have h1 : Nat.gcd q b ∣ b ^ n - 1 := Nat.dvd_trans (Nat.gcd_dvd_left _ _) h
  have h2 : Nat.gcd q b ∣ b ^ n := Nat.dvd_trans (Nat.gcd_dvd_right q b) (by obtain ⟨k, rfl⟩ : ∃ k, n = k + 1 := ⟨n - 1, by omega⟩; rw [Nat.pow_succ]; exact Nat.dvd_mul_left b (b ^ k))
  have h3 : 1 ≤ b ^ n := Nat.pow_pos hb
  have h4 : Nat.gcd q b ∣ b ^ n - (b ^ n - 1) := Nat.dvd_sub h2 h1
  rw [show b ^ n - (b ^ n - 1) = 1 by omega] at h4
  exact Nat.dvd_one.mp h4
theorem LenAt.div {b m r s l : Nat} (h : LenAt b m s l) (hb : 0 < b) (hm : 0 < m) (hr : Nat.Coprime r m) : DivAt b m r s l := by
  have hst := lft_stay hm h.done
  have hz : ∀ k, k < s + l → lft b m k ≠ 1 := fun k hk e => by
    by_cases hks : k < s
    · have := h.more k hks
      rw [e, Nat.gcd_one_left] at this
      omega
    · have e2 := hst (k - s)
      rw [show s + (k - s) = k by omega, e] at e2
      have := h.one e2.symm
      omega
  refine ⟨fun k hk e => hz k hk ((rs_zero_iff hm hr).mp e), fun j k hjk hk e => ?_, fun hl => ?_, fun hl => ?_⟩
  · rw [show k = j + (k - j) by omega, rs_eq_iff hb hm hr] at e
    have hco := co_of_pow hb (show 0 < k - j by omega) e
    by_cases hjs : j < s
    · have := h.more j hjs
      omega
    · have e2 := hst (j - s)
      rw [show s + (j - s) = j by omega] at e2
      rw [e2] at e
      have h1 : lft b m s ≠ 1 := fun z => by
        have := h.one z
        omega
      have hq : 1 < lft b m s := by
        have := lft_pos (b := b) (k := s) hm
        omega
      exact (h.ring h1).2.2 (k - j) (by omega) (by omega) ((pow_one_iff hb hq).mpr e)
  · refine (rs_zero_iff hm hr).mpr ?_
    by_cases h1 : lft b m s = 1
    · exact h1
    · have := (h.ring h1).1
      omega
  · have h1 : lft b m s ≠ 1 := fun z => by
      have := h.one z
      omega
    have hq : 1 < lft b m s := by
      have := lft_pos (b := b) (k := s) hm
      omega
    exact ((rs_eq_iff hb hm hr).mpr ((pow_one_iff hb hq).mp (h.ring h1).2.1)).symm
theorem lft_dec {b m k : Nat} (hm : 0 < m) (h : 1 < Nat.gcd (lft b m k) b) : lft b m (k + 1) < lft b m k := by
  rw [lft_succ hm]
  exact Nat.div_lt_self (lft_pos hm) h
theorem done_exists {b m : Nat} (hm : 0 < m) : ∃ s, s ≤ m ∧ Nat.gcd (lft b m s) b = 1 ∧ ∀ j, j < s → 1 < Nat.gcd (lft b m j) b := by
  have key : ∀ k, (∀ j, j < k → 1 < Nat.gcd (lft b m j) b) → lft b m k + k ≤ m := fun k => by
    induction k with
    | zero => intro _; rw [lft_zero]; omega
    | succ k ih =>
      intro h
      have h1 := ih fun j hj => h j (by omega)
      have h2 := lft_dec hm (h k (by omega))
      omega
  have ge1 : ∀ j, 1 ≤ Nat.gcd (lft b m j) b := fun j => Nat.gcd_pos_of_pos_left _ (lft_pos hm)
  by_cases q : ∃ j, j ≤ m ∧ Nat.gcd (lft b m j) b = 1
  · obtain ⟨j, hj, e⟩ := q
    obtain ⟨k, hk, pk, lk⟩ := exists_least (fun j => Nat.gcd (lft b m j) b = 1) j e
    exact ⟨k, by omega, pk, fun j hj => by have := lk j hj; have := ge1 j; omega⟩
  · have h1 := key (m + 1) fun j hj => by
      have := ge1 j
      have : Nat.gcd (lft b m j) b ≠ 1 := fun e => q ⟨j, by omega, e⟩
      omega
    have := lft_pos (b := b) (k := m + 1) hm
    omega
theorem ord_exists {b q : Nat} (hb : 0 < b) (hq : 1 < q) (hc : Nat.gcd q b = 1) : ∃ l, 0 < l ∧ l ≤ q ∧ b ^ l % q = 1 ∧ ∀ n, 0 < n → n < l → b ^ n % q ≠ 1 := by
  have hq0 : 0 < q := by omega
  have hr : Nat.Coprime 1 q := Nat.coprime_one_left q
  obtain ⟨n, hn, h⟩ := stp_exists (b := b) (r := 1) hq0
  have hlz : lft b q 0 = q := lft_zero b q
  have hst : ∀ i, lft b q i = q := fun i => by
    have := lft_stay (b := b) (s := 0) hq0 (by rw [hlz]; exact hc) i
    rw [Nat.zero_add, hlz] at this
    exact this
  have ex : ∃ k, k ≤ q ∧ 0 < k ∧ b ^ k % q = 1 := by
    rcases h with h | ⟨j, hj, e⟩
    · have := (rs_zero_iff hq0 hr).mp h
      rw [hst] at this
      omega
    · rw [show n = j + (n - j) by omega, rs_eq_iff hb hq0 hr, hst] at e
      exact ⟨n - j, by omega, by omega, (pow_one_iff hb hq).mpr e⟩
  obtain ⟨k, hk, h0, h1⟩ := ex
  obtain ⟨l, hl, ⟨pl0, pl1⟩, ll⟩ := exists_least (fun k => 0 < k ∧ b ^ k % q = 1) k ⟨h0, h1⟩
  exact ⟨l, pl0, by omega, pl1, fun n hn0 hnl e => ll n hnl ⟨hn0, e⟩⟩
theorem lenAt_exists {b m : Nat} (hb : 0 < b) (hm : 0 < m) : ∃ s l, s ≤ m ∧ l ≤ m ∧ LenAt b m s l := by
  obtain ⟨s, hs, hd, hmore⟩ := done_exists (b := b) hm
  by_cases h1 : lft b m s = 1
  · exact ⟨s, 0, hs, by omega, ⟨hmore, hd, fun _ => rfl, fun z => absurd h1 z⟩⟩
  · have hq : 1 < lft b m s := by
      have := lft_pos (b := b) (k := s) hm
      omega
    obtain ⟨l, l0, ll, l1, l2⟩ := ord_exists hb hq hd
    have := lft_le b m s
    exact ⟨s, l, hs, by omega, ⟨hmore, hd, fun z => absurd z h1, fun _ => ⟨l0, l1, l2⟩⟩⟩
theorem co_one (m : Nat) (hm : 0 < m) : Nat.Coprime (1 % m) m := by
  by_cases h : m = 1
  · rw [h]; rfl
  · rw [Nat.mod_eq_of_lt (by omega)]
    exact Nat.coprime_one_left m
end Rf

set_option maxRecDepth 100000
set_option maxHeartbeats 4000000
namespace Rf
open PySem PySem.Spec PyProof.Rows L2
/-! ### comprehensions of values that are read off -/
theorem take_snoc {α : Type} {l : List α} {i : Nat} {x : α} (h : l[i]? = some x) : l.take (i + 1) = l.take i ++ [x] := by
  rw [List.take_add_one, h]; rfl
/-- over a list -/
theorem lc_vals {K : PySem.W.Frag} {a D : Addr} {xs : List V} {te : TE} {vs : List Nat} {σ : L2.St} {i : Nat} {H : Hp} {Qd : Hp → Prop} (g : V → V) (hS : SqL K H a xs) (nD : H D = none) (hlen : xs.length < 1000000)
    (hw : ∀ x, wipe ((wipe σ vs).set i (some x)) vs = wipe σ vs)
    (he : ∀ x, x ∈ xs → ∀ H' (Q : VK), Same H H' → (∀ H2, Same H' H2 → Q (g x) H2) → te ((wipe σ vs).set i (some x)) H' Q) (hd : ∀ H', Same H H' → H' D = some (.lst (xs.map g)) → Qd H') :
    ∃ W : Nat → Nat → Hp → Prop, (∃ m, W 0 m (upd H D (.lst []))) ∧ ∀ j m H, W j m H →
      ((Itl K a).stop j H ∧ Qd H) ∨ ((Itl K a).go j H ∧ ∃ Nx : Hp → Prop, (∀ H', Nx H' → ∃ m', m' < m ∧ W (j + 1) m' H') ∧ ∀ x H', (Itl K a).yld j H x H' → gName i x (wipe σ vs) H' fun σ2 H2 => wipe σ2 vs = wipe σ vs ∧ tYes σ2 H2 fun b H3 =>
        if b = true then te σ2 H3 fun y H4 => ∃ acc, H4 D = some (.lst acc) ∧ acc.length < sizeLine ∧ Nx (upd H4 D (.lst (acc ++ [y]))) else Nx H3) := by
  refine lc_list (K := K) (a := a) (xs := xs) (fun j H' => Same H H' ∧ H' D = some (.lst ((xs.take j).map g))) ⟨same_upd nD, upd_same⟩ (fun j H' _ ⟨s, _⟩ => s.seq hS) (fun j x H' hx ⟨s, hD⟩ => ?_) (fun H' ⟨s, hD⟩ => ?_)
  · refine ⟨hw x, ?_⟩
    show te ((wipe σ vs).set i (some x)) H' _
    refine he x (List.mem_of_getElem? hx) H' _ s fun H2 s2 => ⟨_, s2 _ _ hD, ?_, same_new (s.trans s2) nD, ?_⟩
    · rw [List.length_map, List.length_take]
      exact sz100lt (by omega)
    · rw [upd_same, take_snoc hx, List.map_append]
      rfl
  · rw [List.take_length] at hD
    exact hd H' s hD
/-- over range(n) -/
theorem lc_rng {D : Addr} {n : Nat} {te : TE} {vs : List Nat} {σ : L2.St} {i : Nat} {H : Hp} {Qd : Hp → Prop} (g : Nat → V) (nD : H D = none) (hlen : n < 1000000)
    (hw : ∀ x, wipe ((wipe σ vs).set i (some x)) vs = wipe σ vs)
    (he : ∀ k, k < n → ∀ H' (Q : VK), Same H H' → (∀ H2, Same H' H2 → Q (g k) H2) → te ((wipe σ vs).set i (some (.int (k : Int)))) H' Q) (hd : ∀ H', Same H H' → H' D = some (.lst ((List.range n).map g)) → Qd H') :
    ∃ W : Nat → Nat → Hp → Prop, (∃ m, W 0 m (upd H D (.lst []))) ∧ ∀ j m H, W j m H →
      ((Itr 0 n).stop j H ∧ Qd H) ∨ ((Itr 0 n).go j H ∧ ∃ Nx : Hp → Prop, (∀ H', Nx H' → ∃ m', m' < m ∧ W (j + 1) m' H') ∧ ∀ x H', (Itr 0 n).yld j H x H' → gName i x (wipe σ vs) H' fun σ2 H2 => wipe σ2 vs = wipe σ vs ∧ tYes σ2 H2 fun b H3 =>
        if b = true then te σ2 H3 fun y H4 => ∃ acc, H4 D = some (.lst acc) ∧ acc.length < sizeLine ∧ Nx (upd H4 D (.lst (acc ++ [y]))) else Nx H3) := by
  refine lc_range (lo := 0) (n := n) (fun j H' => Same H H' ∧ H' D = some (.lst ((List.range j).map g))) ⟨same_upd nD, upd_same⟩ (fun j H' hj ⟨s, hD⟩ => ?_) (fun H' ⟨s, hD⟩ => hd H' s hD)
  rw [Int.zero_add]
  refine ⟨hw _, ?_⟩
  show te ((wipe σ vs).set i (some (.int (j : Int)))) H' _
  refine he j hj H' _ s fun H2 s2 => ⟨_, s2 _ _ hD, ?_, same_new (s.trans s2) nD, ?_⟩
  · rw [List.length_map, List.length_range]
    exact sz100lt (by omega)
  · rw [upd_same, List.range_succ, List.map_append]
    rfl
/-- over zip of two lists of ints, the two names in the slots i and j -/
theorem lc_zips {K : PySem.W.Frag} {a b D : Addr} {xs ys : List Int} {te : TE} {vs : List Nat} {σ : L2.St} {i j : Nat} {H : Hp} {Qd : Hp → Prop} (g : Int → Int → V) (hS : SqL K H a (xs.map V.int)) (hT : SqL K H b (ys.map V.int)) (hl : xs.length = ys.length) (nD : H D = none) (hlen : xs.length < 1000000)
    (hw : ∀ x y, wipe (((wipe σ vs).set i (some x)).set j (some y)) vs = wipe σ vs)
    (he : ∀ x y, ∀ H' (Q : VK), Q (g x y) H' → te (((wipe σ vs).set i (some (.int x))).set j (some (.int y))) H' Q) (hd : ∀ H', Same H H' → H' D = some (.lst (List.zipWith g xs ys)) → Qd H') :
    ∃ W : Nat → Nat → Hp → Prop, (∃ m, W 0 m (upd H D (.lst []))) ∧ ∀ n m H, W n m H →
      ((Itz K a b).stop n H ∧ Qd H) ∨ ((Itz K a b).go n H ∧ ∃ Nx : Hp → Prop, (∀ H', Nx H' → ∃ m', m' < m ∧ W (n + 1) m' H') ∧ ∀ x H', (Itz K a b).yld n H x H' → gTup K 2 (gCons (gName i) (gCons (gName j) gNil)) x (wipe σ vs) H' fun σ2 H2 => wipe σ2 vs = wipe σ vs ∧ tYes σ2 H2 fun b H3 =>
        if b = true then te σ2 H3 fun y H4 => ∃ acc, H4 D = some (.lst acc) ∧ acc.length < sizeLine ∧ Nx (upd H4 D (.lst (acc ++ [y]))) else Nx H3) := by
  have W := walk_zip (K := K) (a := a) (b := b) (xs := xs.map V.int) (ys := ys.map V.int) (n := xs.length) (by rw [List.length_map, List.length_map, ← hl, Nat.min_self])
  refine lc_it W (fun n H' => Same H H' ∧ H' D = some (.lst (List.zipWith g (xs.take n) (ys.take n)))) ⟨same_upd nD, upd_same⟩ (fun n H' _ ⟨s, _⟩ => ⟨s.seq hS, s.seq hT⟩) (fun n v H1 H' hn ⟨s, hD⟩ hy => ?_) (fun H' ⟨s, hD⟩ => ?_)
  · obtain ⟨T, x, y, rfl, nT, rfl, hx, hy⟩ := hy
    dsimp only at hx hy
    rw [List.getElem?_map] at hx hy
    have hx' : xs[n]? = some xs[n] := List.getElem?_eq_getElem hn
    have hn2 : n < ys.length := by omega
    have hy' : ys[n]? = some ys[n] := List.getElem?_eq_getElem hn2
    rw [hx'] at hx
    rw [hy'] at hy
    have ex : V.int xs[n] = x := Option.some.inj hx
    have ey : V.int ys[n] = y := Option.some.inj hy
    subst ex ey
    refine ⟨T, _, rfl, sqt upd_same, rfl, _, _, rfl, _, _, rfl, rfl, hw _ _, ?_⟩
    show te (((wipe σ vs).set i (some (.int xs[n]))).set j (some (.int ys[n]))) _ _
    have nTD : D ≠ T := ne_of_none hD nT
    refine he _ _ _ _ ⟨_, (upd_ne nTD).trans hD, ?_, same_new (same_new s (s.free nT)) nD, ?_⟩
    · rw [List.length_zipWith, List.length_take, List.length_take]
      exact sz100lt (by omega)
    · rw [upd_same, take_snoc hx', take_snoc hy', List.zipWith_append (by rw [List.length_take, List.length_take]; omega)]
      rfl
  · rw [List.take_length, hl, List.take_length] at hD
    exact hd H' s hD
theorem mem_ints {ns : List Int} {x : V} (h : x ∈ ns.map V.int) : ∃ z, z ∈ ns ∧ x = .int z := by
  obtain ⟨z, hz, e⟩ := List.mem_map.mp h
  exact ⟨z, hz, e.symm⟩
theorem ixN_of {n j : Nat} {z : Int} (e : z = (j : Int)) (h : j < n) : ixN n z = some j := by
  unfold ixN
  rw [e, if_pos (by omega), if_pos (by omega), Int.toNat_natCast]
theorem map_setI (ns : List Int) (j : Nat) (v : Int) : (ns.map V.int).set j (.int v) = (ns.set j v).map V.int := (List.map_set).symm
theorem mem_set {ns : List Int} {j : Nat} {v x : Int} (h : x ∈ ns.set j v) : x = v ∨ x ∈ ns := by
  rcases List.mem_or_eq_of_mem_set h with h | h
  · exact .inr h
  · exact .inl h
/-- figures of a base -/
def Figs (b : Int) (ns : List Int) : Prop := ∀ x, x ∈ ns → 0 ≤ x ∧ x < b
theorem figs_nil {b : Int} : Figs b [] := fun x hx => by cases hx
theorem figs_take {b : Int} {ns : List Int} (h : Figs b ns) (k : Nat) : Figs b (ns.take k) := fun x hx => h x (List.mem_of_mem_take hx)
theorem figs_drop {b : Int} {ns : List Int} (h : Figs b ns) (k : Nat) : Figs b (ns.drop k) := fun x hx => h x (List.mem_of_mem_drop hx)
theorem figs_app {b : Int} {ns ms : List Int} (h : Figs b ns) (h2 : Figs b ms) : Figs b (ns ++ ms) := fun x hx => (List.mem_append.mp hx).elim (h x) (h2 x)
theorem figs_comp {b : Int} {ns : List Int} (h : Figs b ns) : Figs b (ns.map fun x => b - 1 - x) := fun x hx => by
  obtain ⟨z, hz, rfl⟩ := List.mem_map.mp hx
  have := h z hz
  omega
theorem figs_set {b : Int} {ns : List Int} {j : Nat} {v : Int} (h : Figs b ns) (hv : 0 ≤ v ∧ v < b) : Figs b (ns.set j v) := fun x hx => by
  rcases mem_set hx with e | e
  · rw [e]; exact hv
  · exact h x e
theorem figs_const {b v : Int} {ns : List Int} (hv : 0 ≤ v ∧ v < b) : Figs b (ns.map fun _ => v) := fun x hx => by
  obtain ⟨z, _, rfl⟩ := List.mem_map.mp hx
  exact hv
theorem figs_one {b v : Int} (hv : 0 ≤ v ∧ v < b) : Figs b [v] := fun x hx => by rw [List.mem_singleton.mp hx]; exact hv
theorem cut_lit (ns : List Int) (k : Nat) (z : Int) (e : z = (k : Int)) : cutV (ns.map V.int) none (some z) = (ns.take k).map V.int := by rw [e, cut_take, take_map]
theorem cut_litd (ns : List Int) (k : Nat) (z : Int) (e : z = (k : Int)) : cutV (ns.map V.int) (some z) none = (ns.drop k).map V.int := by rw [e, cut_drop, drop_map]
/-- a value's int -/
def iof : V → Int
  | .int z => z
  | _ => 0
theorem map_ints (f : Int → Int) (ns : List Int) : (ns.map V.int).map (fun v => V.int (f (iof v))) = (ns.map f).map V.int := by
  rw [List.map_map, List.map_map]
  rfl
theorem map_same (ns : List Int) : (ns.map V.int).map (fun v => v) = ns.map V.int := List.map_id' _
theorem rep_len {α : Type} (l : List α) : ∀ n : Nat, ((List.replicate n l).flatten).length = n * l.length
  | 0 => by rw [Nat.zero_mul]; rfl
  | n + 1 => by
    rw [List.replicate_succ, List.flatten_cons, List.length_append, rep_len l n, Nat.succ_mul, Nat.add_comm]
theorem figs_rep {b : Int} {ns : List Int} (h : Figs b ns) (n : Nat) : Figs b (List.replicate n ns).flatten := fun x hx => by
  obtain ⟨l, hl, hx⟩ := List.mem_flatten.mp hx
  rw [(List.mem_replicate.mp hl).2] at hx
  exact h x hx
theorem rep_map (ns : List Int) (n : Nat) : (List.replicate n (ns.map V.int)).flatten = ((List.replicate n ns).flatten).map V.int := by
  rw [List.map_flatten, List.map_replicate]
/-- a writing that may be handed in -/
structure WrOk (b : Int) (x : Wr) : Prop where
  w0 : 0 ≤ x.w
  w1 : x.w ≤ 1000000000000
  la : x.a.length ≤ 4000
  lr : x.r.length ≤ 4000
  fa : Figs b x.a
  fr : Figs b x.r
/-! ### pairs of ints as data -/
def dP (x y : Int) : PyData := .tuple [.int x, .int y]
theorem eqv_dP (x y x' y' : Int) : PyData.eqv (dP x y) (dP x' y') = decide (x = x' ∧ y = y') := by
  unfold dP
  rw [PyData.eqv]
  show ((x == x') && ((y == y') && true)) = _
  by_cases h1 : x = x' <;> by_cases h2 : y = y' <;> simp [h1, h2]
theorem shaped_dP (x y : Int) : SeqAt.shaped (dP x y) = true := rfl
theorem dp_dP {K : PySem.W.Frag} {H : Hp} {p : Addr} {x y : Int} (h : H p = some (.tup [.int x, .int y])) : Dp K H (.ref p) (dP x y) := .tup (sqt h) (.cons (.int x) (.cons (.int y) .nil))
theorem tyx_tup {K : PySem.W.Frag} {H : Hp} {p : Addr} {xs : List V} (h : H p = some (.tup xs)) : TyX K H (.ref p) (.type "tuple") := .base (.tup h)
theorem tyx_lst {K : PySem.W.Frag} {H : Hp} {p : Addr} {xs : List V} (h : H p = some (.lst xs)) : TyX K H (.ref p) (.type "list") := .base (.lst h)
end Rf

set_option maxHeartbeats 1000000
namespace Rf
/-! ### what figures tell -/
def numI (b : Int) (ns : List Int) : Int := ns.foldl (fun t f => t * b + f) 0
theorem num_from (b : Int) : ∀ (ns : List Int) (t : Int), ns.foldl (fun t f => t * b + f) t = t * b ^ ns.length + numI b ns
  | [], t => by
    show t = t * b ^ 0 + 0
    rw [Int.pow_zero]; omega
  | f :: ns, t => by
    have h1 := num_from b ns (t * b + f)
    have h2 := num_from b ns (0 * b + f)
    show ns.foldl (fun t f => t * b + f) (t * b + f) = t * b ^ (ns.length + 1) + ns.foldl (fun t f => t * b + f) (0 * b + f)
    rw [h1, h2, Int.pow_succ, Int.add_mul, Int.zero_mul, Int.zero_add, Int.mul_assoc, Int.mul_comm b (b ^ ns.length)]
    omega
theorem num_nil (b : Int) : numI b [] = 0 := rfl
theorem num_snoc (b : Int) (ns : List Int) (f : Int) : numI b (ns ++ [f]) = numI b ns * b + f := by
  unfold numI
  rw [List.foldl_append]
  rfl
theorem num_app (b : Int) (ns ms : List Int) : numI b (ns ++ ms) = numI b ns * b ^ ms.length + numI b ms := by
  have e : numI b (ns ++ ms) = ms.foldl (fun t f => t * b + f) (numI b ns) := by
    unfold numI
    rw [List.foldl_append]
  rw [e, num_from]
theorem num_cons (b f : Int) (ns : List Int) : numI b (f :: ns) = f * b ^ ns.length + numI b ns := by
  have e := num_app b [f] ns
  have e2 : numI b [f] = f := by
    show 0 * b + f = f
    omega
  rw [e2] at e
  exact e
theorem pow_posI {b : Int} (h : 0 < b) (n : Nat) : 0 < b ^ n := Int.pow_pos h
theorem num_ok {b : Int} (hb : 0 < b) : ∀ ns : List Int, (∀ x, x ∈ ns → 0 ≤ x ∧ x < b) → 0 ≤ numI b ns ∧ numI b ns < b ^ ns.length
  | [], _ => by
    show (0 : Int) ≤ 0 ∧ (0 : Int) < b ^ 0
    rw [Int.pow_zero]
    exact ⟨by decide, by decide⟩
  | f :: ns, h => by
    have ih := num_ok hb ns fun x hx => h x (List.mem_cons_of_mem _ hx)
    have hf := h f List.mem_cons_self
    have hp := pow_posI hb ns.length
    rw [num_cons, List.length_cons, Int.pow_succ]
    have h1 : 0 ≤ f * b ^ ns.length := Int.mul_nonneg hf.1 (Int.le_of_lt hp)
    have h2 : f * b ^ ns.length ≤ (b - 1) * b ^ ns.length := Int.mul_le_mul_of_nonneg_right (by omega) (Int.le_of_lt hp)
    have h3 : (b - 1) * b ^ ns.length = b ^ ns.length * b - b ^ ns.length := by rw [Int.sub_mul, Int.mul_comm, Int.one_mul]
    omega
theorem pow_ge1 {b : Int} (hb : 0 < b) (n : Nat) : 1 ≤ b ^ n := by
  have := pow_posI hb n
  omega
theorem pow_ge2 {b : Int} (hb : 2 ≤ b) {n : Nat} (hn : 0 < n) : 2 ≤ b ^ n := by
  obtain ⟨k, rfl⟩ : ∃ k, n = k + 1 := ⟨n - 1, by omega⟩
  rw [Int.pow_succ]
  have h1 := pow_ge1 (b := b) (by omega) k
  have h2 : 1 * b ≤ b ^ k * b := Int.mul_le_mul_of_nonneg_right h1 (by omega)
  omega
/-- a power of a base is below a power of two -/
theorem pow_lt2 {b : Int} (h0 : 0 ≤ b) (hb : b ≤ 64) (n : Nat) : b ^ n ≤ 2 ^ (6 * n) := by
  induction n with
  | zero => rw [Int.pow_zero, Nat.mul_zero, Int.pow_zero]; exact Int.le_refl _
  | succ n ih =>
    rw [Int.pow_succ, Nat.mul_succ, Int.pow_add]
    have h1 : (0 : Int) ≤ 2 ^ (6 * n) := Int.le_of_lt (Int.pow_pos (by decide))
    exact Int.mul_le_mul ih (by exact hb) h0 h1
/-! ### worths -/
def low (x y : Int) : Int × Int := (x / ((Nat.gcd x.toNat y.toNat : Nat) : Int), y / ((Nat.gcd x.toNat y.toNat : Nat) : Int))
/-- top and bottom of a writing -/
def wT (b w : Int) (a r : List Int) : Int := if r = [] then w * b ^ a.length + numI b a else (w * b ^ a.length + numI b a) * (b ^ r.length - 1) + numI b r
def wB (b : Int) (a r : List Int) : Int := if r = [] then b ^ a.length else b ^ a.length * (b ^ r.length - 1)
theorem wT_nn {b w : Int} {a r : List Int} (hb : 2 ≤ b) (hw : 0 ≤ w) (ha : ∀ x, x ∈ a → 0 ≤ x ∧ x < b) (hr : ∀ x, x ∈ r → 0 ≤ x ∧ x < b) : 0 ≤ wT b w a r := by
  have h1 := (num_ok (by omega) a ha).1
  have h2 := (num_ok (by omega) r hr).1
  have h3 : 0 ≤ w * b ^ a.length := Int.mul_nonneg hw (Int.le_of_lt (pow_posI (by omega) _))
  unfold wT
  split
  · omega
  · have h4 : 0 ≤ (w * b ^ a.length + numI b a) * (b ^ r.length - 1) := Int.mul_nonneg (by omega) (by have := pow_ge1 (b := b) (by omega) r.length; omega)
    omega
theorem wB_pos {b : Int} {a r : List Int} (hb : 2 ≤ b) : 0 < wB b a r := by
  unfold wB
  have h1 := pow_posI (b := b) (by omega) a.length
  split
  · exact h1
  · rename_i h
    have h2 := pow_ge2 hb (n := r.length) (List.length_pos_iff.mpr h)
    exact Int.mul_pos h1 (by omega)
end Rf

set_option maxRecDepth 100000
set_option maxHeartbeats 4000000
namespace Rf
open PySem PySem.Spec PyProof.Rows L2
/-! ### sizes of great numbers -/
theorem nabs_lt {i : Int} {m : Nat} (h0 : 0 ≤ i) (h : i < 2 ^ m) : i.natAbs < 2 ^ m := by
  have e : ((i.natAbs : Nat) : Int) = i := Int.natAbs_of_nonneg h0
  have e2 : (((2 ^ m : Nat)) : Int) = (2 : Int) ^ m := by rw [Int.natCast_pow]; rfl
  omega
theorem mulOk_of {i j : Int} {m n : Nat} (hi : 0 ≤ i) (hi2 : i < 2 ^ m) (hj : 0 ≤ j) (hj2 : j < 2 ^ n) (hm : 0 < m) (hn : 0 < n) (h : m + n ≤ 1000000) : IntMulOk i j := (wide_mul (nabs_lt hi hi2) (nabs_lt hj hj2) hm hn h).ok
theorem pow_mono2 {m n : Nat} (h : m ≤ n) : (2 : Int) ^ m ≤ 2 ^ n := by
  obtain ⟨k, rfl⟩ : ∃ k, n = m + k := ⟨n - m, by omega⟩
  rw [Int.pow_add]
  have h1 : (1 : Int) ≤ 2 ^ k := pow_ge1 (by decide) k
  have h2 : (0 : Int) ≤ 2 ^ m := Int.le_of_lt (Int.pow_pos (by decide))
  have h3 : (2 : Int) ^ m * 1 ≤ 2 ^ m * 2 ^ k := Int.mul_le_mul_of_nonneg_left h1 h2
  omega
theorem pow_ltb {b : Int} (h0 : 0 ≤ b) (hb : b ≤ 64) {n N : Nat} (h : n ≤ N) : b ^ n < 2 ^ (6 * N + 1) := by
  have h1 := pow_lt2 h0 hb n
  have h2 := pow_mono2 (show 6 * n ≤ 6 * N by omega)
  have h3 : (0 : Int) < 2 ^ (6 * N) := Int.pow_pos (by decide)
  rw [Int.pow_succ]
  omega
/-- the whole number and the figures ahead, as one number -/
theorem head_lt {b w : Int} {a : List Int} (hb : 2 ≤ b) (hb2 : b ≤ 36) (h0 : 0 ≤ w) (h1 : w ≤ 1000000000000) (la : a.length ≤ 4000) (fa : Figs b a) : 0 ≤ w * b ^ a.length + numI b a ∧ w * b ^ a.length + numI b a < 2 ^ 24041 := by
  have h2 := num_ok (by omega) a fa
  have h3 := pow_posI (b := b) (by omega) a.length
  have h4 : 0 ≤ w * b ^ a.length := Int.mul_nonneg h0 (Int.le_of_lt h3)
  have h5 : w * b ^ a.length + numI b a < (w + 1) * b ^ a.length := by rw [Int.add_mul, Int.one_mul]; omega
  have h6 := pow_lt2 (b := b) (by omega) (by omega) a.length
  have h40 : (2 : Int) ^ 40 = 1099511627776 := by decide
  have h7 : (w + 1) * b ^ a.length ≤ 2 ^ 40 * 2 ^ (6 * a.length) := Int.mul_le_mul (by omega) h6 (Int.le_of_lt h3) (by decide)
  rw [← Int.pow_add] at h7
  have h8 := pow_mono2 (show 40 + 6 * a.length ≤ 24041 by omega)
  omega
/-- what is asked of the divisions of a fraction taken to lowest terms -/
def LowOk (x y : Int) : Prop := CDivP x ((Nat.gcd x.toNat y.toNat : Nat) : Int) ∧ CDivP y ((Nat.gcd x.toNat y.toNat : Nat) : Int)
theorem lowOk_wide {x y : Int} (hy : 0 < y) (hw : Wid y.toNat) : LowOk x y := by
  have hg : 0 < Nat.gcd x.toNat y.toNat := Nat.gcd_pos_of_pos_right _ (by omega)
  have hl : Nat.gcd x.toNat y.toNat ≤ y.toNat := Nat.gcd_le_right _ (by omega)
  have hw2 : Wid (Nat.gcd x.toNat y.toNat) := by
    refine ⟨?_⟩
    have h1 := hw.lt
    have h2 : (Nat.gcd x.toNat y.toNat).log2 ≤ y.toNat.log2 := by
      rcases Nat.lt_or_ge y.toNat.log2 (Nat.gcd x.toNat y.toNat).log2 with q | q
      · have h3 := (Nat.log2_lt (by omega)).mp q
        have h4 := Nat.log2_self_le (n := Nat.gcd x.toNat y.toNat) (by omega)
        omega
      · exact q
    omega
  exact ⟨cdivp_wide hg hw2, cdivp_wide hg hw2⟩
/-- a writing of at most 124 figures ahead and 138 in the ring -/
theorem lowOk_wr {b w : Int} {a r : List Int} (hb : 2 ≤ b) (hb2 : b ≤ 36) (la : a.length ≤ 124) (lr : r.length ≤ 1200) : LowOk (wT b w a r) (wB b a r) := by
  have hp := wB_pos (a := a) (r := r) hb
  refine lowOk_wide hp (wid_of (k := 8000) ?_ (by decide) (by decide))
  have h1 := pow_lt2 (b := b) (by omega) (by omega) a.length
  have h2 := pow_lt2 (b := b) (by omega) (by omega) r.length
  have h3 := pow_posI (b := b) (by omega) a.length
  have h4 := pow_ge1 (b := b) (by omega) r.length
  have h5 : wB b a r ≤ 2 ^ (6 * a.length) * 2 ^ (6 * r.length) := by
    have h6 : b ^ a.length * b ^ r.length ≤ 2 ^ (6 * a.length) * 2 ^ (6 * r.length) := Int.mul_le_mul h1 h2 (by omega) (Int.le_of_lt (Int.pow_pos (by decide)))
    have h7 : b ^ a.length * 1 ≤ b ^ a.length * b ^ r.length := Int.mul_le_mul_of_nonneg_left h4 (Int.le_of_lt h3)
    unfold wB
    split
    · omega
    · rw [Int.mul_sub]; omega
  rw [← Int.pow_add] at h5
  have h8 := pow_mono2 (show 6 * a.length + 6 * r.length ≤ 7999 by omega)
  have h9 : (2 : Int) ^ 7999 < 2 ^ 8000 := by
    have e : (2 : Int) ^ (7999 + 1) = 2 ^ 7999 * 2 := Int.pow_succ 2 7999
    have e2 : (0 : Int) < 2 ^ 7999 := Int.pow_pos (by decide)
    rw [show (8000 : Nat) = 7999 + 1 from rfl, e]
    omega
  have h10 := nabs_lt (Int.le_of_lt hp) (show wB b a r < 2 ^ 8000 by omega)
  have e3 : (wB b a r).toNat = (wB b a r).natAbs := by omega
  rw [e3]
  exact h10
end Rf

set_option maxHeartbeats 1000000
namespace Rf
/-! ### rings turned -/
def Dig (b : Int) (ns : List Int) : Prop := ∀ x, x ∈ ns → 0 ≤ x ∧ x < b
def rotl (r : List Int) (i : Nat) : List Int := r.drop i ++ r.take i
/-- the ring's figures, for ever -/
def rf (r : List Int) (i : Nat) : Int := r.getD (i % r.length) 0
theorem rf_get {r : List Int} {i : Nat} (h : i < r.length) : r[i]? = some (rf r i) := by
  unfold rf
  rw [Nat.mod_eq_of_lt h, List.getD_eq_getElem?_getD, List.getElem?_eq_getElem h]
  rfl
theorem rf_len (r : List Int) (i : Nat) : rf r (i + r.length) = rf r i := by
  unfold rf
  rw [Nat.add_mod_right]
theorem rf_mod (r : List Int) (i : Nat) : rf r (i % r.length) = rf r i := by
  unfold rf
  rw [Nat.mod_mod]
theorem rf_mem {r : List Int} (h : 0 < r.length) (i : Nat) : rf r i ∈ r := by
  have h1 := rf_get (r := r) (i := i % r.length) (Nat.mod_lt _ h)
  rw [rf_mod] at h1
  exact List.mem_of_getElem? h1
theorem rotl_len (r : List Int) (i : Nat) : (rotl r i).length = r.length := by
  unfold rotl
  rw [List.length_append, List.length_drop, List.length_take]
  omega
theorem rotl_get {r : List Int} {i j : Nat} (hi : i ≤ r.length) (hj : j < r.length) : (rotl r i)[j]? = some (rf r (i + j)) := by
  unfold rotl
  by_cases h : i + j < r.length
  · rw [List.getElem?_append_left (by rw [List.length_drop]; omega), List.getElem?_drop, rf_get h]
  · rw [List.getElem?_append_right (by rw [List.length_drop]; omega), List.length_drop, List.getElem?_take_of_lt (by omega)]
    rw [rf_get (show j - (r.length - i) < r.length by omega)]
    have e : rf r (i + j) = rf r (j - (r.length - i)) := by
      rw [show i + j = (j - (r.length - i)) + r.length by omega, rf_len]
    rw [e]
theorem rotl_eq {r : List Int} {i j : Nat} (hi : i ≤ r.length) (hj : j ≤ r.length) : rotl r i = rotl r j ↔ ∀ k, rf r (i + k) = rf r (j + k) := by
  constructor
  · intro h k
    by_cases hl : r.length = 0
    · have : r = [] := List.eq_nil_of_length_eq_zero hl
      subst this
      rfl
    · have h1 := rotl_get hi (Nat.mod_lt k (show 0 < r.length by omega))
      have h2 := rotl_get hj (Nat.mod_lt k (show 0 < r.length by omega))
      rw [h, h2] at h1
      have h3 := Option.some.inj h1
      have e1 : rf r (i + k) = rf r (i + k % r.length) := by
        rw [← rf_mod r (i + k), ← rf_mod r (i + k % r.length), Nat.add_mod_mod]
      have e2 : rf r (j + k) = rf r (j + k % r.length) := by
        rw [← rf_mod r (j + k), ← rf_mod r (j + k % r.length), Nat.add_mod_mod]
      rw [e1, e2, h3]
  · intro h
    apply List.ext_getElem?
    intro k
    by_cases hk : k < r.length
    · rw [rotl_get hi hk, rotl_get hj hk, h k]
    · rw [List.getElem?_eq_none (by rw [rotl_len]; omega), List.getElem?_eq_none (by rw [rotl_len]; omega)]
theorem rotl_zero (r : List Int) : rotl r 0 = r := by
  unfold rotl
  rw [List.drop_zero, List.take_zero, List.append_nil]
theorem rotl_all (r : List Int) : rotl r r.length = r := by
  unfold rotl
  rw [List.drop_length, List.take_length, List.nil_append]
theorem per_iff {r : List Int} {d : Nat} (hd : d ≤ r.length) : rotl r d = r ↔ ∀ k, rf r (d + k) = rf r k := by
  have h := rotl_eq (r := r) (i := d) (j := 0) hd (Nat.zero_le _)
  rw [rotl_zero] at h
  rw [h]
  constructor
  · intro q k
    have := q k
    rw [Nat.zero_add] at this
    exact this
  · intro q k
    rw [Nat.zero_add]
    exact q k
theorem per_mul {f : Nat → Int} {d : Nat} (h : ∀ k, f (d + k) = f k) : ∀ n k, f (d * n + k) = f k
  | 0, k => by rw [Nat.mul_zero, Nat.zero_add]
  | n + 1, k => by rw [Nat.mul_succ, Nat.add_right_comm, Nat.add_comm (d * n + k) d, h, per_mul h n k]
theorem per_mod {f : Nat → Int} {d : Nat} (h : ∀ k, f (d + k) = f k) (k : Nat) : f (k % d) = f k := by
  have e := per_mul h (k / d) (k % d)
  rw [Nat.div_add_mod] at e
  exact e.symm
theorem per_gcd {f : Nat → Int} : ∀ (m n : Nat), (∀ k, f (m + k) = f k) → (∀ k, f (n + k) = f k) → ∀ k, f (Nat.gcd m n + k) = f k := fun m => by
  induction m using Nat.strongRecOn with
  | _ m ih =>
    intro n hm hn
    by_cases h0 : m = 0
    · subst h0
      rw [Nat.gcd_zero_left]
      exact hn
    · rw [Nat.gcd_rec]
      refine ih (n % m) (Nat.mod_lt _ (by omega)) m (fun k => ?_) hm
      have e := per_mul hm (n / m) (n % m + k)
      rw [← Nat.add_assoc, Nat.div_add_mod, hn] at e
      exact e.symm
/-- no shorter ring within -/
def Prim (r : List Int) : Prop := ∀ d, 0 < d → d < r.length → r.length % d = 0 → rotl r d ≠ r
theorem Prim.any {r : List Int} (h : Prim r) {d : Nat} (h0 : 0 < d) (hl : d < r.length) : rotl r d ≠ r := fun e => by
  have h1 := (per_iff (Nat.le_of_lt hl)).mp e
  have h2 : ∀ k, rf r (r.length + k) = rf r k := fun k => by rw [Nat.add_comm, rf_len]
  have h3 := per_gcd d r.length h1 h2
  have hg0 : 0 < Nat.gcd d r.length := Nat.gcd_pos_of_pos_left _ h0
  have hgd : Nat.gcd d r.length ≤ d := Nat.gcd_le_left _ h0
  exact h (Nat.gcd d r.length) hg0 (by omega) (Nat.mod_eq_zero_of_dvd (Nat.gcd_dvd_right _ _)) ((per_iff (by omega)).mpr h3)
theorem Prim.turns {r : List Int} (h : Prim r) {i j : Nat} (hij : i < j) (hj : j < r.length) : rotl r i ≠ rotl r j := fun e => by
  have h1 := (rotl_eq (by omega) (by omega)).mp e
  refine h.any (d := j - i) (by omega) (by omega) ((per_iff (by omega)).mpr fun k => ?_)
  have h2 := h1 (k + (r.length - i))
  rw [show i + (k + (r.length - i)) = k + r.length by omega, show j + (k + (r.length - i)) = j - i + k + r.length by omega, rf_len, rf_len] at h2
  exact h2.symm
/-! ### numbers of turned rings -/
theorem num_inj {b : Int} (hb : 0 < b) : ∀ (xs ys : List Int), xs.length = ys.length → Dig b xs → Dig b ys → numI b xs = numI b ys → xs = ys
  | [], [], _, _, _, _ => rfl
  | x :: xs, y :: ys, hl, hx, hy, e => by
    have hl' : xs.length = ys.length := by simpa using hl
    have h1 := num_ok hb xs fun z hz => hx z (List.mem_cons_of_mem _ hz)
    have h2 := num_ok hb ys fun z hz => hy z (List.mem_cons_of_mem _ hz)
    rw [num_cons, num_cons, hl'] at e
    rw [hl'] at h1
    have hp := pow_posI hb ys.length
    have exy : x = y := by
      have q1 : x = (x * b ^ ys.length + numI b xs) / b ^ ys.length := by
        rw [Int.add_comm, Int.add_mul_ediv_right _ _ (by omega), Int.ediv_eq_zero_of_lt h1.1 h1.2, Int.zero_add]
      have q2 : y = (y * b ^ ys.length + numI b ys) / b ^ ys.length := by
        rw [Int.add_comm, Int.add_mul_ediv_right _ _ (by omega), Int.ediv_eq_zero_of_lt h2.1 h2.2, Int.zero_add]
      rw [q1, q2, e]
    subst exy
    rw [num_inj hb xs ys hl' (fun z hz => hx z (List.mem_cons_of_mem _ hz)) (fun z hz => hy z (List.mem_cons_of_mem _ hz)) (by omega)]
theorem dig_rotl {b : Int} {r : List Int} (h : Dig b r) (i : Nat) : Dig b (rotl r i) := fun x hx => by
  unfold rotl at hx
  rcases List.mem_append.mp hx with q | q
  · exact h x (List.mem_of_mem_drop q)
  · exact h x (List.mem_of_mem_take q)
theorem rotl_succ {r : List Int} {i : Nat} (hi : i < r.length) : ∃ q, rotl r i = rf r i :: q ∧ rotl r (i + 1) = q ++ [rf r i] := by
  refine ⟨r.drop (i + 1) ++ r.take i, ?_, ?_⟩
  · unfold rotl
    have h1 := rf_get hi
    have h2 : r.drop i = rf r i :: r.drop (i + 1) := by
      rw [List.drop_eq_getElem_cons hi]
      congr 1
      rw [List.getElem?_eq_getElem hi] at h1
      exact Option.some.inj h1
    rw [h2]
    rfl
  · unfold rotl
    rw [List.take_add_one, rf_get hi, List.append_assoc]
    rfl
theorem num_turn {b : Int} {r : List Int} {i : Nat} (hi : i < r.length) : b * numI b (rotl r i) = rf r i * (b ^ r.length - 1) + numI b (rotl r (i + 1)) := by
  obtain ⟨q, h1, h2⟩ := rotl_succ hi
  have hl : q.length + 1 = r.length := by
    have := rotl_len r i
    rw [h1] at this
    exact this
  rw [h1, h2, num_cons, num_snoc, ← hl, Int.pow_succ, Int.mul_add, Int.mul_sub, Int.mul_one, Int.mul_comm b (numI b q), Int.mul_comm b (rf r i * b ^ q.length), Int.mul_assoc]
  omega
end Rf

set_option maxHeartbeats 1000000
namespace Rf
/-! ### a plain writing is what division tells -/
/-- plain, by the document's words: figures ahead a, ring r -/
structure PlainW (b : Int) (a r : List Int) : Prop where
  nz : r ≠ [] → ∃ x, x ∈ r ∧ x ≠ 0
  ng : r ≠ [] → ∃ x, x ∈ r ∧ x ≠ b - 1
  prim : Prim r
  last : ∀ x y, a.getLast? = some x → r.getLast? = some y → x ≠ y
  end0 : r = [] → ∀ x, a.getLast? = some x → x ≠ 0
/-- the ring's greatest number, 1 where there is none -/
def rM (b : Int) (r : List Int) : Int := if r = [] then 1 else b ^ r.length - 1
theorem wT_eq (b w : Int) (a r : List Int) : wT b w a r = w * wB b a r + (numI b a * rM b r + numI b r) := by
  unfold wT wB rM
  split
  · rename_i h
    subst h
    rw [num_nil]; omega
  · rw [Int.add_mul, Int.mul_assoc]; omega
theorem wB_eq (b : Int) (a r : List Int) : wB b a r = b ^ a.length * rM b r := by
  unfold wB rM
  split
  · rw [Int.mul_one]
  · rfl
theorem rM_pos {b : Int} (hb : 2 ≤ b) (r : List Int) : 0 < rM b r := by
  unfold rM
  split
  · decide
  · rename_i h
    have := pow_ge2 hb (n := r.length) (List.length_pos_iff.mpr h)
    omega
/-- all figures the greatest one -/
theorem num_all {b : Int} (hb : 2 ≤ b) : ∀ ns : List Int, Dig b ns → (∃ x, x ∈ ns ∧ x ≠ b - 1) → numI b ns < b ^ ns.length - 1
  | [], _, ⟨x, hx, _⟩ => by cases hx
  | f :: ns, h, ⟨x, hx, hne⟩ => by
    have hf := h f List.mem_cons_self
    have hd : Dig b ns := fun z hz => h z (List.mem_cons_of_mem _ hz)
    have h1 := num_ok (by omega) ns hd
    have hp := pow_posI (b := b) (by omega) ns.length
    rw [num_cons, List.length_cons, Int.pow_succ]
    by_cases hfb : f = b - 1
    · have hx' : x ∈ ns := by
        rcases List.mem_cons.mp hx with q | q
        · exact absurd (q.trans hfb) hne
        · exact q
      have ih := num_all hb ns hd ⟨x, hx', hne⟩
      rw [hfb, Int.sub_mul, Int.one_mul, Int.mul_comm b]
      omega
    · have h2 : f * b ^ ns.length ≤ (b - 2) * b ^ ns.length := Int.mul_le_mul_of_nonneg_right (by omega) (Int.le_of_lt hp)
      have h3 : (b - 2) * b ^ ns.length = b ^ ns.length * b - 2 * b ^ ns.length := by rw [Int.sub_mul, Int.mul_comm b]
      omega
theorem num_pos {b : Int} (hb : 2 ≤ b) : ∀ ns : List Int, Dig b ns → (∃ x, x ∈ ns ∧ x ≠ 0) → 0 < numI b ns
  | [], _, ⟨x, hx, _⟩ => by cases hx
  | f :: ns, h, ⟨x, hx, hne⟩ => by
    have hf := h f List.mem_cons_self
    have hd : Dig b ns := fun z hz => h z (List.mem_cons_of_mem _ hz)
    have h1 := num_ok (by omega) ns hd
    have hp := pow_posI (b := b) (by omega) ns.length
    rw [num_cons]
    by_cases hf0 : f = 0
    · have hx' : x ∈ ns := by
        rcases List.mem_cons.mp hx with q | q
        · exact absurd (q.trans hf0) hne
        · exact q
      have ih := num_pos hb ns hd ⟨x, hx', hne⟩
      rw [hf0]
      omega
    · have h2 : 0 < f * b ^ ns.length := Int.mul_pos (by omega) hp
      omega
/-- what is left behind k figures of a writing, over its own bottom -/
def tail (b : Int) (a r : List Int) (k : Nat) : Int := if k ≤ a.length then (numI b (a.drop k) * rM b r + numI b r) * b ^ k else numI b (rotl r ((k - a.length) % r.length)) * b ^ a.length
/-- the k-th figure of a writing -/
def fig (a r : List Int) (k : Nat) : Int := if k < a.length then a.getD k 0 else rf r (k - a.length)
theorem num_lt_rM {b : Int} (hb : 2 ≤ b) {r : List Int} (hd : Dig b r) (hg : r ≠ [] → ∃ x, x ∈ r ∧ x ≠ b - 1) : 0 ≤ numI b r ∧ numI b r < rM b r := by
  unfold rM
  split
  · rename_i h; subst h; rw [num_nil]; exact ⟨by decide, by decide⟩
  · rename_i h; exact ⟨(num_ok (by omega) r hd).1, num_all hb r hd (hg h)⟩
theorem rotl_mem {r : List Int} {i : Nat} {x : Int} (h : x ∈ r) : x ∈ rotl r i := by
  unfold rotl
  rw [← List.take_append_drop i r] at h
  rcases List.mem_append.mp h with q | q
  · exact List.mem_append_right _ q
  · exact List.mem_append_left _ q
theorem tail_step {b : Int} (hb : 2 ≤ b) {a r : List Int} (k : Nat) (hk : k < a.length ∨ r ≠ []) : b * tail b a r k = fig a r k * wB b a r + tail b a r (k + 1) := by
  unfold tail fig
  rw [wB_eq]
  by_cases h1 : k < a.length
  · rw [if_pos (Nat.le_of_lt h1), if_pos h1, if_pos (show k + 1 ≤ a.length by omega)]
    have e1 : a.drop k = a.getD k 0 :: a.drop (k + 1) := by
      rw [List.drop_eq_getElem_cons h1, List.getD_eq_getElem?_getD, List.getElem?_eq_getElem h1]
      rfl
    have e2 : (a.drop (k + 1)).length + 1 + k = a.length := by rw [List.length_drop]; omega
    rw [e1, num_cons, ← e2]
    generalize a.getD k 0 = x
    generalize numI b (a.drop (k + 1)) = N
    generalize (a.drop (k + 1)).length = L
    generalize numI b r = R
    generalize rM b r = M
    have e3 : b ^ (L + 1 + k) = b ^ L * b * b ^ k := by rw [Int.pow_add, Int.pow_succ]
    have e4 : b ^ (k + 1) = b ^ k * b := Int.pow_succ b k
    rw [e3, e4]
    generalize b ^ L = P
    generalize b ^ k = S
    have q1 : b * (((x * P + N) * M + R) * S) = (x * P * M) * S * b + (N * M + R) * S * b := by
      rw [Int.mul_comm b, ← Int.add_mul, ← Int.add_mul, Int.add_mul (x * P) N M, Int.add_assoc]
    have q2 : x * (P * b * S * M) = (x * P * M) * S * b := by
      simp only [Int.mul_assoc, Int.mul_comm, Int.mul_left_comm]
    rw [q1, q2, ← Int.mul_assoc (N * M + R) S b]
  · rw [if_neg h1, if_neg (show ¬ k + 1 ≤ a.length by omega)]
    have hne : r ≠ [] := by
      rcases hk with q | q
      · exact absurd q h1
      · exact q
    have hl : 0 < r.length := List.length_pos_iff.mpr hne
    have hM : rM b r = b ^ r.length - 1 := if_neg hne
    have e0 : (if k ≤ a.length then (numI b (a.drop k) * rM b r + numI b r) * b ^ k else numI b (rotl r ((k - a.length) % r.length)) * b ^ a.length) = numI b (rotl r ((k - a.length) % r.length)) * b ^ a.length := by
      by_cases h2 : k ≤ a.length
      · have h3 : k = a.length := by omega
        subst h3
        rw [if_pos (Nat.le_refl _), List.drop_length, num_nil, Int.zero_mul, Int.zero_add, Nat.sub_self, Nat.zero_mod, rotl_zero]
      · rw [if_neg h2]
    rw [e0]
    have hi : (k - a.length) % r.length < r.length := Nat.mod_lt _ hl
    have t1 := num_turn (b := b) hi
    rw [rf_mod] at t1
    have t2 : rotl r ((k - a.length) % r.length + 1) = rotl r ((k + 1 - a.length) % r.length) := by
      by_cases h3 : (k - a.length) % r.length + 1 < r.length
      · congr 1
        rw [show k + 1 - a.length = k - a.length + 1 by omega, Nat.add_mod]
        by_cases h4 : r.length = 1
        · omega
        · rw [Nat.mod_eq_of_lt (show 1 < r.length by omega), Nat.mod_eq_of_lt h3]
      · have h4 : (k - a.length) % r.length + 1 = r.length := by omega
        rw [h4, rotl_all]
        have h5 : (k + 1 - a.length) % r.length = 0 := by
          rw [show k + 1 - a.length = k - a.length + 1 by omega, ← Nat.mod_add_mod, h4, Nat.mod_self]
        rw [h5, rotl_zero]
    rw [t2] at t1
    rw [hM, ← Int.mul_assoc, t1, Int.add_mul]
    congr 1
    rw [Int.mul_assoc, Int.mul_comm (b ^ r.length - 1)]
end Rf

set_option maxHeartbeats 1000000
namespace Rf
theorem rotl_nil_iff {r : List Int} {i : Nat} : rotl r i = [] ↔ r = [] := by
  constructor
  · intro h
    have := rotl_len r i
    rw [h] at this
    exact List.eq_nil_of_length_eq_zero this.symm
  · intro h
    subst h
    unfold rotl
    rw [List.drop_nil, List.take_nil]
    rfl
theorem rM_rotl (b : Int) (r : List Int) (i : Nat) : rM b (rotl r i) = rM b r := by
  unfold rM
  rw [rotl_len]
  by_cases h : r = []
  · rw [if_pos h, if_pos (rotl_nil_iff.mpr h)]
  · rw [if_neg h, if_neg (fun q => h (rotl_nil_iff.mp q))]
theorem rotl_lt {b : Int} (hb : 2 ≤ b) {r : List Int} (hd : Dig b r) (hg : r ≠ [] → ∃ x, x ∈ r ∧ x ≠ b - 1) (i : Nat) : 0 ≤ numI b (rotl r i) ∧ numI b (rotl r i) < rM b r := by
  rw [← rM_rotl b r i]
  refine num_lt_rM hb (dig_rotl hd i) fun h => ?_
  obtain ⟨x, h1, h2⟩ := hg (fun q => h (rotl_nil_iff.mpr q))
  exact ⟨x, rotl_mem h1, h2⟩
theorem tail_zero (b : Int) (a r : List Int) : tail b a r 0 = numI b a * rM b r + numI b r := by
  unfold tail
  rw [if_pos (Nat.zero_le _), List.drop_zero, Int.pow_zero, Int.mul_one]
theorem dig_drop {b : Int} {a : List Int} (h : Dig b a) (k : Nat) : Dig b (a.drop k) := fun x hx => h x (List.mem_of_mem_drop hx)
theorem tail_ok {b : Int} (hb : 2 ≤ b) {a r : List Int} (da : Dig b a) (dr : Dig b r) (hg : r ≠ [] → ∃ x, x ∈ r ∧ x ≠ b - 1) (k : Nat) : 0 ≤ tail b a r k ∧ tail b a r k < wB b a r := by
  unfold tail
  rw [wB_eq]
  split
  · rename_i hk
    have h1 := num_ok (b := b) (by omega) _ (dig_drop da k)
    have h2 := num_lt_rM hb dr hg
    have h3 := pow_posI (b := b) (by omega) k
    have e : b ^ a.length = b ^ (a.drop k).length * b ^ k := by rw [← Int.pow_add, List.length_drop, Nat.sub_add_cancel hk]
    rw [e]
    generalize numI b (a.drop k) = N at *
    generalize b ^ (a.drop k).length = P at *
    generalize numI b r = R at *
    generalize rM b r = M at *
    generalize b ^ k = S at *
    refine ⟨Int.mul_nonneg (Int.add_nonneg (Int.mul_nonneg h1.1 (by omega)) h2.1) (Int.le_of_lt h3), ?_⟩
    rw [show P * S * M = P * M * S by rw [Int.mul_assoc, Int.mul_comm S, ← Int.mul_assoc]]
    refine Int.mul_lt_mul_of_pos_right ?_ h3
    have q1 : (N + 1) * M ≤ P * M := Int.mul_le_mul_of_nonneg_right (by omega) (by omega)
    rw [Int.add_mul, Int.one_mul] at q1
    omega
  · have h2 := rotl_lt hb dr hg ((k - a.length) % r.length)
    have h3 := pow_posI (b := b) (by omega) a.length
    refine ⟨Int.mul_nonneg h2.1 (Int.le_of_lt h3), ?_⟩
    rw [Int.mul_comm (b ^ a.length)]
    exact Int.mul_lt_mul_of_pos_right h2.2 h3
section U
variable {b : Nat} {a r : List Int} {D X : Nat}
theorem tails (hb : 2 ≤ b) (da : Dig b a) (dr : Dig b r) (hg : r ≠ [] → ∃ x, x ∈ r ∧ x ≠ (b : Int) - 1) (hD : (D : Int) = wB b a r) (hX : (X : Int) = tail b a r 0) : ∀ k, k ≤ a.length ∨ r ≠ [] → ((rs b D X k : Nat) : Int) = tail b a r k
  | 0, _ => by
    have h := tail_ok (b := (b : Int)) (by omega) da dr hg 0
    rw [rs_zero (by omega), hX]
  | k + 1, hk => by
    have hk' : k < a.length ∨ r ≠ [] := by
      rcases hk with q | q
      · exact .inl (by omega)
      · exact .inr q
    have ih := tails hb da dr hg hD hX k (hk'.imp Nat.le_of_lt id)
    have h := tail_ok (b := (b : Int)) (by omega) da dr hg (k + 1)
    have e := tail_step (b := (b : Int)) (by omega) k hk'
    rw [rs_succ, Int.natCast_emod, Int.natCast_mul, ih, hD, Int.mul_comm, e, Int.add_comm, Int.add_mul_emod_self_right, Int.emod_eq_of_lt h.1 h.2]
theorem figs_dg (hb : 2 ≤ b) (da : Dig b a) (dr : Dig b r) (hg : r ≠ [] → ∃ x, x ∈ r ∧ x ≠ (b : Int) - 1) (hD : (D : Int) = wB b a r) (hX : (X : Int) = tail b a r 0) (k : Nat) (hk : k < a.length ∨ r ≠ []) : ((dg b D X k : Nat) : Int) = fig a r k := by
  have ih := tails hb da dr hg hD hX k (hk.imp Nat.le_of_lt id)
  have h := tail_ok (b := (b : Int)) (by omega) da dr hg (k + 1)
  have e := tail_step (b := (b : Int)) (by omega) k hk
  unfold dg
  rw [Int.natCast_ediv, Int.natCast_mul, ih, hD, Int.mul_comm, e, Int.add_comm, Int.add_mul_ediv_right _ _ (by omega), Int.ediv_eq_zero_of_lt h.1 h.2, Int.zero_add]
theorem last_mem {a : List Int} {x : Int} {k : Nat} (h : a.getLast? = some x) (hk : k < a.length) : x ∈ a.drop k := by
  have e : (a.drop k).getLast? = some x := by
    rw [List.getLast?_drop, if_neg (by omega), h]
  exact List.mem_of_getLast? e
theorem tail_ring (hl : 0 < r.length) (i : Nat) : tail (b : Int) a r (a.length + i) = numI b (rotl r (i % r.length)) * (b : Int) ^ a.length := by
  unfold tail
  by_cases h : i = 0
  · subst h
    rw [Nat.add_zero, if_pos (Nat.le_refl _), List.drop_length, num_nil, Int.zero_mul, Int.zero_add, Nat.zero_mod, rotl_zero]
  · rw [if_neg (by omega), Nat.add_sub_cancel_left]
theorem tail_pos (hb : 2 ≤ b) (da : Dig b a) (dr : Dig b r) (hp : PlainW b a r) {k : Nat} (hk : k < a.length + r.length) : 0 < tail (b : Int) a r k := by
  by_cases hr : r = []
  · subst hr
    have hk' : k < a.length := by simpa using hk
    unfold tail
    rw [if_pos (Nat.le_of_lt hk'), num_nil, Int.add_zero]
    have hM : rM (b : Int) [] = 1 := rfl
    rw [hM, Int.mul_one]
    refine Int.mul_pos (num_pos (by omega) _ (dig_drop da k) ?_) (pow_posI (by omega) k)
    have hne : a ≠ [] := fun q => by subst q; simp at hk'
    have hx : a.getLast? = some (a.getLast hne) := List.getLast?_eq_some_getLast hne
    exact ⟨_, last_mem hx hk', hp.end0 rfl _ hx⟩
  · have hl : 0 < r.length := List.length_pos_iff.mpr hr
    have hM := rM_pos (b := (b : Int)) (by omega) r
    by_cases h : k ≤ a.length
    · unfold tail
      rw [if_pos h]
      have h1 := num_ok (b := (b : Int)) (by omega) _ (dig_drop da k)
      have h2 := num_pos (b := (b : Int)) (by omega) r dr (hp.nz hr)
      have h3 := Int.mul_nonneg h1.1 (Int.le_of_lt hM)
      exact Int.mul_pos (by omega) (pow_posI (by omega) k)
    · rw [show k = a.length + (k - a.length) by omega, tail_ring hl]
      obtain ⟨x, q1, q2⟩ := hp.nz hr
      exact Int.mul_pos (num_pos (by omega) _ (dig_rotl dr _) ⟨x, rotl_mem q1, q2⟩) (pow_posI (by omega) _)
theorem ring_inj (hb : 2 ≤ b) (dr : Dig b r) (hp : PlainW b a r) (hl : 0 < r.length) {i j : Nat} (h : tail (b : Int) a r (a.length + i) = tail (b : Int) a r (a.length + j)) : i % r.length = j % r.length := by
  rw [tail_ring hl, tail_ring hl] at h
  have h1 := Int.eq_of_mul_eq_mul_right (Int.ne_of_gt (pow_posI (b := (b : Int)) (by omega) a.length)) h
  have h2 := num_inj (b := (b : Int)) (by omega) _ _ (by rw [rotl_len, rotl_len]) (dig_rotl dr _) (dig_rotl dr _) h1
  have hi := Nat.mod_lt i hl
  have hj := Nat.mod_lt j hl
  rcases Nat.lt_trichotomy (i % r.length) (j % r.length) with q | q | q
  · exact absurd h2 (hp.prim.turns q hj)
  · exact q
  · exact absurd h2.symm (hp.prim.turns q hi)
theorem rs_on {b m r j k : Nat} (h : rs b m r j = rs b m r k) (n : Nat) : rs b m r (j + n) = rs b m r (k + n) := by
  rw [rs_add, h, ← rs_add]
theorem plain_divAt (hb : 2 ≤ b) (da : Dig b a) (dr : Dig b r) (hp : PlainW b a r) (hD : (D : Int) = wB b a r) (hX : (X : Int) = tail b a r 0) : DivAt b D X a.length r.length := by
  have T := tails hb da dr hp.ng hD hX
  have ok : ∀ {k}, k < a.length + r.length → k ≤ a.length ∨ r ≠ [] := fun {k} hk => by
    by_cases h : k ≤ a.length
    · exact .inl h
    · refine .inr fun q => ?_
      subst q
      exact h (by simpa using Nat.le_of_lt hk)
  have P : ∀ k, k < a.length + r.length → rs b D X k ≠ 0 := fun k hk e => by
    have h1 := T k (ok hk)
    have h2 := tail_pos hb da dr hp hk
    rw [e] at h1
    omega
  have F : r.length = 0 → rs b D X a.length = 0 := fun h0 => by
    have hr : r = [] := List.eq_nil_of_length_eq_zero h0
    have h1 := T a.length (.inl (Nat.le_refl _))
    subst hr
    unfold tail at h1
    rw [if_pos (Nat.le_refl _), List.drop_length, num_nil, Int.zero_mul, Int.zero_add, Int.zero_mul] at h1
    omega
  refine ⟨P, fun j k hjk hk e => ?_, F, fun hl => ?_⟩
  · by_cases h0 : r.length = 0
    · have h1 := rs_on e (a.length - k)
      rw [show k + (a.length - k) = a.length by omega, F h0] at h1
      exact P _ (by omega) h1
    · have hl : 0 < r.length := by omega
      have hr : r ≠ [] := List.length_pos_iff.mp hl
      by_cases hj : a.length ≤ j
      · have h1 := T j (.inr hr)
        rw [e, T k (.inr hr), show k = a.length + (k - a.length) by omega, show j = a.length + (j - a.length) by omega] at h1
        have h2 := ring_inj hb dr hp hl h1
        rw [Nat.mod_eq_of_lt (by omega), Nat.mod_eq_of_lt (by omega)] at h2
        omega
      · have h1 := rs_on e (a.length - 1 - j)
        have ea : j + (a.length - 1 - j) = a.length - 1 := by omega
        obtain ⟨i, hi⟩ : ∃ i, k + (a.length - 1 - j) = a.length + i := ⟨k + (a.length - 1 - j) - a.length, by omega⟩
        rw [ea, hi] at h1
        have h2 := rs_on h1 1
        rw [show a.length - 1 + 1 = a.length + 0 by omega, Nat.add_assoc] at h2
        have h3 := T (a.length + 0) (.inr hr)
        rw [h2, T _ (.inr hr)] at h3
        have h4 := ring_inj hb dr hp hl h3
        rw [Nat.zero_mod] at h4
        have f1 := figs_dg hb da dr hp.ng hD hX (a.length - 1) (.inr hr)
        have f2 := figs_dg hb da dr hp.ng hD hX (a.length + i) (.inr hr)
        have f3 : dg b D X (a.length - 1) = dg b D X (a.length + i) := by unfold dg; rw [h1]
        rw [f3, f2] at f1
        unfold fig at f1
        rw [if_neg (by omega), if_pos (by omega), Nat.add_sub_cancel_left] at f1
        have hne : a ≠ [] := fun q => by subst q; simp at hj
        have hx : a.getLast? = some (a.getD (a.length - 1) 0) := by
          rw [List.getLast?_eq_getElem?, List.getD_eq_getElem?_getD, List.getElem?_eq_getElem (by omega)]
          rfl
        have him : i % r.length = r.length - 1 := by
          have q1 := Nat.mod_lt i hl
          have q2 : (i % r.length + 1) % r.length = 0 := by rw [Nat.mod_add_mod]; exact h4
          by_cases q3 : i % r.length + 1 < r.length
          · rw [Nat.mod_eq_of_lt q3] at q2
            omega
          · omega
        have hy : r.getLast? = some (rf r i) := by
          rw [List.getLast?_eq_getElem?, ← rf_mod, him]
          exact rf_get (by omega)
        exact hp.last _ _ hx hy f1.symm
  · have hr : r ≠ [] := List.length_pos_iff.mp hl
    have h1 := T (a.length + r.length) (.inr hr)
    have h2 := T (a.length + 0) (.inr hr)
    rw [tail_ring hl, Nat.mod_self] at h1
    rw [tail_ring hl, Nat.zero_mod, ← h1, Nat.add_zero] at h2
    omega
theorem plain_ahead (hb : 2 ≤ b) (da : Dig b a) (dr : Dig b r) (hp : PlainW b a r) (hD : (D : Int) = wB b a r) (hX : (X : Int) = tail b a r 0) : a = dgs b D X 0 a.length := by
  apply List.ext_getElem?
  intro k
  by_cases hk : k < a.length
  · rw [dgs_get _ _ _ _ _ _ hk, Nat.zero_add, figs_dg hb da dr hp.ng hD hX k (.inl hk)]
    unfold fig
    rw [if_pos hk, List.getD_eq_getElem?_getD, List.getElem?_eq_getElem hk]
    rfl
  · rw [List.getElem?_eq_none (by omega), List.getElem?_eq_none (by rw [dgs_len]; omega)]
theorem plain_ring (hb : 2 ≤ b) (da : Dig b a) (dr : Dig b r) (hp : PlainW b a r) (hD : (D : Int) = wB b a r) (hX : (X : Int) = tail b a r 0) : r = dgs b D X a.length r.length := by
  apply List.ext_getElem?
  intro k
  by_cases hk : k < r.length
  · rw [dgs_get _ _ _ _ _ _ hk, figs_dg hb da dr hp.ng hD hX _ (.inr (fun q => by subst q; simp at hk))]
    unfold fig
    rw [if_neg (by omega), Nat.add_sub_cancel_left]
    exact rf_get hk
  · rw [List.getElem?_eq_none (by omega), List.getElem?_eq_none (by rw [dgs_len]; omega)]
end U
/-! ### the same fraction in other terms -/
theorem rs_scale {b m p D X : Nat} (h : m * X = D * p) (k : Nat) : D * rs b m p k = m * rs b D X k := by
  unfold rs
  rw [← Nat.mul_mod_mul_left, ← Nat.mul_mod_mul_left, ← Nat.mul_assoc, ← Nat.mul_assoc, h, Nat.mul_comm D m]
theorem dg_scale {b m p D X : Nat} (hm : 0 < m) (hD : 0 < D) (h : m * X = D * p) (k : Nat) : dg b m p k = dg b D X k := by
  unfold dg
  rw [← Nat.mul_div_mul_left _ _ hD, ← Nat.mul_assoc, rs_scale h k, Nat.mul_assoc, Nat.mul_comm D m, Nat.mul_div_mul_left _ _ hm]
theorem dgs_scale {b m p D X : Nat} (hm : 0 < m) (hD : 0 < D) (h : m * X = D * p) (i n : Nat) : dgs b m p i n = dgs b D X i n := by
  unfold dgs
  congr 1
  funext k
  rw [dg_scale hm hD h]
theorem rs_scale_eq {b m p D X : Nat} (hm : 0 < m) (hD : 0 < D) (h : m * X = D * p) {j k : Nat} : rs b m p j = rs b m p k ↔ rs b D X j = rs b D X k := by
  have h1 := rs_scale (b := b) h j
  have h2 := rs_scale (b := b) h k
  constructor
  · intro e
    rw [e, h2] at h1
    exact (Nat.eq_of_mul_eq_mul_left hm h1).symm
  · intro e
    rw [e, ← h2] at h1
    exact Nat.eq_of_mul_eq_mul_left hD h1
theorem rs_scale_zero {b m p D X : Nat} (hm : 0 < m) (hD : 0 < D) (h : m * X = D * p) {j : Nat} : rs b m p j = 0 ↔ rs b D X j = 0 := by
  have h1 := rs_scale (b := b) h j
  constructor
  · intro e
    rw [e, Nat.mul_zero] at h1
    rcases Nat.mul_eq_zero.mp h1.symm with q | q
    · omega
    · exact q
  · intro e
    rw [e, Nat.mul_zero] at h1
    rcases Nat.mul_eq_zero.mp h1 with q | q
    · omega
    · exact q
theorem DivAt.scale {b m p D X s l : Nat} (d : DivAt b D X s l) (hm : 0 < m) (hD : 0 < D) (h : m * X = D * p) : DivAt b m p s l :=
  ⟨fun k hk e => d.pos k hk ((rs_scale_zero hm hD h).mp e), fun j k hjk hk e => d.new j k hjk hk ((rs_scale_eq hm hD h).mp e),
   fun hl => (rs_scale_zero hm hD h).mpr (d.fin hl), fun hl => (rs_scale_eq hm hD h).mpr (d.rep hl)⟩
/-! ### plain writings and divisions -/
theorem split_eq {b w : Int} {a r : List Int} {t m : Nat} (hb : 2 ≤ b) (da : Dig b a) (dr : Dig b r) (hg : r ≠ [] → ∃ x, x ∈ r ∧ x ≠ b - 1) (hm : 0 < m) (h : wT b w a r * m = t * wB b a r) : w = ((t / m : Nat) : Int) ∧ (m : Int) * tail b a r 0 = wB b a r * ((t % m : Nat) : Int) := by
  have h0 := tail_ok hb da dr hg 0
  have e : wT b w a r = w * wB b a r + tail b a r 0 := by rw [tail_zero, wT_eq]
  rw [e] at h
  generalize wB b a r = D at *
  generalize tail b a r 0 = X at *
  have hm' : (0 : Int) < m := by omega
  have et : (t : Int) = ((t / m : Nat) : Int) * m + ((t % m : Nat) : Int) := by
    have := Nat.div_add_mod t m
    rw [Nat.mul_comm] at this
    exact_mod_cast this.symm
  have hr : ((t % m : Nat) : Int) < m := by
    have := Nat.mod_lt t hm
    omega
  have hr0 : (0 : Int) ≤ ((t % m : Nat) : Int) := by omega
  generalize ((t / m : Nat) : Int) = q at *
  generalize ((t % m : Nat) : Int) = p at *
  generalize (m : Int) = M at *
  rw [et, Int.add_mul, Int.add_mul] at h
  have h1 : w * D * M = w * (M * D) := by rw [Int.mul_assoc, Int.mul_comm D]
  have h2 : q * M * D = q * (M * D) := by rw [Int.mul_assoc]
  rw [h1, h2] at h
  have l1 : X * M < M * D := by rw [Int.mul_comm M]; exact Int.mul_lt_mul_of_pos_right h0.2 hm'
  have l2 : p * D < M * D := Int.mul_lt_mul_of_pos_right hr (by omega)
  have l3 : 0 ≤ X * M := Int.mul_nonneg h0.1 (by omega)
  have l4 : 0 ≤ p * D := Int.mul_nonneg hr0 (by omega)
  have hW : 0 < M * D := by omega
  have ew : w = q := by
    have q1 : (w * (M * D) + X * M) / (M * D) = w := by
      rw [Int.add_comm, Int.add_mul_ediv_right _ _ (by omega), Int.ediv_eq_zero_of_lt l3 l1, Int.zero_add]
    have q2 : (q * (M * D) + p * D) / (M * D) = q := by
      rw [Int.add_comm, Int.add_mul_ediv_right _ _ (by omega), Int.ediv_eq_zero_of_lt l4 l2, Int.zero_add]
    rw [← q1, h, q2]
  subst ew
  refine ⟨rfl, ?_⟩
  rw [Int.mul_comm M, Int.mul_comm D]
  omega
/-- a plain writing is what division tells -/
theorem plain_unique {b : Nat} {w : Int} {a r : List Int} {t m : Nat} (hb : 2 ≤ b) (da : Dig b a) (dr : Dig b r) (hp : PlainW b a r) (hm : 0 < m) (h : wT b w a r * m = t * wB b a r) : w = ((t / m : Nat) : Int) ∧ DivAt b m (t % m) a.length r.length ∧ a = dgs b m (t % m) 0 a.length ∧ r = dgs b m (t % m) a.length r.length := by
  obtain ⟨e, h1⟩ := split_eq (b := (b : Int)) (by omega) da dr hp.ng hm h
  have h0 := tail_ok (b := (b : Int)) (by omega) da dr hp.ng 0
  obtain ⟨D, hD⟩ : ∃ D : Nat, (D : Int) = wB b a r := ⟨(wB b a r).toNat, by omega⟩
  obtain ⟨X, hX⟩ : ∃ X : Nat, (X : Int) = tail b a r 0 := ⟨(tail (b : Int) a r 0).toNat, by omega⟩
  rw [← hD, ← hX] at h1
  have h2 : m * X = D * (t % m) := by exact_mod_cast h1
  have hD0 : 0 < D := by omega
  have d := (plain_divAt hb da dr hp hD hX).scale hm hD0 h2
  refine ⟨e, d, ?_, ?_⟩
  · rw [dgs_scale hm hD0 h2]
    exact plain_ahead hb da dr hp hD hX
  · rw [dgs_scale hm hD0 h2]
    exact plain_ring hb da dr hp hD hX
theorem num_dgs (b m p i : Nat) : ∀ n, numI (b : Int) (dgs b m p i n) * m + ((rs b m p (i + n) : Nat) : Int) = ((rs b m p i : Nat) : Int) * (b : Int) ^ n
  | 0 => by
    show numI (b : Int) [] * m + _ = _
    rw [num_nil, Int.zero_mul, Int.zero_add, Int.pow_zero, Int.mul_one, Nat.add_zero]
  | n + 1 => by
    have ih := num_dgs b m p i n
    have e : ((rs b m p (i + n) : Nat) : Int) * b = ((dg b m p (i + n) : Nat) : Int) * m + ((rs b m p (i + n + 1) : Nat) : Int) := by
      have := Nat.div_add_mod (rs b m p (i + n) * b) m
      rw [rs_succ]
      unfold dg
      rw [Nat.mul_comm m] at this
      exact_mod_cast this.symm
    rw [dgs_succ, num_snoc, ← Nat.add_assoc, Int.pow_succ, ← Int.mul_assoc, ← ih, Int.add_mul, Int.add_mul, e, Int.mul_assoc, Int.mul_assoc, Int.mul_comm (b : Int)]
    omega
theorem dig_dgs {b m p i n : Nat} (hb : 0 < b) (hm : 0 < m) : Dig b (dgs b m p i n) := fun x hx => by
  unfold dgs at hx
  obtain ⟨k, _, rfl⟩ := List.mem_map.mp hx
  refine ⟨Int.natCast_nonneg _, ?_⟩
  have h : dg b m p (i + k) < b := by
    unfold dg
    rw [Nat.div_lt_iff_lt_mul hm, Nat.mul_comm b]
    exact Nat.mul_lt_mul_of_pos_right (rs_lt hm) hb
  omega
/-- what division tells is worth the fraction -/
theorem div_worth {b t m s l : Nat} (hb : 2 ≤ b) (hm : 0 < m) (d : DivAt b m (t % m) s l) : wT b ((t / m : Nat) : Int) (dgs b m (t % m) 0 s) (dgs b m (t % m) s l) * m = t * wB b (dgs b m (t % m) 0 s) (dgs b m (t % m) s l) := by
  have h1 := num_dgs b m (t % m) 0 s
  have h2 := num_dgs b m (t % m) s l
  rw [Nat.zero_add, rs_zero (Nat.mod_lt _ hm)] at h1
  have et : (t : Int) = ((t / m : Nat) : Int) * m + ((t % m : Nat) : Int) := by
    have := Nat.div_add_mod t m
    rw [Nat.mul_comm] at this
    exact_mod_cast this.symm
  rw [wT_eq, wB_eq, dgs_len]
  have key : (numI (b : Int) (dgs b m (t % m) 0 s) * rM b (dgs b m (t % m) s l) + numI (b : Int) (dgs b m (t % m) s l)) * m = ((t % m : Nat) : Int) * ((b : Int) ^ s * rM b (dgs b m (t % m) s l)) := by
    by_cases hl : l = 0
    · subst hl
      have hM : rM (b : Int) (dgs b m (t % m) s 0) = 1 := rfl
      have hN : numI (b : Int) (dgs b m (t % m) s 0) = 0 := rfl
      rw [hM, hN, Int.mul_one, Int.add_zero, Int.mul_one, ← h1, d.fin rfl]
      simp
    · have hM : rM (b : Int) (dgs b m (t % m) s l) = (b : Int) ^ l - 1 := by
        unfold rM
        rw [if_neg (fun q => hl (by rw [← dgs_len b m (t % m) s l, q]; rfl)), dgs_len]
      rw [d.rep (by omega)] at h2
      rw [hM, ← Int.mul_assoc, ← h1]
      generalize numI (b : Int) (dgs b m (t % m) 0 s) = A at *
      generalize numI (b : Int) (dgs b m (t % m) s l) = R at *
      generalize ((rs b m (t % m) s : Nat) : Int) = S at *
      generalize (b : Int) ^ l = P at *
      have e : R * m = S * (P - 1) := by rw [Int.mul_sub, Int.mul_one]; omega
      rw [Int.add_mul, e, Int.add_mul, Int.mul_assoc, Int.mul_assoc, Int.mul_comm (P - 1)]
  generalize numI (b : Int) (dgs b m (t % m) 0 s) * rM b (dgs b m (t % m) s l) + numI (b : Int) (dgs b m (t % m) s l) = X at *
  generalize (b : Int) ^ s * rM b (dgs b m (t % m) s l) = D at *
  rw [Int.add_mul, key, et, Int.add_mul, Int.mul_assoc, Int.mul_assoc, Int.mul_comm D]
end Rf

set_option maxHeartbeats 1000000
namespace Rf
/-! ### the steps that make a writing plain -/
/-- two writings of one worth -/
def SameW (b w : Int) (a r : List Int) (w' : Int) (a' r' : List Int) : Prop := wT b w' a' r' * wB b a r = wT b w a r * wB b a' r'
theorem SameW.refl {b w : Int} {a r : List Int} : SameW b w a r w a r := rfl
theorem SameW.trans {b w w1 w2 : Int} {a r a1 r1 a2 r2 : List Int} (hb : 2 ≤ b) (h1 : SameW b w a r w1 a1 r1) (h2 : SameW b w1 a1 r1 w2 a2 r2) : SameW b w a r w2 a2 r2 := by
  unfold SameW at *
  have p := wB_pos (b := b) (a := a1) (r := r1) hb
  refine Int.eq_of_mul_eq_mul_right (Int.ne_of_gt p) ?_
  rw [Int.mul_right_comm, h2, Int.mul_right_comm, h1, Int.mul_right_comm]
theorem sameW_of {b w w' k : Int} {a r a' r' : List Int} (hT : wT b w a r = k * wT b w' a' r') (hB : wB b a r = k * wB b a' r') : SameW b w a r w' a' r' := by
  unfold SameW
  rw [hT, hB, Int.mul_left_comm, Int.mul_assoc]
theorem sameW_wo {b w w' : Int} {a r a' r' : List Int} {t m : Int} (hb : 2 ≤ b) (h : SameW b w a r w' a' r') (e : wT b w a r * m = t * wB b a r) : wT b w' a' r' * m = t * wB b a' r' := by
  unfold SameW at h
  have p := wB_pos (b := b) (a := a) (r := r) hb
  refine Int.eq_of_mul_eq_mul_right (Int.ne_of_gt p) ?_
  rw [Int.mul_right_comm, h, Int.mul_right_comm, e, Int.mul_right_comm]
theorem num_max {b : Int} (hb : 2 ≤ b) : ∀ r : List Int, (∀ x, x ∈ r → x = b - 1) → numI b r = b ^ r.length - 1
  | [], _ => by rw [num_nil, List.length_nil, Int.pow_zero]; rfl
  | x :: r, h => by
    rw [num_cons, num_max hb r (fun y hy => h y (List.mem_cons_of_mem _ hy)), h x List.mem_cons_self, List.length_cons, Int.pow_succ, Int.sub_mul, Int.mul_comm b]
    omega
theorem num_zero (b : Int) : ∀ r : List Int, (∀ x, x ∈ r → x = 0) → numI b r = 0
  | [], _ => rfl
  | x :: r, h => by
    rw [num_cons, num_zero b r (fun y hy => h y (List.mem_cons_of_mem _ hy)), h x List.mem_cons_self]
    omega
theorem sameW_max {b w w' : Int} {a r a' : List Int} (hb : 2 ≤ b) (hr : r ≠ []) (h : ∀ x, x ∈ r → x = b - 1) (hl : a'.length = a.length) (e : w' * b ^ a.length + numI b a' = w * b ^ a.length + numI b a + 1) : SameW b w a r w' a' [] := by
  refine sameW_of (k := b ^ r.length - 1) ?_ ?_
  · unfold wT
    rw [if_neg hr, if_pos rfl, num_max hb r h, hl, e, Int.mul_comm, Int.mul_add _ _ 1, Int.mul_one]
  · unfold wB
    rw [if_neg hr, if_pos rfl, hl, Int.mul_comm]
theorem sameW_zero {b w : Int} {a r : List Int} (hr : r ≠ []) (h : ∀ x, x ∈ r → x = 0) : SameW b w a r w a [] := by
  refine sameW_of (k := b ^ r.length - 1) ?_ ?_
  · unfold wT
    rw [if_neg hr, if_pos rfl, num_zero b r h, Int.add_zero, Int.mul_comm]
  · unfold wB
    rw [if_neg hr, if_pos rfl, Int.mul_comm]
theorem num_short {b : Int} {r : List Int} {d : Nat} (hd : d ≤ r.length) (h : rotl r d = r) : numI b r * (b ^ d - 1) = numI b (r.take d) * (b ^ r.length - 1) := by
  have e1 : numI b r = numI b (r.take d) * b ^ (r.length - d) + numI b (r.drop d) := by
    have := num_app b (r.take d) (r.drop d)
    rw [List.take_append_drop, List.length_drop] at this
    exact this
  have e2 : numI b r = numI b (r.drop d) * b ^ d + numI b (r.take d) := by
    have := num_app b (r.drop d) (r.take d)
    rw [List.length_take, Nat.min_eq_left hd] at this
    unfold rotl at h
    rw [h] at this
    exact this
  have e3 : b ^ r.length = b ^ (r.length - d) * b ^ d := by rw [← Int.pow_add, Nat.sub_add_cancel hd]
  rw [e3]
  generalize b ^ (r.length - d) = P at *
  generalize b ^ d = Q at *
  generalize numI b (r.take d) = T at *
  generalize numI b (r.drop d) = S at *
  generalize numI b r = N at *
  have e4 : S = N - T * P := by omega
  rw [e4, Int.sub_mul, Int.mul_assoc] at e2
  rw [Int.mul_sub, Int.mul_sub]
  omega
theorem sameW_short {b w : Int} {a r : List Int} {d : Nat} (hb : 2 ≤ b) (h0 : 0 < d) (hd : d ≤ r.length) (h : rotl r d = r) : SameW b w a r w a (r.take d) := by
  have e := num_short (b := b) hd h
  have hr : r ≠ [] := fun q => by subst q; simp at hd; omega
  have hl : (r.take d).length = d := by rw [List.length_take, Nat.min_eq_left hd]
  have ht : r.take d ≠ [] := fun q => by rw [q] at hl; simp at hl; omega
  unfold SameW wT wB
  rw [if_neg hr, if_neg hr, if_neg ht, if_neg ht, hl]
  generalize w * b ^ a.length + numI b a = K
  generalize b ^ d - 1 = Q at *
  generalize b ^ r.length - 1 = P at *
  generalize numI b r = N at *
  generalize numI b (r.take d) = T at *
  generalize b ^ a.length = S
  rw [Int.add_mul, Int.add_mul]
  have q1 : K * Q * (S * P) = K * P * (S * Q) := by simp only [Int.mul_assoc, Int.mul_comm, Int.mul_left_comm]
  have q2 : T * (S * P) = N * (S * Q) := by
    rw [Int.mul_left_comm, ← e, Int.mul_left_comm]
  rw [q1, q2]
theorem rf_take {r : List Int} {d : Nat} (h0 : 0 < d) (hd : d ≤ r.length) (h : rotl r d = r) (k : Nat) : rf (r.take d) k = rf r k := by
  have h1 := (per_iff hd).mp h
  rw [← per_mod h1 k]
  unfold rf
  have hl : (r.take d).length = d := by rw [List.length_take, Nat.min_eq_left hd]
  have hk := Nat.mod_lt k h0
  rw [hl, Nat.mod_eq_of_lt (show k % d < r.length by omega), List.getD_eq_getElem?_getD, List.getD_eq_getElem?_getD, List.getElem?_take_of_lt hk]
theorem prim_take {r : List Int} {d : Nat} (h0 : 0 < d) (hd : d ≤ r.length) (hdl : r.length % d = 0) (h : rotl r d = r) (least : ∀ e, 0 < e → e < d → r.length % e = 0 → rotl r e ≠ r) : Prim (r.take d) := fun e he hed hde q => by
  have hl : (r.take d).length = d := by rw [List.length_take, Nat.min_eq_left hd]
  rw [hl] at hed hde
  refine least e he hed ?_ ?_
  · exact Nat.mod_eq_zero_of_dvd (Nat.dvd_trans (Nat.dvd_of_mod_eq_zero hde) (Nat.dvd_of_mod_eq_zero hdl))
  · refine (per_iff (by omega)).mpr fun k => ?_
    have h1 := (per_iff (by omega)).mp q k
    rw [rf_take h0 hd h, rf_take h0 hd h] at h1
    exact h1
theorem rf_rotl {r : List Int} {i : Nat} (hi : i ≤ r.length) (k : Nat) : rf (rotl r i) k = rf r (i + k) := by
  by_cases hl : r.length = 0
  · have : r = [] := List.eq_nil_of_length_eq_zero hl
    subst this
    unfold rotl rf
    simp
  · have hk := Nat.mod_lt k (show 0 < r.length by omega)
    have h1 := rotl_get hi hk
    have h2 : (rotl r i)[k % r.length]? = some (rf (rotl r i) k) := by
      have := rf_get (r := rotl r i) (i := k % r.length) (by rw [rotl_len]; exact hk)
      rw [this]
      rw [← rf_mod (rotl r i) k, rotl_len]
    rw [h1] at h2
    rw [← Option.some.inj h2, ← rf_mod r (i + k), ← rf_mod r (i + k % r.length), Nat.add_mod_mod]
theorem Prim.rotl {r : List Int} (h : Prim r) {i : Nat} (hi : i ≤ r.length) : Prim (rotl r i) := fun d h0 hd hdl q => by
  rw [rotl_len] at hd hdl
  refine h d h0 hd hdl ((per_iff (Nat.le_of_lt hd)).mpr fun k => ?_)
  have h1 := (per_iff (by rw [rotl_len]; omega)).mp q (k + (r.length - i))
  rw [rf_rotl hi, rf_rotl hi] at h1
  rw [show i + (d + (k + (r.length - i))) = d + k + r.length by omega, show i + (k + (r.length - i)) = k + r.length by omega, rf_len, rf_len] at h1
  exact h1
theorem rotl_snoc (r : List Int) (x : Int) : rotl (r ++ [x]) r.length = x :: r := by
  unfold rotl
  rw [List.drop_append_of_le_length (Nat.le_refl _), List.drop_length, List.take_append_of_le_length (Nat.le_refl _), List.take_length]
  rfl
theorem prim_snoc {r : List Int} {x : Int} (h : Prim (r ++ [x])) : Prim (x :: r) := by
  have := h.rotl (i := r.length) (by rw [List.length_append]; omega)
  rw [rotl_snoc] at this
  exact this
theorem sameW_turn {b w x : Int} {a r : List Int} : SameW b w (a ++ [x]) (r ++ [x]) w a (x :: r) := by
  have h1 : r ++ [x] ≠ [] := by simp
  refine sameW_of (k := b) ?_ ?_
  · unfold wT
    rw [if_neg h1, if_neg (List.cons_ne_nil _ _), num_snoc, num_snoc, num_cons, List.length_append, List.length_append, show (x :: r).length = r.length + 1 from rfl]
    show (w * b ^ (a.length + 1) + (numI b a * b + x)) * (b ^ (r.length + 1) - 1) + (numI b r * b + x) = _
    rw [Int.pow_succ, Int.pow_succ]
    generalize b ^ a.length = S
    generalize b ^ r.length = P
    generalize numI b a = A
    generalize numI b r = R
    have e1 : w * (S * b) + (A * b + x) = b * (w * S + A) + x := by
      rw [Int.mul_add, ← Int.mul_assoc, Int.mul_comm (w * S), Int.mul_comm A]; omega
    rw [e1]
    generalize w * S + A = K
    have e2 : x * (P * b - 1) = b * (x * P) - x := by rw [Int.mul_sub, Int.mul_one, ← Int.mul_assoc, Int.mul_comm (x * P)]
    rw [Int.add_mul, e2, Int.mul_assoc, Int.mul_comm R, Int.mul_add b, Int.mul_add b]
    omega
  · unfold wB
    rw [if_neg h1, if_neg (List.cons_ne_nil _ _), List.length_append, List.length_append, show (x :: r).length = r.length + 1 from rfl]
    show b ^ (a.length + 1) * (b ^ (r.length + 1) - 1) = _
    rw [Int.pow_succ b a.length, Int.mul_comm _ b, Int.mul_assoc]
theorem sameW_pop {b w : Int} {a : List Int} : SameW b w (a ++ [0]) [] w a [] := by
  refine sameW_of (k := b) ?_ ?_
  · unfold wT
    rw [if_pos rfl, if_pos rfl, num_snoc, List.length_append]
    show w * b ^ (a.length + 1) + (numI b a * b + 0) = _
    rw [Int.pow_succ, Int.mul_add, ← Int.mul_assoc, Int.mul_comm b, Int.mul_comm b]
    omega
  · unfold wB
    rw [if_pos rfl, if_pos rfl, List.length_append]
    show b ^ (a.length + 1) = _
    rw [Int.pow_succ, Int.mul_comm]
/-! ### low fractions and cross products -/
theorem low_cross {x y : Int} (hx : 0 ≤ x) (hy : 0 < y) : (low x y).1 * y = x * (low x y).2 ∧ 0 < (low x y).2 ∧ 0 ≤ (low x y).1 := by
  obtain ⟨n, rfl⟩ : ∃ n : Nat, x = n := ⟨x.toNat, by omega⟩
  obtain ⟨m, rfl⟩ : ∃ m : Nat, y = m := ⟨y.toNat, by omega⟩
  unfold low
  simp only [Int.toNat_natCast]
  have hg : 0 < Nat.gcd n m := Nat.gcd_pos_of_pos_right _ (by omega)
  obtain ⟨u, hu⟩ := Nat.gcd_dvd_left n m
  obtain ⟨v, hv⟩ := Nat.gcd_dvd_right n m
  have e1 : n / Nat.gcd n m = u := by
    conv => lhs; lhs; rw [hu]
    exact Nat.mul_div_cancel_left _ hg
  have e2 : m / Nat.gcd n m = v := by
    conv => lhs; lhs; rw [hv]
    exact Nat.mul_div_cancel_left _ hg
  have hv0 : 0 < v := by
    rcases Nat.eq_zero_or_pos v with q | q
    · rw [q, Nat.mul_zero] at hv; omega
    · exact q
  refine ⟨?_, ?_, ?_⟩
  · show ((n : Int) / ((Nat.gcd n m : Nat) : Int)) * (m : Int) = (n : Int) * ((m : Int) / ((Nat.gcd n m : Nat) : Int))
    rw [← Int.natCast_ediv, ← Int.natCast_ediv, e1, e2]
    have : u * m = n * v := by
      conv => lhs; rw [hv]
      conv => rhs; rw [hu]
      rw [Nat.mul_left_comm, Nat.mul_assoc]
    exact_mod_cast this
  · show 0 < (m : Int) / ((Nat.gcd n m : Nat) : Int)
    rw [← Int.natCast_ediv, e2]
    omega
  · show 0 ≤ (n : Int) / ((Nat.gcd n m : Nat) : Int)
    rw [← Int.natCast_ediv, e1]
    omega
theorem low_co {x y : Int} (hx : 0 ≤ x) (hy : 0 < y) : Nat.gcd (low x y).1.toNat (low x y).2.toNat = 1 := by
  obtain ⟨n, rfl⟩ : ∃ n : Nat, x = n := ⟨x.toNat, by omega⟩
  obtain ⟨m, rfl⟩ : ∃ m : Nat, y = m := ⟨y.toNat, by omega⟩
  unfold low
  simp only [Int.toNat_natCast, ← Int.natCast_ediv]
  exact Nat.gcd_div_gcd_div_gcd_of_pos_right (by omega)
/-- equal cross products, equal low fractions -/
theorem low_eq {x y u v : Int} (hx : 0 ≤ x) (hy : 0 < y) (hu : 0 ≤ u) (hv : 0 < v) : low x y = low u v ↔ x * v = u * y := by
  have c1 := low_cross hx hy
  have c2 := low_cross hu hv
  constructor
  · intro h
    rw [h] at c1
    have hp := c2.2.1
    generalize (low u v).1 = p at *
    generalize (low u v).2 = q at *
    refine Int.eq_of_mul_eq_mul_right (Int.ne_of_gt hp) ?_
    rw [Int.mul_right_comm, ← c1.1, Int.mul_right_comm u, ← c2.1, Int.mul_right_comm]
  · intro h
    have g1 := low_co hx hy
    have g2 := low_co hu hv
    have e : (low x y).1 * (low u v).2 = (low u v).1 * (low x y).2 := by
      have hyv : y * v ≠ 0 := Int.ne_of_gt (Int.mul_pos hy hv)
      refine Int.eq_of_mul_eq_mul_right hyv ?_
      have q1 : (low x y).1 * (low u v).2 * (y * v) = ((low x y).1 * y) * ((low u v).2 * v) := by simp only [Int.mul_assoc, Int.mul_comm, Int.mul_left_comm]
      have q2 : (low u v).1 * (low x y).2 * (y * v) = ((low u v).1 * v) * ((low x y).2 * y) := by simp only [Int.mul_assoc, Int.mul_comm, Int.mul_left_comm]
      rw [q1, q2, c1.1, c2.1]
      have q3 : x * (low x y).2 * ((low u v).2 * v) = (x * v) * ((low x y).2 * (low u v).2) := by simp only [Int.mul_assoc, Int.mul_comm, Int.mul_left_comm]
      have q4 : u * (low u v).2 * ((low x y).2 * y) = (u * y) * ((low x y).2 * (low u v).2) := by simp only [Int.mul_assoc, Int.mul_comm, Int.mul_left_comm]
      rw [q3, q4, h]
    have p1 := c1.2
    have p2 := c2.2
    apply Prod.ext
    all_goals
      obtain ⟨n1, h1⟩ : ∃ n : Nat, (low x y).1 = n := ⟨(low x y).1.toNat, by omega⟩
      obtain ⟨m1, h2⟩ : ∃ n : Nat, (low x y).2 = n := ⟨(low x y).2.toNat, by omega⟩
      obtain ⟨n2, h3⟩ : ∃ n : Nat, (low u v).1 = n := ⟨(low u v).1.toNat, by omega⟩
      obtain ⟨m2, h4⟩ : ∃ n : Nat, (low u v).2 = n := ⟨(low u v).2.toNat, by omega⟩
      rw [h1, h2] at g1
      rw [h3, h4] at g2
      rw [h1, h2, h3, h4] at e
      rw [h2] at p1
      rw [h4] at p2
      simp only [Int.toNat_natCast] at g1 g2
      have e' : n1 * m2 = n2 * m1 := by exact_mod_cast e
      have d1 : m1 ∣ m2 := (Nat.Coprime.symm g1).dvd_of_dvd_mul_left ⟨n2, by rw [e', Nat.mul_comm]⟩
      have d2 : m2 ∣ m1 := (Nat.Coprime.symm g2).dvd_of_dvd_mul_left ⟨n1, by rw [← e', Nat.mul_comm]⟩
      have em : m1 = m2 := Nat.dvd_antisymm d1 d2
      subst em
      have en : n1 = n2 := Nat.eq_of_mul_eq_mul_right (by omega) e'
      subst en
      first | rw [h1, h3] | rw [h2, h4]
end Rf

open PySem L2
namespace Rf
/-! ### what makes a writing plain -/
/-- the shortest ring that goes round as ns does -/
def ShortOf (ns ns' : List Int) : Prop := Prim ns' ∧ (ns' = ns ∨ ∃ d, 0 < d ∧ d ≤ ns.length ∧ rotl ns d = ns ∧ ns' = ns.take d)
theorem ShortOf.len {ns ns' : List Int} (h : ShortOf ns ns') : ns'.length ≤ ns.length := by
  rcases h.2 with e | ⟨d, h0, hd, _, e⟩
  · rw [e]; exact Nat.le_refl _
  · rw [e, List.length_take]; omega
theorem ShortOf.sub {ns ns' : List Int} (h : ShortOf ns ns') {x : Int} (hx : x ∈ ns') : x ∈ ns := by
  rcases h.2 with e | ⟨d, h0, hd, _, e⟩
  · rw [e] at hx; exact hx
  · rw [e] at hx; exact List.mem_of_mem_take hx
theorem ShortOf.nil {ns : List Int} (h : ShortOf ns []) : ns = [] := by
  rcases h.2 with e | ⟨d, h0, hd, _, e⟩
  · exact e.symm
  · have hl : (ns.take d).length = d := by rw [List.length_take]; omega
    rw [← e] at hl
    simp at hl
    omega
theorem ShortOf.sup {ns ns' : List Int} (h : ShortOf ns ns') {x : Int} (hx : x ∈ ns) : x ∈ ns' := by
  rcases h.2 with e | ⟨d, h0, hd, hr, e⟩
  · rw [e]; exact hx
  · obtain ⟨k, hk, rfl⟩ := List.getElem_of_mem hx
    have h1 := rf_get hk
    rw [List.getElem?_eq_getElem hk] at h1
    rw [Option.some.inj h1, ← rf_take h0 hd hr, e]
    exact rf_mem (by rw [List.length_take]; omega) _
theorem ShortOf.same {b w : Int} {a ns ns' : List Int} (hb : 2 ≤ b) (h : ShortOf ns ns') : SameW b w a ns w a ns' := by
  rcases h.2 with e | ⟨d, h0, hd, hr, e⟩
  · rw [e]; exact SameW.refl
  · rw [e]; exact sameW_short hb h0 hd hr
theorem shortOf_nil : ShortOf [] [] := ⟨fun d h0 hd => by simp at hd, .inl rfl⟩
/-- what stands between the lines: the whole number, figures ahead, ring -/
structure MadeSt (b : Int) (x : Wr) (w : Int) (an rn : List Int) : Prop where
  fa : Figs b an
  fr : Figs b rn
  la : an.length ≤ x.a.length
  lr : rn.length ≤ x.r.length
  w0 : x.w ≤ w
  w1 : w ≤ x.w + 1
  same : SameW b x.w x.a x.r w an rn
/-- where it stands: two new lists -/
structure MadeAt (H H' : Hp) (fa fr : Addr) (an rn : List Int) : Prop where
  same : Same H H'
  la : H' fa = some (.lst (an.map V.int))
  lr : H' fr = some (.lst (rn.map V.int))
  na : H fa = none
  nr : H fr = none
  ne : fa ≠ fr
/-- a plain writing of the same worth -/
structure MadeOf (b : Int) (x y : Wr) : Prop where
  pl : PlainW b y.a y.r
  st : MadeSt b x y.w y.a y.r
theorem cut_init (xs : List V) (v : V) : cutV (xs ++ [v]) none (some (-1)) = xs := by
  unfold cutV
  rw [HT.sIx_none, List.drop_zero, Nat.sub_zero]
  have e : HT.sIx (xs ++ [v]).length (xs ++ [v]).length (some (-1)) = xs.length := by
    unfold HT.sIx
    simp only [List.length_append, List.length_singleton]
    rw [if_pos (by decide)]
    omega
  rw [e, List.take_append_of_le_length (Nat.le_refl _), List.take_length]
theorem pop_last (xs : List V) (v : V) : (xs ++ [v])[(xs ++ [v]).length - 1]? = some v := by rw [← List.getLast?_eq_getElem?, List.getLast?_concat]
theorem snoc_of {ns : List Int} (h : 0 < ns.length) : ∃ ms z, ns = ms ++ [z] := by
  have hne : ns ≠ [] := List.length_pos_iff.mp h
  exact ⟨ns.dropLast, ns.getLast hne, (List.dropLast_concat_getLast hne).symm⟩
/-! ### one more -/
theorem om_take {ns : List Int} {k : Nat} (hk : k < ns.length) : ∃ x, ns[ns.length - 1 - k]? = some x ∧ ns.take (ns.length - k) = ns.take (ns.length - 1 - k) ++ [x] := by
  have h : ns.length - 1 - k < ns.length := by omega
  refine ⟨ns[ns.length - 1 - k], List.getElem?_eq_getElem h, ?_⟩
  rw [show ns.length - k = ns.length - 1 - k + 1 by omega]
  exact take_snoc (List.getElem?_eq_getElem h)
theorem om_get {ns : List Int} {k : Nat} (hk : k < ns.length) : (ns.take (ns.length - k) ++ List.replicate k 0)[ns.length - 1 - k]? = ns[ns.length - 1 - k]? := by
  rw [List.getElem?_append_left (by rw [List.length_take]; omega), List.getElem?_take_of_lt (by omega)]
theorem om_set {ns : List Int} {k : Nat} (hk : k < ns.length) (v : Int) : (ns.take (ns.length - k) ++ List.replicate k 0).set (ns.length - 1 - k) v = ns.take (ns.length - 1 - k) ++ v :: List.replicate k 0 := by
  obtain ⟨x, _, e⟩ := om_take hk
  rw [e, List.append_assoc, List.set_append_right _ _ (by rw [List.length_take]; omega), List.length_take, show ns.length - 1 - k - min (ns.length - 1 - k) ns.length = 0 by omega]
  rfl
end Rf

open PySem L2
namespace Rf
/-! ### divisions, of figures made plain -/
theorem cdivp_near {i j : Int} {u : Nat} (hj : 0 < j) (hi : i = j * u) (hu : u < 2 ^ 4000) : CDivP i j := by
  refine ⟨hj, ?_⟩
  obtain ⟨n, rfl⟩ : ∃ n : Nat, j = n := ⟨j.toNat, by omega⟩
  have hn : 0 < n := by omega
  rw [← Int.natCast_mul] at hi
  subst hi
  unfold Builtin.divisionGoesByPylong
  simp only [Int.natAbs_natCast]
  rw [Bool.and_eq_false_iff]
  refine .inr (decide_eq_false fun h => ?_)
  have hn0 : ((n : Int) == 0) = false := by
    rw [beq_eq_false_iff_ne]; omega
  rw [hn0] at h
  simp only [Bool.false_eq_true, if_false] at h
  by_cases hz : n * u = 0
  · rw [hz] at h
    simp at h
  · have hb0 : (((n * u : Nat) : Int) == 0) = false := by
      rw [beq_eq_false_iff_ne]; omega
    rw [hb0] at h
    simp only [Bool.false_eq_true, if_false] at h
    have h1 : (n * u).log2 < n.log2 + 1 + 4000 := by
      rw [Nat.log2_lt hz, Nat.pow_add]
      have h2 : n < 2 ^ (n.log2 + 1) := Nat.lt_log2_self
      exact Nat.mul_lt_mul_of_lt_of_le h2 (Nat.le_of_lt hu) (Nat.pow_pos (by decide))
    omega
/-- a fraction that is a small one in other terms -/
theorem lowOk_ratio {x y : Int} {t m : Nat} (hx : 0 ≤ x) (hy : 0 < y) (hm : 0 < m) (hm2 : m < 100000000000000000) (ht : t < 100000000000000000) (h : x * m = t * y) : LowOk x y := by
  obtain ⟨n, rfl⟩ : ∃ n : Nat, x = n := ⟨x.toNat, by omega⟩
  obtain ⟨d, rfl⟩ : ∃ m : Nat, y = m := ⟨y.toNat, by omega⟩
  have h' : n * m = t * d := by exact_mod_cast h
  unfold LowOk
  simp only [Int.toNat_natCast]
  have hg : 0 < Nat.gcd n d := Nat.gcd_pos_of_pos_right _ (by omega)
  have hc : Nat.Coprime (n / Nat.gcd n d) (d / Nat.gcd n d) := Nat.coprime_div_gcd_div_gcd hg
  obtain ⟨u, hu⟩ := Nat.gcd_dvd_left n d
  obtain ⟨v, hv⟩ := Nat.gcd_dvd_right n d
  have e1 : n / Nat.gcd n d = u := by
    conv => lhs; lhs; rw [hu]
    exact Nat.mul_div_cancel_left _ hg
  have e2 : d / Nat.gcd n d = v := by
    conv => lhs; lhs; rw [hv]
    exact Nat.mul_div_cancel_left _ hg
  rw [e1, e2] at hc
  generalize Nat.gcd n d = g at *
  subst hu hv
  have e3 : u * m = t * v := by
    have : g * (u * m) = g * (t * v) := by rw [← Nat.mul_assoc, h', Nat.mul_left_comm]
    exact Nat.eq_of_mul_eq_mul_left hg this
  have hvm : v ∣ m := (Nat.Coprime.symm hc).dvd_of_dvd_mul_left ⟨t, by rw [e3, Nat.mul_comm]⟩
  have hvl : v ≤ m := Nat.le_of_dvd hm hvm
  have hul : u ≤ t := by
    have : u * m ≤ t * m := by rw [e3]; exact Nat.mul_le_mul_left _ hvl
    exact Nat.le_of_mul_le_mul_right this hm
  have big : 100000000000000000 < 2 ^ 4000 := Nat.lt_of_lt_of_le (show 100000000000000000 < 2 ^ 60 by decide) (Nat.pow_le_pow_right (by decide) (by decide))
  exact ⟨cdivp_near (u := u) (by omega) (by rw [Int.natCast_mul]) (by omega), cdivp_near (u := v) (by omega) (by rw [Int.natCast_mul]) (by omega)⟩
/-- where the bottom goes into as many nines, so to speak, the division ends or comes round by then -/
theorem divAt_small {b m p A L : Nat} (h : (L ≠ 0 ∧ m ∣ b ^ A * (b ^ L - 1)) ∨ m ∣ b ^ A) (hb : 0 < b) : ∃ s l, s + l ≤ A + L ∧ DivAt b m p s l := by
  have hs : ∃ n, n ≤ A + L ∧ Stp b m p n := by
    rcases h with ⟨hL, q⟩ | q
    · refine ⟨A + L, Nat.le_refl _, .inr ⟨A, by omega, ?_⟩⟩
      unfold rs
      have e : p * b ^ (A + L) = p * b ^ A + p * (b ^ A * (b ^ L - 1)) := by
        rw [Nat.pow_add, ← Nat.mul_add]
        congr 1
        have : b ^ L = 1 + (b ^ L - 1) := by have := Nat.pow_pos (n := L) hb; omega
        conv => lhs; rw [this]
        rw [Nat.mul_add, Nat.mul_one]
      rw [e, Nat.add_mod, Nat.mod_eq_zero_of_dvd (Nat.dvd_trans q (Nat.dvd_mul_left _ _)), Nat.add_zero, Nat.mod_mod]
    · refine ⟨A, Nat.le_add_right _ _, .inl ?_⟩
      unfold rs
      exact Nat.mod_eq_zero_of_dvd (Nat.dvd_trans q (Nat.dvd_mul_left _ _))
  obtain ⟨n, hn, h⟩ := hs
  obtain ⟨k, hk, pk, lk⟩ := exists_least (Stp b m p) n h
  obtain ⟨s, l, e, d⟩ := divAt_of_stp pk lk
  exact ⟨s, l, by omega, d⟩
/-- a writing's worth in lowest terms, as naturals, and how soon its division comes round -/
theorem low_div {b : Nat} {w : Int} {a r : List Int} (hb : 2 ≤ b) (hT : 0 ≤ wT (b : Int) w a r) : ∃ t m : Nat, low (wT b w a r) (wB b a r) = ((t : Int), (m : Int)) ∧ 0 < m ∧ wT b w a r * m = t * wB b a r ∧ (m : Int) ≤ wB b a r ∧ ∃ s l, s + l ≤ a.length + r.length ∧ DivAt b m (t % m) s l := by
  have hB := wB_pos (b := (b : Int)) (a := a) (r := r) (by omega)
  have c := low_cross hT hB
  have g := low_co hT hB
  obtain ⟨t, ht⟩ : ∃ t : Nat, (low (wT b w a r) (wB b a r)).1 = t := ⟨(low (wT b w a r) (wB b a r)).1.toNat, by omega⟩
  obtain ⟨m, hm⟩ : ∃ t : Nat, (low (wT b w a r) (wB b a r)).2 = t := ⟨(low (wT b w a r) (wB b a r)).2.toNat, by omega⟩
  rw [ht, hm] at c g
  have hm0 : 0 < m := by omega
  obtain ⟨T, hT'⟩ : ∃ t : Nat, wT b w a r = t := ⟨(wT b w a r).toNat, by omega⟩
  obtain ⟨B, hB'⟩ : ∃ t : Nat, wB b a r = t := ⟨(wB b a r).toNat, by omega⟩
  have e : T * m = t * B := by
    have := c.1
    rw [hT', hB'] at this
    exact_mod_cast this.symm
  simp only [Int.toNat_natCast] at g
  have hd : m ∣ B := (Nat.Coprime.symm g).dvd_of_dvd_mul_left ⟨T, by rw [← e, Nat.mul_comm]⟩
  have hle : m ≤ B := Nat.le_of_dvd (by omega) hd
  refine ⟨t, m, Prod.ext ht hm, hm0, c.1.symm, by omega, divAt_small ?_ (by omega)⟩
  by_cases hr : r = []
  · right
    have q : B = b ^ a.length := by
      have : wB (b : Int) a r = (b : Int) ^ a.length := if_pos hr
      rw [hB'] at this
      exact_mod_cast this
    rw [← q]; exact hd
  · left
    have hl : 0 < r.length := List.length_pos_iff.mpr hr
    refine ⟨by omega, ?_⟩
    have q : B = b ^ a.length * (b ^ r.length - 1) := by
      have : wB (b : Int) a r = (b : Int) ^ a.length * ((b : Int) ^ r.length - 1) := if_neg hr
      rw [hB'] at this
      have h1 : 1 ≤ b ^ r.length := Nat.pow_pos (by omega)
      have h2 : ((b ^ r.length - 1 : Nat) : Int) = (b : Int) ^ r.length - 1 := by
        rw [Int.natCast_sub h1, Int.natCast_pow]; rfl
      rw [← h2] at this
      exact_mod_cast this
    rw [← q]; exact hd
/-- what is made plain is what division tells -/
theorem made_div {b : Nat} {x y : Wr} {t m s l : Nat} (hb : 2 ≤ b) (hm : 0 < m) (h : MadeOf (b : Int) x y) (e : wT b x.w x.a x.r * m = t * wB b x.a x.r) (hd : DivAt b m (t % m) s l) : y = ⟨((t / m : Nat) : Int), dgs b m (t % m) 0 s, dgs b m (t % m) s l⟩ := by
  have e' := sameW_wo (b := (b : Int)) (by omega) h.st.same e
  obtain ⟨q1, q2, q3, q4⟩ := plain_unique hb h.st.fa h.st.fr h.pl hm e'
  obtain ⟨u1, u2⟩ := q2.unique hd
  obtain ⟨w, a, r⟩ := y
  subst q1
  simp only at u1 u2 q3 q4 ⊢
  rw [u1] at q3
  rw [u1, u2] at q4
  rw [← q3, ← q4]
/-- two writings made plain are one if their worths are, and only then -/
theorem made_eq {b : Nat} {x y x' y' : Wr} (hb : 2 ≤ b) (hx : WrOk (b : Int) x) (hx' : WrOk (b : Int) x') (h : MadeOf (b : Int) x y) (h' : MadeOf (b : Int) x' y') : y = y' ↔ low (wT b x.w x.a x.r) (wB b x.a x.r) = low (wT b x'.w x'.a x'.r) (wB b x'.a x'.r) := by
  have T1 := wT_nn (b := (b : Int)) (a := x.a) (r := x.r) (by omega) hx.w0 hx.fa hx.fr
  have T2 := wT_nn (b := (b : Int)) (a := x'.a) (r := x'.r) (by omega) hx'.w0 hx'.fa hx'.fr
  have B1 := wB_pos (b := (b : Int)) (a := x.a) (r := x.r) (by omega)
  have B2 := wB_pos (b := (b : Int)) (a := x'.a) (r := x'.r) (by omega)
  constructor
  · intro e
    subst e
    rw [low_eq T1 B1 T2 B2]
    have s1 := h.st.same
    have s2 := h'.st.same
    unfold SameW at s1 s2
    have B3 := wB_pos (b := (b : Int)) (a := y.a) (r := y.r) (by omega)
    refine Int.eq_of_mul_eq_mul_right (Int.ne_of_gt B3) ?_
    rw [Int.mul_right_comm, ← s1, Int.mul_right_comm _ _ (wB b y.a y.r), ← s2, Int.mul_right_comm]
  · intro e
    obtain ⟨t, m, q1, q2, q3, q4, s, l, q5, q6⟩ := low_div hb T1
    have c2 := low_cross T2 B2
    rw [← e, q1] at c2
    rw [made_div hb q2 h q3 q6, made_div hb q2 h' c2.1.symm q6]
/-- what is plain is left alone -/
theorem made_self {b : Nat} {x y y' : Wr} (hb : 2 ≤ b) (hx : WrOk (b : Int) x) (hy : WrOk (b : Int) y) (h : MadeOf (b : Int) x y) (h' : MadeOf (b : Int) y y') : y' = y := by
  have T1 := wT_nn (b := (b : Int)) (a := x.a) (r := x.r) (by omega) hx.w0 hx.fa hx.fr
  obtain ⟨t, m, q1, q2, q3, q4, s, l, q5, q6⟩ := low_div hb T1
  have e' := sameW_wo (b := (b : Int)) (by omega) h.st.same q3
  rw [made_div hb q2 h' e' q6, made_div hb q2 h q3 q6]
theorem wid_wr {b : Int} {a r : List Int} {m : Nat} (hb : 2 ≤ b) (hb2 : b ≤ 36) (la : a.length ≤ 132) (lr : r.length ≤ 1200) (h : (m : Int) ≤ wB b a r) : Wid m := by
  have hp := wB_pos (a := a) (r := r) hb
  refine wid_of (k := 8000) ?_ (by decide) (by decide)
  have h1 := pow_lt2 (b := b) (by omega) (by omega) a.length
  have h2 := pow_lt2 (b := b) (by omega) (by omega) r.length
  have h3 := pow_posI (b := b) (by omega) a.length
  have h4 := pow_ge1 (b := b) (by omega) r.length
  have h5 : wB b a r ≤ 2 ^ (6 * a.length) * 2 ^ (6 * r.length) := by
    have h6 : b ^ a.length * b ^ r.length ≤ 2 ^ (6 * a.length) * 2 ^ (6 * r.length) := Int.mul_le_mul h1 h2 (by omega) (Int.le_of_lt (Int.pow_pos (by decide)))
    have h7 : b ^ a.length * 1 ≤ b ^ a.length * b ^ r.length := Int.mul_le_mul_of_nonneg_left h4 (Int.le_of_lt h3)
    unfold wB
    split
    · omega
    · rw [Int.mul_sub]; omega
  rw [← Int.pow_add] at h5
  have h8 := pow_mono2 (show 6 * a.length + 6 * r.length ≤ 7999 by omega)
  have h9 : (2 : Int) ^ 7999 < 2 ^ 8000 := by
    have e : (2 : Int) ^ (7999 + 1) = 2 ^ 7999 * 2 := Int.pow_succ 2 7999
    have e2 : (0 : Int) < 2 ^ 7999 := Int.pow_pos (by decide)
    rw [show (8000 : Nat) = 7999 + 1 from rfl, e]
    omega
  have h10 := nabs_lt (Int.le_of_lt hp) (show wB b a r < 2 ^ 8000 by omega)
  omega
theorem lowOk_wr2 {b w : Int} {a r : List Int} (hb : 2 ≤ b) (hb2 : b ≤ 36) (la : a.length ≤ 132) (lr : r.length ≤ 1200) : LowOk (wT b w a r) (wB b a r) := by
  have hp := wB_pos (a := a) (r := r) hb
  exact lowOk_wide hp (wid_wr hb hb2 la lr (by omega))
/-- a ring made of its head taken so many times goes round as that does -/
theorem rep_rotl {r : List Int} {d : Nat} (h0 : 0 < d) (hd : d < r.length) (e : r = (List.replicate (r.length / d) (r.take d)).flatten) : rotl r d = r := by
  obtain ⟨q, hq⟩ : ∃ q, r.length / d = q + 1 := ⟨r.length / d - 1, by have := Nat.div_pos (Nat.le_of_lt hd) h0; omega⟩
  rw [hq] at e
  have hl : (r.take d).length = d := by rw [List.length_take]; omega
  have e1 : r.drop d = (List.replicate q (r.take d)).flatten := by
    have h1 : r.take d ++ r.drop d = r.take d ++ (List.replicate q (r.take d)).flatten := by
      rw [List.take_append_drop]
      conv => lhs; rw [e]
      rw [List.replicate_succ, List.flatten_cons]
    exact List.append_cancel_left h1
  unfold rotl
  rw [e1]
  conv => rhs; rw [e]
  rw [List.replicate_succ', List.flatten_append]
  simp
theorem made_same {b : Nat} {x y y' : Wr} (hb : 2 ≤ b) (hx : WrOk (b : Int) x) (h : MadeOf (b : Int) x y) (h' : MadeOf (b : Int) x y') : y = y' := (made_eq hb hx hx h h').mpr rfl
end Rf

open PySem L2
namespace Rf
/-! ### divisions' writings -/
def IsDiv (b t m : Nat) (x : Wr) : Prop := ∃ s l, s + l ≤ m ∧ DivAt b m (t % m) s l ∧ x = ⟨((t / m : Nat) : Int), dgs b m (t % m) 0 s, dgs b m (t % m) s l⟩
theorem IsDiv.mk' {b t m s l : Nat} (hm : 0 < m) (d : DivAt b m (t % m) s l) : IsDiv b t m ⟨((t / m : Nat) : Int), dgs b m (t % m) 0 s, dgs b m (t % m) s l⟩ := by
  obtain ⟨s', l', hl, h'⟩ := divAt_exists (b := b) (r := t % m) hm
  obtain ⟨e1, e2⟩ := d.unique h'
  subst e1 e2
  exact ⟨s, l, hl, d, rfl⟩
theorem IsDiv.ex {b t m : Nat} (hm : 0 < m) : ∃ x, IsDiv b t m x := by
  obtain ⟨s, l, hl, h⟩ := divAt_exists (b := b) (m := m) (r := t % m) hm
  exact ⟨_, s, l, hl, h, rfl⟩
theorem IsDiv.eq {b t m : Nat} {x y : Wr} (h : IsDiv b t m x) (h' : IsDiv b t m y) : x = y := by
  obtain ⟨s, l, _, d, rfl⟩ := h
  obtain ⟨s', l', _, d', rfl⟩ := h'
  obtain ⟨e1, e2⟩ := d.unique d'
  subst e1 e2
  rfl
theorem IsDiv.cross {b t m t' m' : Nat} {x : Wr} (h : IsDiv b t m x) (hm : 0 < m) (hm' : 0 < m') (e : t * m' = t' * m) : IsDiv b t' m' x := by
  obtain ⟨s, l, _, d, rfl⟩ := h
  have hs : m' * (t % m) = m * (t' % m') := by
    rw [Nat.mul_comm m', ← Nat.mul_mod_mul_right, e, Nat.mul_comm m m', Nat.mul_mod_mul_right, Nat.mul_comm]
  have hq : t / m = t' / m' := by
    rw [← Nat.mul_div_mul_right t m hm', e, Nat.mul_comm m m', Nat.mul_div_mul_right _ _ hm]
  have d' : DivAt b m' (t' % m') s l := d.scale hm' hm hs
  rw [hq, ← dgs_scale hm' hm hs, ← dgs_scale hm' hm hs]
  exact IsDiv.mk' hm' d'
theorem IsDiv.ok {b t m : Nat} {x : Wr} (h : IsDiv b t m x) (hb : 0 < b) (hm : 0 < m) (hm2 : m ≤ 2000) (ht : t ≤ 1000000000000 * m) : WrOk (b : Int) x := by
  obtain ⟨s, l, hl, d, rfl⟩ := h
  have hq : t / m ≤ 1000000000000 := Nat.div_le_of_le_mul (by rw [Nat.mul_comm]; exact ht)
  refine ⟨Int.natCast_nonneg _, ?_, ?_, ?_, dig_dgs hb hm, dig_dgs hb hm⟩
  · show ((t / m : Nat) : Int) ≤ _
    exact Int.ofNat_le.mpr hq
  · show (dgs b m (t % m) 0 s).length ≤ _; rw [dgs_len]; omega
  · show (dgs b m (t % m) s l).length ≤ _; rw [dgs_len]; omega
theorem IsDiv.worth {b t m : Nat} {x : Wr} (h : IsDiv b t m x) (hb : 2 ≤ b) (hm : 0 < m) : wT b x.w x.a x.r * m = t * wB b x.a x.r := by
  obtain ⟨s, l, hl, d, rfl⟩ := h
  exact div_worth hb hm d
/-- what worth tells of it -/
theorem IsDiv.low {b t m : Nat} {x : Wr} (h : IsDiv b t m x) (hb : 2 ≤ b) (hm : 0 < m) (hm2 : m ≤ 2000) (ht : t ≤ 1000000000000 * m) : LowOk (wT b x.w x.a x.r) (wB b x.a x.r) ∧ ∃ u v : Nat, low (wT b x.w x.a x.r) (wB b x.a x.r) = ((u : Int), (v : Int)) ∧ 0 < v ∧ v ≤ m ∧ u * m = t * v ∧ u ≤ t := by
  have ok := h.ok (by omega) hm hm2 ht
  have e := h.worth hb hm
  have T0 := wT_nn (b := (b : Int)) (a := x.a) (r := x.r) (by omega) ok.w0 ok.fa ok.fr
  have B0 := wB_pos (b := (b : Int)) (a := x.a) (r := x.r) (by omega)
  refine ⟨lowOk_ratio T0 B0 hm (by omega) (by omega) e, ?_⟩
  have el : Rf.low (wT b x.w x.a x.r) (wB b x.a x.r) = Rf.low (t : Int) (m : Int) := (low_eq T0 B0 (by omega) (by omega)).mpr e
  rw [el]
  have c := low_cross (x := (t : Int)) (y := (m : Int)) (by omega) (by omega)
  have g := low_co (x := (t : Int)) (y := (m : Int)) (by omega) (by omega)
  obtain ⟨u, hu⟩ : ∃ u : Nat, (Rf.low (t : Int) (m : Int)).1 = u := ⟨(Rf.low (t : Int) (m : Int)).1.toNat, by omega⟩
  obtain ⟨v, hv⟩ : ∃ v : Nat, (Rf.low (t : Int) (m : Int)).2 = v := ⟨(Rf.low (t : Int) (m : Int)).2.toNat, by omega⟩
  rw [hu, hv] at c g
  simp only [Int.toNat_natCast] at g
  have hv0 : 0 < v := by omega
  have e2 : u * m = t * v := by exact_mod_cast c.1
  have hd : v ∣ m := (Nat.Coprime.symm g).dvd_of_dvd_mul_left ⟨t, by rw [e2, Nat.mul_comm]⟩
  have hvm := Nat.le_of_dvd hm hd
  refine ⟨u, v, Prod.ext hu hv, hv0, hvm, e2, ?_⟩
  have : u * m ≤ t * m := by rw [e2]; exact Nat.mul_le_mul_left _ hvm
  exact Nat.le_of_mul_le_mul_right this hm
/-- a comprehension over range(n) of calls that hand back new writings -/
theorem lc_wrs {D : Addr} {n : Nat} {te : TE} {vs : List Nat} {σ : L2.St} {i : Nat} {H : Hp} {Qd : Hp → Prop} (X : Nat → Wr) (nD : H D = none) (hlen : n < 1000000)
    (hw : ∀ x, wipe ((wipe σ vs).set i (some x)) vs = wipe σ vs)
    (he : ∀ k, k < n → ∀ H' (Q : VK), Same H H' → (∀ H2 p a r, WrNew H' H2 p a r (X k) → Q (.ref p) H2) → te ((wipe σ vs).set i (some (.int (k : Int)))) H' Q)
    (hd : ∀ H' (ps : List Addr), Same H H' → ps.length = n → H' D = some (.lst (ps.map V.ref)) → (∀ k p, ps[k]? = some p → ∃ a r, WrAt H' p a r (X k)) → Qd H') :
    ∃ W : Nat → Nat → Hp → Prop, (∃ m, W 0 m (upd H D (.lst []))) ∧ ∀ j m H, W j m H →
      ((Itr 0 n).stop j H ∧ Qd H) ∨ ((Itr 0 n).go j H ∧ ∃ Nx : Hp → Prop, (∀ H', Nx H' → ∃ m', m' < m ∧ W (j + 1) m' H') ∧ ∀ x H', (Itr 0 n).yld j H x H' → gName i x (wipe σ vs) H' fun σ2 H2 => wipe σ2 vs = wipe σ vs ∧ tYes σ2 H2 fun b H3 =>
        if b = true then te σ2 H3 fun y H4 => ∃ acc, H4 D = some (.lst acc) ∧ acc.length < sizeLine ∧ Nx (upd H4 D (.lst (acc ++ [y]))) else Nx H3) := by
  refine lc_range (lo := 0) (n := n) (fun j H' => Same H H' ∧ ∃ ps : List Addr, ps.length = j ∧ H' D = some (.lst (ps.map V.ref)) ∧ ∀ k p, ps[k]? = some p → ∃ a r, WrAt H' p a r (X k) ∧ a ≠ D ∧ r ≠ D)
    ⟨same_upd nD, [], rfl, upd_same, fun k p h => by cases h⟩ (fun j H' hj ⟨s, ps, hl, hD, hP⟩ => ?_) (fun H' ⟨s, ps, hl, hD, hP⟩ => hd H' ps s hl hD (fun k p h => by obtain ⟨a, r, w, _, _⟩ := hP k p h; exact ⟨a, r, w⟩))
  rw [Int.zero_add]
  refine ⟨hw _, ?_⟩
  show te ((wipe σ vs).set i (some (.int (j : Int)))) H' _
  refine he j hj H' _ s fun H2 p2 a2 r2 w2 => ⟨_, w2.same _ _ hD, ?_, same_new (s.trans w2.same) nD, ps ++ [p2], ?_, ?_, fun k p h => ?_⟩
  · rw [List.length_map]
    exact sz100lt (by omega)
  · rw [List.length_append, hl]; rfl
  · rw [upd_same, List.map_append]; rfl
  · have nd : ∀ z, H' z = none → z ≠ D := fun z hz e => by rw [e, hD] at hz; cases hz
    by_cases hk : k < ps.length
    · rw [List.getElem?_append_left hk] at h
      obtain ⟨a, r, w, ha, hr⟩ := hP k p h
      have w' := w.same w2.same
      have hp : p ≠ D := ne_of w.tp hD (fun z => by cases z)
      exact ⟨a, r, ⟨(upd_ne hp).trans w'.tp, (upd_ne ha).trans w'.la, (upd_ne hr).trans w'.lr⟩, ha, hr⟩
    · by_cases hk2 : k = ps.length
      · subst hk2
        rw [List.getElem?_append_right (Nat.le_refl _), Nat.sub_self] at h
        have e : p2 = p := Option.some.inj h
        subst e
        rw [hl]
        exact ⟨a2, r2, ⟨(upd_ne (nd _ w2.np)).trans w2.at'.tp, (upd_ne (nd _ w2.na)).trans w2.at'.la, (upd_ne (nd _ w2.nr)).trans w2.at'.lr⟩, nd _ w2.na, nd _ w2.nr⟩
      · rw [List.getElem?_eq_none (by rw [List.length_append, List.length_singleton]; omega)] at h
        cases h
theorem isDiv_int (b q : Nat) {m : Nat} (hm : 0 < m) : IsDiv b (q * m) m ⟨(q : Int), [], []⟩ := by
  have h := IsDiv.mk' (b := b) (t := q * m) (m := m) (s := 0) (l := 0) hm ⟨fun k hk => by omega, fun j k _ hk => by omega, fun _ => by unfold rs; rw [Nat.mul_mod_left, Nat.zero_mul, Nat.zero_mod], fun h => by omega⟩
  rw [Nat.mul_div_cancel _ hm] at h
  exact h
end Rf

set_option maxRecDepth 100000
set_option maxHeartbeats 4000000
open PySem PySem.Spec PyProof.Rows L2
namespace Rf
/-! ### list(reversed(xs)) -/
/-- what the i-th turn of a walk from the end gives -/
abbrev BackAt (vs : Array Value) : Nat → Value → Prop := fun i v => vs[vs.size - 1 - i]? = some v
/-- a list object's own make -/
abbrev lob (vs : Array Value) (c : Nat) : Obj := { cls := .type "list", data := .seq vs c }
section
variable {prog : Program} {w : World} {A : Around} {E : Value → Shared → Prop} {s : Shared}
theorem back_ext {R : Result → Shared → Prop} {j l S : Addr} {vs : Array Value} {c : Nat} (res : Value)
    (calm : A.handled = none) (hj : s.heap.IsRevIter j l ((vs.size : Int) - 1)) (hl : s.heap.IsList l vs)
    (lj : l ≠ j) (sj : S ≠ j) (sl : S ≠ l) (sz : vs.size ≤ sizeLine)
    (hS : s.heap.get? S = some (lob #[] c))
    (fin : ∀ h' tk acc c', (∀ b o, b ≠ S → b ≠ j → s.heap.get? b = some o → h'.get? b = some o) → h'.get? S = some (lob acc c')
      → ItemsOf (BackAt vs) acc vs.size → R (.ok (.ret res)) { s with heap := h', toks := tk }) :
    wpAny (model prog w) A.in1 (Builtin.List.listExtendWith (.ref S) (.ref j) res)
      (fun e s' => match e with
        | .done f => R (.ok f) s'
        | .again k => k.quiet = true ∧ codeAny (model prog w) A k R s')
      (fun e s' => R (.error e) s') s := by
  have walk := (Walks.listRev (prog := prog) (w := w) (A := A.in1) calm j l lj vs).toS
  have out : S ∉ [j, l] := fun m => by
    rcases List.mem_cons.mp m with z | z
    · exact sj z
    · exact sl (List.mem_singleton.mp z)
  have ty : s.TypeIs (.ref j) "list_reverseiterator" := Heap.IsRevIter.typeIs hj
  have other : Builtin.List.listSameRef (.ref S) (.ref j) = false := by simp [Builtin.List.listSameRef, sj]
  unfold Builtin.List.listExtendWith
  apply wpAny_bind
  refine wpAny_typeOf ty ?_
  rw [if_neg (by rw [other]; decide)]
  apply wpAny_bind
  refine wpAny_pyIter_revIter hj ?_
  apply wpAny_bind
  refine wpAny_holding ?_
  unfold Builtin.List.listLengthHint
  apply wpAny_bind
  refine wpAny_specialOf ty RT.nolen_lri ?_
  show wpAny (model prog w) A.in1 (specialOf (.ref j) (Str.ofString "__length_hint__") >>= _) _ _ s
  apply wpAny_bind
  refine wpAny_specialOf ty RT.hint_lri ?_
  generalize nm : ("list_reverseiterator.__length_hint__" : String) = x0
  wp_delta
  rw [show splitId x0 = some ("list_reverseiterator", "__length_hint__") from by
    subst nm
    decide +kernel]
  subst nm
  apply wpAny_bind
  refine wpAny_isInstance (b := true) ty (by
    rw [isSubtype_type]
    kernel_rfl) ?_
  refine wpAny_pure ?_
  rw [if_neg (by decide)]
  have first : ((vs.size : Nat) : Int) - 1 - ((0 : Nat) : Int) = (vs.size : Int) - 1 := by omega
  refine wpAny_pure ⟨plainId_quiet F.plain_extend_loop _, ?_⟩
  refine codeAny_extend_loopS walk sz S out res vs.size 0 _ #[] c rfl (Nat.zero_le _) ⟨Nat.zero_le _, ?_, hl⟩ hS (ItemsOf.nil _) ?_
  · rw [first]; exact hj
  · intro s' acc c' mv hS' hacc
    rw [Moved.eq_with mv]
    refine fin s'.heap s'.toks acc c' (fun b o b1 b2 e => mv.heap b o (fun m => ?_) e) hS' hacc
    rcases List.mem_cons.mp m with z | z
    · exact b1 z
    · exact b2 (List.mem_singleton.mp z)
theorem back_init {R : Result → Shared → Prop} {j l S : Addr} {vs : Array Value}
    (calm : A.handled = none) (hj : s.heap.IsRevIter j l ((vs.size : Int) - 1)) (hl : s.heap.IsList l vs)
    (lj : l ≠ j) (sj : S ≠ j) (sl : S ≠ l) (sz : vs.size ≤ sizeLine)
    (hS : s.heap.get? S = some (lob #[] 0))
    (fin : ∀ h' tk acc c', (∀ b o, b ≠ S → b ≠ j → s.heap.get? b = some o → h'.get? b = some o) → h'.get? S = some (lob acc c')
      → ItemsOf (BackAt vs) acc vs.size → R (.ok (.ret .none)) { s with heap := h', toks := tk }) :
    wpAny (model prog w) A.in1 (Builtin.«list.__init__» ⟨[.ref S, .ref j], []⟩)
      (fun e s' => match e with
        | .done f => R (.ok f) s'
        | .again k => k.quiet = true ∧ codeAny (model prog w) A k R s')
      (fun e s' => R (.error e) s') s := by
  show wpAny _ A.in1 (Builtin.List.listItems (.ref S) >>= fun old => Builtin.List.listUpdate (.ref S) (fun _ => #[]) >>= fun _ =>
    letGo old.toList.reverse >>= fun _ => Builtin.List.listExtendWith (.ref S) (.ref j) .none) _ _ s
  apply wpAny_bind
  unfold Builtin.List.listItems
  apply wpAny_bind
  refine wpAny_seqItems hS rfl (wpAny_pure ?_)
  apply wpAny_bind
  show wpAny _ A.in1 (updateSeq S (fun _ => #[])) _ _ s
  refine wpAny_updateSeq hS rfl ?_
  have new := Heap.get?_update_self (Obj.mapSeq fun _ => (#[] : Array Value)) hS rfl
  have stay : ∀ b o, b ≠ S → s.heap.get? b = some o → (s.heap.update S (Obj.mapSeq fun _ => (#[] : Array Value))).get? b = some o := fun b o n e => by
    rw [Heap.get?_update_other _ _ (Ne.symm n)]
    exact e
  apply wpAny_bind
  refine wpAny_letGo ?_
  refine back_ext .none calm (hj.at fun o e => stay j o (Ne.symm sj) e) (hl.at fun o e => stay l o (Ne.symm sl) e) lj sj sl sz new ?_
  intro h' tk acc c' k
  exact fin h' tk acc c' fun b o b1 b2 e => k b o b1 b2 (stay b o b1 e)
theorem back_call {Q : Value → Shared → Prop} {j l : Addr} {vs : Array Value}
    (calm : A.handled = none) (hj : s.heap.IsRevIter j l ((vs.size : Int) - 1)) (hl : s.heap.IsList l vs)
    (lj : l ≠ j) (sz : vs.size ≤ sizeLine)
    (fin : ∀ h' tk acc c', (∀ b o, b ≠ j → s.heap.get? b = some o → h'.get? b = some o) → h'.get? s.heap.objs.size = some (lob acc c')
      → ItemsOf (BackAt vs) acc vs.size → Q (.ref s.heap.objs.size) { s with heap := h', toks := tk }) :
    wpAny (model prog w) A (call (.type "list") [.ref j]) Q E s := by
  refine callType_codes (Q₁ := fun o s1 => o = .ref s.heap.objs.size ∧ s1 = { s with heap := s.heap.push (lob #[] 0) }) F.called_list (F.typeCall_list_1 (.ref j)) F.entry_list_init (code_list_new (.ref j) ⟨rfl, rfl⟩) ?_
  rintro o s1 ⟨rfl, rfl⟩
  have at0 : (s.heap.push (lob #[] 0)).get? s.heap.objs.size = some (lob #[] 0) := Heap.get?_push_size _ rfl
  have stay : ∀ b o, s.heap.get? b = some o → (s.heap.push (lob #[] 0)).get? b = some o := fun b o e => Heap.get?_push_of_some _ e
  have jlt : j < s.heap.objs.size := by
    obtain ⟨o, e, _⟩ := hj
    exact Heap.lt_size e
  have llt : l < s.heap.objs.size := by
    obtain ⟨o, e, _⟩ := hl
    exact Heap.lt_size e
  refine ⟨⟨_, at0, rfl⟩, F.args_list_init_2 _ _, ?_⟩
  refine back_init (A := A.in1) calm (hj.at fun o e => stay j o e) (hl.at fun o e => stay l o e) lj (Nat.ne_of_gt jlt) (Nat.ne_of_gt llt) sz at0 ?_
  intro h' tk acc c' k e i
  exact ⟨rfl, fin h' tk acc c' (fun b o n eb => k b o (Nat.ne_of_lt (Heap.lt_size eb)) n (stay b o eb)) e i⟩
end
/-- list(reversed(x)), x a list: a new list -/
def tBack (K : PySem.W.Frag) (te : TE) : TE := fun σ H Q => te σ H fun v H1 =>
  ∃ (a : Addr) (xs : List V), v = .ref a ∧ SqL K H1 a xs ∧ ∀ q, H1 q = none → Q (.ref q) (upd H1 q (.lst xs.reverse))
theorem pe_lrev {X : Cx} {e : Expr} {te : TE} {p p2 pos pos2 : Pos} (gl : Gl X "list") (ml : X.mg "list" = none) (gr : Gl X "reversed") (mr : X.mg "reversed" = none)
    (he : PE X e te) (hc : X.calm = true := by rfl)
    (st1 : starEach [e] X.env = (false, eval e X.env) :: starEach [] X.env := by rfl)
    (st2 : starEach [.Call (.Name "reversed" p2) [e] [] pos2] X.env = (false, eval (.Call (.Name "reversed" p2) [e] [] pos2) X.env) :: starEach [] X.env := by rfl) :
    PE X (.Call (.Name "list" p) [.Call (.Name "reversed" p2) [e] [] pos2] [] pos) (tBack X.K te) := by
  refine ⟨fun pins s σ H Q I h => ?_⟩
  refine Call_ (ld_blt I gl ml boot_list (PyProof.Rows.callWith_type1 (args_cons (Call_ (ld_blt I gr mr PyProof.Rows.boot_reversed (PyProof.Rows.callWith_type1 (args_cons (thn (he.run pins s σ H _ I h) ?_) st1) st1 rfl))) st2) st2 rfl))
  rintro u s1 ⟨v, H1, I1, ru, a, xs, rfl, sq, q⟩
  obtain rfl : u = Value.ref a := ru
  obtain ⟨its, rv, il, hz⟩ := I1.list sq
  refine args_nil ?_
  refine call_reversed_list il.isList (args_nil ?_)
  have ll := il.isList
  have alt : a < s1.heap.objs.size := by
    obtain ⟨o, e, _⟩ := id ll
    exact Heap.lt_size e
  have sz : its.toArray.size ≤ sizeLine := by
    rw [List.size_toArray, ← rv.length]
    exact hz
  refine back_call (s := { s1 with heap := s1.heap.push (revObj a ((its.toArray.size : Int) - 1)) }) (I1.ok.hd hc) ⟨_, Heap.get?_push_size _ rfl, rfl, rfl⟩ (ll.push _) (Nat.ne_of_lt alt) sz ?_
  intro h' tk acc c' k e i
  have big : s1.heap.objs.size ≤ (s1.heap.push (revObj a ((its.toArray.size : Int) - 1))).objs.size := by
    rw [Heap.size_push]
    exact Nat.le_succ _
  have keep : ∀ b o, s1.heap.get? b = some o → h'.get? b = some o := fun b o eb => k b o (Nat.ne_of_lt (Heap.lt_size eb)) (Heap.get?_push_of_some _ eb)
  refine ⟨.ref (s1.heap.push (revObj a ((its.toArray.size : Int) - 1))).objs.size, _, I1.laid (t' := tk) (o := .lst xs.reverse) keep big ?_, rfl, q _ (I1.hok.fresh big)⟩
  refine ⟨by rw [List.length_reverse]; exact hz, acc.toList, c', RT.vals_rev rv i, ?_⟩
  rw [Array.toArray_toList]
  exact e
end Rf

open PySem PySem.Spec PyProof.Rows L2
namespace Rf
/-! ### signs -/
def sg (x : Int) : Nat := if x < 10 then 48 + x.toNat else 87 + x.toNat
def sgs (ns : List Int) : Str := ⟨(ns.map sg).toArray⟩
def SIG : Str := Str.ofString "0123456789abcdefghijklmnopqrstuvwxyz"
theorem sig_cps : SIG.cps.toList = (List.range 36).map fun k : Nat => sg (k : Int) := by decide +kernel
theorem sig_get {x : Int} (h0 : 0 ≤ x) (h : x < 36) : SIG.cps.toList[x.toNat]? = some (sg x) := by
  rw [sig_cps, List.getElem?_map, List.getElem?_range (by omega)]
  show some (sg ((x.toNat : Nat) : Int)) = some _
  rw [Int.toNat_of_nonneg h0]
theorem sig_at {x : Int} (h0 : 0 ≤ x) (h : x < 36) : atI SIG.cps.toList x = some (sg x) := by
  have := atI_nat (sig_get h0 h)
  rw [Int.toNat_of_nonneg h0] at this
  exact this
theorem fold_signs (xs : List Int) : ∀ A : Array Nat, List.foldl (fun (acc : Array Nat) (p : Str) => acc ++ (Str.ofString "").cps ++ p.cps) A (xs.map fun x => (⟨#[sg x]⟩ : Str)) = A ++ (xs.map sg).toArray := by
  induction xs with
  | nil => intro A; simp
  | cons x xs ih =>
    intro A
    rw [List.map_cons, List.foldl_cons, ih]
    have e : (Str.ofString "").cps = #[] := by decide +kernel
    rw [e, List.map_cons]
    apply Array.ext'
    simp
theorem join_signs (ns : List Int) : Txt.join (Str.ofString "") (ns.map fun x => (⟨#[sg x]⟩ : Str)) = sgs ns := by
  unfold Txt.join Builtin.Str.glued sgs
  cases ns with
  | nil => rfl
  | cons x xs =>
    congr 1
    rw [List.map_cons, List.headD_cons, List.drop_one, List.tail_cons]
    refine (fold_signs xs _).trans ?_
    apply Array.ext'
    simp
theorem sum_signs (ns : List Int) : ((ns.map fun x => (⟨#[sg x]⟩ : Str)).map fun x => x.length).sum = ns.length := by
  induction ns with
  | nil => rfl
  | cons x xs ih =>
    rw [List.map_cons, List.map_cons, List.sum_cons, ih, List.length_cons]
    show 1 + _ = _
    omega
/-! ### the figures of a whole number -/
def dgN (b n : Nat) : List Int := if h : b < 2 ∨ n < b then [(n : Int)] else dgN b (n / b) ++ [((n % b : Nat) : Int)]
termination_by n
decreasing_by exact Nat.div_lt_self (by omega) (by omega)
theorem dgN_small {b n : Nat} (h : n < b) : dgN b n = [(n : Int)] := by
  rw [dgN, dif_pos (.inr h)]
theorem dgN_big {b n : Nat} (hb : 2 ≤ b) (h : b ≤ n) : dgN b n = dgN b (n / b) ++ [((n % b : Nat) : Int)] := by
  rw [dgN, dif_neg (by omega)]
theorem dgN_ok {b : Nat} (hb : 2 ≤ b) : ∀ n : Nat, ∀ x, x ∈ dgN b n → 0 ≤ x ∧ x < (b : Int) := fun n => by
  induction n using Nat.strongRecOn with
  | _ n ih =>
    intro x hx
    by_cases h : n < b
    · rw [dgN_small h] at hx
      rw [List.mem_singleton.mp hx]
      omega
    · rw [dgN_big hb (by omega)] at hx
      rcases List.mem_append.mp hx with q | q
      · exact ih (n / b) (Nat.div_lt_self (by omega) (by omega)) x q
      · rw [List.mem_singleton.mp q]
        have := Nat.mod_lt n (show 0 < b by omega)
        omega
theorem dgN_num {b : Nat} (hb : 2 ≤ b) : ∀ n : Nat, (dgN b n).foldl (fun t f => t * (b : Int) + f) 0 = (n : Int) := fun n => by
  induction n using Nat.strongRecOn with
  | _ n ih =>
    by_cases h : n < b
    · rw [dgN_small h]
      show 0 * (b : Int) + (n : Int) = n
      rw [Int.zero_mul, Int.zero_add]
    · rw [dgN_big hb (by omega), List.foldl_append, ih (n / b) (Nat.div_lt_self (by omega) (by omega))]
      show ((n / b : Nat) : Int) * b + ((n % b : Nat) : Int) = n
      have := Nat.div_add_mod n b
      rw [Nat.mul_comm] at this
      exact_mod_cast this
theorem dgN_len {b : Nat} (hb : 2 ≤ b) : ∀ n k : Nat, n < 2 ^ k → (dgN b n).length ≤ k + 1 := fun n => by
  induction n using Nat.strongRecOn with
  | _ n ih =>
    intro k hk
    by_cases h : n < b
    · rw [dgN_small h]; simp
    · rw [dgN_big hb (by omega), List.length_append]
      obtain ⟨j, rfl⟩ : ∃ j, k = j + 1 := ⟨k - 1, by
        rcases Nat.eq_zero_or_pos k with z | z
        · rw [z] at hk; simp at hk; omega
        · omega⟩
      have h1 : n / b < 2 ^ j := by
        rw [Nat.div_lt_iff_lt_mul (by omega)]
        rw [Nat.pow_succ] at hk
        exact Nat.lt_of_lt_of_le hk (Nat.mul_le_mul_left _ hb)
      have := ih (n / b) (Nat.div_lt_self (by omega) (by omega)) j h1
      show _ + 1 ≤ _
      omega
/-- no nought ahead but in nought itself -/
theorem dgN_head {b : Nat} (hb : 2 ≤ b) : ∀ n : Nat, ∃ x xs, dgN b n = x :: xs ∧ (x = 0 → xs = []) := fun n => by
  induction n using Nat.strongRecOn with
  | _ n ih =>
    by_cases h : n < b
    · exact ⟨n, [], dgN_small h, fun _ => rfl⟩
    · obtain ⟨x, xs, e, hx⟩ := ih (n / b) (Nat.div_lt_self (by omega) (by omega))
      refine ⟨x, xs ++ [((n % b : Nat) : Int)], by rw [dgN_big hb (by omega), e]; rfl, fun z => ?_⟩
      exfalso
      have hxs := hx z
      subst z hxs
      have hn := dgN_num hb (n / b)
      rw [e] at hn
      have h1 : 0 < n / b := Nat.div_pos (by omega) (by omega)
      simp at hn
      omega
theorem sgs_app (xs ys : List Int) : sgs xs ++ sgs ys = sgs (xs ++ ys) := by
  show (⟨(xs.map sg).toArray ++ (ys.map sg).toArray⟩ : Str) = ⟨((xs ++ ys).map sg).toArray⟩
  congr 1
  apply Array.ext'
  simp
theorem sgs_one (x : Int) : (⟨#[sg x]⟩ : Str) = sgs [x] := rfl
theorem sgs_len (xs : List Int) : (sgs xs).length = xs.length := by
  show ((xs.map sg).toArray).size = _
  simp
/-- a text by its code points -/
def tx (l : List Nat) : Str := ⟨l.toArray⟩
theorem tx_app (l l' : List Nat) : tx l ++ tx l' = tx (l ++ l') := by
  show (⟨l.toArray ++ l'.toArray⟩ : Str) = ⟨(l ++ l').toArray⟩
  congr 1
  apply Array.ext'
  simp
theorem sgs_tx (ns : List Int) : sgs ns = tx (ns.map sg) := rfl
theorem tx_len (l : List Nat) : (tx l).length = l.length := by
  show (l.toArray).size = _
  simp
theorem tx_dot : Str.ofString "." = tx [46] := by decide +kernel
theorem tx_open : Str.ofString "(" = tx [40] := by decide +kernel
theorem tx_close : Str.ofString ")" = tx [41] := by decide +kernel
/-! ### texts of writings -/
theorem tx_S (l : List Nat) : tx l = SX.S l := rfl
/-- the signs of a writing -/
def txN (b : Nat) (x : Wr) : List Nat := (dgN b x.w.toNat).map sg ++ (if x.a = [] ∧ x.r = [] then [] else 46 :: x.a.map sg) ++ (if x.r = [] then [] else 40 :: x.r.map sg ++ [41])
def txS (b : Nat) (x : Wr) : Str := tx (txN b x)
theorem sg_lo {x : Int} (h : 0 ≤ x) : 48 ≤ sg x := by
  unfold sg
  split <;> omega
theorem sg_inj {x y : Int} (h1 : 0 ≤ x) (h2 : 0 ≤ y) (h : sg x = sg y) : x = y := by
  unfold sg at h
  split at h <;> split at h <;> omega
theorem sg_not {ns : List Int} {b : Int} {c : Nat} (h : Figs b ns) (hc : c < 48) : c ∉ ns.map sg := fun hm => by
  obtain ⟨x, hx, e⟩ := List.mem_map.mp hm
  have := sg_lo (h x hx).1
  omega
theorem sig_take (b : Nat) (hb : b ≤ 36) : SIG.cps.toList.take b = (List.range b).map fun k : Nat => sg (k : Int) := by
  rw [sig_cps, ← List.map_take, List.take_range, Nat.min_eq_left hb]
theorem mem_sig {b c : Nat} (hb : b ≤ 36) : c ∈ SIG.cps.toList.take b ↔ ∃ x : Int, 0 ≤ x ∧ x < (b : Int) ∧ c = sg x := by
  rw [sig_take b hb]
  constructor
  · intro h
    obtain ⟨k, hk, e⟩ := List.mem_map.mp h
    have := List.mem_range.mp hk
    exact ⟨(k : Int), by omega, by omega, e.symm⟩
  · rintro ⟨x, h0, h1, rfl⟩
    refine List.mem_map.mpr ⟨x.toNat, List.mem_range.mpr (by omega), ?_⟩
    show sg ((x.toNat : Nat) : Int) = sg x
    rw [Int.toNat_of_nonneg h0]
theorem sig_slice {b : Nat} : Txt.slice SIG none (some (b : Int)) = tx (SIG.cps.toList.take b) := by
  have e : SIG = SX.S SIG.cps.toList := (SX.S_tl SIG).symm
  have h := SX.slice_to (a := SIG.cps.toList) (i := (b : Int)) (by omega)
  rw [← e, Int.toNat_natCast] at h
  exact h
theorem sig_occ_all : (List.range 36).all (fun k : Nat => (Builtin.Str.occurrences SIG ⟨#[sg (k : Int)]⟩ 0 SIG.length 1).head? == some k) = true := by decide +kernel
theorem sig_occ {x : Int} (h0 : 0 ≤ x) (h : x < 36) : ∃ rest, Builtin.Str.occurrences SIG ⟨#[sg x]⟩ 0 SIG.length 1 = x.toNat :: rest := by
  have e := List.all_eq_true.mp sig_occ_all x.toNat (List.mem_range.mpr (by omega))
  have e := eq_of_beq e
  rw [Int.toNat_of_nonneg h0] at e
  exact List.head?_eq_some_iff.mp e
/-- a loop over the signs of a text -/
theorem for_tx {l : List Nat} {g : TG} {tb : TS} {D : Ends} {σ : L2.St} {H : Hp} (Pv : Nat → L2.St → Hp → Prop) (h0 : Pv 0 σ H)
    (hs : ∀ i c σ H, l[i]? = some c → Pv i σ H → g (.str ⟨#[c]⟩) σ H fun σ2 H2 => tb { D with nx := Pv (i + 1), ct := Pv (i + 1), bk := D.nx } σ2 H2) (hd : ∀ σ H, Pv l.length σ H → D.nx σ H) :
    ∃ W : Nat → Nat → L2.St → Hp → Prop, (∃ m, W 0 m σ H) ∧ ∀ i m σ H, W i m σ H →
      ((Its (tx l)).stop i H ∧ D.nx σ H) ∨ ((Its (tx l)).go i H ∧ ∃ N : L2.St → Hp → Prop, (∀ σ' H', N σ' H' → ∃ m', m' < m ∧ W (i + 1) m' σ' H') ∧ ∀ v H', (Its (tx l)).yld i H v H' → g v σ H' fun σ2 H2 => tb { D with nx := N, ct := N, bk := D.nx } σ2 H2) := by
  have sz : (tx l).cps.size = l.length := List.size_toArray
  refine ⟨fun i m σ H => m = l.length - i ∧ i ≤ l.length ∧ Pv i σ H, ⟨_, rfl, Nat.zero_le _, h0⟩, ?_⟩
  rintro i m σ H ⟨rfl, hi, p⟩
  by_cases hlt : i < l.length
  · refine .inr ⟨by show i < (tx l).cps.size; omega, Pv (i + 1), fun σ' H' p' => ⟨l.length - (i + 1), by omega, rfl, hlt, p'⟩, fun v H' y => ?_⟩
    obtain ⟨rfl, c, hc, rfl⟩ := y
    refine hs i c σ _ ?_ p
    have : (l.toArray)[i]? = some c := hc
    rw [List.getElem?_toArray] at this
    exact this
  · have e : i = l.length := by omega
    subst e
    exact .inl ⟨by show (tx l).cps.size ≤ _; omega, hd σ H p⟩
/-! ### a text cut at a sign -/
theorem cut_at {c : Nat} {p : List Nat} (q : List Nat) (hc : c < 256) (h : c ∉ p) : Txt.split (tx (p ++ c :: q)) (tx [c]) = tx p :: Txt.split (tx q) (tx [c]) := by
  have hk : [c].all (· < 256) = true := by simp [hc]
  show Txt.split (SX.S (p ++ c :: q)) (SX.S [c]) = SX.S p :: Txt.split (SX.S q) (SX.S [c])
  rw [SX.split_S (by simp) hk, SX.split_S (by simp) hk]
  have e := TL.spl_part1 (s := c) (S := []) (p := p) (rest := q) (acc := []) h
  rw [List.nil_append] at e
  rw [show p ++ c :: q = p ++ ([c] ++ q) from rfl, e]
  rfl
theorem cut_none {c : Nat} {p : List Nat} (hc : c < 256) (h : c ∉ p) : Txt.split (tx p) (tx [c]) = [tx p] := by
  have hk : [c].all (· < 256) = true := by simp [hc]
  show Txt.split (SX.S p) (SX.S [c]) = _
  rw [SX.split_S (by simp) hk, TL.spl_last1 h]
  rfl
/-- what stands behind the point -/
def txB (x : Wr) : List Nat := x.a.map sg ++ (if x.r = [] then [] else 40 :: (x.r.map sg ++ [41]))
theorem txN_none {b : Nat} {x : Wr} (h : x.a = [] ∧ x.r = []) : txN b x = (dgN b x.w.toNat).map sg := by
  unfold txN
  rw [if_pos h, if_pos h.2, List.append_nil, List.append_nil]
theorem txN_some {b : Nat} {x : Wr} (h : ¬ (x.a = [] ∧ x.r = [])) : txN b x = (dgN b x.w.toNat).map sg ++ 46 :: txB x := by
  unfold txN txB
  rw [if_neg h]
  simp only [List.append_assoc, List.cons_append]
theorem not_dg {b c : Nat} (hb : 2 ≤ b) (n : Nat) (hc : c < 48) : c ∉ (dgN b n).map sg := sg_not (b := (b : Int)) (dgN_ok hb n) hc
theorem split_none {b : Nat} {x : Wr} (hb : 2 ≤ b) (h : x.a = [] ∧ x.r = []) : Txt.split (txS b x) (tx [46]) = [tx ((dgN b x.w.toNat).map sg)] := by
  unfold txS
  rw [txN_none h]
  exact cut_none (by decide) (not_dg hb _ (by decide))
theorem split_some {b : Nat} {x : Wr} (hb : 2 ≤ b) (fa : Figs b x.a) (fr : Figs b x.r) (h : ¬ (x.a = [] ∧ x.r = [])) : Txt.split (txS b x) (tx [46]) = [tx ((dgN b x.w.toNat).map sg), tx (txB x)] := by
  unfold txS
  rw [txN_some h, cut_at _ (by decide) (not_dg hb _ (by decide)), cut_none (by decide)]
  unfold txB
  intro hm
  rcases List.mem_append.mp hm with q | q
  · exact sg_not fa (by decide) q
  · split at q
    · cases q
    · rcases List.mem_cons.mp q with q | q
      · exact absurd q (by decide)
      · rcases List.mem_append.mp q with q | q
        · exact sg_not fr (by decide) q
        · exact absurd (List.mem_singleton.mp q) (by decide)
theorem behind_none {b : Nat} {x : Wr} (fa : Figs b x.a) (h : x.r = []) : Txt.split (tx (txB x)) (tx [40]) = [tx (x.a.map sg)] := by
  unfold txB
  rw [if_pos h, List.append_nil]
  exact cut_none (by decide) (sg_not fa (by decide))
theorem behind_some {b : Nat} {x : Wr} (fa : Figs b x.a) (fr : Figs b x.r) (h : x.r ≠ []) : Txt.split (tx (txB x)) (tx [40]) = [tx (x.a.map sg), tx (x.r.map sg ++ [41])] := by
  unfold txB
  rw [if_neg h, cut_at _ (by decide) (sg_not fa (by decide)), cut_none (by decide)]
  intro hm
  rcases List.mem_append.mp hm with q | q
  · exact sg_not fr (by decide) q
  · exact absurd (List.mem_singleton.mp q) (by decide)
theorem txS_len {b : Nat} {x : Wr} (hb : 2 ≤ b) (ho : WrOk b x) : (txS b x).length ≤ 9000 := by
  have h40 : (2 : Nat) ^ 40 = 1099511627776 := by decide
  have hw := ho.w1
  have := dgN_len hb x.w.toNat 40 (by omega)
  have := ho.la
  have := ho.lr
  unfold txS txN
  rw [tx_len, List.length_append, List.length_append, List.length_map]
  have e1 : (if x.a = [] ∧ x.r = [] then ([] : List Nat) else 46 :: x.a.map sg).length ≤ 4001 := by
    split
    · exact Nat.zero_le _
    · rw [List.length_cons, List.length_map]; omega
  have e2 : (if x.r = [] then ([] : List Nat) else 40 :: x.r.map sg ++ [41]).length ≤ 4002 := by
    split
    · exact Nat.zero_le _
    · rw [List.length_append, List.length_cons, List.length_map]; show _ + 1 ≤ _; omega
  omega
theorem last_ring (r : List Int) : Txt.slice (tx (r.map sg ++ [41])) (some (-1)) none = tx [41] := SX.last_snoc _ _
theorem but_ring (r : List Int) : Txt.slice (tx (r.map sg ++ [41])) none (some (-1)) = tx (r.map sg) := SX.butlast_snoc _ _
end Rf

open PySem PySem.Spec PyProof.Rows L2
namespace Rf
/-! ### rules inside a comprehension, their K named -/
theorem call_len_K {X : Cx} {K : PySem.W.Frag} (h : X.K = K) : CallR X (.builtin "len") (fun xs H Q => ∃ (p : Addr) (ys : List V), xs = [V.ref p] ∧ (SqL K H p ys ∨ SqT K H p ys) ∧ Q (V.int (ys.length : Int)) H) := by
  subst h
  exact call_len_seq
theorem ix_list_K {X : Cx} {K : PySem.W.Frag} (h : X.K = K) : IxR X (rIxL K) := by
  subst h
  exact ix_list
end Rf

namespace Rf
open PySem PySem.Spec PyProof.Rows L2
open C8 (Cal pe_c pe_gc)
local macro_rules | `(tactic| walk_at "side") => `(tactic| first
  | ((with_reducible show IntMulOk _ _); first | assumption | exact (show ∀ i : Int, IntMulOk i _ from by assumption) _ | (refine mulB_right ?_ ?_ <;> omega) | (refine mulB_left ?_ ?_ <;> omega))
  | ((with_reducible show CDivP _ _); first | assumption | exact (show ∀ i : Int, CDivP i _ from by assumption) _ | (refine cdivp_small ?_ ?_ <;> omega))
  | ((with_reducible show (_ : Int) < _); first | assumption | omega | decide)
  | ((with_reducible show scal _ _ = true); rfl)
  | ((with_reducible show _ ≤ sizeLine); first | exact sz100 (Nat.le_of_ble_eq_true rfl) | exact sz100 (by omega))
  | ((with_reducible show CPow _ _); dsimp only [CPow]; decide))
local macro_rules | `(tactic| walk_at "sq") => `(tactic| first | assumption | exact sql (by assumption) | exact sqt (by assumption) | exact sqt upd_same | exact sql upd_same)
local macro_rules | `(tactic| walk_at "call") => `(tactic| fail)
local macro_rules | `(tactic| walk_at "st1") => `(tactic| first
  | refine ⟨_, rfl, ?_⟩
  | refine ⟨_, _, rfl, rfl, ?_⟩
  | refine And.intro (by walk_at "side") ?_
  | refine ⟨_, _, rfl, .inl (by walk_at "sq"), ?_⟩
  | refine ⟨_, _, rfl, .inr (by walk_at "sq"), ?_⟩
  | refine And.intro rfl ?_
  | refine ⟨_, _, _, _, rfl, rfl, (by walk_at "sq"), rfl, ?_⟩
  | refine ⟨_, _, rfl, (by walk_at "sq"), rfl, ?_⟩
  | refine ⟨_, _, _, _, _, rfl, .ty _, (by first | exact tyx_tup (by assumption) | exact tyx_lst (by assumption)), (by first | exact kit_tup | exact kit_lst), ?_⟩
  | refine ⟨_, _, rfl, ?_⟩
  | walk_at "call")
local macro_rules | `(tactic| walk_at "st") => `(tactic| repeat walk_at "st1")
def topS (i : Nat) : Stmt := PySem.Challenge.pw_ringfigures_k14_texts.main.body.getD i (.Pass ⟨0, 0, 0, 0⟩)
/-- what the module's names hold -/
structure Md (K : PySem.W.Frag) (mg : Str → Option Value) : Prop where
  m_len : mg "len" = none
  m_list : mg "list" = none
  m_reversed : mg "reversed" = none
  m_isinstance : mg "isinstance" = none
  m_int : mg "int" = none
  m_bool : mg "bool" = none
  m_range : mg "range" = none
  m_tuple : mg "tuple" = none
  m_str : mg "str" = none
  g_GREATEST : ∃ u, mg "GREATEST" = some u ∧ RelV (.int 1000000000000) u
  g_MOST_FIGURES : ∃ u, mg "MOST_FIGURES" = some u ∧ RelV (.int 4000) u
  g_SIGNS : ∃ u, mg "SIGNS" = some u ∧ RelV (.str "0123456789abcdefghijklmnopqrstuvwxyz") u
abbrev s_askedbase : Stmt := topS 8
theorem sc_askedbase : FnScope ["base"] ["base"] (defScope s_askedbase) := ⟨rfl, rfl, rfl, by decide +kernel, rfl, by decide +kernel, by decide +kernel⟩
@[irreducible] def sp_askedbase (K : PySem.W.Frag) : Sp := fun vs H Q _ => ∃ (x : Int), vs = [.int x] ∧ 2 ≤ x ∧ x ≤ 36 ∧ Q .non H
theorem go_askedbase {K : PySem.W.Frag} {H : Hp} {x : Int} {Q : VK} {E : XK} (h1 : 2 ≤ x) (h2 : x ≤ 36) (q : Q .non H) : sp_askedbase K [.int x] H Q E := by
  unfold sp_askedbase; exact ⟨x, rfl, h1, h2, q⟩
local macro_rules | `(tactic| walk_at "call") => `(tactic| refine go_askedbase (by omega) (by omega) ?_)
section
variable {P : Program} {w : World} {K : PySem.W.Frag} {mg : Str → Option Value} {base : Heap}
theorem ok_askedbase {f : Addr} {fd : FuncData} (F : Fun K "asked_base" "asked_base" s_askedbase f fd) (M : Md K mg) : FnOk P w K mg base CX0 1 f fd ["base"] (sp_askedbase K) := by
  refine F.ok sc_askedbase (fun vs H Q E h => ?_) (fun cdv A outer s H vs Q E hr h => ?_)
  · unfold sp_askedbase at h; obtain ⟨x, rfl, h1, h2, q⟩ := h
    rfl
  · have hu := hu_of hr
    unfold sp_askedbase at h; obtain ⟨x, rfl, h1, h2, q⟩ := h
    refine ⟨_, (pss_one (ps_if (PW.pt (pw_or (pt_cmpR op_lt (pv 0) pe_int (nomark _)) (pw_or1 (pt_cmpR op_gt (pv 0) pe_int (nomark _)))))
        (pss_one ps_never) pss_nil)), ?_⟩
    walk_at "st"
    refine iteD (fun e => absurd e (by omega)) (fun _ => ?_)
    walk_at "st"
    refine iteD (fun e => absurd e (by omega)) (fun _ => ?_)
    exact q
end
abbrev s_askedfigures : Stmt := topS 9
theorem sc_askedfigures : FnScope ["base", "figures", "figure"] ["base", "figures"] (defScope s_askedfigures) := ⟨rfl, rfl, rfl, by decide +kernel, rfl, by decide +kernel, by decide +kernel⟩
@[irreducible] def sp_askedfigures (K : PySem.W.Frag) : Sp := fun vs H Q _ => ∃ (b : Int) (a : Addr) (ns : List Int), vs = [.int b, .ref a] ∧ SqL K H a (ns.map V.int) ∧ ns.length ≤ 4000 ∧ Figs b ns ∧ Q .non H
theorem go_askedfigures {K : PySem.W.Frag} {H : Hp} {b : Int} {a : Addr} {ns : List Int} {Q : VK} {E : XK} (hS : SqL K H a (ns.map V.int)) (hl : ns.length ≤ 4000) (hf : Figs b ns) (q : Q .non H) : sp_askedfigures K [.int b, .ref a] H Q E := by
  unfold sp_askedfigures; exact ⟨b, a, ns, rfl, hS, hl, hf, q⟩
section
variable {P : Program} {w : World} {K : PySem.W.Frag} {mg : Str → Option Value} {base : Heap}
theorem ok_askedfigures {f : Addr} {fd : FuncData} (F : Fun K "asked_figures" "asked_figures" s_askedfigures f fd) (M : Md K mg) : FnOk P w K mg base CX0 1 f fd ["base", "figures"] (sp_askedfigures K) := by
  refine F.ok sc_askedfigures (fun vs H Q E h => ?_) (fun cdv A outer s H vs Q E hr h => ?_)
  · unfold sp_askedfigures at h; obtain ⟨b, a, ns, rfl, hS, hl, hf, q⟩ := h
    rfl
  · have hu := hu_of hr
    unfold sp_askedfigures at h; obtain ⟨b, a, ns, rfl, hS, hl, hf, q⟩ := h
    refine ⟨_, (pss_cons (ps_if (pt_cmpR op_gt (pe_callB call_len_seq (by rfl) M.m_len PySem.boot_len (pa_cons (pv 1) pa_nil)) (pe_gc (by rfl) M.g_MOST_FIGURES) (nomark _))
        (pss_one ps_never) pss_nil)
      (pss_one (ps_for PassesOwn.never rfl (pi_list (pv 1)) (pg_name (i := 2) sc_askedfigures.nd rfl (.inl rfl))
        (pss_one (ps_if (PW.pt (pw_or (pt_cmpR op_lt (pv 2) pe_int (nomark _)) (pw_or1 (pt_cmpR op_ge (pv 2) (pv 0) (nomark _)))))
        (pss_one ps_never) pss_nil))))), ?_⟩
    walk_at "st"
    rw [List.length_map]
    refine iteD (fun e => absurd e (by omega)) (fun _ => ?_)
    walk_at "st"
    refine ⟨⟨_, hS⟩, for_list (K := K) (a := a) (xs := ns.map V.int) (fun i σ H' => ∃ y2, σ = [some (.int b), some (.ref a), y2] ∧ H = H') ⟨none, rfl, rfl⟩ (fun i σ H' _ ⟨_, _, e⟩ => e ▸ hS) (fun i x σ H' hi hv => ?_) (fun σ H' hv => ?_)⟩
    · obtain ⟨y2, rfl, rfl⟩ := hv
      obtain ⟨z, hz, rfl⟩ := mem_ints (List.mem_of_getElem? hi)
      have hz2 := hf z hz
      walk_at "st"
      refine iteD (fun e => absurd e (by omega)) (fun _ => ?_)
      walk_at "st"
      refine iteD (fun e => absurd e (by omega)) (fun _ => ?_)
      exact ⟨_, rfl, rfl⟩
    · obtain ⟨y2, rfl, rfl⟩ := hv
      exact q
end
abbrev s_askedwriting : Stmt := topS 10
theorem sc_askedwriting : FnScope ["base", "writing"] ["base", "writing"] (defScope s_askedwriting) := ⟨rfl, rfl, rfl, by decide +kernel, rfl, by decide +kernel, by decide +kernel⟩
@[irreducible] def sp_askedwriting (K : PySem.W.Frag) : Sp := fun vs H Q _ => ∃ (b : Int) (p a r : Addr) (x : Wr), vs = [.int b, .ref p] ∧ 2 ≤ b ∧ b ≤ 36 ∧ WrAt H p a r x ∧ WrOk b x ∧ Q .non H
theorem go_askedwriting {K : PySem.W.Frag} {H : Hp} {b : Int} {p a r : Addr} {x : Wr} {Q : VK} {E : XK} (h1 : 2 ≤ b) (h2 : b ≤ 36) (h : WrAt H p a r x) (ho : WrOk b x) (q : Q .non H) : sp_askedwriting K [.int b, .ref p] H Q E := by
  unfold sp_askedwriting; exact ⟨b, p, a, r, x, rfl, h1, h2, h, ho, q⟩
section
variable {P : Program} {w : World} {K : PySem.W.Frag} {mg : Str → Option Value} {base : Heap}
theorem ok_askedwriting {f : Addr} {fd : FuncData} (F : Fun K "asked_writing" "asked_writing" s_askedwriting f fd) (M : Md K mg) (c_askedbase : Cal P w K mg base 1 "asked_base" (sp_askedbase K) []) (c_askedfigures : Cal P w K mg base 1 "asked_figures" (sp_askedfigures K) []) : FnOk P w K mg base CX0 2 f fd ["base", "writing"] (sp_askedwriting K) := by
  refine F.ok sc_askedwriting (fun vs H Q E h => ?_) (fun cdv A outer s H vs Q E hr h => ?_)
  · unfold sp_askedwriting at h; obtain ⟨b, p, a, r, x, rfl, h1, h2, h, ho, q⟩ := h
    rfl
  · have hu := hu_of hr
    unfold sp_askedwriting at h; obtain ⟨b, p, a, r, x, rfl, h1, h2, h, ho, q⟩ := h
    have ht := h.tp
    have hw1 := ho.w0
    have hw2 := ho.w1
    refine ⟨_, (pss_cons (ps_expr (pe_c c_askedbase hr (by decide) (by rfl) (pa_cons (pv 0) pa_nil)))
      (pss_cons (ps_if (PW.pt (pw_or (pt_cmpR op_lt (pe_ix ix_tup (pv 1) pe_int (fun _ _ => rfl)) pe_int (nomark _)) (pw_or1 (pt_cmpR op_gt (pe_ix ix_tup (pv 1) pe_int (fun _ _ => rfl)) (pe_gc (by rfl) M.g_GREATEST) (nomark _)))))
        (pss_one ps_never) pss_nil)
      (pss_cons (ps_expr (pe_c c_askedfigures hr (by decide) (by rfl) (pa_cons (pv 0) (pa_cons (pe_ix ix_tup (pv 1) pe_int (fun _ _ => rfl)) pa_nil))))
      (pss_one (ps_expr (pe_c c_askedfigures hr (by decide) (by rfl) (pa_cons (pv 0) (pa_cons (pe_ix ix_tup (pv 1) pe_int (fun _ _ => rfl)) pa_nil)))))))), ?_⟩
    walk_at "st"
    refine iteD (fun e => absurd e (by omega)) (fun _ => ?_)
    walk_at "st"
    refine iteD (fun e => absurd e (by omega)) (fun _ => ?_)
    walk_at "st"
    refine go_askedfigures (sql h.la) ho.la ho.fa ?_
    walk_at "st"
    refine go_askedfigures (sql h.lr) ho.lr ho.fr ?_
    exact q
end
abbrev s_numberof : Stmt := topS 11
theorem sc_numberof : FnScope ["base", "figures", "total", "figure"] ["base", "figures"] (defScope s_numberof) := ⟨rfl, rfl, rfl, by decide +kernel, rfl, by decide +kernel, by decide +kernel⟩
@[irreducible] def sp_numberof (K : PySem.W.Frag) : Sp := fun vs H Q _ => ∃ (b : Int) (a : Addr) (ns : List Int), vs = [.int b, .ref a] ∧ 0 ≤ b ∧ b ≤ 100 ∧ SqL K H a (ns.map V.int) ∧ Q (.int (numI b ns)) H
theorem go_numberof {K : PySem.W.Frag} {H : Hp} {b : Int} {a : Addr} {ns : List Int} {Q : VK} {E : XK} (h1 : 0 ≤ b) (h2 : b ≤ 100) (hS : SqL K H a (ns.map V.int)) (q : Q (.int (numI b ns)) H) : sp_numberof K [.int b, .ref a] H Q E := by
  unfold sp_numberof; exact ⟨b, a, ns, rfl, h1, h2, hS, q⟩
section
variable {P : Program} {w : World} {K : PySem.W.Frag} {mg : Str → Option Value} {base : Heap}
theorem ok_numberof {f : Addr} {fd : FuncData} (F : Fun K "number_of" "number_of" s_numberof f fd) (M : Md K mg) : FnOk P w K mg base CX0 1 f fd ["base", "figures"] (sp_numberof K) := by
  refine F.ok sc_numberof (fun vs H Q E h => ?_) (fun cdv A outer s H vs Q E hr h => ?_)
  · unfold sp_numberof at h; obtain ⟨b, a, ns, rfl, h1, h2, hS, q⟩ := h
    rfl
  · have hu := hu_of hr
    unfold sp_numberof at h; obtain ⟨b, a, ns, rfl, h1, h2, hS, q⟩ := h
    refine ⟨_, (pss_cons (ps_set (i := 2) sc_numberof.nd rfl (.inl rfl) pe_int)
      (pss_cons (ps_for PassesOwn.never rfl (pi_list (pv 1)) (pg_name (i := 3) sc_numberof.nd rfl (.inl rfl))
        (pss_one (ps_set (i := 2) sc_numberof.nd rfl (.inl rfl) (pe_op op_add (pe_op op_mulB (pv 2) (pv 0)) (pv 3)))))
      (pss_one (ps_ret (pv 2))))), ?_⟩
    walk_at "st"
    refine ⟨⟨_, hS⟩, for_list (K := K) (a := a) (xs := ns.map V.int) (fun i σ H' => H = H' ∧ ∃ y, σ = [some (.int b), some (.ref a), some (.int (numI b (ns.take i))), y]) ⟨rfl, none, rfl⟩ (fun i σ H' _ ⟨e, _⟩ => e ▸ hS) (fun i x σ H' hi hv => ?_) (fun σ H' hv => ?_)⟩
    · obtain ⟨rfl, y, rfl⟩ := hv
      rw [List.getElem?_map] at hi
      cases e : ns[i]? with
      | none => rw [e] at hi; cases hi
      | some u =>
        rw [e] at hi
        have e2 : V.int u = x := Option.some.inj hi
        subst e2
        rw [take_snoc e, num_snoc]
        walk_at "st"
        exact ⟨_, rfl⟩
    · obtain ⟨rfl, y, rfl⟩ := hv
      rw [List.length_map, List.take_length]
      walk_at "st"
      exact q
end
abbrev s_textof : Stmt := topS 14
theorem sc_textof : FnScope ["figures", "figure"] ["figures"] (defScope s_textof) := ⟨rfl, rfl, rfl, by decide +kernel, rfl, by decide +kernel, by decide +kernel⟩
@[irreducible] def sp_textof (K : PySem.W.Frag) : Sp := fun vs H Q _ => ∃ (a : Addr) (ns : List Int), vs = [.ref a] ∧ SqL K H a (ns.map V.int) ∧ Figs 36 ns ∧ ns.length ≤ 100000 ∧ ∀ H', Same H H' → Q (.str (sgs ns)) H'
theorem go_textof {K : PySem.W.Frag} {H : Hp} {a : Addr} {ns : List Int} {Q : VK} {E : XK} (h : SqL K H a (ns.map V.int)) (hf : Figs 36 ns) (hl : ns.length ≤ 100000) (q : ∀ H', Same H H' → Q (.str (sgs ns)) H') : sp_textof K [.ref a] H Q E := by
  unfold sp_textof; exact ⟨a, ns, rfl, h, hf, hl, q⟩
section
variable {P : Program} {w : World} {K : PySem.W.Frag} {mg : Str → Option Value} {base : Heap}
theorem ok_textof {f : Addr} {fd : FuncData} (F : Fun K "text_of" "text_of" s_textof f fd) (M : Md K mg) : FnOk P w K mg base CX0 1 f fd ["figures"] (sp_textof K) := by
  refine F.ok sc_textof (fun vs H Q E h => ?_) (fun cdv A outer s H vs Q E hr h => ?_)
  · unfold sp_textof at h; obtain ⟨a, ns, rfl, h, hf, hl, q⟩ := h
    rfl
  · have hu := hu_of hr
    unfold sp_textof at h; obtain ⟨a, ns, rfl, h, hf, hl, q⟩ := h
    refine ⟨_, (pss_one (ps_ret (pe_join pe_str (pe_lc (own := [("figure", 1)]) (g := gName 1) (tt := tYes) rfl sc_textof.nd (pi_list (pv 0)) (blkOk_by (own := [("figure", 1)]) (N := ["figures", "figure"]) (sc := defScope s_textof) (by decide +kernel)) (fun _ _ _ _ _ => (pg_name (i := 1) sc_textof.nd rfl (.inl rfl))) (fun _ _ _ _ _ => pts_nil) (fun _ _ _ _ _ => (pe_ix ix_str (pe_gc (by rfl) M.g_SIGNS) (pv 1) (fun _ _ => rfl))))))), ?_⟩
    refine ⟨⟨_, rfl⟩, ?_⟩
    refine ⟨_, rfl, a, rfl, ⟨_, h⟩, fun D nD => ?_⟩
    refine lc_vals (fun v => V.str (⟨#[sg (iof v)]⟩ : Str)) h nD (by rw [List.length_map]; omega) (fun _ => rfl) (fun v hv H' Q' s q' => ?_) (fun H' s hD => ?_)
    · obtain ⟨x, hx, rfl⟩ := mem_ints hv
      have hx36 := hf x hx
      refine ⟨_, rfl, ?_⟩
      refine ⟨SIG, x, _, rfl, rfl, by decide +kernel, sig_at hx36.1 hx36.2, ?_⟩
      exact q' _ (Same.refl _)
    · have e : (ns.map V.int).map (fun v => V.str (⟨#[sg (iof v)]⟩ : Str)) = (ns.map fun x => (⟨#[sg x]⟩ : Str)).map V.str := by
        rw [List.map_map, List.map_map]; rfl
      rw [e] at hD
      refine ⟨_, D, _, rfl, rfl, .inl (sql hD), ?_, ?_⟩
      · rw [sum_signs, List.length_map]
        have e0 : (Str.ofString "").length = 0 := by decide +kernel
        rw [e0]
        omega
      · rw [join_signs]
        exact q _ s
end
abbrev s_figuresof : Stmt := topS 15
theorem sc_figuresof : FnScope ["base", "number", "found"] ["base", "number"] (defScope s_figuresof) := ⟨rfl, rfl, rfl, by decide +kernel, rfl, by decide +kernel, by decide +kernel⟩
@[irreducible] def sp_figuresof (K : PySem.W.Frag) : Sp := fun vs H Q _ => ∃ (x y : Int) (b n : Nat), vs = [.int x, .int y] ∧ x = b ∧ y = n ∧ 2 ≤ b ∧ b ≤ 36 ∧ n ≤ 1000000000000 ∧
  ∀ H' p, Same H H' → H p = none → H' p = some (.lst ((dgN b n).map V.int)) → Q (.ref p) H'
theorem go_figuresof {K : PySem.W.Frag} {H : Hp} {x y : Int} {Q : VK} {E : XK} (b n : Nat) (hx : x = b) (hy : y = n) (h1 : 2 ≤ b) (h2 : b ≤ 36) (hn : n ≤ 1000000000000)
    (q : ∀ H' p, Same H H' → H p = none → H' p = some (.lst ((dgN b n).map V.int)) → Q (.ref p) H') : sp_figuresof K [.int x, .int y] H Q E := by
  unfold sp_figuresof; exact ⟨x, y, b, n, rfl, hx, hy, h1, h2, hn, q⟩
section
variable {P : Program} {w : World} {K : PySem.W.Frag} {mg : Str → Option Value} {base : Heap}
theorem ok_figuresof {f : Addr} {fd : FuncData} (F : Fun K "figures_of" "figures_of" s_figuresof f fd) (M : Md K mg) : FnOk P w K mg base CX0 1 f fd ["base", "number"] (sp_figuresof K) := by
  refine F.ok sc_figuresof (fun vs H Q E h => ?_) (fun cdv A outer s H vs Q E hr h => ?_)
  · unfold sp_figuresof at h; obtain ⟨x, y, b, n, rfl, rfl, rfl, h1, h2, hn, q⟩ := h
    rfl
  · have hu := hu_of hr
    unfold sp_figuresof at h; obtain ⟨x, y, b, n, rfl, rfl, rfl, h1, h2, hn, q⟩ := h
    have hlen : (dgN b n).length ≤ 41 := dgN_len h1 n 40 (by
      have h40 : (2 : Nat) ^ 40 = 1099511627776 := by decide
      omega)
    refine ⟨_, (pss_cons (ps_set (i := 2) sc_figuresof.nd rfl (.inl rfl) (pe_lst (pa_cons (pe_op op_mod (pv 1) (pv 0)) pa_nil)))
      (pss_cons (ps_while PassesOwn.never (pt_cmpR op_ge (pv 1) (pv 0) (nomark _))
        (pss_cons (ps_set (i := 1) sc_figuresof.nd rfl (.inl rfl) (pe_op op_fdivP (pv 1) (pv 0)))
      (pss_one (ps_expr (pe_bm PySem.F.plainAttrs_list PySem.F.slot_list_append PySem.F.type_list_append mt_append (pv 2) (pa_cons (pe_op op_mod (pv 1) (pv 0)) pa_nil))))))
      (pss_one (ps_ret (pe_lrev (by rfl) M.m_list (by rfl) M.m_reversed (pv 2)))))), ?_⟩
    walk_at "st"
    intro f nf
    walk_at "st"
    refine ⟨fun μ σ H' => ∃ (m : Nat) (suf : List Int), μ = m ∧ m ≤ n ∧ dgN b n = dgN b m ++ suf ∧ σ = [some (.int (b : Int)), some (.int (m : Int)), some (.ref f)] ∧ Same H H' ∧ H' f = some (.lst ((suf.reverse ++ [((m % b : Nat) : Int)]).map V.int)),
      ⟨n, n, [], rfl, Nat.le_refl _, (List.append_nil _).symm, rfl, same_upd nf, upd_same⟩, fun μ σ H' hW => ?_⟩
    obtain ⟨m, suf, rfl, hmn, hd, rfl, sm, hF⟩ := hW
    walk_at "st"
    refine iteD (fun c => ?_) (fun c => ?_)
    · have hbm : b ≤ μ := by omega
      have hlt : μ / b < μ := Nat.div_lt_self (by omega) (by omega)
      have hd2 : dgN b n = dgN b (μ / b) ++ (((μ % b : Nat) : Int) :: suf) := by
        rw [hd, dgN_big h1 hbm, List.append_assoc]; rfl
      refine ⟨fun σ2 H2 => σ2 = [some (.int (b : Int)), some (.int ((μ / b : Nat) : Int)), some (.ref f)] ∧ Same H H2 ∧ H2 f = some (.lst (((((μ % b : Nat) : Int) :: suf).reverse ++ [((μ / b % b : Nat) : Int)]).map V.int)),
        fun σ2 H2 ⟨e1, e2, e3⟩ => ⟨μ / b, hlt, μ / b, _, rfl, by omega, hd2, e1, e2, e3⟩, ?_⟩
      walk_at "st"
      refine ⟨.inl ⟨rfl, _, sql hF⟩, ?_⟩
      walk_at "st"
      refine ⟨f, _, _, rfl, rfl, hF, sz100lt ?_, ?_⟩
      · rw [hd, List.length_append] at hlen
        rw [List.length_map, List.length_append, List.length_reverse, List.length_singleton]
        omega
      walk_at "st"
      refine ⟨same_new sm nf, ?_⟩
      rw [upd_same, List.reverse_cons]
      simp only [List.map_append]
      rfl
    · have hmb : μ % b = μ := Nat.mod_eq_of_lt (by omega)
      rw [dgN_small (show μ < b by omega)] at hd
      walk_at "st"
      refine ⟨f, _, rfl, sql hF, fun p np => ?_⟩
      refine q _ p (same_ups sm np) (sm.free np) ?_
      rw [upd_same, hd, hmb, ← List.map_reverse, List.reverse_append, List.reverse_reverse]
      rfl
end
abbrev s_shown : Stmt := topS 16
theorem sc_shown : FnScope ["base", "writing", "text"] ["base", "writing"] (defScope s_shown) := ⟨rfl, rfl, rfl, by decide +kernel, rfl, by decide +kernel, by decide +kernel⟩
@[irreducible] def sp_shown (K : PySem.W.Frag) : Sp := fun vs H Q _ => ∃ (z : Int) (b : Nat) (p a r : Addr) (x : Wr), vs = [.int z, .ref p] ∧ z = b ∧ 2 ≤ b ∧ b ≤ 36 ∧ WrAt H p a r x ∧ WrOk b x ∧ ∀ H', Same H H' → Q (.str (txS b x)) H'
theorem go_shown {K : PySem.W.Frag} {H : Hp} {z : Int} {p a r : Addr} {x : Wr} {Q : VK} {E : XK} (b : Nat) (hz : z = b) (h1 : 2 ≤ b) (h2 : b ≤ 36) (h : WrAt H p a r x) (ho : WrOk b x) (q : ∀ H', Same H H' → Q (.str (txS b x)) H') : sp_shown K [.int z, .ref p] H Q E := by
  unfold sp_shown; exact ⟨z, b, p, a, r, x, rfl, hz, h1, h2, h, ho, q⟩
section
variable {P : Program} {w : World} {K : PySem.W.Frag} {mg : Str → Option Value} {base : Heap}
theorem ok_shown {f : Addr} {fd : FuncData} (F : Fun K "shown" "shown" s_shown f fd) (M : Md K mg) (c_askedwriting : Cal P w K mg base 2 "asked_writing" (sp_askedwriting K) []) (c_textof : Cal P w K mg base 1 "text_of" (sp_textof K) []) (c_figuresof : Cal P w K mg base 1 "figures_of" (sp_figuresof K) []) : FnOk P w K mg base CX0 3 f fd ["base", "writing"] (sp_shown K) := by
  refine F.ok sc_shown (fun vs H Q E h => ?_) (fun cdv A outer s H vs Q E hr h => ?_)
  · unfold sp_shown at h; obtain ⟨z, b, p, a, r, x, rfl, rfl, h1, h2, h, ho, q⟩ := h
    rfl
  · have hu := hu_of hr
    unfold sp_shown at h; obtain ⟨z, b, p, a, r, x, rfl, rfl, h1, h2, h, ho, q⟩ := h
    have ht := h.tp
    have ha := h.la
    have hr' := h.lr
    have hw0 := ho.w0
    have hw1 := ho.w1
    have hla := ho.la
    have hlr := ho.lr
    obtain ⟨n, hn⟩ : ∃ n : Nat, x.w = n := ⟨x.w.toNat, by omega⟩
    have en : x.w.toNat = n := by omega
    have hlen : (dgN b n).length ≤ 41 := dgN_len h1 n 40 (by
      have h40 : (2 : Nat) ^ 40 = 1099511627776 := by decide
      omega)
    refine ⟨_, (pss_cons (ps_expr (pe_c c_askedwriting hr (by decide) (by rfl) (pa_cons (pv 0) (pa_cons (pv 1) pa_nil))))
      (Evl.pss_cut (ps_set (i := 2) sc_shown.nd rfl (.inl rfl) (pe_c c_textof hr (by decide) (by rfl) (pa_cons (pe_c c_figuresof hr (by decide) (by rfl) (pa_cons (pv 0) (pa_cons (pe_ix ix_tup (pv 1) pe_int (fun _ _ => rfl)) pa_nil))) pa_nil)))
      (Evl.pss_cut (ps_if (pt_cmpR op_gt (pe_op op_add (pe_callB call_len_seq (by rfl) M.m_len PySem.boot_len (pa_cons (pe_ix ix_tup (pv 1) pe_int (fun _ _ => rfl)) pa_nil)) (pe_callB call_len_seq (by rfl) M.m_len PySem.boot_len (pa_cons (pe_ix ix_tup (pv 1) pe_int (fun _ _ => rfl)) pa_nil))) pe_int (nomark _))
        (pss_one (ps_set (i := 2) sc_shown.nd rfl (.inl rfl) (pe_op op_add_str (pe_op op_add_str (pv 2) pe_str) (pe_c c_textof hr (by decide) (by rfl) (pa_cons (pe_ix ix_tup (pv 1) pe_int (fun _ _ => rfl)) pa_nil))))) pss_nil)
      (Evl.pss_cut (ps_if (pt_cmpR op_gt (pe_callB call_len_seq (by rfl) M.m_len PySem.boot_len (pa_cons (pe_ix ix_tup (pv 1) pe_int (fun _ _ => rfl)) pa_nil)) pe_int (nomark _))
        (pss_one (ps_set (i := 2) sc_shown.nd rfl (.inl rfl) (pe_op op_add_str (pe_op op_add_str (pe_op op_add_str (pv 2) pe_str) (pe_c c_textof hr (by decide) (by rfl) (pa_cons (pe_ix ix_tup (pv 1) pe_int (fun _ _ => rfl)) pa_nil))) pe_str))) pss_nil)
      (pss_one (ps_ret (pv 2))))))), ?_⟩
    walk_at "st"
    refine go_askedwriting (by omega) (by omega) h ho ?_
    walk_at "st"
    refine ⟨fun σ H' => Same H H' ∧ σ = [some (.int (b : Int)), some (.ref p), some (.str (tx ((dgN b n).map sg)))], ?_, fun σ H' hM => ?_⟩
    · walk_at "st"
      refine go_figuresof b n rfl hn h1 h2 (by omega) (fun H1 f s1 nf hf => ?_)
      walk_at "st"
      refine go_textof (sql hf) (fun y hy => ?_) (by omega) (fun H2 s2 => ?_)
      · have := dgN_ok h1 n y hy
        omega
      walk_at "st"
      exact ⟨s1.trans s2, rfl⟩
    obtain ⟨s1, rfl⟩ := hM
    refine ⟨fun σ H' => Same H H' ∧ σ = [some (.int (b : Int)), some (.ref p), some (.str (tx ((dgN b n).map sg ++ (if x.a = [] ∧ x.r = [] then [] else 46 :: x.a.map sg))))], ?_, fun σ H2 hM => ?_⟩
    · have h1t := s1 _ _ ht
      have h1a := s1 _ _ ha
      have h1r := s1 _ _ hr'
      walk_at "st"
      simp only [List.length_map]
      refine iteD (fun c => ?_) (fun c => ?_)
      · have e : ¬ (x.a = [] ∧ x.r = []) := fun ⟨e1, e2⟩ => by
          rw [e1, e2] at c
          exact absurd c (by decide)
        rw [if_neg e]
        walk_at "st"
        rw [tx_dot, tx_app, tx_len, tx_len, List.length_map]
        refine ⟨sz100 (by show (dgN b n).length + 1 ≤ _; omega), ?_⟩
        walk_at "st"
        refine go_textof (sql h1a) (fun y hy => ?_) (by omega) (fun H2 s2 => ?_)
        · have := ho.fa y hy
          omega
        rw [sgs_tx]
        walk_at "st"
        rw [tx_app, tx_len, tx_len, List.length_append, List.length_map, List.length_map]
        refine ⟨sz100 (by show (dgN b n).length + 1 + _ ≤ _; omega), ?_⟩
        walk_at "st"
        rw [List.append_assoc]
        exact ⟨s1.trans s2, rfl⟩
      · have e : x.a = [] ∧ x.r = [] := ⟨List.eq_nil_of_length_eq_zero (by omega), List.eq_nil_of_length_eq_zero (by omega)⟩
        rw [if_pos e, List.append_nil]
        walk_at "st"
        exact ⟨s1, rfl⟩
    obtain ⟨s2, rfl⟩ := hM
    have h2a := s2 _ _ ha
    have h2t := s2 _ _ ht
    have h2r := s2 _ _ hr'
    refine ⟨fun σ H' => Same H H' ∧ σ = [some (.int (b : Int)), some (.ref p), some (.str (txS b x))], ?_, fun σ H3 hM => ?_⟩
    · walk_at "st"
      simp only [List.length_map]
      refine iteD (fun c => ?_) (fun c => ?_)
      · have e : x.r ≠ [] := fun e => by
          rw [e] at c
          exact absurd c (by decide)
        have e2 : txS b x = tx ((dgN b n).map sg ++ (if x.a = [] ∧ x.r = [] then [] else 46 :: x.a.map sg) ++ [40] ++ x.r.map sg ++ [41]) := by
          unfold txS txN
          rw [if_neg e, en]
          simp only [List.append_assoc, List.cons_append, List.nil_append]
        have l1 : ((dgN b n).map sg ++ (if x.a = [] ∧ x.r = [] then [] else 46 :: x.a.map sg)).length ≤ 5000 := by
          rw [List.length_append, List.length_map]
          split
          · show _ + 0 ≤ _; omega
          · rw [List.length_cons, List.length_map]; omega
        rw [e2]
        generalize (dgN b n).map sg ++ (if x.a = [] ∧ x.r = [] then [] else 46 :: x.a.map sg) = A at *
        walk_at "st"
        rw [tx_open, tx_app, tx_len, tx_len]
        refine ⟨sz100 (by show A.length + 1 ≤ _; omega), ?_⟩
        walk_at "st"
        refine go_textof (sql h2r) (fun y hy => ?_) (by omega) (fun H2 s2' => ?_)
        · have := ho.fr y hy
          omega
        rw [sgs_tx]
        walk_at "st"
        rw [tx_app, tx_len, tx_len, List.length_append, List.length_map]
        refine ⟨sz100 (by show A.length + 1 + _ ≤ _; omega), ?_⟩
        walk_at "st"
        rw [tx_close, tx_app, tx_len, tx_len, List.length_append, List.length_append, List.length_map]
        refine ⟨sz100 (by show A.length + 1 + _ + 1 ≤ _; omega), ?_⟩
        walk_at "st"
        exact ⟨s2.trans s2', rfl⟩
      · have e : x.r = [] := List.eq_nil_of_length_eq_zero (by omega)
        walk_at "st"
        refine ⟨s2, ?_⟩
        unfold txS txN
        rw [en, if_pos e, List.append_nil]
    obtain ⟨s3, rfl⟩ := hM
    walk_at "st"
    exact q _ s3
end
abbrev s_readfigures : Stmt := topS 17
theorem sc_readfigures : FnScope ["base", "text", "found", "sign"] ["base", "text"] (defScope s_readfigures) := ⟨rfl, rfl, rfl, by decide +kernel, rfl, by decide +kernel, by decide +kernel⟩
@[irreducible] def sp_readfigures (K : PySem.W.Frag) : Sp := fun vs H Q _ => ∃ (x : Int) (b : Nat) (ns : List Int), vs = [.int x, .str (tx (ns.map sg))] ∧ x = b ∧ b ≤ 36 ∧ Figs b ns ∧ ns.length ≤ 4000 ∧
  ∀ H' p, Same H H' → H p = none → H' p = some (.lst (ns.map V.int)) → Q (.ref p) H'
theorem go_readfigures {K : PySem.W.Frag} {H : Hp} {x : Int} {s : Str} {Q : VK} {E : XK} (b : Nat) (ns : List Int) (hs : s = tx (ns.map sg)) (hx : x = b) (h2 : b ≤ 36) (hf : Figs b ns) (hl : ns.length ≤ 4000)
    (q : ∀ H' p, Same H H' → H p = none → H' p = some (.lst (ns.map V.int)) → Q (.ref p) H') : sp_readfigures K [.int x, .str s] H Q E := by
  unfold sp_readfigures; subst hs; exact ⟨x, b, ns, rfl, hx, h2, hf, hl, q⟩
section
variable {P : Program} {w : World} {K : PySem.W.Frag} {mg : Str → Option Value} {base : Heap}
theorem ok_readfigures {f : Addr} {fd : FuncData} (F : Fun K "read_figures" "read_figures" s_readfigures f fd) (M : Md K mg) : FnOk P w K mg base CX0 1 f fd ["base", "text"] (sp_readfigures K) := by
  refine F.ok sc_readfigures (fun vs H Q E h => ?_) (fun cdv A outer s H vs Q E hr h => ?_)
  · unfold sp_readfigures at h; obtain ⟨x, b, ns, rfl, rfl, h2, hf, hl, q⟩ := h
    rfl
  · have hu := hu_of hr
    unfold sp_readfigures at h; obtain ⟨x, b, ns, rfl, rfl, h2, hf, hl, q⟩ := h
    have szS : SIG.length ≤ sizeLine := by decide +kernel
    refine ⟨_, (pss_cons (ps_set (i := 2) sc_readfigures.nd rfl (.inl rfl) (pe_lst pa_nil))
      (pss_cons (ps_for PassesOwn.never rfl (pi_str (pv 1)) (pg_name (i := 3) sc_readfigures.nd rfl (.inl rfl))
        (pss_cons (ps_if (pt_cmpR op_notIn_sign (pv 3) (pe_slice C8.sl_txt (pe_gc (by rfl) M.g_SIGNS) po_none (po_some (pv 0))) (by rfl))
        (pss_one ps_never) pss_nil)
      (pss_one (ps_expr (pe_bm PySem.F.plainAttrs_list PySem.F.slot_list_append PySem.F.type_list_append mt_append (pv 2) (pa_cons (pe_m1 PySem.F.slot_str_index PySem.F.type_str_index mt_sindex (pe_gc (by rfl) M.g_SIGNS) (pv 3)) pa_nil))))))
      (pss_cons (ps_if (pt_cmpR op_gt (pe_callB call_len_seq (by rfl) M.m_len PySem.boot_len (pa_cons (pv 2) pa_nil)) (pe_gc (by rfl) M.g_MOST_FIGURES) (nomark _))
        (pss_one ps_never) pss_nil)
      (pss_one (ps_ret (pv 2)))))), ?_⟩
    walk_at "st"
    intro f nf
    walk_at "st"
    refine for_tx (l := ns.map sg) (fun i σ H' => ∃ y, σ = [some (.int (b : Int)), some (.str (tx (ns.map sg))), some (.ref f), y] ∧ Same H H' ∧ H' f = some (.lst ((ns.take i).map V.int))) ⟨none, rfl, same_upd nf, upd_same⟩ (fun i c σ H' hi hv => ?_) (fun σ H' hv => ?_)
    · obtain ⟨y, rfl, sm, hF⟩ := hv
      obtain ⟨u, hu, rfl⟩ : ∃ u, ns[i]? = some u ∧ c = sg u := by
        rw [List.getElem?_map] at hi
        cases e : ns[i]? with
        | none => rw [e] at hi; cases hi
        | some u => rw [e] at hi; exact ⟨u, rfl, (Option.some.inj hi).symm⟩
      have hu2 := hf u (List.mem_of_getElem? hu)
      obtain ⟨rest, hocc⟩ := sig_occ hu2.1 (by omega)
      have hm : sg u ∈ (Txt.slice SIG none (some (b : Int))).cps.toList := by
        rw [sig_slice]
        exact (mem_sig h2).mpr ⟨u, hu2.1, hu2.2, rfl⟩
      walk_at "st"
      refine iteDn (fun c => absurd hm c) (fun _ => ?_)
      walk_at "st"
      refine ⟨.inl ⟨rfl, _, sql hF⟩, ?_⟩
      walk_at "st"
      refine ⟨⟨_, rfl⟩, _, rfl, SIG, _, u.toNat, rest, rfl, rfl, hocc, ?_⟩
      refine ⟨f, _, _, rfl, rfl, hF, sz100lt ?_, ?_⟩
      · rw [List.length_map, List.length_take]
        omega
      rw [Int.toNat_of_nonneg hu2.1, take_snoc hu]
      exact ⟨_, rfl, same_new sm nf, by rw [upd_same, List.map_append]; rfl⟩
    · obtain ⟨y, rfl, sm, hF⟩ := hv
      rw [List.length_map, List.take_length] at hF
      walk_at "st"
      rw [List.length_map]
      refine iteD (fun c => absurd c (by omega)) (fun _ => ?_)
      walk_at "st"
      exact q _ f sm nf hF
end
abbrev s_read : Stmt := topS 18
theorem sc_read : FnScope ["base", "text", "parts", "whole", "number", "behind", "ahead", "ring"] ["base", "text"] (defScope s_read) := ⟨rfl, rfl, rfl, by decide +kernel, rfl, by decide +kernel, by decide +kernel⟩
@[irreducible] def sp_read (K : PySem.W.Frag) : Sp := fun vs H Q _ => ∃ (z : Int) (b : Nat) (x : Wr), vs = [.int z, .str (txS b x)] ∧ z = b ∧ 2 ≤ b ∧ b ≤ 36 ∧ WrOk b x ∧ ∀ H' p a r, WrNew H H' p a r x → Q (.ref p) H'
theorem go_read {K : PySem.W.Frag} {H : Hp} {z : Int} {s : Str} {Q : VK} {E : XK} (b : Nat) (x : Wr) (hs : s = txS b x) (hz : z = b) (h1 : 2 ≤ b) (h2 : b ≤ 36) (ho : WrOk b x) (q : ∀ H' p a r, WrNew H H' p a r x → Q (.ref p) H') : sp_read K [.int z, .str s] H Q E := by
  unfold sp_read; subst hs; exact ⟨z, b, x, rfl, hz, h1, h2, ho, q⟩
section
variable {P : Program} {w : World} {K : PySem.W.Frag} {mg : Str → Option Value} {base : Heap}
theorem ok_read {f : Addr} {fd : FuncData} (F : Fun K "read" "read" s_read f fd) (M : Md K mg) (c_askedbase : Cal P w K mg base 1 "asked_base" (sp_askedbase K) []) (c_numberof : Cal P w K mg base 1 "number_of" (sp_numberof K) []) (c_readfigures : Cal P w K mg base 1 "read_figures" (sp_readfigures K) []) : FnOk P w K mg base CX0 2 f fd ["base", "text"] (sp_read K) := by
  refine F.ok sc_read (fun vs H Q E h => ?_) (fun cdv A outer s H vs Q E hr h => ?_)
  · unfold sp_read at h; obtain ⟨z, b, x, rfl, rfl, h1, h2, ho, q⟩ := h
    rfl
  · have hu := hu_of hr
    unfold sp_read at h; obtain ⟨z, b, x, rfl, rfl, h1, h2, ho, q⟩ := h
    have hw0 := ho.w0
    have hw1 := ho.w1
    have hla := ho.la
    have hlr := ho.lr
    obtain ⟨n, hn⟩ : ∃ n : Nat, x.w = n := ⟨x.w.toNat, by omega⟩
    have en : x.w.toNat = n := by omega
    have hlen : (dgN b n).length ≤ 41 := dgN_len h1 n 40 (by
      have h40 : (2 : Nat) ^ 40 = 1099511627776 := by decide
      omega)
    have hnum : numI b (dgN b n) = n := dgN_num h1 n
    obtain ⟨y, ys, hy, hy0⟩ := dgN_head h1 n
    have hsz : (txS b x).length + 2 ≤ sizeLine := sz100 (by have := txS_len h1 ho; omega)
    obtain ⟨ps, hps, hp1⟩ : ∃ ps : List Str, Txt.split (txS b x) (tx [46]) = tx ((dgN b n).map sg) :: ps ∧ ((ps = [] ∧ x.a = [] ∧ x.r = []) ∨ (ps = [tx (txB x)] ∧ ¬ (x.a = [] ∧ x.r = []))) := by
      by_cases h : x.a = [] ∧ x.r = []
      · exact ⟨[], by rw [split_none h1 h, en], .inl ⟨rfl, h⟩⟩
      · exact ⟨_, by rw [split_some h1 ho.fa ho.fr h, en], .inr ⟨rfl, h⟩⟩
    have hp0 : ps.length ≤ 1 := by
      rcases hp1 with h | h
      · rw [h.1]; exact Nat.zero_le _
      · rw [h.1]; exact Nat.le_refl _
    obtain ⟨qs, hqs, hq1⟩ : ∃ qs : List Str, Txt.split (tx (txB x)) (tx [40]) = tx (x.a.map sg) :: qs ∧ ((qs = [] ∧ x.r = []) ∨ (qs = [tx (x.r.map sg ++ [41])] ∧ x.r ≠ [])) := by
      by_cases h : x.r = []
      · exact ⟨[], behind_none ho.fa h, .inl ⟨rfl, h⟩⟩
      · exact ⟨_, behind_some ho.fa ho.fr h, .inr ⟨rfl, h⟩⟩
    have hszB : (tx (txB x)).length + 2 ≤ sizeLine := sz100 (by
      unfold txB
      rw [tx_len, List.length_append, List.length_map]
      split
      · show _ + 0 + 2 ≤ _; omega
      · rw [List.length_cons, List.length_append, List.length_map]; show _ + (_ + 1 + 1) + 2 ≤ _; omega)
    refine ⟨_, (pss_cons (ps_expr (pe_c c_askedbase hr (by decide) (by rfl) (pa_cons (pv 0) pa_nil)))
      (pss_cons (ps_set (i := 2) sc_read.nd rfl (.inl rfl) (pe_split (pv 1) pe_str))
      (pss_cons (ps_set (i := 3) sc_read.nd rfl (.inl rfl) (pe_c c_readfigures hr (by decide) (by rfl) (pa_cons (pv 0) (pa_cons (pe_ix ix_list (pv 2) pe_int (fun _ _ => rfl)) pa_nil))))
      (Evl.pss_cut (ps_if (PW.pt (pw_or (pt_cmpR op_eq (pe_callB call_len_seq (by rfl) M.m_len PySem.boot_len (pa_cons (pv 3) pa_nil)) pe_int (nomark _)) (pw_or (PW.pt (pw_and (pt_cmpR op_eq (pe_ix ix_list (pv 3) pe_int (fun _ _ => rfl)) pe_int (nomark _)) (pw_and1 (pt_cmpR op_gt (pe_callB call_len_seq (by rfl) M.m_len PySem.boot_len (pa_cons (pv 3) pa_nil)) pe_int (nomark _))))) (pw_or1 (pt_cmpR op_gt (pe_callB call_len_seq (by rfl) M.m_len PySem.boot_len (pa_cons (pv 2) pa_nil)) pe_int (nomark _))))))
        (pss_one ps_never) pss_nil)
      (pss_cons (ps_set (i := 4) sc_read.nd rfl (.inl rfl) (pe_c c_numberof hr (by decide) (by rfl) (pa_cons (pv 0) (pa_cons (pv 3) pa_nil))))
      (pss_cons (ps_if (pt_cmpR op_gt (pv 4) (pe_gc (by rfl) M.g_GREATEST) (nomark _))
        (pss_one ps_never) pss_nil)
      (pss_cons (ps_if (pt_cmpR op_eq (pe_callB call_len_seq (by rfl) M.m_len PySem.boot_len (pa_cons (pv 2) pa_nil)) pe_int (nomark _))
        (pss_one (ps_ret (pe_tup (pa_cons (pv 4) (pa_cons (pe_lst pa_nil) (pa_cons (pe_lst pa_nil) pa_nil)))))) pss_nil)
      (pss_cons (ps_set (i := 5) sc_read.nd rfl (.inl rfl) (pe_split (pe_ix ix_list (pv 2) pe_int (fun _ _ => rfl)) pe_str))
      (pss_cons (ps_set (i := 6) sc_read.nd rfl (.inl rfl) (pe_c c_readfigures hr (by decide) (by rfl) (pa_cons (pv 0) (pa_cons (pe_ix ix_list (pv 5) pe_int (fun _ _ => rfl)) pa_nil))))
      (pss_cons (ps_if (PW.pt (pw_and (pt_cmpR op_eq (pe_callB call_len_seq (by rfl) M.m_len PySem.boot_len (pa_cons (pv 5) pa_nil)) pe_int (nomark _)) (pw_and1 (pt_cmpR op_gt (pe_callB call_len_seq (by rfl) M.m_len PySem.boot_len (pa_cons (pv 6) pa_nil)) pe_int (nomark _)))))
        (pss_one (ps_ret (pe_tup (pa_cons (pv 4) (pa_cons (pv 6) (pa_cons (pe_lst pa_nil) pa_nil)))))) pss_nil)
      (pss_cons (ps_if (PW.pt (pw_or (pt_cmpR op_ne (pe_callB call_len_seq (by rfl) M.m_len PySem.boot_len (pa_cons (pv 5) pa_nil)) pe_int (nomark _)) (pw_or1 (pt_cmpR op_ne (pe_slice C8.sl_txt (pe_ix ix_list (pv 5) pe_int (fun _ _ => rfl)) (po_some (pe_un un_neg pe_int)) po_none) pe_str (nomark _)))))
        (pss_one ps_never) pss_nil)
      (pss_cons (ps_set (i := 7) sc_read.nd rfl (.inl rfl) (pe_c c_readfigures hr (by decide) (by rfl) (pa_cons (pv 0) (pa_cons (pe_slice C8.sl_txt (pe_ix ix_list (pv 5) pe_int (fun _ _ => rfl)) po_none (po_some (pe_un un_neg pe_int))) pa_nil))))
      (pss_cons (ps_if (pt_cmpR op_eq (pe_callB call_len_seq (by rfl) M.m_len PySem.boot_len (pa_cons (pv 7) pa_nil)) pe_int (nomark _))
        (pss_one ps_never) pss_nil)
      (pss_one (ps_ret (pe_tup (pa_cons (pv 4) (pa_cons (pv 6) (pa_cons (pv 7) pa_nil))))))))))))))))))), ?_⟩
    walk_at "st"
    refine ⟨⟨_, rfl⟩, _, _, rfl, rfl, by decide +kernel, hsz, fun p1 np1 => ?_⟩
    rw [tx_dot, hps]
    have s1 := same_upd (o := .lst ((tx ((dgN b n).map sg) :: ps).map V.str)) np1
    have k1 := upd_same (H := H) (a := p1) (o := .lst ((tx ((dgN b n).map sg) :: ps).map V.str))
    generalize upd H p1 (.lst ((tx ((dgN b n).map sg) :: ps).map V.str)) = H1 at *
    walk_at "st"
    refine ⟨p1, _, _, _, rfl, rfl, sql k1, atI_nat (j := 0) rfl, ?_⟩
    refine go_readfigures b (dgN b n) rfl rfl h2 (dgN_ok h1 n) (by omega) (fun H2 p2 s2 n2 k2 => ?_)
    have hl0 : (dgN b n).length = ys.length + 1 := by rw [hy]; rfl
    refine ⟨fun σ H' => H2 = H' ∧ σ = [some (.int (b : Int)), some (.str (txS b x)), some (.ref p1), some (.ref p2), none, none, none, none], ?_, fun σ H' hM => ?_⟩
    · walk_at "st"
      rw [List.length_map]
      refine iteE (fun c => absurd c (by omega)) (fun _ => ?_)
      walk_at "st"
      refine ⟨p2, _, _, _, rfl, rfl, sql k2, atI_nat (j := 0) (by rw [hy]; rfl), ?_⟩
      walk_at "st"
      have k1' := s2 _ _ k1
      refine iteE (fun c => ?_) (fun _ => ?_)
      · walk_at "st"
        have hl1 := hy0 c
        rw [List.length_map]
        refine iteD (fun c => absurd c (by rw [hl0, hl1]; decide)) (fun _ => ?_)
        walk_at "st"
        rw [List.length_map, List.length_cons]
        refine iteD (fun c => absurd c (by omega)) (fun _ => ?_)
        walk_at "st"
        rfl
      · walk_at "st"
        rw [List.length_map, List.length_cons]
        refine iteD (fun c => absurd c (by omega)) (fun _ => ?_)
        walk_at "st"
        rfl
    obtain ⟨rfl, rfl⟩ := hM
    have k1' := s2 _ _ k1
    have s12 := s1.trans s2
    walk_at "st"
    refine go_numberof (by omega) (by omega) (sql k2) ?_
    rw [hnum]
    walk_at "st"
    refine iteD (fun c => absurd c (by omega)) (fun _ => ?_)
    walk_at "st"
    rw [List.length_map, List.length_cons]
    rcases hp1 with ⟨rfl, hx⟩ | ⟨rfl, hx⟩
    · refine iteE (fun _ => ?_) (fun c => absurd rfl c)
      walk_at "st"
      intro a na
      walk_at "st"
      intro r nr
      walk_at "st"
      intro p np
      have np2 := free_upd np
      refine q _ p a r ⟨⟨?_, ?_, ?_⟩, same_ups (same_ups (same_ups s12 na) nr) np, s12.free (free_upd np2), s12.free na, s12.free (free_upd nr), Ne.symm (ne_new nr)⟩
      · rw [hn]; exact upd_same
      · rw [upd_ne (Ne.symm (ne_new np2)), upd_ne (Ne.symm (ne_new nr)), upd_same, hx.1]; rfl
      · rw [upd_ne (Ne.symm (ne_new np)), upd_same, hx.2]; rfl
    · refine iteE (fun c => absurd c (show ¬ (((2 : Nat) : Int) = 1) by decide)) (fun _ => ?_)
      walk_at "st"
      refine ⟨⟨_, rfl⟩, _, _, rfl, rfl, by decide +kernel, hszB, fun p3 np3 => ?_⟩
      rw [tx_open, hqs]
      have s3 := same_ups (o := .lst ((tx (x.a.map sg) :: qs).map V.str)) s12 np3
      have k3 := upd_same (H := H2) (a := p3) (o := .lst ((tx (x.a.map sg) :: qs).map V.str))
      generalize upd H2 p3 (.lst ((tx (x.a.map sg) :: qs).map V.str)) = H3 at *
      walk_at "st"
      refine ⟨p3, _, _, _, rfl, rfl, sql k3, atI_nat (j := 0) rfl, ?_⟩
      refine go_readfigures b x.a rfl rfl h2 ho.fa hla (fun H4 p4 s4 n4 k4 => ?_)
      have k3' := s4 _ _ k3
      have s14 := s3.trans s4
      have n4' := s3.free n4
      walk_at "st"
      rw [List.length_map, List.length_cons]
      rcases hq1 with ⟨rfl, hr⟩ | ⟨rfl, hr⟩
      · have ha : x.a ≠ [] := fun e => hx ⟨e, hr⟩
        have hal : x.a.length ≠ 0 := fun e => ha (List.eq_nil_of_length_eq_zero e)
        refine iteE (fun _ => ?_) (fun c => absurd rfl c)
        walk_at "st"
        rw [List.length_map]
        refine iteD (fun _ => ?_) (fun c => absurd c (by omega))
        walk_at "st"
        intro r nr
        walk_at "st"
        intro p np
        have hne : p4 ≠ r := ne_of_none k4 nr
        refine q _ p p4 r ⟨⟨?_, ?_, ?_⟩, same_ups (same_ups s14 nr) np, s14.free (free_upd np), n4', s14.free nr, hne⟩
        · rw [hn]; exact upd_same
        · rw [upd_ne (ne_of_none k4 (free_upd np)), upd_ne hne]; exact k4
        · rw [upd_ne (Ne.symm (ne_new np)), upd_same, hr]; rfl
      · refine iteE (fun c => absurd c (show ¬ (((2 : Nat) : Int) = 1) by decide)) (fun _ => ?_)
        walk_at "st"
        have hszR : (tx (x.r.map sg ++ [41])).length ≤ sizeLine := sz100 (by rw [tx_len, List.length_append, List.length_map]; show _ + 1 ≤ _; omega)
        refine ⟨hszR, ?_⟩
        rw [last_ring]
        walk_at "st"
        refine ⟨hszR, ?_⟩
        rw [but_ring]
        refine go_readfigures b x.r rfl rfl h2 ho.fr hlr (fun H5 p5 s5 n5 k5 => ?_)
        have k4' := s5 _ _ k4
        have s15 := s14.trans s5
        walk_at "st"
        have hrl : x.r.length ≠ 0 := fun e => hr (List.eq_nil_of_length_eq_zero e)
        rw [List.length_map]
        refine iteE (fun c => absurd c (by omega)) (fun _ => ?_)
        walk_at "st"
        intro p np
        have hne : p4 ≠ p5 := ne_of_none k4 n5
        refine q _ p p4 p5 ⟨⟨?_, ?_, ?_⟩, same_ups s15 np, s15.free np, n4', s14.free n5, hne⟩
        · rw [hn]; exact upd_same
        · rw [upd_ne (ne_of_none k4' np)]; exact k4'
        · rw [upd_ne (ne_of_none k5 np)]; exact k5
end
abbrev s_xlawcellat : Stmt := topS 20
theorem sc_xlawcellat : FnScope ["script", "k"] ["script", "k"] (defScope s_xlawcellat) := ⟨rfl, rfl, rfl, by decide +kernel, rfl, by decide +kernel, by decide +kernel⟩
/-- the k-th of the script's numbers, or 0 -/
def cl (ns : List Int) (k : Nat) : Int := ns.getD k 0
@[irreducible] def sp_xlawcellat (K : PySem.W.Frag) : Sp := fun vs H Q _ => ∃ (a : Addr) (ns : List Int) (x : Int), vs = [.ref a, .int x] ∧ 0 ≤ x ∧ SqL K H a (ns.map V.int) ∧ Q (.int (cl ns x.toNat)) H
theorem go_cell {K : PySem.W.Frag} {H : Hp} {a : Addr} {ns : List Int} {x : Int} {Q : VK} {E : XK} (hx : 0 ≤ x) (hS : SqL K H a (ns.map V.int)) (q : Q (.int (cl ns x.toNat)) H) : sp_xlawcellat K [.ref a, .int x] H Q E := by
  unfold sp_xlawcellat; exact ⟨a, ns, x, rfl, hx, hS, q⟩
local macro_rules | `(tactic| walk_at "call") => `(tactic| refine go_cell (by omega) (by walk_at "sq") ?_)
theorem cl_in {ns : List Int} {k : Nat} (h : k < ns.length) : cl ns k = ns[k] := by
  unfold cl; rw [List.getD_eq_getElem?_getD, List.getElem?_eq_getElem h]; rfl
theorem cl_out {ns : List Int} {k : Nat} (h : ns.length ≤ k) : cl ns k = 0 := by
  unfold cl; rw [List.getD_eq_getElem?_getD, List.getElem?_eq_none h]; rfl
section
variable {P : Program} {w : World} {K : PySem.W.Frag} {mg : Str → Option Value} {base : Heap}
theorem ok_xlawcellat {f : Addr} {fd : FuncData} (F : Fun K "_law_cell_at" "_law_cell_at" s_xlawcellat f fd) (M : Md K mg) : FnOk P w K mg base CX0 1 f fd ["script", "k"] (sp_xlawcellat K) := by
  refine F.ok sc_xlawcellat (fun vs H Q E h => ?_) (fun cdv A outer s H vs Q E hr h => ?_)
  · unfold sp_xlawcellat at h; obtain ⟨a, ns, x, rfl, hx, hS, q⟩ := h
    rfl
  · have hu := hu_of hr
    unfold sp_xlawcellat at h; obtain ⟨a, ns, x, rfl, hx, hS, q⟩ := h
    obtain ⟨k, rfl⟩ : ∃ k : Nat, x = (k : Int) := ⟨x.toNat, by omega⟩
    rw [Int.toNat_natCast] at q
    refine ⟨_, (pss_cons (ps_if (pt_cmpR op_lt (pv 1) (pe_callB call_len_seq (by rfl) M.m_len PySem.boot_len (pa_cons (pv 0) pa_nil)) (nomark _))
        (pss_one (ps_ret (pe_ix ix_list (pv 0) (pv 1) (fun _ _ => rfl)))) pss_nil)
      (pss_one (ps_ret pe_int))), ?_⟩
    walk_at "st"
    rw [List.length_map]
    refine iteD (fun e => ?_) (fun e => ?_)
    · have hk : k < ns.length := by omega
      walk_at "st"
      refine ⟨a, _, _, _, rfl, rfl, hS, atI_nat (map_get (List.getElem?_eq_getElem hk)), ?_⟩
      rw [← cl_in hk]
      exact q
    · rw [cl_out (by omega)] at q
      exact q
end
abbrev s_xlawdraw : Stmt := topS 21
theorem sc_xlawdraw : FnScope ["cell", "k", "bound", "stir"] ["cell", "k", "bound"] (defScope s_xlawdraw) := ⟨rfl, rfl, rfl, by decide +kernel, rfl, by decide +kernel, by decide +kernel⟩
def drA (c k : Int) : Int := (c % 2147483647 + 977 * k + 1) * 48271 % 2147483647
def drB (c k : Int) : Int := drA c k * drA c k % 2147483629
def drC (c k : Int) : Int := (drB c k + 40692 * (k + 3)) * 69621 % 2147483647
/-- a drawn number below b -/
def drw (c k b : Int) : Int := drC c k / 8 % b
theorem drw_ok (c k : Int) {b : Int} (h : 0 < b) : 0 ≤ drw c k b ∧ drw c k b < b := ⟨Int.emod_nonneg _ (by omega), Int.emod_lt_of_pos _ h⟩
@[irreducible] def sp_xlawdraw (K : PySem.W.Frag) : Sp := fun vs H Q _ => ∃ (c k b : Int), vs = [.int c, .int k, .int b] ∧ 0 ≤ k ∧ k < 1000000000 ∧ 0 < b ∧ Q (.int (drw c k b)) H
theorem go_xlawdraw {K : PySem.W.Frag} {H : Hp} {c k b : Int} {Q : VK} {E : XK} (h1 : 0 ≤ k) (h2 : k < 1000000000) (h3 : 0 < b) (q : Q (.int (drw c k b)) H) : sp_xlawdraw K [.int c, .int k, .int b] H Q E := by
  unfold sp_xlawdraw; exact ⟨c, k, b, rfl, h1, h2, h3, q⟩
section
variable {P : Program} {w : World} {K : PySem.W.Frag} {mg : Str → Option Value} {base : Heap}
theorem ok_xlawdraw {f : Addr} {fd : FuncData} (F : Fun K "_law_draw" "_law_draw" s_xlawdraw f fd) (M : Md K mg) : FnOk P w K mg base CX0 1 f fd ["cell", "k", "bound"] (sp_xlawdraw K) := by
  refine F.ok sc_xlawdraw (fun vs H Q E h => ?_) (fun cdv A outer s H vs Q E hr h => ?_)
  · unfold sp_xlawdraw at h; obtain ⟨c, k, b, rfl, h1, h2, h3, q⟩ := h
    rfl
  · have hu := hu_of hr
    unfold sp_xlawdraw at h; obtain ⟨c, k, b, rfl, h1, h2, h3, q⟩ := h
    have hA : 0 ≤ drA c k ∧ drA c k < 2147483647 := ⟨Int.emod_nonneg _ (by decide), Int.emod_lt_of_pos _ (by decide)⟩
    have m1 : IntMulOk (977 : Int) k := mulB_left (by decide) (by decide)
    have m3 : IntMulOk (drA c k) (drA c k) := mulB_right (by omega) (by omega)
    refine ⟨_, (Evl.pss_cut (ps_set (i := 3) sc_xlawdraw.nd rfl (.inl rfl) (pe_op op_mod (pe_op op_mulB (pe_op op_add (pe_op op_add (pe_op op_mod (pv 0) pe_int) (pe_op op_mulB pe_int (pv 1))) pe_int) pe_int) pe_int))
      (Evl.pss_cut (ps_set (i := 3) sc_xlawdraw.nd rfl (.inl rfl) (pe_op op_mod (pe_op op_mulB (pv 3) (pv 3)) pe_int))
      (Evl.pss_cut (ps_set (i := 3) sc_xlawdraw.nd rfl (.inl rfl) (pe_op op_mod (pe_op op_mulB (pe_op op_add (pv 3) (pe_op op_mulB pe_int (pe_op op_add (pv 1) pe_int))) pe_int) pe_int))
      (pss_one (ps_ret (pe_op op_mod (pe_op op_fdivP (pv 3) pe_int) (pv 2))))))), ?_⟩
    refine ⟨fun σ H' => H = H' ∧ σ = [some (.int c), some (.int k), some (.int b), some (.int (drA c k))], ?_, fun σ H' hM => ?_⟩
    · refine ⟨_, rfl, _, _, rfl, rfl, (show (0 : Int) < 2147483647 by decide), _, rfl, _, _, rfl, rfl, m1, _, _, rfl, rfl, _, _, rfl, rfl, _, _, rfl, rfl, mulB_right (by decide) (by decide), _, _, rfl, rfl, (show (0 : Int) < 2147483647 by decide), ?_⟩
      exact ⟨rfl, rfl⟩
    obtain ⟨rfl, rfl⟩ := hM
    refine ⟨fun σ H' => H = H' ∧ σ = [some (.int c), some (.int k), some (.int b), some (.int (drB c k))], ?_, fun σ H' hM => ?_⟩
    · refine ⟨_, rfl, _, rfl, _, _, rfl, rfl, m3, _, _, rfl, rfl, (show (0 : Int) < 2147483629 by decide), ?_⟩
      exact ⟨rfl, rfl⟩
    obtain ⟨rfl, rfl⟩ := hM
    refine ⟨fun σ H' => H = H' ∧ σ = [some (.int c), some (.int k), some (.int b), some (.int (drC c k))], ?_, fun σ H' hM => ?_⟩
    · refine ⟨_, rfl, _, rfl, _, _, rfl, rfl, _, _, rfl, rfl, mulB_left (by decide) (by decide), _, _, rfl, rfl, _, _, rfl, rfl, mulB_right (by decide) (by decide), _, _, rfl, rfl, (show (0 : Int) < 2147483647 by decide), ?_⟩
      exact ⟨rfl, rfl⟩
    obtain ⟨rfl, rfl⟩ := hM
    refine ⟨_, rfl, _, _, rfl, rfl, cdivp_small (by decide) (by decide), _, rfl, _, _, rfl, rfl, h3, ?_⟩
    exact q
end
abbrev s_xlawwhole : Stmt := topS 22
theorem sc_xlawwhole : FnScope ["found"] ["found"] (defScope s_xlawwhole) := ⟨rfl, rfl, rfl, by decide +kernel, rfl, by decide +kernel, by decide +kernel⟩
@[irreducible] def sp_xlawwhole (K : PySem.W.Frag) : Sp := fun vs H Q _ => ∃ i : Int, vs = [.int i] ∧ Q (.bl true) H
theorem go_whole {K : PySem.W.Frag} {H : Hp} {i : Int} {Q : VK} {E : XK} (q : Q (.bl true) H) : sp_xlawwhole K [.int i] H Q E := by
  unfold sp_xlawwhole; exact ⟨i, rfl, q⟩
local macro_rules | `(tactic| walk_at "call") => `(tactic| refine go_whole ?_)
section
variable {P : Program} {w : World} {K : PySem.W.Frag} {mg : Str → Option Value} {base : Heap}
theorem ok_xlawwhole {f : Addr} {fd : FuncData} (F : Fun K "_law_whole" "_law_whole" s_xlawwhole f fd) (M : Md K mg) : FnOk P w K mg base CX0 1 f fd ["found"] (sp_xlawwhole K) := by
  refine F.ok sc_xlawwhole (fun vs H Q E h => ?_) (fun cdv A outer s H vs Q E hr h => ?_)
  · unfold sp_xlawwhole at h; obtain ⟨i, rfl, q⟩ := h
    rfl
  · have hu := hu_of hr
    unfold sp_xlawwhole at h; obtain ⟨i, rfl, q⟩ := h
    refine ⟨_, (pss_one (ps_ret (pe_and (pe_callB call_isi (by rfl) M.m_isinstance (by decide +kernel) (pa_cons (pv 0) (pa_cons (pe_bltn (v := .ty "int") (by rfl) M.m_int (by decide +kernel) rfl) pa_nil))) (pe_one (pe_not (pe_callB call_isi (by rfl) M.m_isinstance (by decide +kernel) (pa_cons (pv 0) (pa_cons (pe_bltn (v := .ty "bool") (by rfl) M.m_bool (by decide +kernel) rfl) pa_nil)))))))), ?_⟩
    walk_at "st"
    refine ⟨_, _, _, _, _, rfl, .ty _, .base (.int i), kit_int_int, ?_⟩
    walk_at "st"
    refine ⟨_, _, _, _, _, rfl, .ty _, .base (.int i), kit_int_bool, ?_⟩
    walk_at "st"
    exact q
end
abbrev s_xlawfiguresby : Stmt := topS 23
theorem sc_xlawfiguresby : FnScope ["cell", "base", "many", "k"] ["cell", "base", "many"] (defScope s_xlawfiguresby) := ⟨rfl, rfl, rfl, by decide +kernel, rfl, by decide +kernel, by decide +kernel⟩
/-- so many drawn figures -/
def fgs (c b : Int) (n : Nat) : List Int := (List.range n).map fun k => drw c ((k : Nat) : Int) b
theorem fgs_len (c b : Int) (n : Nat) : (fgs c b n).length = n := by unfold fgs; rw [List.length_map, List.length_range]
theorem fgs_ok (c : Int) {b : Int} (n : Nat) (h : 0 < b) : ∀ x, x ∈ fgs c b n → 0 ≤ x ∧ x < b := fun x hx => by
  obtain ⟨k, _, rfl⟩ := List.mem_map.mp hx
  exact drw_ok c _ h
@[irreducible] def sp_xlawfiguresby (K : PySem.W.Frag) : Sp := fun vs H Q _ => ∃ (c b n : Int), vs = [.int c, .int b, .int n] ∧ 0 < b ∧ 0 ≤ n ∧ n ≤ 100000 ∧ ∀ H' p, Same H H' → H p = none → H' p = some (.lst ((fgs c b n.toNat).map V.int)) → Q (.ref p) H'
theorem go_xlawfiguresby {K : PySem.W.Frag} {H : Hp} {c b n : Int} {Q : VK} {E : XK} (h1 : 0 < b) (h2 : 0 ≤ n) (h3 : n ≤ 100000) (q : ∀ H' p, Same H H' → H p = none → H' p = some (.lst ((fgs c b n.toNat).map V.int)) → Q (.ref p) H') : sp_xlawfiguresby K [.int c, .int b, .int n] H Q E := by
  unfold sp_xlawfiguresby; exact ⟨c, b, n, rfl, h1, h2, h3, q⟩
theorem go_some {K : PySem.W.Frag} {H : Hp} {c b n : Int} {Q : VK} {E : XK} (h1 : 0 < b) (h2 : 0 ≤ n) (h3 : n ≤ 100000) (q : ∀ (rn : List Int) H' p, rn.length = n.toNat → Figs b rn → Same H H' → H p = none → H' p = some (.lst (rn.map V.int)) → Q (.ref p) H') : sp_xlawfiguresby K [.int c, .int b, .int n] H Q E :=
  go_xlawfiguresby h1 h2 h3 fun H' p s n' h => q _ H' p (fgs_len c b _) (fgs_ok c _ h1) s n' h
section
variable {P : Program} {w : World} {K : PySem.W.Frag} {mg : Str → Option Value} {base : Heap}
theorem ok_xlawfiguresby {f : Addr} {fd : FuncData} (F : Fun K "_law_figures_by" "_law_figures_by" s_xlawfiguresby f fd) (M : Md K mg) (c_xlawdraw : Cal P w K mg base 1 "_law_draw" (sp_xlawdraw K) []) : FnOk P w K mg base CX0 2 f fd ["cell", "base", "many"] (sp_xlawfiguresby K) := by
  refine F.ok sc_xlawfiguresby (fun vs H Q E h => ?_) (fun cdv A outer s H vs Q E hr h => ?_)
  · unfold sp_xlawfiguresby at h; obtain ⟨c, b, n, rfl, h1, h2, h3, q⟩ := h
    rfl
  · have hu := hu_of hr
    unfold sp_xlawfiguresby at h; obtain ⟨c, b, n, rfl, h1, h2, h3, q⟩ := h
    refine ⟨_, (pss_one (ps_ret (pe_lc (own := [("k", 3)]) (g := gName 3) (tt := tYes) rfl sc_xlawfiguresby.nd (pi_range1 (by rfl) M.m_range (pa_cons (pv 2) pa_nil)) (blkOk_by (own := [("k", 3)]) (N := ["cell", "base", "many", "k"]) (sc := defScope s_xlawfiguresby) (by decide +kernel)) (fun _ _ _ _ _ => (pg_name (i := 3) sc_xlawfiguresby.nd rfl (.inl rfl))) (fun _ _ _ _ _ => pts_nil) (fun _ _ _ _ _ => (pe_c c_xlawdraw hr (by decide) (by rfl) (pa_cons (pv 0) (pa_cons (pv 3) (pa_cons (pv 1) pa_nil)))))))), ?_⟩
    refine ⟨_, rfl, n, rfl, by omega, by omega, fun D nD => ?_⟩
    refine lc_rng (fun k => V.int (drw c ((k : Nat) : Int) b)) nD (by omega) (fun _ => rfl) (fun k hk H' Q' s q' => ?_) (fun H' s hD => q H' D s nD ?_)
    · walk_at "st"
      exact go_xlawdraw (by omega) (by omega) h1 (q' _ (Same.refl _))
    · rw [hD]; unfold fgs; rw [List.map_map]; rfl
end
abbrev s_xlawwritingby : Stmt := topS 24
theorem sc_xlawwritingby : FnScope ["script", "first", "base", "whole", "cell", "ahead", "ring", "way", "figure"] ["script", "first", "base"] (defScope s_xlawwritingby) := ⟨rfl, rfl, rfl, by decide +kernel, rfl, by decide +kernel, by decide +kernel⟩
def MidW (H : Hp) (a : Addr) (k b w c y : Int) (nA nR : Nat) : L2.St → Hp → Prop := fun σ H' => ∃ (pa pr : Addr) (A R : List Int), Same H H' ∧ H pa = none ∧ H pr = none ∧ pa ≠ pr ∧ H' pa = some (.lst (A.map V.int)) ∧ H' pr = some (.lst (R.map V.int)) ∧ A.length ≤ nA ∧ R.length ≤ nR ∧ Figs b A ∧ Figs b R ∧
  σ = [some (.ref a), some (.int k), some (.int b), some (.int w), some (.int c), some (.ref pa), some (.ref pr), some (.int y), none]
@[irreducible] def sp_xlawwritingby (K : PySem.W.Frag) : Sp := fun vs H Q _ => ∃ (a : Addr) (ns : List Int) (k b : Int), vs = [.ref a, .int k, .int b] ∧ 0 ≤ k ∧ 2 ≤ b ∧ b ≤ 36 ∧ SqL K H a (ns.map V.int) ∧
  ∀ H' p pa pr x, WrNew H H' p pa pr x → WrOk b x → x.a.length ≤ 124 → x.r.length ≤ 138 → Q (.ref p) H'
theorem go_xlawwritingby {K : PySem.W.Frag} {H : Hp} {a : Addr} {ns : List Int} {k b : Int} {Q : VK} {E : XK} (h0 : 0 ≤ k) (h1 : 2 ≤ b) (h2 : b ≤ 36) (hS : SqL K H a (ns.map V.int)) (q : ∀ H' p pa pr x, WrNew H H' p pa pr x → WrOk b x → x.a.length ≤ 124 → x.r.length ≤ 138 → Q (.ref p) H') : sp_xlawwritingby K [.ref a, .int k, .int b] H Q E := by
  unfold sp_xlawwritingby; exact ⟨a, ns, k, b, rfl, h0, h1, h2, hS, q⟩
section
variable {P : Program} {w : World} {K : PySem.W.Frag} {mg : Str → Option Value} {base : Heap}
theorem ok_xlawwritingby {f : Addr} {fd : FuncData} (F : Fun K "_law_writing_by" "_law_writing_by" s_xlawwritingby f fd) (M : Md K mg) (c_xlawcellat : Cal P w K mg base 1 "_law_cell_at" (sp_xlawcellat K) []) (c_xlawfiguresby : Cal P w K mg base 2 "_law_figures_by" (sp_xlawfiguresby K) []) : FnOk P w K mg base CX0 3 f fd ["script", "first", "base"] (sp_xlawwritingby K) := by
  refine F.ok sc_xlawwritingby (fun vs H Q E h => ?_) (fun cdv A outer s H vs Q E hr h => ?_)
  · unfold sp_xlawwritingby at h; obtain ⟨a, ns, k, b, rfl, h0, h1, h2, hS, q⟩ := h
    rfl
  · have hu := hu_of hr
    unfold sp_xlawwritingby at h; obtain ⟨a, ns, k, b, rfl, h0, h1, h2, hS, q⟩ := h
    refine ⟨_, (pss_cons (ps_set (i := 3) sc_xlawwritingby.nd rfl (.inl rfl) (pe_op op_mod (pe_c c_xlawcellat hr (by decide) (by rfl) (pa_cons (pv 0) (pa_cons (pv 1) pa_nil))) pe_int))
      (Evl.pss_cut (ps_if (pt_cmpR op_eq (pe_op op_mod (pe_op op_fdivP (pe_c c_xlawcellat hr (by decide) (by rfl) (pa_cons (pv 0) (pa_cons (pv 1) pa_nil))) pe_int) pe_int) pe_int (nomark _))
        (pss_one (ps_set (i := 3) sc_xlawwritingby.nd rfl (.inl rfl) (pe_op op_mod (pe_c c_xlawcellat hr (by decide) (by rfl) (pa_cons (pv 0) (pa_cons (pv 1) pa_nil))) (pe_op op_pow pe_int pe_int)))) pss_nil)
      (Evl.pss_cut (ps_if (pt_cmpR op_eq (pe_op op_mod (pe_op op_fdivP (pe_c c_xlawcellat hr (by decide) (by rfl) (pa_cons (pv 0) (pa_cons (pv 1) pa_nil))) pe_int) pe_int) pe_int (nomark _))
        (pss_one (ps_set (i := 3) sc_xlawwritingby.nd rfl (.inl rfl) (pe_op op_pow pe_int pe_int))) pss_nil)
      (pss_cons (ps_set (i := 4) sc_xlawwritingby.nd rfl (.inl rfl) (pe_c c_xlawcellat hr (by decide) (by rfl) (pa_cons (pv 0) (pa_cons (pe_op op_add (pv 1) pe_int) pa_nil))))
      (pss_cons (ps_set (i := 5) sc_xlawwritingby.nd rfl (.inl rfl) (pe_c c_xlawfiguresby hr (by decide) (by rfl) (pa_cons (pe_c c_xlawcellat hr (by decide) (by rfl) (pa_cons (pv 0) (pa_cons (pe_op op_add (pv 1) pe_int) pa_nil))) (pa_cons (pv 2) (pa_cons (pe_op op_mod (pv 4) pe_int) pa_nil)))))
      (pss_cons (ps_set (i := 6) sc_xlawwritingby.nd rfl (.inl rfl) (pe_c c_xlawfiguresby hr (by decide) (by rfl) (pa_cons (pe_c c_xlawcellat hr (by decide) (by rfl) (pa_cons (pv 0) (pa_cons (pe_op op_add (pv 1) pe_int) pa_nil))) (pa_cons (pv 2) (pa_cons (pe_op op_mod (pe_op op_fdivP (pv 4) pe_int) pe_int) pa_nil)))))
      (pss_cons (ps_set (i := 7) sc_xlawwritingby.nd rfl (.inl rfl) (pe_op op_mod (pe_op op_fdivP (pv 4) pe_int) pe_int))
      (pss_cons (ps_if (pt_cmpR op_eq (pe_op op_mod (pe_op op_fdivP (pv 4) pe_int) pe_int) pe_int (nomark _))
        (pss_cons (ps_set (i := 6) sc_xlawwritingby.nd rfl (.inl rfl) (pe_c c_xlawfiguresby hr (by decide) (by rfl) (pa_cons (pe_c c_xlawcellat hr (by decide) (by rfl) (pa_cons (pv 0) (pa_cons (pe_op op_add (pv 1) pe_int) pa_nil))) (pa_cons (pv 2) (pa_cons (pe_op op_add pe_int (pe_op op_mod (pe_op op_fdivP (pv 4) pe_int) pe_int)) pa_nil)))))
      (pss_cons (ps_set (i := 5) sc_xlawwritingby.nd rfl (.inl rfl) (pe_op op_cat (pe_op op_cat (pv 5) (pe_c c_xlawfiguresby hr (by decide) (by rfl) (pa_cons (pe_c c_xlawcellat hr (by decide) (by rfl) (pa_cons (pv 0) (pa_cons (pe_op op_add (pv 1) pe_int) pa_nil))) (pa_cons (pv 2) (pa_cons pe_int pa_nil))))) (pe_slice sl_list (pv 6) (po_some (pe_op op_mod (pv 4) pe_int)) po_none)))
      (pss_one (ps_ret (pe_tup (pa_cons (pv 3) (pa_cons (pv 5) (pa_cons (pe_op op_rep (pv 6) (pe_op op_add pe_int (pe_op op_mod (pv 4) pe_int))) pa_nil)))))))) pss_nil)
      (Evl.pss_cut (ps_if (pt_cmpR op_eq (pv 7) pe_int (nomark _))
        (pss_one (ps_setLc (i := 6) (own := [("figure", 8)]) (g := gName 8) (tt := tYes) rfl sc_xlawwritingby.nd rfl rfl (sw_true rfl rfl rfl (by decide +kernel)) (pi_list (pv 6)) (blkOk_by (own := [("figure", 8)]) (N := ["script", "first", "base", "whole", "cell", "ahead", "ring", "way", "figure"]) (sc := defScope s_xlawwritingby) (by decide +kernel)) (fun _ _ _ _ _ => (pg_name (i := 8) sc_xlawwritingby.nd rfl (.inl rfl))) (fun _ _ _ _ _ => pts_nil) (fun _ _ _ _ _ => (pe_op op_sub (pv 2) pe_int)))) pss_nil)
      (Evl.pss_cut (ps_if (pt_cmpR op_eq (pv 7) pe_int (nomark _))
        (pss_one (ps_setLc (i := 6) (own := [("figure", 8)]) (g := gName 8) (tt := tYes) rfl sc_xlawwritingby.nd rfl rfl (sw_true rfl rfl rfl (by decide +kernel)) (pi_list (pv 6)) (blkOk_by (own := [("figure", 8)]) (N := ["script", "first", "base", "whole", "cell", "ahead", "ring", "way", "figure"]) (sc := defScope s_xlawwritingby) (by decide +kernel)) (fun _ _ _ _ _ => (pg_name (i := 8) sc_xlawwritingby.nd rfl (.inl rfl))) (fun _ _ _ _ _ => pts_nil) (fun _ _ _ _ _ => pe_int))) pss_nil)
      (Evl.pss_cut (ps_if (pt_cmpR op_eq (pv 7) pe_int (nomark _))
        (pss_one (ps_set (i := 6) sc_xlawwritingby.nd rfl (.inl rfl) (pe_op op_cat (pv 6) (pv 6)))) pss_nil)
      (Evl.pss_cut (ps_if (pt_cmpR op_eq (pv 7) pe_int (nomark _))
        (pss_one (ps_set (i := 5) sc_xlawwritingby.nd rfl (.inl rfl) (pe_op op_cat (pv 5) (pe_slice sl_list (pv 6) (po_some pe_int) po_none)))) pss_nil)
      (Evl.pss_cut (ps_if (pt_cmpR op_eq (pv 7) pe_int (nomark _))
        (pss_cons (ps_set (i := 5) sc_xlawwritingby.nd rfl (.inl rfl) (pe_op op_cat (pv 5) (pe_lc (own := [("figure", 8)]) (g := gName 8) (tt := tYes) rfl sc_xlawwritingby.nd (pi_list (pv 6)) (blkOk_by (own := [("figure", 8)]) (N := ["script", "first", "base", "whole", "cell", "ahead", "ring", "way", "figure"]) (sc := defScope s_xlawwritingby) (by decide +kernel)) (fun _ _ _ _ _ => (pg_name (i := 8) sc_xlawwritingby.nd rfl (.inl rfl))) (fun _ _ _ _ _ => pts_nil) (fun _ _ _ _ _ => (pe_op op_sub (pv 2) pe_int)))))
      (pss_one (ps_set (i := 6) sc_xlawwritingby.nd rfl (.inl rfl) (pe_lst (pa_cons (pe_op op_sub (pv 2) pe_int) pa_nil))))) pss_nil)
      (Evl.pss_cut (ps_if (pt_cmpR op_eq (pv 7) pe_int (nomark _))
        (pss_cons (ps_set (i := 5) sc_xlawwritingby.nd rfl (.inl rfl) (pe_op op_cat (pv 5) (pe_lc (own := [("figure", 8)]) (g := gName 8) (tt := tYes) rfl sc_xlawwritingby.nd (pi_list (pv 6)) (blkOk_by (own := [("figure", 8)]) (N := ["script", "first", "base", "whole", "cell", "ahead", "ring", "way", "figure"]) (sc := defScope s_xlawwritingby) (by decide +kernel)) (fun _ _ _ _ _ => (pg_name (i := 8) sc_xlawwritingby.nd rfl (.inl rfl))) (fun _ _ _ _ _ => pts_nil) (fun _ _ _ _ _ => pe_int))))
      (pss_one (ps_set (i := 6) sc_xlawwritingby.nd rfl (.inl rfl) (pe_lst pa_nil)))) pss_nil)
      (Evl.pss_cut (ps_if (pt_cmpR op_eq (pv 7) pe_int (nomark _))
        (pss_one (ps_set (i := 6) sc_xlawwritingby.nd rfl (.inl rfl) (pe_op op_rep (pe_slice sl_list (pv 6) po_none (po_some pe_int)) (pe_op op_add pe_int (pe_op op_mod (pe_op op_fdivP (pv 4) pe_int) pe_int))))) pss_nil)
      (pss_one (ps_ret (pe_tup (pa_cons (pv 3) (pa_cons (pv 5) (pa_cons (pv 6) pa_nil))))))))))))))))))))), ?_⟩
    walk_at "st"
    refine ⟨fun σ H' => H = H' ∧ ∃ wh : Int, 0 ≤ wh ∧ wh ≤ 1000000000000 ∧ σ = [some (.ref a), some (.int k), some (.int b), some (.int wh), none, none, none, none, none], ?_, fun σ H' hM => ?_⟩
    · walk_at "st"
      refine iteE (fun c1 => ?_) (fun c1 => ?_)
      · walk_at "st"
        exact ⟨_, Int.emod_nonneg _ (by decide), Int.le_of_lt (Int.emod_lt_of_pos _ (by decide)), rfl⟩
      · exact ⟨rfl, _, Int.emod_nonneg _ (by decide), by show cl ns k.toNat % 40 ≤ _; omega, rfl⟩
    obtain ⟨rfl, wh, hw1, hw2, rfl⟩ := hM
    refine ⟨fun σ H' => H = H' ∧ ∃ wh : Int, 0 ≤ wh ∧ wh ≤ 1000000000000 ∧ σ = [some (.ref a), some (.int k), some (.int b), some (.int wh), none, none, none, none, none], ?_, fun σ H' hM => ?_⟩
    · walk_at "st"
      refine iteE (fun c1 => ?_) (fun c1 => ?_)
      · walk_at "st"
        exact ⟨_, by decide, by decide, rfl⟩
      · exact ⟨rfl, wh, hw1, hw2, rfl⟩
    clear hw1 hw2
    clear wh
    obtain ⟨rfl, wh, hw1, hw2, rfl⟩ := hM
    walk_at "st"
    generalize cl ns (k + 1).toNat = c
    refine go_some (by omega) (by omega) (by omega) (fun A0 H1 pa l1 f1 s1 n1 ha1 => ?_)
    have hS1 := s1.seq hS
    walk_at "st"
    refine go_some (by omega) (by omega) (by omega) (fun R0 H2 pr l2 f2 s2 n2 hr2 => ?_)
    have s12 := s1.trans s2
    have hS2 := s12.seq hS
    have ha2 := s2 _ _ ha1
    have nar : pa ≠ pr := ne_of_none ha1 n2
    have n2' := s1.free n2
    walk_at "st"
    refine iteE (fun c1 => ?_) (fun c1 => ?_)
    · -- the long ones
      walk_at "st"
      refine go_some (by omega) (by omega) (by omega) (fun R3 H3 p3 l3 f3 s3 n3 h3 => ?_)
      have s13 := s12.trans s3
      have hS3 := s13.seq hS
      have ha3 := s3 _ _ ha2
      have n3' := s12.free n3
      walk_at "st"
      refine go_some (by omega) (by omega) (by omega) (fun A4 H4 p4 l4 f4 s4 n4 h4 => ?_)
      have s14 := s13.trans s4
      have ha4 := s4 _ _ ha3
      have h34 := s4 _ _ h3
      refine ⟨pa, p4, _, _, rfl, rfl, ha4, h4, sz100 (by simp only [List.length_map]; omega), fun p5 np5 => ?_⟩
      rw [← List.map_append]
      have s15 := same_ups (o := .lst ((A0 ++ A4).map V.int)) s14 np5
      have h35 := (upd_ne (o := .lst ((A0 ++ A4).map V.int)) (ne_of_none h34 np5)).trans h34
      have h55 := upd_same (H := H4) (a := p5) (o := .lst ((A0 ++ A4).map V.int))
      have n5' := s14.free np5
      have f5 := figs_app f1 f4
      have l5 : (A0 ++ A4).length ≤ 55 := by rw [List.length_append]; omega
      generalize upd H4 p5 (.lst ((A0 ++ A4).map V.int)) = H5 at *
      generalize A0 ++ A4 = A5 at *
      walk_at "st"
      refine ⟨p3, _, rfl, sql h35, fun p6 np6 => ?_⟩
      rw [cut_litd R3 (c % 9).toNat _ (Int.toNat_of_nonneg (Int.emod_nonneg _ (by decide))).symm]
      have h56 := (upd_ne (o := .lst ((R3.drop (c % 9).toNat).map V.int)) (ne_of_none h55 np6)).trans h55
      have h36 := (upd_ne (o := .lst ((R3.drop (c % 9).toNat).map V.int)) (ne_of_none h35 np6)).trans h35
      have s16 := same_ups (o := .lst ((R3.drop (c % 9).toNat).map V.int)) s15 np6
      refine ⟨p5, p6, _, _, rfl, rfl, h56, upd_same, sz100 (by simp only [List.length_map, List.length_drop]; omega), fun p7 np7 => ?_⟩
      rw [← List.map_append]
      have s17 := same_ups (o := .lst ((A5 ++ R3.drop (c % 9).toNat).map V.int)) s16 np7
      have h37 := (upd_ne (o := .lst ((A5 ++ R3.drop (c % 9).toNat).map V.int)) (ne_of_none h36 np7)).trans h36
      have n7' := s16.free np7
      walk_at "st"
      refine ⟨p3, _, _, rfl, rfl, h37, by omega, by omega, sz100 ?_, fun p8 np8 => ?_⟩
      · rw [List.length_map]
        have : (1 + c % 2).toNat ≤ 2 := by omega
        exact Nat.le_trans (Nat.mul_le_mul_left _ this) (by omega)
      walk_at "st"
      intro p9 np9
      have np8' := free_upd np9
      have l8 : (R3.drop (c % 9).toNat).length ≤ 69 := by rw [List.length_drop]; omega
      have l9 : (List.replicate (1 + c % 2).toNat R3).flatten.length ≤ 138 := by
        rw [rep_len]
        have : (1 + c % 2).toNat ≤ 2 := by omega
        exact Nat.le_trans (Nat.mul_le_mul_right _ this) (by omega)
      have l10 : (A5 ++ R3.drop (c % 9).toNat).length ≤ 124 := by rw [List.length_append]; omega
      refine q _ p9 p7 p8 ⟨wh, A5 ++ R3.drop (c % 9).toNat, (List.replicate (1 + c % 2).toNat R3).flatten⟩ ⟨⟨upd_same, ?_, ?_⟩, same_ups (same_ups s17 np8) np9, s17.free np8', n7', s17.free np8, Ne.symm (ne_new np8)⟩ ⟨hw1, hw2, by exact Nat.le_trans l10 (by decide), by exact Nat.le_trans l9 (by decide), figs_app f5 (figs_drop f3 _), figs_rep f3 _⟩ l10 l9
      · rw [upd_ne (Ne.symm (ne_new np8')), upd_ne (Ne.symm (ne_new np8)), upd_same]
      · rw [upd_ne (Ne.symm (ne_new np9)), upd_same, rep_map]
    · refine ⟨MidW H a k b wh c (c / 42 % 8) 5 6, ?_, fun σ H' hM => ?_⟩
      · walk_at "st"
        refine iteE (fun c2 => ?_) (fun c2 => ?_)
        · walk_at "st"
          refine ⟨⟨_, sql hr2⟩, fun D nD => ?_⟩
          refine lc_vals (K := K) (fun v => V.int (b - 1)) (sql hr2) nD (by rw [List.length_map]; omega) (fun _ => rfl) (fun x hx H' Q' s q' => ?_) (fun H3 s3 hD => ?_)
          · walk_at "st"
            exact q' _ (Same.refl _)
          · rw [List.map_map] at hD
            exact ⟨pa, D, A0, R0.map (fun _ => b - 1), s12.trans s3, n1, s12.free nD, ne_of_none ha2 nD, s3 _ _ ha2, by rw [hD, List.map_map]; rfl, by omega, by rw [List.length_map]; omega, f1, figs_const ⟨by omega, by omega⟩, rfl⟩
        · exact ⟨pa, pr, A0, R0, s12, n1, n2', nar, ha2, hr2, by omega, by omega, f1, f2, rfl⟩
      clear s1 s2 s12 hS1 hS2 n1 n2 n2' nar ha1 ha2 hr2 f1 f2 l1 l2
      clear H1 H2 pa pr A0 R0
      obtain ⟨pa, pr, A, R, s1, na, nr, nar, ha, hr', la, lr, fa, fr, rfl⟩ := hM
      refine ⟨MidW H a k b wh c (c / 42 % 8) 5 6, ?_, fun σ H' hM => ?_⟩
      · walk_at "st"
        refine iteE (fun c2 => ?_) (fun c2 => ?_)
        · walk_at "st"
          refine ⟨⟨_, sql hr'⟩, fun D nD => ?_⟩
          refine lc_vals (K := K) (fun v => V.int 0) (sql hr') nD (by rw [List.length_map]; omega) (fun _ => rfl) (fun x hx H' Q' s q' => ?_) (fun H3 s3 hD => ?_)
          · walk_at "st"
            exact q' _ (Same.refl _)
          · rw [List.map_map] at hD
            exact ⟨pa, D, A, R.map (fun _ => 0), s1.trans s3, na, s1.free nD, ne_of_none ha nD, s3 _ _ ha, by rw [hD, List.map_map]; rfl, by omega, by rw [List.length_map]; omega, fa, figs_const ⟨by omega, by omega⟩, rfl⟩
        · exact ⟨pa, pr, A, R, s1, na, nr, nar, ha, hr', by omega, by omega, fa, fr, rfl⟩
      clear s1 na nr nar ha hr' la lr fa fr
      clear pa pr A R
      obtain ⟨pa, pr, A, R, s1, na, nr, nar, ha, hr', la, lr, fa, fr, rfl⟩ := hM
      refine ⟨MidW H a k b wh c (c / 42 % 8) 5 12, ?_, fun σ H' hM => ?_⟩
      · walk_at "st"
        refine iteE (fun c2 => ?_) (fun c2 => ?_)
        · walk_at "st"
          refine ⟨pr, pr, _, _, rfl, rfl, hr', hr', sz100 (by simp only [List.length_map]; omega), fun D nD => ?_⟩
          rw [← List.map_append]
          exact ⟨pa, D, A, R ++ R, same_ups s1 nD, na, s1.free nD, ne_of_none ha nD, (upd_ne (ne_of_none ha nD)).trans ha, upd_same, by omega, by rw [List.length_append]; omega, fa, figs_app fr fr, rfl⟩
        · exact ⟨pa, pr, A, R, s1, na, nr, nar, ha, hr', by omega, by omega, fa, fr, rfl⟩
      clear s1 na nr nar ha hr' la lr fa fr
      clear pa pr A R
      obtain ⟨pa, pr, A, R, s1, na, nr, nar, ha, hr', la, lr, fa, fr, rfl⟩ := hM
      refine ⟨MidW H a k b wh c (c / 42 % 8) 17 12, ?_, fun σ H' hM => ?_⟩
      · walk_at "st"
        refine iteE (fun c2 => ?_) (fun c2 => ?_)
        · walk_at "st"
          refine ⟨pr, _, rfl, sql hr', fun D nD => ?_⟩
          rw [cut_litd R 1 1 rfl]
          have h2a := (upd_ne (o := .lst ((R.drop 1).map V.int)) (ne_of_none ha nD)).trans ha
          have h2r := (upd_ne (o := .lst ((R.drop 1).map V.int)) (ne_of_none hr' nD)).trans hr'
          have s2 := same_ups (o := .lst ((R.drop 1).map V.int)) s1 nD
          refine ⟨pa, D, _, _, rfl, rfl, h2a, upd_same, sz100 (by simp only [List.length_map, List.length_drop]; omega), fun D2 nD2 => ?_⟩
          rw [← List.map_append]
          exact ⟨D2, pr, A ++ R.drop 1, R, same_ups s2 nD2, s2.free nD2, nr, Ne.symm (ne_of_none h2r nD2), upd_same, (upd_ne (ne_of_none h2r nD2)).trans h2r, by rw [List.length_append, List.length_drop]; omega, by omega, figs_app fa (figs_drop fr 1), fr, rfl⟩
        · exact ⟨pa, pr, A, R, s1, na, nr, nar, ha, hr', by omega, by omega, fa, fr, rfl⟩
      clear s1 na nr nar ha hr' la lr fa fr
      clear pa pr A R
      obtain ⟨pa, pr, A, R, s1, na, nr, nar, ha, hr', la, lr, fa, fr, rfl⟩ := hM
      refine ⟨MidW H a k b wh c (c / 42 % 8) 29 12, ?_, fun σ H' hM => ?_⟩
      · walk_at "st"
        refine iteE (fun c2 => ?_) (fun c2 => ?_)
        · walk_at "st"
          refine ⟨⟨_, sql hr'⟩, fun D nD => ?_⟩
          refine lc_vals (K := K) (fun v => V.int (b - 1)) (sql hr') nD (by rw [List.length_map]; omega) (fun _ => rfl) (fun x hx H' Q' s q' => ?_) (fun H3 s3 hD => ?_)
          · walk_at "st"
            exact q' _ (Same.refl _)
          · have hD' : H3 D = some (.lst ((R.map (fun _ => b - 1)).map V.int)) := by rw [hD, List.map_map, List.map_map]; rfl
            have ha3 := s3 _ _ ha
            refine ⟨pa, D, _, _, rfl, rfl, ha3, hD', sz100 (by simp only [List.length_map]; omega), fun D2 nD2 => ?_⟩
            rw [← List.map_append]
            have s4 := same_ups (o := .lst ((A ++ R.map (fun _ => b - 1)).map V.int)) (s1.trans s3) nD2
            walk_at "st"
            intro D3 nD3
            exact ⟨D2, D3, A ++ R.map (fun _ => b - 1), [b - 1], same_ups s4 nD3, (s1.trans s3).free nD2, s4.free nD3, Ne.symm (ne_new nD3), (upd_ne (Ne.symm (ne_new nD3))).trans upd_same, upd_same, by rw [List.length_append, List.length_map]; omega, by show 1 ≤ 12; decide, figs_app fa (figs_const ⟨by omega, by omega⟩), figs_one ⟨by omega, by omega⟩, rfl⟩
        · exact ⟨pa, pr, A, R, s1, na, nr, nar, ha, hr', by omega, by omega, fa, fr, rfl⟩
      clear s1 na nr nar ha hr' la lr fa fr
      clear pa pr A R
      obtain ⟨pa, pr, A, R, s1, na, nr, nar, ha, hr', la, lr, fa, fr, rfl⟩ := hM
      refine ⟨MidW H a k b wh c (c / 42 % 8) 41 12, ?_, fun σ H' hM => ?_⟩
      · walk_at "st"
        refine iteE (fun c2 => ?_) (fun c2 => ?_)
        · walk_at "st"
          refine ⟨⟨_, sql hr'⟩, fun D nD => ?_⟩
          refine lc_vals (K := K) (fun v => V.int 0) (sql hr') nD (by rw [List.length_map]; omega) (fun _ => rfl) (fun x hx H' Q' s q' => ?_) (fun H3 s3 hD => ?_)
          · walk_at "st"
            exact q' _ (Same.refl _)
          · have hD' : H3 D = some (.lst ((R.map (fun _ => (0 : Int))).map V.int)) := by rw [hD, List.map_map, List.map_map]; rfl
            have ha3 := s3 _ _ ha
            refine ⟨pa, D, _, _, rfl, rfl, ha3, hD', sz100 (by simp only [List.length_map]; omega), fun D2 nD2 => ?_⟩
            rw [← List.map_append]
            have s4 := same_ups (o := .lst ((A ++ R.map (fun _ => (0 : Int))).map V.int)) (s1.trans s3) nD2
            walk_at "st"
            intro D3 nD3
            exact ⟨D2, D3, A ++ R.map (fun _ => (0 : Int)), [], same_ups s4 nD3, (s1.trans s3).free nD2, s4.free nD3, Ne.symm (ne_new nD3), (upd_ne (Ne.symm (ne_new nD3))).trans upd_same, upd_same, by rw [List.length_append, List.length_map]; omega, by show 0 ≤ 12; decide, figs_app fa (figs_const ⟨by omega, by omega⟩), figs_nil, rfl⟩
        · exact ⟨pa, pr, A, R, s1, na, nr, nar, ha, hr', by omega, by omega, fa, fr, rfl⟩
      clear s1 na nr nar ha hr' la lr fa fr
      clear pa pr A R
      obtain ⟨pa, pr, A, R, s1, na, nr, nar, ha, hr', la, lr, fa, fr, rfl⟩ := hM
      have hS1 := s1.seq hS
      refine ⟨MidW H a k b wh c (c / 42 % 8) 41 14, ?_, fun σ H' hM => ?_⟩
      · walk_at "st"
        refine iteE (fun c2 => ?_) (fun c2 => ?_)
        · walk_at "st"
          refine ⟨pr, _, rfl, sql hr', fun D nD => ?_⟩
          rw [cut_lit R 2 2 rfl]
          have h2a := (upd_ne (o := .lst ((R.take 2).map V.int)) (ne_of_none ha nD)).trans ha
          have s2 := same_ups (o := .lst ((R.take 2).map V.int)) s1 nD
          have l2 : (R.take 2).length ≤ 2 := by rw [List.length_take]; omega
          have e7 : (3 + c / 336 % 5).toNat ≤ 7 := by omega
          walk_at "st"
          refine ⟨D, _, _, rfl, rfl, upd_same, by omega, by omega, sz100 ?_, fun D2 nD2 => ?_⟩
          · rw [List.length_map]
            exact Nat.le_trans (Nat.mul_le_mul l2 e7) (by decide)
          refine ⟨pa, D2, A, (List.replicate (3 + c / 336 % 5).toNat (R.take 2)).flatten, same_ups s2 nD2, na, s2.free nD2, ne_of_none h2a nD2, (upd_ne (ne_of_none h2a nD2)).trans h2a, ?_, la, ?_, fa, figs_rep (figs_take fr 2) _, rfl⟩
          · rw [upd_same, rep_map]
          · rw [rep_len]
            exact Nat.le_trans (Nat.mul_le_mul e7 l2) (by decide)
        · exact ⟨pa, pr, A, R, s1, na, nr, nar, ha, hr', by omega, by omega, fa, fr, rfl⟩
      clear s1 na nr nar ha hr' la lr fa fr hS1
      clear pa pr A R
      obtain ⟨pa, pr, A, R, s1, na, nr, nar, ha, hr', la, lr, fa, fr, rfl⟩ := hM
      walk_at "st"
      intro p np
      exact q _ p pa pr ⟨wh, A, R⟩ ⟨⟨upd_same, (upd_ne (ne_of_none ha np)).trans ha, (upd_ne (ne_of_none hr' np)).trans hr'⟩, same_ups s1 np, s1.free np, na, nr, nar⟩ ⟨hw1, hw2, by exact Nat.le_trans la (by decide), by exact Nat.le_trans lr (by decide), fa, fr⟩ (Nat.le_trans la (by decide)) (Nat.le_trans lr (by decide))
end
abbrev s_xlawcopy : Stmt := topS 25
theorem sc_xlawcopy : FnScope ["writing"] ["writing"] (defScope s_xlawcopy) := ⟨rfl, rfl, rfl, by decide +kernel, rfl, by decide +kernel, by decide +kernel⟩
@[irreducible] def sp_xlawcopy (K : PySem.W.Frag) : Sp := fun vs H Q _ => ∃ (p a r : Addr) (x : Wr), vs = [.ref p] ∧ WrAt H p a r x ∧ ∀ H' p' a' r', WrNew H H' p' a' r' x → Q (.ref p') H'
theorem go_xlawcopy {K : PySem.W.Frag} {H : Hp} {p a r : Addr} {x : Wr} {Q : VK} {E : XK} (h : WrAt H p a r x) (q : ∀ H' p' a' r', WrNew H H' p' a' r' x → Q (.ref p') H') : sp_xlawcopy K [.ref p] H Q E := by
  unfold sp_xlawcopy; exact ⟨p, a, r, x, rfl, h, q⟩
section
variable {P : Program} {w : World} {K : PySem.W.Frag} {mg : Str → Option Value} {base : Heap}
theorem ok_xlawcopy {f : Addr} {fd : FuncData} (F : Fun K "_law_copy" "_law_copy" s_xlawcopy f fd) (M : Md K mg) : FnOk P w K mg base CX0 1 f fd ["writing"] (sp_xlawcopy K) := by
  refine F.ok sc_xlawcopy (fun vs H Q E h => ?_) (fun cdv A outer s H vs Q E hr h => ?_)
  · unfold sp_xlawcopy at h; obtain ⟨p, a, r, x, rfl, h, q⟩ := h
    rfl
  · have hu := hu_of hr
    unfold sp_xlawcopy at h; obtain ⟨p, a, r, x, rfl, h, q⟩ := h
    have ht := h.tp
    have ha := h.la
    have hr' := h.lr
    refine ⟨_, (pss_one (ps_ret (pe_tup (pa_cons (pe_ix ix_tup (pv 0) pe_int (fun _ _ => rfl)) (pa_cons (pe_callTy call_list_of (by rfl) M.m_list (by decide +kernel) (pa_cons (pe_ix ix_tup (pv 0) pe_int (fun _ _ => rfl)) pa_nil)) (pa_cons (pe_callTy call_list_of (by rfl) M.m_list (by decide +kernel) (pa_cons (pe_ix ix_tup (pv 0) pe_int (fun _ _ => rfl)) pa_nil)) pa_nil)))))), ?_⟩
    walk_at "st"
    intro a2 na2
    have s1 := same_upd (o := .lst (x.a.map V.int)) na2
    have ht1 := s1 _ _ ht
    have hr1 := s1 _ _ hr'
    walk_at "st"
    intro r2 nr2
    have s2 := same_ups (o := .lst (x.r.map V.int)) s1 nr2
    walk_at "st"
    intro p2 np2
    have np3 := free_upd np2
    refine q _ p2 a2 r2 ⟨⟨upd_same, ?_, ?_⟩, same_ups s2 np2, free_upd np3, na2, free_upd nr2, Ne.symm (ne_new nr2)⟩
    · rw [upd_ne (Ne.symm (ne_new np3)), upd_ne (Ne.symm (ne_new nr2)), upd_same]
    · rw [upd_ne (Ne.symm (ne_new np2)), upd_same]
end
abbrev s_xlawdivided : Stmt := topS 26
theorem sc_xlawdivided : FnScope ["base", "top", "bottom", "rest", "seen", "figures"] ["base", "top", "bottom"] (defScope s_xlawdivided) := ⟨rfl, rfl, rfl, by decide +kernel, rfl, by decide +kernel, by decide +kernel⟩
@[irreducible] def sp_xlawdivided (K : PySem.W.Frag) : Sp := fun vs H Q _ => ∃ (x y z : Int) (b t m s l : Nat), vs = [.int x, .int y, .int z] ∧ x = b ∧ y = t ∧ z = m ∧ 0 < m ∧ b < 100 ∧ Wid m ∧ DivAt b m (t % m) s l ∧ s + l ≤ 100000 ∧
  ∀ H' p a r, WrNew H H' p a r ⟨((t / m : Nat) : Int), dgs b m (t % m) 0 s, dgs b m (t % m) s l⟩ → Q (.ref p) H'
theorem go_xlawdivided {K : PySem.W.Frag} {H : Hp} {x y z : Int} {Q : VK} {E : XK} (b t m s l : Nat) (hx : x = b) (hy : y = t) (hz : z = m) (hm : 0 < m) (hb : b < 100) (hw : Wid m) (hd : DivAt b m (t % m) s l) (hn : s + l ≤ 100000)
    (q : ∀ H' p a r, WrNew H H' p a r ⟨((t / m : Nat) : Int), dgs b m (t % m) 0 s, dgs b m (t % m) s l⟩ → Q (.ref p) H') : sp_xlawdivided K [.int x, .int y, .int z] H Q E := by
  unfold sp_xlawdivided; exact ⟨x, y, z, b, t, m, s, l, rfl, hx, hy, hz, hm, hb, hw, hd, hn, q⟩
section
variable {P : Program} {w : World} {K : PySem.W.Frag} {mg : Str → Option Value} {base : Heap}
theorem ok_xlawdivided {f : Addr} {fd : FuncData} (F : Fun K "_law_divided" "_law_divided" s_xlawdivided f fd) (M : Md K mg) : FnOk P w K mg base CX0 1 f fd ["base", "top", "bottom"] (sp_xlawdivided K) := by
  refine F.ok sc_xlawdivided (fun vs H Q E h => ?_) (fun cdv A outer s H vs Q E hr h => ?_)
  · unfold sp_xlawdivided at h; obtain ⟨x, y, z, b, t, m, s, l, rfl, rfl, rfl, rfl, hm, hb, hw, hd, hn, q⟩ := h
    rfl
  · have hu := hu_of hr
    unfold sp_xlawdivided at h; obtain ⟨x, y, z, b, t, m, s, l, rfl, rfl, rfl, rfl, hm, hb, hw, hd, hn, q⟩ := h
    have hmi : (0 : Int) < (m : Int) := by omega
    have cd : ∀ i : Int, CDivP i (m : Int) := fun i => cdivp_wide hm hw
    have mb : ∀ i : Int, IntMulOk i (b : Int) := fun i => mulB_right (by omega) (by omega)
    have e0 : (t : Int) % (m : Int) = ((rs b m (t % m) 0 : Nat) : Int) := by rw [rs_zero (Nat.mod_lt _ hm)]; rfl
    have eq : (t : Int) / (m : Int) = ((t / m : Nat) : Int) := rfl
    refine ⟨_, (pss_cons (ps_set (i := 3) sc_xlawdivided.nd rfl (.inl rfl) (pe_op op_mod (pv 1) (pv 2)))
      (pss_cons (ps_set (i := 4) sc_xlawdivided.nd rfl (.inl rfl) pe_dnewK)
      (pss_cons (ps_set (i := 5) sc_xlawdivided.nd rfl (.inl rfl) (pe_lst pa_nil))
      (pss_cons (ps_while PassesOwn.never (PW.pt (pw_and (pt_cmpR op_gt (pv 3) pe_int (nomark _)) (pw_and1 (pt_cmp (pc_dnotin hu (pv 3) (pv 4))))))
        (pss_cons (ps_dput hu (pv 4) (pv 3) (pe_callB call_len_seq (by rfl) M.m_len PySem.boot_len (pa_cons (pv 5) pa_nil)) rfl)
      (pss_cons (ps_expr (pe_bm PySem.F.plainAttrs_list PySem.F.slot_list_append PySem.F.type_list_append mt_append (pv 5) (pa_cons (pe_op op_fdivP (pe_op op_mulB (pv 3) (pv 0)) (pv 2)) pa_nil)))
      (pss_one (ps_set (i := 3) sc_xlawdivided.nd rfl (.inl rfl) (pe_op op_mod (pe_op op_mulB (pv 3) (pv 0)) (pv 2)))))))
      (pss_cons (ps_if (pt_cmpR op_eq (pv 3) pe_int (nomark _))
        (pss_one (ps_ret (pe_tup (pa_cons (pe_op op_fdivP (pv 1) (pv 2)) (pa_cons (pv 5) (pa_cons (pe_lst pa_nil) pa_nil)))))) pss_nil)
      (pss_one (ps_ret (pe_tup (pa_cons (pe_op op_fdivP (pv 1) (pv 2)) (pa_cons (pe_slice sl_list (pv 5) po_none (po_some (pe_dget hu (pv 4) (pv 3) (fun _ _ => rfl)))) (pa_cons (pe_slice sl_list (pv 5) (po_some (pe_dget hu (pv 4) (pv 3) (fun _ _ => rfl))) po_none) pa_nil))))))))))), ?_⟩
    walk_at "st"
    intro d nd
    walk_at "st"
    intro f nf
    have nd2 : H d = none := nd
    have nf2 : H f = none := free_upd nf
    have ndf : f ≠ d := ne_new nf
    refine ⟨fun μ σ H' => ∃ n kvs, n ≤ s + l ∧ μ = s + l - n ∧ σ = [some (.int b), some (.int t), some (.int m), some (.int ((rs b m (t % m) n : Nat) : Int)), some (.ref d), some (.ref f)] ∧ Same H H' ∧ H' d = some (.dK kvs) ∧ kvs.length = n ∧
        (∀ k, k < n → valV kvs (Sum.inl ((rs b m (t % m) k : Nat) : Int) : Key) = some (.int (k : Int))) ∧ (∀ z : Nat, (∀ k, k < n → rs b m (t % m) k ≠ z) → valV kvs (Sum.inl (z : Int) : Key) = none) ∧ H' f = some (.lst ((dgs b m (t % m) 0 n).map V.int)),
      ⟨s + l, 0, [], Nat.zero_le _, rfl, ?_, same_new (same_new (Same.refl H) nd2) nf2, ?_, rfl, fun k hk => by omega, fun z _ => rfl, ?_⟩, fun μ σ H' hW => ?_⟩
    · rw [← e0]; rfl
    · rw [upd_ne (Ne.symm ndf), upd_same]
    · exact upd_same
    obtain ⟨n, kvs, hnl, rfl, rfl, sm, hD, hk, hin, hout, hF⟩ := hW
    have hSq : SqL K H' f ((dgs b m (t % m) 0 n).map V.int) := sql hF
    have hlen : ((dgs b m (t % m) 0 n).map V.int).length = n := by rw [List.length_map, dgs_len]
    walk_at "st"
    by_cases hlt : n < s + l
    · -- one more figure
      have hp := hd.pos n hlt
      have hv : valV kvs (Sum.inl ((rs b m (t % m) n : Nat) : Int) : Key) = none := hout _ fun k hk' e => hd.new k n hk' hlt e
      refine iteD (fun _ => ?_) (fun e => absurd e (by omega))
      walk_at "st"
      refine ⟨d, _, rfl, DGet.k (k := Sum.inl ((rs b m (t % m) n : Nat) : Int)) hD, _, rfl, ?_⟩
      rw [hv]
      refine ⟨fun σ2 H2 => σ2 = [some (.int b), some (.int t), some (.int m), some (.int ((rs b m (t % m) (n + 1) : Nat) : Int)), some (.ref d), some (.ref f)] ∧ Same H H2 ∧ H2 d = some (.dK (kvs ++ [(Sum.inl ((rs b m (t % m) n : Nat) : Int), .int (n : Int))])) ∧ H2 f = some (.lst ((dgs b m (t % m) 0 (n + 1)).map V.int)),
        fun σ2 H2 ⟨e1, e2, e3, e4⟩ => ⟨s + l - (n + 1), by omega, n + 1, _, by omega, rfl, e1, e2, e3, by rw [List.length_append, hk]; rfl, fun k hk' => ?_, fun z hz => ?_, e4⟩, ?_⟩
      · rw [valV_snoc _ _ _ _ hv]
        by_cases hkn : k = n
        · subst hkn; rw [if_pos rfl]
        · rw [if_neg (keyne (hd.new k n (by omega) hlt)), hin k (by omega)]
      · rw [valV_snoc _ _ _ _ hv, if_neg (keyne fun q => hz n (by omega) q.symm), hout z fun k hk' => hz k (by omega)]
      · -- places[rest] = len(figures)
        refine ⟨_, rfl, f, _, rfl, .inl hSq, ?_⟩
        rw [hlen]
        refine ⟨_, rfl, _, rfl, d, _, rfl, DPut.k (k := Sum.inl ((rs b m (t % m) n : Nat) : Int)) hD (sz100lt (by omega)), ?_⟩
        rw [putK_new _ hv]
        have hF2 : (upd H' d (.dK (kvs ++ [(Sum.inl ((rs b m (t % m) n : Nat) : Int), V.int (n : Int))]))) f = some (.lst ((dgs b m (t % m) 0 n).map V.int)) := by rw [upd_ne ndf]; exact hF
        -- figures.append(..)
        refine ⟨_, rfl, .inl ⟨rfl, _, sql hF2⟩, ?_⟩
        walk_at "st"
        refine ⟨f, _, _, rfl, rfl, hF2, by rw [hlen]; exact sz100lt (by omega), ?_⟩
        walk_at "st"
        refine ⟨?_, same_new (same_new sm nd2) nf2, ?_, ?_⟩
        · rw [rs_succ]; rfl
        · rw [upd_ne (Ne.symm ndf), upd_same]
        · rw [upd_same, dgs_succ, List.map_append, Nat.zero_add]; rfl
    · have hns : n = s + l := by omega
      subst hns
      by_cases hl : l = 0
      · -- nothing is left
        subst hl
        have h0 := hd.fin rfl
        rw [Nat.add_zero] at *
        rw [h0]
        refine iteD (fun e => absurd e (by decide)) (fun _ => ?_)
        walk_at "st"
        intro g ng
        walk_at "st"
        intro p np
        have ngf : g ≠ f := fun z => by rw [z, hF] at ng; cases ng
        refine q _ p f g ⟨⟨upd_same, ?_, ?_⟩, same_new (same_new sm (sm.free ng)) (sm.free (free_upd np)), sm.free (free_upd np), nf2, sm.free ng, Ne.symm ngf⟩
        · rw [upd_ne (fun z => ?_), upd_ne (Ne.symm ngf)]
          · exact hF
          · rw [z] at hF; rw [free_upd np] at hF; cases hF
        · rw [upd_ne (Ne.symm (ne_new np)), upd_same]; rfl
      · have hrep := hd.rep (by omega)
        have hs0 := hd.pos s (by omega)
        have hv : valV kvs (Sum.inl ((rs b m (t % m) s : Nat) : Int) : Key) = some (.int (s : Int)) := hin s (by omega)
        rw [hrep]
        refine iteD (fun _ => ?_) (fun e => absurd e (by omega))
        walk_at "st"
        refine ⟨d, _, rfl, DGet.k (k := Sum.inl ((rs b m (t % m) s : Nat) : Int)) hD, _, rfl, ?_⟩
        rw [hv]
        walk_at "st"
        refine iteE (fun e => absurd e (by omega)) (fun _ => ?_)
        walk_at "st"
        have hg : DGet H' d (.int ((rs b m (t % m) s : Nat) : Int)) (some (.int (s : Int))) := by
          rw [← hv]; exact DGet.k (k := Sum.inl ((rs b m (t % m) s : Nat) : Int)) hD
        refine ⟨_, _, rfl, hg, _, rfl, f, _, rfl, hSq, fun a na => ?_⟩
        rw [cut_take, take_map, dgs_take _ _ _ _ _ (by omega)]
        have naf : a ≠ f := fun z => by rw [z, hF] at na; cases na
        have nad : a ≠ d := fun z => by rw [z, hD] at na; cases na
        walk_at "st"
        have hF1 := hF
        have hg1 : DGet (upd H' a (.lst ((dgs b m (t % m) 0 s).map V.int))) d (.int ((rs b m (t % m) s : Nat) : Int)) (some (.int (s : Int))) := by
          rw [← hv]; exact DGet.k (k := Sum.inl ((rs b m (t % m) s : Nat) : Int)) (by rw [upd_ne (Ne.symm nad)]; exact hD)
        have hSq1 : SqL K (upd H' a (.lst ((dgs b m (t % m) 0 s).map V.int))) f ((dgs b m (t % m) 0 (s + l)).map V.int) := sql (by rw [upd_ne (Ne.symm naf)]; exact hF)
        refine ⟨_, _, rfl, hg1, _, rfl, f, _, rfl, hSq1, fun g ng => ?_⟩
        rw [cut_drop, drop_map, dgs_drop _ _ _ _ _ (by omega), Nat.add_sub_cancel_left]
        walk_at "st"
        intro p np
        have np1 := free_upd np
        have np2 := free_upd np1
        refine q _ p a g ⟨⟨upd_same, ?_, ?_⟩, same_new (same_new (same_new sm (sm.free na)) (sm.free (free_upd ng))) (sm.free np2), sm.free np2, sm.free na, sm.free (free_upd ng), Ne.symm (ne_new ng)⟩
        · rw [upd_ne (Ne.symm (ne_new np1)), upd_ne (Ne.symm (ne_new ng)), upd_same]
        · rw [upd_ne (Ne.symm (ne_new np)), upd_same]
end
abbrev s_xlawiswriting : Stmt := topS 27
theorem sc_xlawiswriting : FnScope ["found", "due", "side", "figure"] ["found", "due"] (defScope s_xlawiswriting) := ⟨rfl, rfl, rfl, by decide +kernel, rfl, by decide +kernel, by decide +kernel⟩
@[irreducible] def sp_xlawiswriting (K : PySem.W.Frag) : Sp := fun vs H Q _ => ∃ (p a r p' a' r' : Addr) (x y : Wr), vs = [.ref p, .ref p'] ∧ WrAt H p a r x ∧ WrAt H p' a' r' y ∧ ∀ H', Same H H' → Q (.bl (decide (x = y))) H'
theorem go_xlawiswriting {K : PySem.W.Frag} {H : Hp} {p a r p' a' r' : Addr} {x y : Wr} {Q : VK} {E : XK} (h : WrAt H p a r x) (h' : WrAt H p' a' r' y) (q : ∀ H', Same H H' → Q (.bl (decide (x = y))) H') : sp_xlawiswriting K [.ref p, .ref p'] H Q E := by
  unfold sp_xlawiswriting; exact ⟨p, a, r, p', a', r', x, y, rfl, h, h', q⟩
theorem go_xlawiswriting_eq {K : PySem.W.Frag} {H : Hp} {p a r p' a' r' : Addr} {x y : Wr} {Q : VK} {E : XK} (h : WrAt H p a r x) (h' : WrAt H p' a' r' y) (e : x = y) (q : ∀ H', Same H H' → Q (.bl true) H') : sp_xlawiswriting K [.ref p, .ref p'] H Q E :=
  go_xlawiswriting h h' fun H' s => by rw [decide_eq_true e]; exact q H' s
section
variable {P : Program} {w : World} {K : PySem.W.Frag} {mg : Str → Option Value} {base : Heap}
theorem ok_xlawiswriting {f : Addr} {fd : FuncData} (F : Fun K "_law_is_writing" "_law_is_writing" s_xlawiswriting f fd) (M : Md K mg) (c_xlawwhole : Cal P w K mg base 1 "_law_whole" (sp_xlawwhole K) []) : FnOk P w K mg base CX0 2 f fd ["found", "due"] (sp_xlawiswriting K) := by
  refine F.ok sc_xlawiswriting (fun vs H Q E h => ?_) (fun cdv A outer s H vs Q E hr h => ?_)
  · unfold sp_xlawiswriting at h; obtain ⟨p, a, r, p', a', r', x, y, rfl, hp, hp', q⟩ := h
    rfl
  · have hu := hu_of hr
    unfold sp_xlawiswriting at h; obtain ⟨p, a, r, p', a', r', x, y, rfl, hp, hp', q⟩ := h
    refine ⟨_, (pss_cons (ps_if (PW.pt (pw_or (pt_not (pt_val (pe_callB call_isi (by rfl) M.m_isinstance (by decide +kernel) (pa_cons (pv 0) (pa_cons (pe_bltn (v := .ty "tuple") (by rfl) M.m_tuple (by decide +kernel) rfl) pa_nil))))) (pw_or (pt_cmpR op_ne (pe_callB call_len_seq (by rfl) M.m_len PySem.boot_len (pa_cons (pv 0) pa_nil)) pe_int (nomark _)) (pw_or1 (pt_not (pt_val (pe_c c_xlawwhole hr (by decide) (by rfl) (pa_cons (pe_ix ix_tup (pv 0) pe_int (fun _ _ => rfl)) pa_nil))))))))
        (pss_one (ps_ret pe_bl)) pss_nil)
      (pss_cons (ps_for PassesOwn.never rfl (pi_tup (pe_tup (pa_cons pe_int (pa_cons pe_int pa_nil)))) (pg_name (i := 2) sc_xlawiswriting.nd rfl (.inl rfl))
        (pss_cons (ps_if (pt_not (pt_val (pe_callB call_isi (by rfl) M.m_isinstance (by decide +kernel) (pa_cons (pe_ix ix_tup (pv 0) (pv 2) (fun _ _ => rfl)) (pa_cons (pe_bltn (v := .ty "list") (by rfl) M.m_list (by decide +kernel) rfl) pa_nil)))))
        (pss_one (ps_ret pe_bl)) pss_nil)
      (pss_one (ps_for PassesOwn.never rfl (pi_list (pe_ix ix_tup (pv 0) (pv 2) (fun _ _ => rfl))) (pg_name (i := 3) sc_xlawiswriting.nd rfl (.inl rfl))
        (pss_one (ps_if (pt_not (pt_val (pe_c c_xlawwhole hr (by decide) (by rfl) (pa_cons (pv 3) pa_nil))))
        (pss_one (ps_ret pe_bl)) pss_nil))))))
      (pss_one (ps_ret (pe_cmpR (op_eqD hr.units) (pv 0) (pv 1) (nomark _)))))), ?_⟩
    walk_at "st"
    refine ⟨_, _, _, _, _, rfl, .ty _, tyx_tup hp.tp, kit_tup, ?_⟩
    walk_at "st"
    refine ⟨_, _, rfl, .inr (sqt hp.tp), ?_⟩
    walk_at "st"
    refine ⟨p, _, _, _, rfl, rfl, sqt hp.tp, atI_nat (j := 0) rfl, ?_⟩
    walk_at "st"
    intro tp ntp
    walk_at "st"
    refine ⟨⟨_, sqt upd_same⟩, for_tup (K := K) (xs := [.int 1, .int 2]) (fun i σ H' => ∃ y2 y3, σ = [some (.ref p), some (.ref p'), y2, y3] ∧ Same H H' ∧ H' tp = some (.tup [.int 1, .int 2]))
      ⟨none, none, rfl, same_upd ntp, upd_same⟩ (fun i σ H' _ ⟨_, _, _, _, h⟩ => sqt h) (fun i v σ H' hi hv => ?_) (fun σ H' hv => ?_)⟩
    · obtain ⟨y2, y3, rfl, sm, ht⟩ := hv
      have key : ∃ (z : Int) (c : Addr) (ns : List Int), v = .int z ∧ atI [V.int x.w, V.ref a, V.ref r] z = some (.ref c) ∧ H c = some (.lst (ns.map V.int)) := by
        match i, hi with
        | 0, hi => exact ⟨1, a, x.a, (Option.some.inj hi).symm, atI_nat (j := 1) rfl, hp.la⟩
        | 1, hi => exact ⟨2, r, x.r, (Option.some.inj hi).symm, atI_nat (j := 2) rfl, hp.lr⟩
        | n + 2, hi => exact absurd hi (by simp)
      obtain ⟨z, c, ns, rfl, hz, hc⟩ := key
      walk_at "st"
      refine ⟨p, _, _, _, rfl, rfl, sqt (sm _ _ hp.tp), hz, ?_⟩
      walk_at "st"
      refine ⟨_, _, _, _, _, rfl, .ty _, tyx_lst (sm _ _ hc), kit_lst, ?_⟩
      walk_at "st"
      refine ⟨p, _, _, _, rfl, rfl, sqt (sm _ _ hp.tp), hz, ?_⟩
      refine ⟨c, rfl, ⟨_, sql (sm _ _ hc)⟩, for_list (K := K) (a := c) (xs := ns.map V.int) (fun j σ H2 => ∃ y3, σ = [some (.ref p), some (.ref p'), some (.int z), y3] ∧ Same H H2 ∧ H2 tp = some (.tup [.int 1, .int 2]))
        ⟨y3, rfl, sm, ht⟩ (fun j σ H2 _ ⟨_, _, s2, _⟩ => sql (s2 _ _ hc)) (fun j v σ H2 hj hv => ?_) (fun σ H2 hv => ?_)⟩
      · obtain ⟨y3, rfl, s2, ht2⟩ := hv
        obtain ⟨u, hu2, rfl⟩ : ∃ u, ns[j]? = some u ∧ v = V.int u := by
          rw [List.getElem?_map] at hj
          cases e : ns[j]? with
          | none => rw [e] at hj; cases hj
          | some u => rw [e] at hj; exact ⟨u, rfl, (Option.some.inj hj).symm⟩
        walk_at "st"
        exact ⟨s2, ht2⟩
      · obtain ⟨y3, rfl, s2, ht2⟩ := hv
        exact ⟨_, _, rfl, s2, ht2⟩
    · obtain ⟨y2, y3, rfl, sm, ht⟩ := hv
      refine ⟨_, rfl, _, rfl, dW x, dW y, (hp.same sm).dp, (hp'.same sm).dp, shaped_dW x, shaped_dW y, ?_⟩
      rw [eqv_dW]
      exact q H' sm
end
abbrev s_xlawtext : Stmt := topS 28
theorem sc_xlawtext : FnScope ["base", "writing", "signs", "whole", "text", "figure"] ["base", "writing"] (defScope s_xlawtext) := ⟨rfl, rfl, rfl, by decide +kernel, rfl, by decide +kernel, by decide +kernel⟩
@[irreducible] def sp_xlawtext (K : PySem.W.Frag) : Sp := fun vs H Q _ => ∃ (z : Int) (b : Nat) (p a r : Addr) (x : Wr), vs = [.int z, .ref p] ∧ z = b ∧ 2 ≤ b ∧ b ≤ 36 ∧ WrAt H p a r x ∧ WrOk b x ∧ ∀ H', Same H H' → Q (.str (txS b x)) H'
theorem go_xlawtext {K : PySem.W.Frag} {H : Hp} {z : Int} {p a r : Addr} {x : Wr} {Q : VK} {E : XK} (b : Nat) (hz : z = b) (h1 : 2 ≤ b) (h2 : b ≤ 36) (h : WrAt H p a r x) (ho : WrOk b x) (q : ∀ H', Same H H' → Q (.str (txS b x)) H') : sp_xlawtext K [.int z, .ref p] H Q E := by
  unfold sp_xlawtext; exact ⟨z, b, p, a, r, x, rfl, hz, h1, h2, h, ho, q⟩
section
variable {P : Program} {w : World} {K : PySem.W.Frag} {mg : Str → Option Value} {base : Heap}
theorem ok_xlawtext {f : Addr} {fd : FuncData} (F : Fun K "_law_text" "_law_text" s_xlawtext f fd) (M : Md K mg) : FnOk P w K mg base CX0 1 f fd ["base", "writing"] (sp_xlawtext K) := by
  refine F.ok sc_xlawtext (fun vs H Q E h => ?_) (fun cdv A outer s H vs Q E hr h => ?_)
  · unfold sp_xlawtext at h; obtain ⟨z, b, p, a, r, x, rfl, rfl, h1, h2, h, ho, q⟩ := h
    rfl
  · have hu := hu_of hr
    unfold sp_xlawtext at h; obtain ⟨z, b, p, a, r, x, rfl, rfl, h1, h2, h, ho, q⟩ := h
    have ht := h.tp
    have ha := h.la
    have hr' := h.lr
    have hw0 := ho.w0
    obtain ⟨n, hn⟩ : ∃ n : Nat, x.w = n := ⟨x.w.toNat, by omega⟩
    have hw1 := ho.w1
    have hla := ho.la
    have sat : ∀ k : Nat, atI SIG.cps.toList ((k : Int) % (b : Int)) = some (sg ((k % b : Nat) : Int)) := fun k => by
      have h3 := Int.emod_nonneg (k : Int) (show (b : Int) ≠ 0 by omega)
      have h4 := Int.emod_lt_of_pos (k : Int) (show (0 : Int) < b by omega)
      exact sig_at h3 (by omega)
    have szS : SIG.length ≤ sizeLine := by decide +kernel
    refine ⟨_, (pss_cons (ps_set (i := 2) sc_xlawtext.nd rfl (.inl rfl) pe_str)
      (pss_cons (ps_set (i := 3) sc_xlawtext.nd rfl (.inl rfl) (pe_ix ix_tup (pv 1) pe_int (fun _ _ => rfl)))
      (Evl.pss_cut (ps_set (i := 4) sc_xlawtext.nd rfl (.inl rfl) (pe_ix ix_str (pv 2) (pe_op op_mod (pv 3) (pv 0)) (fun _ _ => rfl)))
      (Evl.pss_cut (ps_while PassesOwn.never (pt_cmpR op_ge (pv 3) (pv 0) (nomark _))
        (pss_cons (ps_set (i := 3) sc_xlawtext.nd rfl (.inl rfl) (pe_op op_fdivP (pv 3) (pv 0)))
      (pss_one (ps_set (i := 4) sc_xlawtext.nd rfl (.inl rfl) (pe_op op_add_str (pe_ix ix_str (pv 2) (pe_op op_mod (pv 3) (pv 0)) (fun _ _ => rfl)) (pv 4))))))
      (Evl.pss_cut (ps_if (PW.pt (pw_and (pt_cmpR (op_eqD hr.units) (pe_ix ix_tup (pv 1) pe_int (fun _ _ => rfl)) (pe_lst pa_nil) (nomark _)) (pw_and1 (pt_cmpR (op_eqD hr.units) (pe_ix ix_tup (pv 1) pe_int (fun _ _ => rfl)) (pe_lst pa_nil) (nomark _)))))
        (pss_one (ps_ret (pv 4))) pss_nil)
      (Evl.pss_cut (ps_set (i := 4) sc_xlawtext.nd rfl (.inl rfl) (pe_op op_add_str (pv 4) pe_str))
      (Evl.pss_cut (ps_for PassesOwn.never rfl (pi_list (pe_ix ix_tup (pv 1) pe_int (fun _ _ => rfl))) (pg_name (i := 5) sc_xlawtext.nd rfl (.inl rfl))
        (pss_one (ps_set (i := 4) sc_xlawtext.nd rfl (.inl rfl) (pe_op op_add_str (pv 4) (pe_ix ix_str (pv 2) (pv 5) (fun _ _ => rfl))))))
      (Evl.pss_cut (ps_if (pt_cmpR (op_eqD hr.units) (pe_ix ix_tup (pv 1) pe_int (fun _ _ => rfl)) (pe_lst pa_nil) (nomark _))
        (pss_one (ps_ret (pv 4))) pss_nil)
      (Evl.pss_cut (ps_set (i := 4) sc_xlawtext.nd rfl (.inl rfl) (pe_op op_add_str (pv 4) pe_str))
      (Evl.pss_cut (ps_for PassesOwn.never rfl (pi_list (pe_ix ix_tup (pv 1) pe_int (fun _ _ => rfl))) (pg_name (i := 5) sc_xlawtext.nd rfl (.inl rfl))
        (pss_one (ps_set (i := 4) sc_xlawtext.nd rfl (.inl rfl) (pe_op op_add_str (pv 4) (pe_ix ix_str (pv 2) (pv 5) (fun _ _ => rfl))))))
      (pss_one (ps_ret (pe_op op_add_str (pv 4) pe_str))))))))))))), ?_⟩
    walk_at "st"
    refine ⟨fun σ H' => H = H' ∧ σ = [some (.int (b : Int)), some (.ref p), some (.str SIG), some (.int (n : Int)), some (.str (sgs [((n % b : Nat) : Int)])), none], ?_, fun σ H' hM => ?_⟩
    · rw [hn]
      walk_at "st"
      refine ⟨SIG, _, _, rfl, rfl, szS, sat n, ?_⟩
      exact ⟨rfl, rfl⟩
    obtain ⟨rfl, rfl⟩ := hM
    refine ⟨fun σ H' => H = H' ∧ ∃ m : Nat, σ = [some (.int (b : Int)), some (.ref p), some (.str SIG), some (.int (m : Int)), some (.str (sgs (dgN b n))), none], ?_, fun σ H' hM => ?_⟩
    · walk_at "st"
      refine ⟨fun μ σ H' => ∃ (m : Nat) (suf : List Int), μ = m ∧ m ≤ n ∧ dgN b n = dgN b m ++ suf ∧ H = H' ∧ σ = [some (.int (b : Int)), some (.ref p), some (.str SIG), some (.int (m : Int)), some (.str (sgs (((m % b : Nat) : Int) :: suf))), none], ⟨n, n, [], rfl, Nat.le_refl _, (List.append_nil _).symm, rfl, rfl⟩, fun μ σ H' hW => ?_⟩
      obtain ⟨m, suf, rfl, hmn, hd, rfl, rfl⟩ := hW
      walk_at "st"
      refine iteD (fun c => ?_) (fun c => ?_)
      · have hbm : b ≤ μ := by omega
        have hlt : μ / b < μ := Nat.div_lt_self (by omega) (by omega)
        have hd2 : dgN b n = dgN b (μ / b) ++ (((μ % b : Nat) : Int) :: suf) := by
          rw [hd, dgN_big h1 hbm, List.append_assoc]; rfl
        refine ⟨fun σ2 H2 => H = H2 ∧ σ2 = [some (.int (b : Int)), some (.ref p), some (.str SIG), some (.int ((μ / b : Nat) : Int)), some (.str (sgs (((μ / b % b : Nat) : Int) :: ((μ % b : Nat) : Int) :: suf))), none], fun σ2 H2 ⟨e1, e2⟩ => ⟨μ / b, hlt, μ / b, _, rfl, by omega, hd2, e1, e2⟩, ?_⟩
        walk_at "st"
        refine ⟨SIG, _, _, rfl, rfl, szS, sat (μ / b), ?_⟩
        walk_at "st"
        have hlen : (dgN b n).length ≤ 41 := dgN_len h1 n 40 (by
          have h40 : (2 : Nat) ^ 40 = 1099511627776 := by decide
          rw [hn] at hw1
          omega)
        rw [hd, List.length_append] at hlen
        rw [sgs_one, sgs_app]
        refine ⟨?_, ?_⟩
        · rw [sgs_len, sgs_len, List.length_cons]
          refine sz100 ?_
          show 1 + (suf.length + 1) ≤ _
          omega
        · walk_at "st"
          rfl
      · have hmb : μ % b = μ := Nat.mod_eq_of_lt (by omega)
        rw [dgN_small (show μ < b by omega)] at hd
        refine ⟨rfl, μ, ?_⟩
        rw [hmb, hd]
        rfl
    obtain ⟨rfl, m, rfl⟩ := hM
    refine ⟨fun σ H' => Same H H' ∧ ¬ (x.a = [] ∧ x.r = []) ∧ σ = [some (.int (b : Int)), some (.ref p), some (.str SIG), some (.int (m : Int)), some (.str (sgs (dgN b n))), none], ?_, fun σ H' hM => ?_⟩
    · walk_at "st"
      intro z1 nz1
      have s1 := same_upd (o := .lst []) nz1
      have hz1 := upd_same (H := H) (a := z1) (o := .lst [])
      have h1t := s1 _ _ ht
      have h1a := s1 _ _ ha
      have h1r := s1 _ _ hr'
      generalize upd H z1 (.lst []) = H1 at *
      refine ⟨dI x.a, dI [], dp_dI (sql h1a), dp_dI (sql hz1), shaped_dI _, shaped_dI _, ?_⟩
      rw [eqv_dI]
      walk_at "st"
      refine iteD (fun c => ?_) (fun c => ?_)
      · walk_at "st"
        intro z2 nz2
        have s2 := same_upd (o := .lst []) nz2
        have hz2 := upd_same (H := H1) (a := z2) (o := .lst [])
        have h2r := s2 _ _ h1r
        generalize upd H1 z2 (.lst []) = H2 at *
        refine ⟨dI x.r, dI [], dp_dI (sql h2r), dp_dI (sql hz2), shaped_dI _, shaped_dI _, ?_⟩
        rw [eqv_dI]
        walk_at "st"
        refine iteD (fun c2 => ?_) (fun c2 => ?_)
        · walk_at "st"
          have e : txS b x = sgs (dgN b n) := by
            unfold txS
            rw [txN_none ⟨c, c2⟩, hn, Int.toNat_natCast]
            rfl
          rw [← e]
          exact q _ (s1.trans s2)
        · walk_at "st"
          exact ⟨s1.trans s2, fun z => c2 z.2, rfl⟩
      · walk_at "st"
        exact ⟨s1, fun z => c z.1, rfl⟩
    obtain ⟨s1, hne, rfl⟩ := hM
    have hlen : (dgN b n).length ≤ 41 := dgN_len h1 n 40 (by
      have h40 : (2 : Nat) ^ 40 = 1099511627776 := by decide
      rw [hn] at hw1
      omega)
    refine ⟨fun σ H2 => H' = H2 ∧ σ = [some (.int (b : Int)), some (.ref p), some (.str SIG), some (.int (m : Int)), some (.str (tx ((dgN b n).map sg ++ [46]))), none], ?_, fun σ H2 hM => ?_⟩
    · walk_at "st"
      rw [tx_dot, sgs_tx, tx_app, tx_len, tx_len, List.length_map]
      refine ⟨sz100 (by show (dgN b n).length + 1 ≤ _; omega), ?_⟩
      exact ⟨rfl, rfl⟩
    obtain ⟨rfl, rfl⟩ := hM
    have h2t := s1 _ _ ht
    have h2a := s1 _ _ ha
    have h2r := s1 _ _ hr'
    refine ⟨fun σ H2 => H' = H2 ∧ ∃ y, σ = [some (.int (b : Int)), some (.ref p), some (.str SIG), some (.int (m : Int)), some (.str (tx ((dgN b n).map sg ++ [46] ++ x.a.map sg))), y], ?_, fun σ H2 hM => ?_⟩
    · walk_at "st"
      refine ⟨⟨_, sql h2a⟩, for_list (K := K) (a := a) (xs := x.a.map V.int) (fun j σ H2 => H' = H2 ∧ ∃ y, σ = [some (.int (b : Int)), some (.ref p), some (.str SIG), some (.int (m : Int)), some (.str (tx ((dgN b n).map sg ++ [46] ++ (x.a.take j).map sg))), y])
        ⟨rfl, none, by rw [List.take_zero, List.map_nil, List.append_nil]⟩ (fun j σ H2 _ ⟨e, _⟩ => by rw [← e]; exact sql h2a) (fun j v σ H2 hj hv => ?_) (fun σ H2 hv => ?_)⟩
      · obtain ⟨rfl, y, rfl⟩ := hv
        obtain ⟨u, hu, rfl⟩ : ∃ u, x.a[j]? = some u ∧ v = V.int u := by
          rw [List.getElem?_map] at hj
          cases e : x.a[j]? with
          | none => rw [e] at hj; cases hj
          | some u => rw [e] at hj; exact ⟨u, rfl, (Option.some.inj hj).symm⟩
        have hu2 := ho.fa u (List.mem_of_getElem? hu)
        walk_at "st"
        refine ⟨SIG, u, _, rfl, rfl, szS, sig_at hu2.1 (by omega), ?_⟩
        walk_at "st"
        have hj2 : j < x.a.length := (List.getElem?_eq_some_iff.mp hu).1
        rw [show (⟨#[sg u]⟩ : Str) = tx [sg u] from rfl, tx_app, tx_len, tx_len]
        refine ⟨sz100 ?_, ?_⟩
        · rw [List.length_append, List.length_append, List.length_map, List.length_map, List.length_take]
          show (dgN b n).length + 1 + _ + 1 ≤ _
          omega
        refine ⟨rfl, some (.int u), ?_⟩
        rw [take_snoc hu, List.map_append, ← List.append_assoc]
        rfl
      · obtain ⟨rfl, y, rfl⟩ := hv
        rw [List.length_map, List.take_length]
        exact ⟨rfl, y, rfl⟩
    obtain ⟨rfl, y, rfl⟩ := hM
    have hw : x.w.toNat = n := by omega
    have e46 : (dgN b n).map sg ++ 46 :: txB x = (dgN b n).map sg ++ [46] ++ x.a.map sg ++ (if x.r = [] then [] else 40 :: (x.r.map sg ++ [41])) := by
      unfold txB
      simp only [List.append_assoc, List.cons_append, List.nil_append]
    have etx : txS b x = tx ((dgN b n).map sg ++ [46] ++ x.a.map sg ++ (if x.r = [] then [] else 40 :: (x.r.map sg ++ [41]))) := by
      unfold txS
      rw [txN_some hne, hw, e46]
    have l1 : ((dgN b n).map sg ++ [46] ++ x.a.map sg).length ≤ 4100 := by
      have := ho.la
      rw [List.length_append, List.length_append, List.length_map, List.length_map]
      show (dgN b n).length + 1 + _ ≤ _
      omega
    generalize (dgN b n).map sg ++ [46] ++ x.a.map sg = A at *
    have hlr := ho.lr
    refine ⟨fun σ H2 => Same H' H2 ∧ x.r ≠ [] ∧ ∃ y, σ = [some (.int (b : Int)), some (.ref p), some (.str SIG), some (.int (m : Int)), some (.str (tx A)), y], ?_, fun σ H2 hM => ?_⟩
    · walk_at "st"
      intro z1 nz1
      have s2 := same_upd (o := .lst []) nz1
      have hz1 := upd_same (H := H') (a := z1) (o := .lst [])
      have h3r := s2 _ _ h2r
      generalize upd H' z1 (.lst []) = H3 at *
      refine ⟨dI x.r, dI [], dp_dI (sql h3r), dp_dI (sql hz1), shaped_dI _, shaped_dI _, ?_⟩
      rw [eqv_dI]
      walk_at "st"
      refine iteD (fun c => ?_) (fun c => ?_)
      · rw [if_pos c, List.append_nil] at etx
        walk_at "st"
        rw [← etx]
        exact q _ (s1.trans s2)
      · walk_at "st"
        exact ⟨s2, c, y, rfl⟩
    obtain ⟨s2, hr, y, rfl⟩ := hM
    rw [if_neg hr] at etx
    have s12 := s1.trans s2
    have h4t := s2 _ _ h2t
    have h4r := s2 _ _ h2r
    refine ⟨fun σ H3 => H2 = H3 ∧ ∃ y, σ = [some (.int (b : Int)), some (.ref p), some (.str SIG), some (.int (m : Int)), some (.str (tx (A ++ [40]))), y], ?_, fun σ H3 hM => ?_⟩
    · walk_at "st"
      rw [tx_open, tx_app, tx_len, tx_len]
      refine ⟨sz100 (by show A.length + 1 ≤ _; omega), ?_⟩
      exact ⟨rfl, y, rfl⟩
    obtain ⟨rfl, y, rfl⟩ := hM
    refine ⟨fun σ H3 => H2 = H3 ∧ ∃ y, σ = [some (.int (b : Int)), some (.ref p), some (.str SIG), some (.int (m : Int)), some (.str (tx (A ++ [40] ++ x.r.map sg))), y], ?_, fun σ H3 hM => ?_⟩
    · walk_at "st"
      refine ⟨⟨_, sql h4r⟩, for_list (K := K) (a := r) (xs := x.r.map V.int) (fun j σ H3 => H2 = H3 ∧ ∃ y, σ = [some (.int (b : Int)), some (.ref p), some (.str SIG), some (.int (m : Int)), some (.str (tx (A ++ [40] ++ (x.r.take j).map sg))), y])
        ⟨rfl, y, by rw [List.take_zero, List.map_nil, List.append_nil]⟩ (fun j σ H2 _ ⟨e, _⟩ => by rw [← e]; exact sql h4r) (fun j v σ H2 hj hv => ?_) (fun σ H2 hv => ?_)⟩
      · obtain ⟨rfl, y, rfl⟩ := hv
        obtain ⟨u, hu, rfl⟩ : ∃ u, x.r[j]? = some u ∧ v = V.int u := by
          rw [List.getElem?_map] at hj
          cases e : x.r[j]? with
          | none => rw [e] at hj; cases hj
          | some u => rw [e] at hj; exact ⟨u, rfl, (Option.some.inj hj).symm⟩
        have hu2 := ho.fr u (List.mem_of_getElem? hu)
        walk_at "st"
        refine ⟨SIG, u, _, rfl, rfl, szS, sig_at hu2.1 (by omega), ?_⟩
        walk_at "st"
        have hj2 : j < x.r.length := (List.getElem?_eq_some_iff.mp hu).1
        rw [show (⟨#[sg u]⟩ : Str) = tx [sg u] from rfl, tx_app, tx_len, tx_len]
        refine ⟨sz100 ?_, ?_⟩
        · rw [List.length_append, List.length_append, List.length_map, List.length_take]
          show A.length + 1 + _ + 1 ≤ _
          omega
        refine ⟨rfl, some (.int u), ?_⟩
        rw [take_snoc hu, List.map_append, ← List.append_assoc]
        rfl
      · obtain ⟨rfl, y, rfl⟩ := hv
        rw [List.length_map, List.take_length]
        exact ⟨rfl, y, rfl⟩
    obtain ⟨rfl, y, rfl⟩ := hM
    walk_at "st"
    rw [tx_close, tx_app, tx_len, tx_len]
    refine ⟨sz100 ?_, ?_⟩
    · rw [List.length_append, List.length_append, List.length_map]
      show A.length + 1 + _ + 1 ≤ _
      omega
    have e3 : A ++ [40] ++ x.r.map sg ++ [41] = A ++ 40 :: (x.r.map sg ++ [41]) := by
      simp only [List.append_assoc, List.cons_append, List.nil_append]
    rw [e3, ← etx]
    exact q _ s12
end
abbrev s_law : Stmt := topS 29
theorem sc_law : FnScope ["script", "base", "writing", "due", "handed", "text", "found"] ["script"] (defScope s_law) := ⟨rfl, rfl, rfl, by decide +kernel, rfl, by decide +kernel, by decide +kernel⟩
def sp_law (K : PySem.W.Frag) : Sp := fun vs H Q _ => ∃ (a : Addr) (ns : List Int), vs = [.ref a] ∧ SqL K H a (ns.map V.int) ∧ ns.length ≤ 63 ∧ ∀ H', Q (.bl true) H'
section
variable {P : Program} {w : World} {K : PySem.W.Frag} {mg : Str → Option Value} {base : Heap}
theorem ok_law {f : Addr} {fd : FuncData} (F : Fun K "law" "law" s_law f fd) (M : Md K mg) (c_shown : Cal P w K mg base 3 "shown" (sp_shown K) []) (c_read : Cal P w K mg base 2 "read" (sp_read K) []) (c_xlawcellat : Cal P w K mg base 1 "_law_cell_at" (sp_xlawcellat K) []) (c_xlawwritingby : Cal P w K mg base 3 "_law_writing_by" (sp_xlawwritingby K) []) (c_xlawcopy : Cal P w K mg base 1 "_law_copy" (sp_xlawcopy K) []) (c_xlawdivided : Cal P w K mg base 1 "_law_divided" (sp_xlawdivided K) []) (c_xlawiswriting : Cal P w K mg base 2 "_law_is_writing" (sp_xlawiswriting K) []) (c_xlawtext : Cal P w K mg base 1 "_law_text" (sp_xlawtext K) []) : FnOk P w K mg base CX0 4 f fd ["script"] (sp_law K) := by
  refine F.ok sc_law (fun vs H Q E h => ?_) (fun cdv A outer s H vs Q E hr h => ?_)
  · obtain ⟨a, ns, rfl, hS, hlen, q⟩ := h
    rfl
  · have hu := hu_of hr
    obtain ⟨a, ns, rfl, hS, hlen, q⟩ := h
    obtain ⟨b, hb, hb1, hb2⟩ : ∃ b : Nat, 2 + cl ns 0 % 35 = (b : Int) ∧ 2 ≤ b ∧ b ≤ 36 := ⟨(2 + cl ns 0 % 35).toNat, by omega, by omega, by omega⟩
    refine ⟨_, (Evl.pss_cut (ps_set (i := 1) sc_law.nd rfl (.inl rfl) (pe_op op_add pe_int (pe_op op_mod (pe_c c_xlawcellat hr (by decide) (by rfl) (pa_cons (pv 0) (pa_cons pe_int pa_nil))) pe_int)))
      (pss_cons (ps_set (i := 2) sc_law.nd rfl (.inl rfl) (pe_c c_xlawwritingby hr (by decide) (by rfl) (pa_cons (pv 0) (pa_cons pe_int (pa_cons (pv 1) pa_nil)))))
      (Evl.pss_cut (ps_if (pt_cmpR op_eq (pe_op op_mod (pe_c c_xlawcellat hr (by decide) (by rfl) (pa_cons (pv 0) (pa_cons pe_int pa_nil))) pe_int) pe_int (nomark _))
        (pss_one (ps_set (i := 2) sc_law.nd rfl (.inl rfl) (pe_c c_xlawdivided hr (by decide) (by rfl) (pa_cons (pv 1) (pa_cons (pe_op op_mod (pe_c c_xlawcellat hr (by decide) (by rfl) (pa_cons (pv 0) (pa_cons pe_int pa_nil))) pe_int) (pa_cons (pe_op op_add pe_int (pe_op op_mod (pe_c c_xlawcellat hr (by decide) (by rfl) (pa_cons (pv 0) (pa_cons pe_int pa_nil))) pe_int)) pa_nil)))))) pss_nil)
      (pss_cons (ps_set (i := 3) sc_law.nd rfl (.inl rfl) (pe_c c_xlawtext hr (by decide) (by rfl) (pa_cons (pv 1) (pa_cons (pv 2) pa_nil))))
      (pss_cons (ps_set (i := 4) sc_law.nd rfl (.inl rfl) (pe_c c_xlawcopy hr (by decide) (by rfl) (pa_cons (pv 2) pa_nil)))
      (pss_cons (ps_set (i := 5) sc_law.nd rfl (.inl rfl) (pe_c c_shown hr (by decide) (by rfl) (pa_cons (pv 1) (pa_cons (pv 4) pa_nil))))
      (pss_cons (ps_if (PW.pt (pw_or (pt_not (pt_val (pe_callB call_isi (by rfl) M.m_isinstance (by decide +kernel) (pa_cons (pv 5) (pa_cons (pe_bltn (v := .ty "str") (by rfl) M.m_str (by decide +kernel) rfl) pa_nil))))) (pw_or (pt_cmpR op_ne (pv 5) (pv 3) (nomark _)) (pw_or1 (pt_cmpR (op_neD hr.units) (pv 4) (pv 2) (nomark _))))))
        (pss_one (ps_ret pe_bl)) pss_nil)
      (pss_cons (ps_set (i := 6) sc_law.nd rfl (.inl rfl) (pe_c c_read hr (by decide) (by rfl) (pa_cons (pv 1) (pa_cons (pv 3) pa_nil))))
      (pss_cons (ps_if (pt_not (pt_val (pe_c c_xlawiswriting hr (by decide) (by rfl) (pa_cons (pv 6) (pa_cons (pv 2) pa_nil)))))
        (pss_one (ps_ret pe_bl)) pss_nil)
      (pss_cons (ps_expr (pe_bm PySem.F.plainAttrs_list PySem.F.slot_list_append PySem.F.type_list_append mt_append (pe_ix ix_tup (pv 6) pe_int (fun _ _ => rfl)) (pa_cons pe_int pa_nil)))
      (pss_cons (ps_if (pt_cmpR (op_neD hr.units) (pe_ix ix_tup (pv 6) pe_int (fun _ _ => rfl)) (pe_ix ix_tup (pv 2) pe_int (fun _ _ => rfl)) (nomark _))
        (pss_one (ps_ret pe_bl)) pss_nil)
      (pss_cons (ps_expr (pe_bm PySem.F.plainAttrs_list PySem.F.slot_list_append PySem.F.type_list_append mt_append (pe_ix ix_tup (pv 6) pe_int (fun _ _ => rfl)) (pa_cons pe_int pa_nil)))
      (pss_one (ps_ret (pe_c c_xlawiswriting hr (by decide) (by rfl) (pa_cons (pe_c c_read hr (by decide) (by rfl) (pa_cons (pv 1) (pa_cons (pv 3) pa_nil))) (pa_cons (pv 2) pa_nil))))))))))))))))), ?_⟩
    refine ⟨fun σ H' => H = H' ∧ σ = [some (.ref a), some (.int (b : Int)), none, none, none, none, none], ?_, fun σ H' hM => ?_⟩
    · walk_at "st"
      rw [← hb]; rfl
    obtain ⟨rfl, rfl⟩ := hM
    walk_at "st"
    refine go_xlawwritingby (by decide) (by omega) (by omega) hS (fun H1 p1 a1 r1 x w1 ok1 la lr => ?_)
    have hS1 := w1.same.seq hS
    walk_at "st"
    refine ⟨fun σ H' => ∃ (p a1 r1 : Addr) (x : Wr), WrAt H' p a1 r1 x ∧ WrOk b x ∧ σ = [some (.ref a), some (.int (b : Int)), some (.ref p), none, none, none, none], ?_, fun σ H' hM => ?_⟩
    · walk_at "st"
      refine iteE (fun c => ?_) (fun c => ?_)
      · walk_at "st"
        obtain ⟨t, ht⟩ : ∃ t : Nat, cl ns 7 % 5000 = t := ⟨(cl ns 7 % 5000).toNat, by omega⟩
        obtain ⟨m, hm⟩ : ∃ m : Nat, 1 + cl ns 8 % 2000 = m := ⟨(1 + cl ns 8 % 2000).toNat, by omega⟩
        obtain ⟨y, dy⟩ := IsDiv.ex (b := b) (t := t) (m := m) (by omega)
        obtain ⟨s0, l0, hsl, hd, ey⟩ := id dy
        refine go_xlawdivided b t m s0 l0 rfl ht hm (by omega) (by omega) (wid_small (by omega)) hd (by omega) (fun H2 p2 a2 r2 w2 => ?_)
        rw [← ey] at w2
        walk_at "st"
        exact ⟨p2, a2, r2, y, w2.at', dy.ok (by omega) (by omega) (by omega) (by omega), rfl⟩
      · exact ⟨p1, a1, r1, x, w1.at', ok1, rfl⟩
    clear w1 ok1 la lr hS1
    clear x p1 a1 r1
    obtain ⟨p, a1, r1, x, w1, ok, rfl⟩ := hM
    walk_at "st"
    refine go_xlawtext b rfl hb1 hb2 w1 ok (fun H2 s2 => ?_)
    walk_at "st"
    refine go_xlawcopy (w1.same s2) (fun H3 p3 a3 r3 w3 => ?_)
    walk_at "st"
    refine go_shown b rfl hb1 hb2 w3.at' ok (fun H4 s4 => ?_)
    walk_at "st"
    refine ⟨_, _, _, _, _, rfl, .ty _, .base (.str _), kit_str, ?_⟩
    walk_at "st"
    have x4 := ((w1.same s2).same w3.same).same s4
    have h4 := w3.at'.same s4
    refine iteDn (fun c => absurd rfl c) (fun _ => ?_)
    refine ⟨_, rfl, _, rfl, dW x, dW x, h4.dp, x4.dp, shaped_dW _, shaped_dW _, ?_⟩
    rw [eqv_dW, decide_eq_true rfl]
    walk_at "st"
    refine go_read b x rfl rfl hb1 hb2 ok (fun H5 p5 a5 r5 w5 => ?_)
    have x5 := x4.same w5.same
    walk_at "st"
    refine go_xlawiswriting_eq w5.at' x5 rfl (fun H6 s6 => ?_)
    have x6 := x5.same s6
    have f6 := w5.at'.same s6
    have f6t := f6.tp
    have f6a := f6.la
    walk_at "st"
    refine ⟨.inl ⟨rfl, _, sql f6a⟩, ?_⟩
    walk_at "st"
    refine ⟨a5, _, _, rfl, rfl, f6a, sz100lt ?_, ?_⟩
    · have := ok.la
      rw [List.length_map]; omega
    have s46 := w5.same.trans s6
    have s7 := same_new (o := .lst (x.a.map V.int ++ [V.int 0])) s46 w5.na
    have f7t := (upd_ne (o := .lst (x.a.map V.int ++ [V.int 0])) (ne_of f6t f6a (fun z => by cases z))).trans f6t
    have f7r := (upd_ne (o := .lst (x.a.map V.int ++ [V.int 0])) (Ne.symm w5.ne)).trans f6.lr
    generalize upd H6 a5 (.lst (x.a.map V.int ++ [V.int 0])) = H7 at *
    have x7 := x4.same s7
    have x7t := x7.tp
    refine ⟨_, rfl, ?_⟩
    refine ⟨p5, _, _, _, rfl, rfl, sqt f7t, rfl, ?_⟩
    refine ⟨_, rfl, p, _, _, _, rfl, rfl, sqt x7t, rfl, ?_⟩
    refine ⟨dI _, dI _, dp_dI (sql f7r), dp_dI (sql x7.lr), shaped_dI _, shaped_dI _, ?_⟩
    rw [eqv_dI, decide_eq_true rfl]
    walk_at "st"
    refine ⟨.inl ⟨rfl, _, sql f7r⟩, ?_⟩
    walk_at "st"
    refine ⟨r5, _, _, rfl, rfl, f7r, sz100lt ?_, ?_⟩
    · have := ok.lr
      rw [List.length_map]; omega
    have s8 := same_new (o := .lst (x.r.map V.int ++ [V.int 0])) s7 w5.nr
    generalize upd H7 r5 (.lst (x.r.map V.int ++ [V.int 0])) = H8 at *
    walk_at "st"
    refine go_read b x rfl rfl hb1 hb2 ok (fun H9 p9 a9 r9 w9 => ?_)
    walk_at "st"
    refine go_xlawiswriting_eq w9.at' ((x4.same s8).same w9.same) rfl (fun H10 s10 => ?_)
    exact q _
end
/-! ### the end -/
theorem all_mk {l : PySem.W.OpenLaw} {w : World} {K : PySem.W.Frag} {h : Heap} {mg : Str → Option Value} {fa : Addr} (X : K.In h) (G : h.Ns mainGlobals mg) (hfa : mg "law" = some (.ref fa))
    {f0 : Addr} {od0 an0 : Option Addr} {sl0 : Array (Option Value)} {oc0 kV0 dc0 pm0 cd0 ct0 : Value}
    (a0 : PySem.W.nsIn K mainGlobals "asked_base" = some (some (.ref f0)))
    (l0 : K.lookup f0 = some ⟨oc0, od0, .func (PySem.W.fnOf "asked_base" "asked_base" (defArgs s_askedbase) (defBody s_askedbase) (defScope s_askedbase) .none kV0 dc0 pm0 an0 cd0 ct0), sl0⟩)
    (e0 : PySem.W.codeIn K cd0 "asked_base" = true) (k0 : PySem.W.keepIn K (.ref f0) = true)
    {f1 : Addr} {od1 an1 : Option Addr} {sl1 : Array (Option Value)} {oc1 kV1 dc1 pm1 cd1 ct1 : Value}
    (a1 : PySem.W.nsIn K mainGlobals "asked_figures" = some (some (.ref f1)))
    (l1 : K.lookup f1 = some ⟨oc1, od1, .func (PySem.W.fnOf "asked_figures" "asked_figures" (defArgs s_askedfigures) (defBody s_askedfigures) (defScope s_askedfigures) .none kV1 dc1 pm1 an1 cd1 ct1), sl1⟩)
    (e1 : PySem.W.codeIn K cd1 "asked_figures" = true) (k1 : PySem.W.keepIn K (.ref f1) = true)
    {f2 : Addr} {od2 an2 : Option Addr} {sl2 : Array (Option Value)} {oc2 kV2 dc2 pm2 cd2 ct2 : Value}
    (a2 : PySem.W.nsIn K mainGlobals "asked_writing" = some (some (.ref f2)))
    (l2 : K.lookup f2 = some ⟨oc2, od2, .func (PySem.W.fnOf "asked_writing" "asked_writing" (defArgs s_askedwriting) (defBody s_askedwriting) (defScope s_askedwriting) .none kV2 dc2 pm2 an2 cd2 ct2), sl2⟩)
    (e2 : PySem.W.codeIn K cd2 "asked_writing" = true) (k2 : PySem.W.keepIn K (.ref f2) = true)
    {f3 : Addr} {od3 an3 : Option Addr} {sl3 : Array (Option Value)} {oc3 kV3 dc3 pm3 cd3 ct3 : Value}
    (a3 : PySem.W.nsIn K mainGlobals "number_of" = some (some (.ref f3)))
    (l3 : K.lookup f3 = some ⟨oc3, od3, .func (PySem.W.fnOf "number_of" "number_of" (defArgs s_numberof) (defBody s_numberof) (defScope s_numberof) .none kV3 dc3 pm3 an3 cd3 ct3), sl3⟩)
    (e3 : PySem.W.codeIn K cd3 "number_of" = true) (k3 : PySem.W.keepIn K (.ref f3) = true)
    {f4 : Addr} {od4 an4 : Option Addr} {sl4 : Array (Option Value)} {oc4 kV4 dc4 pm4 cd4 ct4 : Value}
    (a4 : PySem.W.nsIn K mainGlobals "text_of" = some (some (.ref f4)))
    (l4 : K.lookup f4 = some ⟨oc4, od4, .func (PySem.W.fnOf "text_of" "text_of" (defArgs s_textof) (defBody s_textof) (defScope s_textof) .none kV4 dc4 pm4 an4 cd4 ct4), sl4⟩)
    (e4 : PySem.W.codeIn K cd4 "text_of" = true) (k4 : PySem.W.keepIn K (.ref f4) = true)
    {f5 : Addr} {od5 an5 : Option Addr} {sl5 : Array (Option Value)} {oc5 kV5 dc5 pm5 cd5 ct5 : Value}
    (a5 : PySem.W.nsIn K mainGlobals "figures_of" = some (some (.ref f5)))
    (l5 : K.lookup f5 = some ⟨oc5, od5, .func (PySem.W.fnOf "figures_of" "figures_of" (defArgs s_figuresof) (defBody s_figuresof) (defScope s_figuresof) .none kV5 dc5 pm5 an5 cd5 ct5), sl5⟩)
    (e5 : PySem.W.codeIn K cd5 "figures_of" = true) (k5 : PySem.W.keepIn K (.ref f5) = true)
    {f6 : Addr} {od6 an6 : Option Addr} {sl6 : Array (Option Value)} {oc6 kV6 dc6 pm6 cd6 ct6 : Value}
    (a6 : PySem.W.nsIn K mainGlobals "shown" = some (some (.ref f6)))
    (l6 : K.lookup f6 = some ⟨oc6, od6, .func (PySem.W.fnOf "shown" "shown" (defArgs s_shown) (defBody s_shown) (defScope s_shown) .none kV6 dc6 pm6 an6 cd6 ct6), sl6⟩)
    (e6 : PySem.W.codeIn K cd6 "shown" = true) (k6 : PySem.W.keepIn K (.ref f6) = true)
    {f7 : Addr} {od7 an7 : Option Addr} {sl7 : Array (Option Value)} {oc7 kV7 dc7 pm7 cd7 ct7 : Value}
    (a7 : PySem.W.nsIn K mainGlobals "read_figures" = some (some (.ref f7)))
    (l7 : K.lookup f7 = some ⟨oc7, od7, .func (PySem.W.fnOf "read_figures" "read_figures" (defArgs s_readfigures) (defBody s_readfigures) (defScope s_readfigures) .none kV7 dc7 pm7 an7 cd7 ct7), sl7⟩)
    (e7 : PySem.W.codeIn K cd7 "read_figures" = true) (k7 : PySem.W.keepIn K (.ref f7) = true)
    {f8 : Addr} {od8 an8 : Option Addr} {sl8 : Array (Option Value)} {oc8 kV8 dc8 pm8 cd8 ct8 : Value}
    (a8 : PySem.W.nsIn K mainGlobals "read" = some (some (.ref f8)))
    (l8 : K.lookup f8 = some ⟨oc8, od8, .func (PySem.W.fnOf "read" "read" (defArgs s_read) (defBody s_read) (defScope s_read) .none kV8 dc8 pm8 an8 cd8 ct8), sl8⟩)
    (e8 : PySem.W.codeIn K cd8 "read" = true) (k8 : PySem.W.keepIn K (.ref f8) = true)
    {f9 : Addr} {od9 an9 : Option Addr} {sl9 : Array (Option Value)} {oc9 kV9 dc9 pm9 cd9 ct9 : Value}
    (a9 : PySem.W.nsIn K mainGlobals "_law_cell_at" = some (some (.ref f9)))
    (l9 : K.lookup f9 = some ⟨oc9, od9, .func (PySem.W.fnOf "_law_cell_at" "_law_cell_at" (defArgs s_xlawcellat) (defBody s_xlawcellat) (defScope s_xlawcellat) .none kV9 dc9 pm9 an9 cd9 ct9), sl9⟩)
    (e9 : PySem.W.codeIn K cd9 "_law_cell_at" = true) (k9 : PySem.W.keepIn K (.ref f9) = true)
    {f10 : Addr} {od10 an10 : Option Addr} {sl10 : Array (Option Value)} {oc10 kV10 dc10 pm10 cd10 ct10 : Value}
    (a10 : PySem.W.nsIn K mainGlobals "_law_draw" = some (some (.ref f10)))
    (l10 : K.lookup f10 = some ⟨oc10, od10, .func (PySem.W.fnOf "_law_draw" "_law_draw" (defArgs s_xlawdraw) (defBody s_xlawdraw) (defScope s_xlawdraw) .none kV10 dc10 pm10 an10 cd10 ct10), sl10⟩)
    (e10 : PySem.W.codeIn K cd10 "_law_draw" = true) (k10 : PySem.W.keepIn K (.ref f10) = true)
    {f11 : Addr} {od11 an11 : Option Addr} {sl11 : Array (Option Value)} {oc11 kV11 dc11 pm11 cd11 ct11 : Value}
    (a11 : PySem.W.nsIn K mainGlobals "_law_whole" = some (some (.ref f11)))
    (l11 : K.lookup f11 = some ⟨oc11, od11, .func (PySem.W.fnOf "_law_whole" "_law_whole" (defArgs s_xlawwhole) (defBody s_xlawwhole) (defScope s_xlawwhole) .none kV11 dc11 pm11 an11 cd11 ct11), sl11⟩)
    (e11 : PySem.W.codeIn K cd11 "_law_whole" = true) (k11 : PySem.W.keepIn K (.ref f11) = true)
    {f12 : Addr} {od12 an12 : Option Addr} {sl12 : Array (Option Value)} {oc12 kV12 dc12 pm12 cd12 ct12 : Value}
    (a12 : PySem.W.nsIn K mainGlobals "_law_figures_by" = some (some (.ref f12)))
    (l12 : K.lookup f12 = some ⟨oc12, od12, .func (PySem.W.fnOf "_law_figures_by" "_law_figures_by" (defArgs s_xlawfiguresby) (defBody s_xlawfiguresby) (defScope s_xlawfiguresby) .none kV12 dc12 pm12 an12 cd12 ct12), sl12⟩)
    (e12 : PySem.W.codeIn K cd12 "_law_figures_by" = true) (k12 : PySem.W.keepIn K (.ref f12) = true)
    {f13 : Addr} {od13 an13 : Option Addr} {sl13 : Array (Option Value)} {oc13 kV13 dc13 pm13 cd13 ct13 : Value}
    (a13 : PySem.W.nsIn K mainGlobals "_law_writing_by" = some (some (.ref f13)))
    (l13 : K.lookup f13 = some ⟨oc13, od13, .func (PySem.W.fnOf "_law_writing_by" "_law_writing_by" (defArgs s_xlawwritingby) (defBody s_xlawwritingby) (defScope s_xlawwritingby) .none kV13 dc13 pm13 an13 cd13 ct13), sl13⟩)
    (e13 : PySem.W.codeIn K cd13 "_law_writing_by" = true) (k13 : PySem.W.keepIn K (.ref f13) = true)
    {f14 : Addr} {od14 an14 : Option Addr} {sl14 : Array (Option Value)} {oc14 kV14 dc14 pm14 cd14 ct14 : Value}
    (a14 : PySem.W.nsIn K mainGlobals "_law_copy" = some (some (.ref f14)))
    (l14 : K.lookup f14 = some ⟨oc14, od14, .func (PySem.W.fnOf "_law_copy" "_law_copy" (defArgs s_xlawcopy) (defBody s_xlawcopy) (defScope s_xlawcopy) .none kV14 dc14 pm14 an14 cd14 ct14), sl14⟩)
    (e14 : PySem.W.codeIn K cd14 "_law_copy" = true) (k14 : PySem.W.keepIn K (.ref f14) = true)
    {f15 : Addr} {od15 an15 : Option Addr} {sl15 : Array (Option Value)} {oc15 kV15 dc15 pm15 cd15 ct15 : Value}
    (a15 : PySem.W.nsIn K mainGlobals "_law_divided" = some (some (.ref f15)))
    (l15 : K.lookup f15 = some ⟨oc15, od15, .func (PySem.W.fnOf "_law_divided" "_law_divided" (defArgs s_xlawdivided) (defBody s_xlawdivided) (defScope s_xlawdivided) .none kV15 dc15 pm15 an15 cd15 ct15), sl15⟩)
    (e15 : PySem.W.codeIn K cd15 "_law_divided" = true) (k15 : PySem.W.keepIn K (.ref f15) = true)
    {f16 : Addr} {od16 an16 : Option Addr} {sl16 : Array (Option Value)} {oc16 kV16 dc16 pm16 cd16 ct16 : Value}
    (a16 : PySem.W.nsIn K mainGlobals "_law_is_writing" = some (some (.ref f16)))
    (l16 : K.lookup f16 = some ⟨oc16, od16, .func (PySem.W.fnOf "_law_is_writing" "_law_is_writing" (defArgs s_xlawiswriting) (defBody s_xlawiswriting) (defScope s_xlawiswriting) .none kV16 dc16 pm16 an16 cd16 ct16), sl16⟩)
    (e16 : PySem.W.codeIn K cd16 "_law_is_writing" = true) (k16 : PySem.W.keepIn K (.ref f16) = true)
    {f17 : Addr} {od17 an17 : Option Addr} {sl17 : Array (Option Value)} {oc17 kV17 dc17 pm17 cd17 ct17 : Value}
    (a17 : PySem.W.nsIn K mainGlobals "_law_text" = some (some (.ref f17)))
    (l17 : K.lookup f17 = some ⟨oc17, od17, .func (PySem.W.fnOf "_law_text" "_law_text" (defArgs s_xlawtext) (defBody s_xlawtext) (defScope s_xlawtext) .none kV17 dc17 pm17 an17 cd17 ct17), sl17⟩)
    (e17 : PySem.W.codeIn K cd17 "_law_text" = true) (k17 : PySem.W.keepIn K (.ref f17) = true)
    {f18 : Addr} {od18 an18 : Option Addr} {sl18 : Array (Option Value)} {oc18 kV18 dc18 pm18 cd18 ct18 : Value}
    (a18 : PySem.W.nsIn K mainGlobals "law" = some (some (.ref f18)))
    (l18 : K.lookup f18 = some ⟨oc18, od18, .func (PySem.W.fnOf "law" "law" (defArgs s_law) (defBody s_law) (defScope s_law) .none kV18 dc18 pm18 an18 cd18 ct18), sl18⟩)
    (e18 : PySem.W.codeIn K cd18 "law" = true) (k18 : PySem.W.keepIn K (.ref f18) = true)
    (z0 : PySem.W.nsIn K mainGlobals "len" = some none)
    (z1 : PySem.W.nsIn K mainGlobals "list" = some none)
    (z2 : PySem.W.nsIn K mainGlobals "reversed" = some none)
    (z3 : PySem.W.nsIn K mainGlobals "isinstance" = some none)
    (z4 : PySem.W.nsIn K mainGlobals "int" = some none)
    (z5 : PySem.W.nsIn K mainGlobals "bool" = some none)
    (z6 : PySem.W.nsIn K mainGlobals "range" = some none)
    (z7 : PySem.W.nsIn K mainGlobals "tuple" = some none)
    (z8 : PySem.W.nsIn K mainGlobals "str" = some none)
    {tk0 : Tok} (y0 : PySem.W.nsIn K mainGlobals "GREATEST" = some (some (.int 1000000000000 tk0)))
    {tk1 : Tok} (y1 : PySem.W.nsIn K mainGlobals "MOST_FIGURES" = some (some (.int 4000 tk1)))
    {tk2 : Tok} (y2 : PySem.W.nsIn K mainGlobals "SIGNS" = some (some (.str "0123456789abcdefghijklmnopqrstuvwxyz" tk2)))
    : ∃ fd : FuncData, (∀ (s : Shared) (v : Value), BindsTo s fd ⟨[v], []⟩ [("script", v)]) ∧ ∀ base : Heap, K.In base → base.Ns mainGlobals mg → FnOk l.prog w K mg base CX0 4 fa fd ["script"] (sp_law K) := by
  have e := hfa.symm.trans (PySem.W.mg_of X G a18)
  cases e
  have M : Md K mg := ⟨PySem.W.mg_none_of X G z0, PySem.W.mg_none_of X G z1, PySem.W.mg_none_of X G z2, PySem.W.mg_none_of X G z3, PySem.W.mg_none_of X G z4, PySem.W.mg_none_of X G z5, PySem.W.mg_none_of X G z6, PySem.W.mg_none_of X G z7, PySem.W.mg_none_of X G z8, ⟨_, PySem.W.mg_of X G y0, ⟨_, rfl⟩⟩, ⟨_, PySem.W.mg_of X G y1, ⟨_, rfl⟩⟩, ⟨_, PySem.W.mg_of X G y2, ⟨_, rfl⟩⟩⟩
  have F0 := fun_mk (st := s_askedbase) l0 e0 k0
  have b0 := F0.binds (ps := ["base"]) fun _ _ _ _ _ _ us hl => match us, hl with | [_], _ => rfl
  have F1 := fun_mk (st := s_askedfigures) l1 e1 k1
  have b1 := F1.binds (ps := ["base", "figures"]) fun _ _ _ _ _ _ us hl => match us, hl with | [_, _], _ => rfl
  have F2 := fun_mk (st := s_askedwriting) l2 e2 k2
  have b2 := F2.binds (ps := ["base", "writing"]) fun _ _ _ _ _ _ us hl => match us, hl with | [_, _], _ => rfl
  have F3 := fun_mk (st := s_numberof) l3 e3 k3
  have b3 := F3.binds (ps := ["base", "figures"]) fun _ _ _ _ _ _ us hl => match us, hl with | [_, _], _ => rfl
  have F4 := fun_mk (st := s_textof) l4 e4 k4
  have b4 := F4.binds (ps := ["figures"]) fun _ _ _ _ _ _ us hl => match us, hl with | [_], _ => rfl
  have F5 := fun_mk (st := s_figuresof) l5 e5 k5
  have b5 := F5.binds (ps := ["base", "number"]) fun _ _ _ _ _ _ us hl => match us, hl with | [_, _], _ => rfl
  have F6 := fun_mk (st := s_shown) l6 e6 k6
  have b6 := F6.binds (ps := ["base", "writing"]) fun _ _ _ _ _ _ us hl => match us, hl with | [_, _], _ => rfl
  have F7 := fun_mk (st := s_readfigures) l7 e7 k7
  have b7 := F7.binds (ps := ["base", "text"]) fun _ _ _ _ _ _ us hl => match us, hl with | [_, _], _ => rfl
  have F8 := fun_mk (st := s_read) l8 e8 k8
  have b8 := F8.binds (ps := ["base", "text"]) fun _ _ _ _ _ _ us hl => match us, hl with | [_, _], _ => rfl
  have F9 := fun_mk (st := s_xlawcellat) l9 e9 k9
  have b9 := F9.binds (ps := ["script", "k"]) fun _ _ _ _ _ _ us hl => match us, hl with | [_, _], _ => rfl
  have F10 := fun_mk (st := s_xlawdraw) l10 e10 k10
  have b10 := F10.binds (ps := ["cell", "k", "bound"]) fun _ _ _ _ _ _ us hl => match us, hl with | [_, _, _], _ => rfl
  have F11 := fun_mk (st := s_xlawwhole) l11 e11 k11
  have b11 := F11.binds (ps := ["found"]) fun _ _ _ _ _ _ us hl => match us, hl with | [_], _ => rfl
  have F12 := fun_mk (st := s_xlawfiguresby) l12 e12 k12
  have b12 := F12.binds (ps := ["cell", "base", "many"]) fun _ _ _ _ _ _ us hl => match us, hl with | [_, _, _], _ => rfl
  have F13 := fun_mk (st := s_xlawwritingby) l13 e13 k13
  have b13 := F13.binds (ps := ["script", "first", "base"]) fun _ _ _ _ _ _ us hl => match us, hl with | [_, _, _], _ => rfl
  have F14 := fun_mk (st := s_xlawcopy) l14 e14 k14
  have b14 := F14.binds (ps := ["writing"]) fun _ _ _ _ _ _ us hl => match us, hl with | [_], _ => rfl
  have F15 := fun_mk (st := s_xlawdivided) l15 e15 k15
  have b15 := F15.binds (ps := ["base", "top", "bottom"]) fun _ _ _ _ _ _ us hl => match us, hl with | [_, _, _], _ => rfl
  have F16 := fun_mk (st := s_xlawiswriting) l16 e16 k16
  have b16 := F16.binds (ps := ["found", "due"]) fun _ _ _ _ _ _ us hl => match us, hl with | [_, _], _ => rfl
  have F17 := fun_mk (st := s_xlawtext) l17 e17 k17
  have b17 := F17.binds (ps := ["base", "writing"]) fun _ _ _ _ _ _ us hl => match us, hl with | [_, _], _ => rfl
  have F18 := fun_mk (st := s_law) l18 e18 k18
  refine ⟨PySem.W.fnOf "law" "law" (defArgs s_law) (defBody s_law) (defScope s_law) .none kV18 dc18 pm18 an18 cd18 ct18, fun s v => .of_eq rfl, fun base _ _ => ?_⟩
  have c_askedbase : Cal l.prog w K mg base 1 "asked_base" (sp_askedbase K) [] := ⟨f0, _, _, [], ok_askedbase F0 M , PySem.W.mg_of X G a0, k0, b0, .nil⟩
  have c_askedfigures : Cal l.prog w K mg base 1 "asked_figures" (sp_askedfigures K) [] := ⟨f1, _, _, [], ok_askedfigures F1 M , PySem.W.mg_of X G a1, k1, b1, .nil⟩
  have c_askedwriting : Cal l.prog w K mg base 2 "asked_writing" (sp_askedwriting K) [] := ⟨f2, _, _, [], ok_askedwriting F2 M c_askedbase c_askedfigures, PySem.W.mg_of X G a2, k2, b2, .nil⟩
  have c_numberof : Cal l.prog w K mg base 1 "number_of" (sp_numberof K) [] := ⟨f3, _, _, [], ok_numberof F3 M , PySem.W.mg_of X G a3, k3, b3, .nil⟩
  have c_textof : Cal l.prog w K mg base 1 "text_of" (sp_textof K) [] := ⟨f4, _, _, [], ok_textof F4 M , PySem.W.mg_of X G a4, k4, b4, .nil⟩
  have c_figuresof : Cal l.prog w K mg base 1 "figures_of" (sp_figuresof K) [] := ⟨f5, _, _, [], ok_figuresof F5 M , PySem.W.mg_of X G a5, k5, b5, .nil⟩
  have c_shown : Cal l.prog w K mg base 3 "shown" (sp_shown K) [] := ⟨f6, _, _, [], ok_shown F6 M c_askedwriting c_textof c_figuresof, PySem.W.mg_of X G a6, k6, b6, .nil⟩
  have c_readfigures : Cal l.prog w K mg base 1 "read_figures" (sp_readfigures K) [] := ⟨f7, _, _, [], ok_readfigures F7 M , PySem.W.mg_of X G a7, k7, b7, .nil⟩
  have c_read : Cal l.prog w K mg base 2 "read" (sp_read K) [] := ⟨f8, _, _, [], ok_read F8 M c_askedbase c_numberof c_readfigures, PySem.W.mg_of X G a8, k8, b8, .nil⟩
  have c_xlawcellat : Cal l.prog w K mg base 1 "_law_cell_at" (sp_xlawcellat K) [] := ⟨f9, _, _, [], ok_xlawcellat F9 M , PySem.W.mg_of X G a9, k9, b9, .nil⟩
  have c_xlawdraw : Cal l.prog w K mg base 1 "_law_draw" (sp_xlawdraw K) [] := ⟨f10, _, _, [], ok_xlawdraw F10 M , PySem.W.mg_of X G a10, k10, b10, .nil⟩
  have c_xlawwhole : Cal l.prog w K mg base 1 "_law_whole" (sp_xlawwhole K) [] := ⟨f11, _, _, [], ok_xlawwhole F11 M , PySem.W.mg_of X G a11, k11, b11, .nil⟩
  have c_xlawfiguresby : Cal l.prog w K mg base 2 "_law_figures_by" (sp_xlawfiguresby K) [] := ⟨f12, _, _, [], ok_xlawfiguresby F12 M c_xlawdraw, PySem.W.mg_of X G a12, k12, b12, .nil⟩
  have c_xlawwritingby : Cal l.prog w K mg base 3 "_law_writing_by" (sp_xlawwritingby K) [] := ⟨f13, _, _, [], ok_xlawwritingby F13 M c_xlawcellat c_xlawfiguresby, PySem.W.mg_of X G a13, k13, b13, .nil⟩
  have c_xlawcopy : Cal l.prog w K mg base 1 "_law_copy" (sp_xlawcopy K) [] := ⟨f14, _, _, [], ok_xlawcopy F14 M , PySem.W.mg_of X G a14, k14, b14, .nil⟩
  have c_xlawdivided : Cal l.prog w K mg base 1 "_law_divided" (sp_xlawdivided K) [] := ⟨f15, _, _, [], ok_xlawdivided F15 M , PySem.W.mg_of X G a15, k15, b15, .nil⟩
  have c_xlawiswriting : Cal l.prog w K mg base 2 "_law_is_writing" (sp_xlawiswriting K) [] := ⟨f16, _, _, [], ok_xlawiswriting F16 M c_xlawwhole, PySem.W.mg_of X G a16, k16, b16, .nil⟩
  have c_xlawtext : Cal l.prog w K mg base 1 "_law_text" (sp_xlawtext K) [] := ⟨f17, _, _, [], ok_xlawtext F17 M , PySem.W.mg_of X G a17, k17, b17, .nil⟩
  exact ok_law F18 M c_shown c_read c_xlawcellat c_xlawwritingby c_xlawcopy c_xlawdivided c_xlawiswriting c_xlawtext
end Rf
open PySem PySem.W PyProof.Rows
set_option maxHeartbeats 0 in
theorem PySem.Challenge.cw_ringfigures_k14_texts_holds : PySem.Challenge.rw_ringfigures_k14_texts.Holds := by
  w_on; o_law; k_head; (case hw => w_witness2)
  k_fill
  refine L2.walk_of (l := PySem.Challenge.rw_ringfigures_k14_texts) (n := 63) (k := 4) (x := "script") (CX := fun _ => L2.CX0) (sp := fun w => Rf.sp_law _) rfl (by decide) rfl ⟨rfl, by decide, by decide⟩ (fun w h Y => PySem.W.kIn_of Y) ?F (fun _ _ a ns hl _ hS => ⟨a, ns, rfl, hS, hl, fun _ => rfl⟩) (fun _ _ _ _ _ h => h)
  case F =>
    intro w mg fa h KX G hmg
    refine' Rf.all_mk KX G hmg ?a0 ?l0 ?e0 ?k0 ?a1 ?l1 ?e1 ?k1 ?a2 ?l2 ?e2 ?k2 ?a3 ?l3 ?e3 ?k3 ?a4 ?l4 ?e4 ?k4 ?a5 ?l5 ?e5 ?k5 ?a6 ?l6 ?e6 ?k6 ?a7 ?l7 ?e7 ?k7 ?a8 ?l8 ?e8 ?k8 ?a9 ?l9 ?e9 ?k9 ?a10 ?l10 ?e10 ?k10 ?a11 ?l11 ?e11 ?k11 ?a12 ?l12 ?e12 ?k12 ?a13 ?l13 ?e13 ?k13 ?a14 ?l14 ?e14 ?k14 ?a15 ?l15 ?e15 ?k15 ?a16 ?l16 ?e16 ?k16 ?a17 ?l17 ?e17 ?k17 ?a18 ?l18 ?e18 ?k18 ?z0 ?z1 ?z2 ?z3 ?z4 ?z5 ?z6 ?z7 ?z8 ?y0 ?y1 ?y2
    (case a0 => k_is); (case l0 => k_is); (case e0 => k_is); (case k0 => k_is); (case a1 => k_is); (case l1 => k_is); (case e1 => k_is); (case k1 => k_is); (case a2 => k_is); (case l2 => k_is); (case e2 => k_is); (case k2 => k_is); (case a3 => k_is); (case l3 => k_is); (case e3 => k_is); (case k3 => k_is); (case a4 => k_is); (case l4 => k_is); (case e4 => k_is); (case k4 => k_is); (case a5 => k_is); (case l5 => k_is); (case e5 => k_is); (case k5 => k_is); (case a6 => k_is); (case l6 => k_is); (case e6 => k_is); (case k6 => k_is); (case a7 => k_is); (case l7 => k_is); (case e7 => k_is); (case k7 => k_is); (case a8 => k_is); (case l8 => k_is); (case e8 => k_is); (case k8 => k_is); (case a9 => k_is); (case l9 => k_is); (case e9 => k_is); (case k9 => k_is); (case a10 => k_is); (case l10 => k_is); (case e10 => k_is); (case k10 => k_is); (case a11 => k_is); (case l11 => k_is); (case e11 => k_is); (case k11 => k_is); (case a12 => k_is); (case l12 => k_is); (case e12 => k_is); (case k12 => k_is); (case a13 => k_is); (case l13 => k_is); (case e13 => k_is); (case k13 => k_is); (case a14 => k_is); (case l14 => k_is); (case e14 => k_is); (case k14 => k_is); (case a15 => k_is); (case l15 => k_is); (case e15 => k_is); (case k15 => k_is); (case a16 => k_is); (case l16 => k_is); (case e16 => k_is); (case k16 => k_is); (case a17 => k_is); (case l17 => k_is); (case e17 => k_is); (case k17 => k_is); (case a18 => k_is); (case l18 => k_is); (case e18 => k_is); (case k18 => k_is); (case z0 => k_is); (case z1 => k_is); (case z2 => k_is); (case z3 => k_is); (case z4 => k_is); (case z5 => k_is); (case z6 => k_is); (case z7 => k_is); (case z8 => k_is); (case y0 => k_is); (case y1 => k_is); (case y2 => k_is)
