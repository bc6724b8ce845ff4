import PyProof.Rows.All
import Wide.All
import OpenK.AllK
import Wide.FinOn
import PySem.Challenge.RW_ringfigures_k16_refused
import HandS.ForMost
import HandS.ForExc
import HandS.Wide
import HandS.IsInst
import HandS.Codes
import HandS.Style
import HandS.Evl
import HandS.Walk
import HandS.Zip
import HandS.Conv
import KE.KRevIter
import PyProof.ListRange
import HandS.Rev
import HandS.Text
import HandS.Replace
import HandS.NoneIn
import HandS.HotCalls
import HandS.ExcIs
import HandS.ExcOwn
import HandS.SetFor
set_option Elab.async false
set_option linter.all false
set_option maxRecDepth 100000
set_option maxHeartbeats 4000000
set_option maxRecDepth 100000
set_option maxHeartbeats 4000000
namespace Rf
open PySem PySem.Spec PyProof.Rows L2
/-! ### heaps -/
theorem same_new {H H' : Hp} {p : Addr} {o : HO} (s : Same H H') (h : H p = none) : Same H (upd H' p o) := fun b u e => by
  rw [upd_ne (ne_of_none e h)]
  exact s b u e
theorem same_upd {H : Hp} {p : Addr} {o : HO} (h : H p = none) : Same H (upd H p o) := same_new (Same.refl H) h
theorem ne_new {H : Hp} {d f : Addr} {o : HO} (h : upd H d o f = none) : f ≠ d := fun e => by
  rw [e, upd_same] at h
  cases h
theorem free_upd {H : Hp} {d f : Addr} {o : HO} (h : upd H d o f = none) : H f = none := by
  rw [upd_ne (ne_new h)] at h
  exact h
theorem same_ups {H H' : Hp} {d : Addr} {o : HO} (s : Same H H') (h : H' d = none) : Same H (upd H' d o) := s.trans (same_upd h)
theorem keyne {a b : Nat} (h : a ≠ b) : ¬ ((Sum.inl (a : Int) : Key) = Sum.inl (b : Int)) := fun q => h (by have := Sum.inl.inj q; omega)
theorem sz100 {n : Nat} (h : n ≤ 1000000) : n ≤ sizeLine := Nat.le_trans h (by decide)
theorem sz100lt {n : Nat} (h : n < 1000000) : n < sizeLine := Nat.lt_of_lt_of_le h (by decide)
theorem sqt {K : PySem.W.Frag} {H : Hp} {a : Addr} {xs : List V} (h : H a = some (.tup xs)) : SqT K H a xs := .inl (.inl h)
theorem sql {K : PySem.W.Frag} {H : Hp} {a : Addr} {xs : List V} (h : H a = some (.lst xs)) : SqL K H a xs := .inl (.inl h)
/-! ### floor division by any positive number, where the quotient is not long -/
def CDivP (i j : Int) : Prop := 0 < j ∧ Builtin.divisionGoesByPylong i j = false
theorem op_fdivP {X : Cx} : OpR X (binaryOp .FloorDiv) (rI CDivP fun i j => .int (i / j)) := opI fun i j _ _ _ _ _ hc q => by
  have h1 : (0 : Int) < j := hc.1
  exact floordiv_int (by omega) (by rw [Int.fdiv_eq_ediv_of_nonneg i (by omega)]; exact q) (.inl hc.2)
theorem cdivp_small {i j : Int} (h : 0 < j) (h2 : j < 1073741824) : CDivP i j := ⟨h, PyProof.noPylong_small (by omega)⟩
/-- a divisor that is not long -/
structure Wid (m : Nat) : Prop where
  lt : m.log2 < 9000
theorem cdivp_wide {i : Int} {m : Nat} (h0 : 0 < m) (h : Wid m) : CDivP i (m : Int) := ⟨by omega, PyProof.noPylong_of_log2 (by rw [Int.natAbs_natCast]; exact h.lt)⟩
theorem wid_of {m k : Nat} (h : m < 2 ^ k) (hk : k ≤ 9000) (h0 : 0 < k) : Wid m := ⟨Nat.lt_of_lt_of_le (PySem.Flt.log2_lt_of h0 h) hk⟩
theorem wid_small {m : Nat} (h : m < 1000000) : Wid m := wid_of (k := 30) (Nat.lt_of_lt_of_le h (by decide)) (by decide) (by decide)
theorem op_mulB {X : Cx} : OpR X (binaryOp .Mult) (rI IntMulOk fun i j => .int (i * j)) := opI fun _ _ _ _ _ _ _ hc q => mul_int q hc
theorem mulB_right {i j : Int} (h1 : -(2 ^ 64) < j) (h2 : j < 2 ^ 64) : IntMulOk i j := IntMulOk.of_right (intBits_le_64 (by omega) (by omega))
theorem mulB_left {i j : Int} (h1 : -(2 ^ 64) < i) (h2 : i < 2 ^ 64) : IntMulOk i j := IntMulOk.of_left (intBits_le_64 (by omega) (by omega))
/-! ### slices -/
theorem cut_take (xs : List V) (k : Nat) : cutV xs none (some (k : Int)) = xs.take k := by
  unfold cutV
  rw [HT.sIx_none, HT.sIx_nat, List.drop_zero, Nat.sub_zero, ← List.take_take, List.take_length]
theorem cut_drop (xs : List V) (k : Nat) : cutV xs (some (k : Int)) none = xs.drop k := by
  unfold cutV
  rw [HT.sIx_none, HT.sIx_nat]
  by_cases h : k ≤ xs.length
  · rw [Nat.min_eq_left h]
    exact List.take_of_length_le (by rw [List.length_drop]; exact Nat.le_refl _)
  · rw [Nat.min_eq_right (by omega), List.drop_eq_nil_of_le (Nat.le_refl _), List.drop_eq_nil_of_le (by omega), List.take_nil]
theorem take_map (l : List Int) (k : Nat) : (l.map V.int).take k = (l.take k).map V.int := (List.map_take).symm
theorem drop_map (l : List Int) (k : Nat) : (l.map V.int).drop k = (l.drop k).map V.int := (List.map_drop).symm
/-! ### ints as data -/
def dI (ns : List Int) : PyData := .list (ns.map PyData.int)
theorem eqv_ints : ∀ a b : List Int, PyData.eqvAll (a.map PyData.int) (b.map PyData.int) = decide (a = b)
  | [], [] => rfl
  | [], _ :: _ => rfl
  | _ :: _, [] => rfl
  | x :: a, y :: b => by
    show (PyData.eqv (.int x) (.int y) && PyData.eqvAll (a.map PyData.int) (b.map PyData.int)) = _
    rw [eqv_ints a b]
    show ((x == y) && decide (a = b)) = _
    by_cases h : x = y <;> by_cases h2 : a = b <;> simp [h, h2]
theorem eqv_dI (a b : List Int) : PyData.eqv (dI a) (dI b) = decide (a = b) := by
  unfold dI
  rw [PyData.eqv]
  exact eqv_ints a b
theorem canLay_ints : ∀ a : List Int, PyData.canLayAll0 (a.map PyData.int) = true
  | [] => rfl
  | x :: a => by
    show (PyData.canLay0 (.int x) && PyData.canLayAll0 (a.map PyData.int)) = true
    rw [canLay_ints a]
    rfl
theorem depth_ints : ∀ a : List Int, PyData.depthAll (a.map PyData.int) = 0
  | [] => rfl
  | x :: a => by
    show max (PyData.depth (.int x)) (PyData.depthAll (a.map PyData.int)) = 0
    rw [depth_ints a]
    rfl
theorem shaped_dI (a : List Int) : SeqAt.shaped (dI a) = true := by
  unfold SeqAt.shaped dI
  rw [show PyData.canLay0 (.list (a.map PyData.int)) = PyData.canLayAll0 (a.map PyData.int) from rfl, canLay_ints]
  rw [show PyData.depth (.list (a.map PyData.int)) = PyData.depthAll (a.map PyData.int) + 1 from rfl, depth_ints]
  rfl
theorem dpAll_ints {K : PySem.W.Frag} {H : Hp} : ∀ a : List Int, DpAll K H (a.map V.int) (a.map PyData.int)
  | [] => .nil
  | x :: a => .cons (.int x) (dpAll_ints a)
theorem dp_dI {K : PySem.W.Frag} {H : Hp} {p : Addr} {a : List Int} (h : SqL K H p (a.map V.int)) : Dp K H (.ref p) (dI a) := .lst h (dpAll_ints a)
/-! ### writings -/
/-- a whole number, figures ahead, a ring -/
structure Wr where
  w : Int
  a : List Int
  r : List Int
  deriving DecidableEq
def dW (x : Wr) : PyData := .tuple [.int x.w, dI x.a, dI x.r]
theorem eqv_dW (x y : Wr) : PyData.eqv (dW x) (dW y) = decide (x = y) := by
  unfold dW
  rw [PyData.eqv]
  show (PyData.eqv (.int x.w) (.int y.w) && (PyData.eqv (dI x.a) (dI y.a) && (PyData.eqv (dI x.r) (dI y.r) && true))) = _
  rw [eqv_dI, eqv_dI]
  show ((x.w == y.w) && _) = _
  obtain ⟨w1, a1, r1⟩ := x
  obtain ⟨w2, a2, r2⟩ := y
  by_cases h1 : w1 = w2 <;> by_cases h2 : a1 = a2 <;> by_cases h3 : r1 = r2 <;> simp [h1, h2, h3]
theorem shaped_dW (x : Wr) : SeqAt.shaped (dW x) = true := by
  unfold SeqAt.shaped dW dI
  show (PyData.canLay0 (.int x.w) && (PyData.canLayAll0 (x.a.map PyData.int) && (PyData.canLayAll0 (x.r.map PyData.int) && true)) && decide (max 0 (max (PyData.depthAll (x.a.map PyData.int) + 1) (max (PyData.depthAll (x.r.map PyData.int) + 1) 0)) + 1 ≤ 64)) = true
  rw [canLay_ints, canLay_ints, depth_ints, depth_ints]
  rfl
/-- the writing x stands at p, its lists at a and r -/
structure WrAt (H : Hp) (p a r : Addr) (x : Wr) : Prop where
  tp : H p = some (.tup [.int x.w, .ref a, .ref r])
  la : H a = some (.lst (x.a.map V.int))
  lr : H r = some (.lst (x.r.map V.int))
theorem WrAt.dp {K : PySem.W.Frag} {H : Hp} {p a r : Addr} {x : Wr} (h : WrAt H p a r x) : Dp K H (.ref p) (dW x) :=
  .tup (sqt h.tp) (.cons (.int x.w) (.cons (dp_dI (sql h.la)) (.cons (dp_dI (sql h.lr)) .nil)))
theorem WrAt.same {H H' : Hp} {p a r : Addr} {x : Wr} (h : WrAt H p a r x) (s : Same H H') : WrAt H' p a r x := ⟨s _ _ h.tp, s _ _ h.la, s _ _ h.lr⟩
/-- a new writing x at p: all that was stands, its objects are new and its lists are two -/
structure WrNew (H H' : Hp) (p a r : Addr) (x : Wr) : Prop where
  at' : WrAt H' p a r x
  same : Same H H'
  np : H p = none
  na : H a = none
  nr : H r = none
  ne : a ≠ r
/-! ### tests -/
theorem iteD {c : Prop} [Decidable c] {A B : Prop} (h1 : c → A) (h2 : ¬ c → B) : if decide c = true then A else B := by
  by_cases h : c
  · rw [if_pos (decide_eq_true h)]; exact h1 h
  · rw [if_neg (by rw [decide_eq_false h]; exact Bool.false_ne_true)]; exact h2 h
theorem iteDn {c : Prop} [Decidable c] {A B : Prop} (h1 : ¬ c → A) (h2 : c → B) : if (!decide c) = true then A else B := by
  by_cases h : c
  · rw [if_neg (by rw [decide_eq_true h]; exact Bool.false_ne_true)]; exact h2 h
  · rw [if_pos (by rw [decide_eq_false h]; rfl)]; exact h1 h
theorem iteE {i j : Int} {A B : Prop} (h1 : i = j → A) (h2 : i ≠ j → B) : if decide (V.int i = V.int j) = true then A else B := iteD (fun e => h1 (V.int.inj e)) (fun e => h2 fun q => e (by rw [q]))
theorem iteEn {i j : Int} {A B : Prop} (h1 : i ≠ j → A) (h2 : i = j → B) : if (!decide (V.int i = V.int j)) = true then A else B := iteDn (fun e => h1 fun q => e (by rw [q])) (fun e => h2 (V.int.inj e))
theorem iteB {b : Bool} {A B : Prop} (h1 : b = true → A) (h2 : b = false → B) : if b = true then A else B := by
  cases b with
  | true => rw [if_pos rfl]; exact h1 rfl
  | false => rw [if_neg Bool.false_ne_true]; exact h2 rfl
theorem atI_of {xs : List V} {z : Int} {j : Nat} {v : V} (e : z = (j : Int)) (h : xs[j]? = some v) : atI xs z = some v := by
  rw [e]
  exact atI_nat h
theorem map_get {ns : List Int} {k : Nat} {x : Int} (h : ns[k]? = some x) : (ns.map V.int)[k]? = some (.int x) := by
  rw [List.getElem?_map, h]; rfl
/-! ### where a value's kind is asked -/
theorem kit_int_int {K : PySem.W.Frag} : PySem.W.kitOne K (.type "int") (.type "int") = some true := kit_ty (by decide +kernel)
theorem kit_int_bool {K : PySem.W.Frag} : PySem.W.kitOne K (.type "int") (.type "bool") = some false := kit_ty (by decide +kernel)
theorem kit_tup {K : PySem.W.Frag} : PySem.W.kitOne K (.type "tuple") (.type "tuple") = some true := kit_ty (by decide +kernel)
theorem kit_lst {K : PySem.W.Frag} : PySem.W.kitOne K (.type "list") (.type "list") = some true := kit_ty (by decide +kernel)
theorem kit_bool {K : PySem.W.Frag} : PySem.W.kitOne K (.type "bool") (.type "bool") = some true := kit_ty (by decide +kernel)
theorem kit_str {K : PySem.W.Frag} : PySem.W.kitOne K (.type "str") (.type "str") = some true := kit_ty (by decide +kernel)
theorem kit_self {K : PySem.W.Frag} {n : String} : PySem.W.kitOne K (.type n) (.type n) = some true := kit_ty (by unfold kitB; rw [if_pos (by simp)])
end Rf

set_option maxHeartbeats 1000000
namespace Rf
/-! ### the rests of a division, and where they come again -/
/-- the rest behind k figures -/
def rs (b m r k : Nat) : Nat := r * b ^ k % m
/-- the k-th figure -/
def dg (b m r k : Nat) : Nat := rs b m r k * b / m
/-- n figures from the i-th on -/
def dgs (b m r i n : Nat) : List Int := (List.range n).map fun k => ((dg b m r (i + k) : Nat) : Int)
theorem rs_zero {b m r : Nat} (h : r < m) : rs b m r 0 = r := by
  unfold rs
  rw [Nat.pow_zero, Nat.mul_one, Nat.mod_eq_of_lt h]
theorem rs_lt {b m r k : Nat} (h : 0 < m) : rs b m r k < m := Nat.mod_lt _ h
theorem rs_succ (b m r k : Nat) : rs b m r (k + 1) = rs b m r k * b % m := by
  unfold rs
  rw [Nat.pow_succ, ← Nat.mul_assoc, Nat.mul_mod (r * b ^ k) b m, Nat.mul_mod (r * b ^ k % m) b m, Nat.mod_mod]
theorem dgs_len (b m r i n : Nat) : (dgs b m r i n).length = n := by
  unfold dgs
  rw [List.length_map, List.length_range]
theorem dgs_succ (b m r i n : Nat) : dgs b m r i (n + 1) = dgs b m r i n ++ [((dg b m r (i + n) : Nat) : Int)] := by
  unfold dgs
  rw [List.range_succ, List.map_append]
  rfl
theorem dgs_take (b m r n k : Nat) (h : k ≤ n) : (dgs b m r 0 n).take k = dgs b m r 0 k := by
  unfold dgs
  rw [← List.map_take, List.take_range, Nat.min_eq_left h]
theorem dgs_get (b m r i n k : Nat) (h : k < n) : (dgs b m r i n)[k]? = some ((dg b m r (i + k) : Nat) : Int) := by
  unfold dgs
  rw [List.getElem?_map, List.getElem?_range h]
  rfl
theorem dgs_drop (b m r n k : Nat) (h : k ≤ n) : (dgs b m r 0 n).drop k = dgs b m r k (n - k) := by
  apply List.ext_getElem?
  intro j
  rw [List.getElem?_drop]
  by_cases hj : j < n - k
  · rw [dgs_get _ _ _ _ _ _ hj, dgs_get _ _ _ _ _ _ (show k + j < n by omega), Nat.zero_add]
  · rw [List.getElem?_eq_none (by rw [dgs_len]; omega), List.getElem?_eq_none (by rw [dgs_len]; omega)]
/-- division of r by m in base b: s figures ahead, then a ring of l (none: l = 0) -/
structure DivAt (b m r s l : Nat) : Prop where
  pos : ∀ k, k < s + l → rs b m r k ≠ 0
  new : ∀ j k, j < k → k < s + l → rs b m r j ≠ rs b m r k
  fin : l = 0 → rs b m r s = 0
  rep : 0 < l → rs b m r (s + l) = rs b m r s
/-- the first n at which the division stops -/
def Stp (b m r n : Nat) : Prop := rs b m r n = 0 ∨ ∃ j, j < n ∧ rs b m r j = rs b m r n
theorem DivAt.stp {b m r s l : Nat} (h : DivAt b m r s l) : Stp b m r (s + l) := by
  by_cases hl : l = 0
  · subst hl; exact .inl (h.fin rfl)
  · exact .inr ⟨s, by omega, (h.rep (by omega)).symm⟩
theorem DivAt.not_stp {b m r s l n : Nat} (h : DivAt b m r s l) (hn : n < s + l) : ¬ Stp b m r n := fun q => by
  rcases q with q | ⟨j, hj, e⟩
  · exact h.pos n hn q
  · exact h.new j n hj hn e
theorem DivAt.unique {b m r s l s' l' : Nat} (h : DivAt b m r s l) (h' : DivAt b m r s' l') : s = s' ∧ l = l' := by
  have e : s + l = s' + l' := by
    rcases Nat.lt_trichotomy (s + l) (s' + l') with q | q | q
    · exact absurd h.stp (h'.not_stp q)
    · exact q
    · exact absurd h'.stp (h.not_stp q)
  by_cases hl : l = 0
  · by_cases hl' : l' = 0
    · omega
    · have h1 := h.fin hl
      have h2 := h'.rep (by omega)
      have h3 : s = s' + l' := by omega
      rw [← h3, h1] at h2
      exact absurd h2.symm (h'.pos s' (by omega))
  · by_cases hl' : l' = 0
    · have h1 := h'.fin hl'
      have h2 := h.rep (by omega)
      have h3 : s' = s + l := by omega
      rw [← h3, h1] at h2
      exact absurd h2.symm (h.pos s (by omega))
    · have h1 := h.rep (by omega)
      have h2 := h'.rep (by omega)
      rw [e] at h1
      have h3 : rs b m r s = rs b m r s' := h1.symm.trans h2
      rcases Nat.lt_trichotomy s s' with q | q | q
      · exact absurd h3 (h.new s s' q (by omega))
      · omega
      · exact absurd h3.symm (h'.new s' s q (by omega))
theorem exists_least (P : Nat → Prop) : ∀ n, P n → ∃ k, k ≤ n ∧ P k ∧ ∀ j, j < k → ¬ P j := fun n => by
  induction n using Nat.strongRecOn with
  | _ n ih =>
    intro h
    by_cases q : ∃ j, j < n ∧ P j
    · obtain ⟨j, hj, pj⟩ := q
      obtain ⟨k, hk, pk, lk⟩ := ih j hj pj
      exact ⟨k, by omega, pk, lk⟩
    · exact ⟨n, Nat.le_refl _, h, fun j hj pj => q ⟨j, hj, pj⟩⟩
/-- an injection of the numbers below n into those below m -/
theorem pigeon : ∀ (m n : Nat) (f : Nat → Nat), (∀ k, k < n → f k < m) → (∀ j k, j < k → k < n → f j ≠ f k) → n ≤ m
  | 0, n, f, h, _ => by
    cases n with
    | zero => exact Nat.le_refl _
    | succ n => exact absurd (h 0 (by omega)) (by omega)
  | m + 1, n, f, h, inj => by
    by_cases q : ∃ i, i < n ∧ f i = m
    · obtain ⟨i, hi, ei⟩ := q
      have key : n - 1 ≤ m := pigeon m (n - 1) (fun k => if k < i then f k else f (k + 1)) (fun k hk => by
          split
          · rename_i c
            have h1 := h k (by omega)
            have h2 := inj k i c hi
            omega
          · rename_i c
            have h1 := h (k + 1) (by omega)
            have h2 := inj i (k + 1) (by omega) (by omega)
            omega) (fun j k hjk hk => by
          split
          · split
            · exact inj j k hjk (by omega)
            · exact inj j (k + 1) (by omega) (by omega)
          · split
            · omega
            · exact inj (j + 1) (k + 1) (by omega) (by omega))
      omega
    · have key : n ≤ m := pigeon m n f (fun k hk => by
          have h1 := h k hk
          have h2 : f k ≠ m := fun e => q ⟨k, hk, e⟩
          omega) inj
      omega
theorem stp_exists {b m r : Nat} (hm : 0 < m) : ∃ n, n ≤ m ∧ Stp b m r n := by
  by_cases q : ∃ n, n ≤ m ∧ Stp b m r n
  · exact q
  · have h1 : m + 1 ≤ m := pigeon m (m + 1) (rs b m r) (fun k _ => rs_lt hm) (fun j k hjk hk e => q ⟨k, by omega, .inr ⟨j, hjk, e⟩⟩)
    omega
theorem divAt_of_stp {b m r n : Nat} (h : Stp b m r n) (hl : ∀ j, j < n → ¬ Stp b m r j) : ∃ s l, s + l = n ∧ DivAt b m r s l := by
  have hp : ∀ k, k < n → rs b m r k ≠ 0 := fun k hk e => hl k hk (.inl e)
  have hn : ∀ j k, j < k → k < n → rs b m r j ≠ rs b m r k := fun j k hjk hk e => hl k hk (.inr ⟨j, hjk, e⟩)
  by_cases h0 : rs b m r n = 0
  · exact ⟨n, 0, by omega, ⟨hp, hn, fun _ => h0, fun q => absurd q (by omega)⟩⟩
  · rcases h with h | ⟨j, hj, e⟩
    · exact absurd h h0
    · refine ⟨j, n - j, by omega, ⟨fun k hk => hp k (by omega), fun i k hik hk => hn i k hik (by omega), fun q => by omega, fun _ => ?_⟩⟩
      rw [show j + (n - j) = n by omega]
      exact e.symm
theorem divAt_exists {b m r : Nat} (hm : 0 < m) : ∃ s l, s + l ≤ m ∧ DivAt b m r s l := by
  obtain ⟨n, hn, h⟩ := stp_exists (b := b) (r := r) hm
  obtain ⟨k, hk, pk, lk⟩ := exists_least (Stp b m r) n h
  obtain ⟨s, l, e, d⟩ := divAt_of_stp pk lk
  exact ⟨s, l, by omega, d⟩
end Rf

set_option maxHeartbeats 1000000
namespace Rf
/-! ### figures come round -/
theorem rs_add (b m r i j : Nat) : rs b m r (i + j) = rs b m (rs b m r i) j := by
  unfold rs
  rw [Nat.pow_add, ← Nat.mul_assoc, Nat.mul_mod (r * b ^ i) (b ^ j) m, Nat.mul_mod (r * b ^ i % m) (b ^ j) m, Nat.mod_mod]
theorem DivAt.nought {b m r s l : Nat} (h : DivAt b m r s l) (hl : l = 0) (i : Nat) : rs b m r (s + i) = 0 := by
  rw [rs_add, h.fin hl]
  unfold rs
  rw [Nat.zero_mul, Nat.zero_mod]
theorem DivAt.round {b m r s l : Nat} (h : DivAt b m r s l) (hl : 0 < l) (i : Nat) : rs b m r (s + l + i) = rs b m r (s + i) := by
  rw [rs_add, h.rep hl, ← rs_add]
theorem DivAt.rounds {b m r s l : Nat} (h : DivAt b m r s l) (hl : 0 < l) (i : Nat) : ∀ n, rs b m r (s + (i + l * n)) = rs b m r (s + i)
  | 0 => by rw [Nat.mul_zero, Nat.add_zero]
  | n + 1 => by
    rw [show s + (i + l * (n + 1)) = s + l + (i + l * n) by rw [Nat.mul_add, Nat.mul_one]; omega, h.round hl]
    exact h.rounds hl i n
theorem DivAt.mod {b m r s l : Nat} (h : DivAt b m r s l) (hl : 0 < l) (i : Nat) : rs b m r (s + i) = rs b m r (s + i % l) := by
  have e := h.rounds hl (i % l) (i / l)
  rw [Nat.mod_add_div] at e
  exact e
/-- the figure at a place, by the writing -/
theorem DivAt.fig {b m r s l n : Nat} (h : DivAt b m r s l) (hn : s ≤ n) : dg b m r n = if l = 0 then 0 else dg b m r (s + (n - s) % l) := by
  unfold dg
  by_cases hl : l = 0
  · rw [if_pos hl, show n = s + (n - s) by omega, h.nought hl, Nat.zero_mul, Nat.zero_div]
  · rw [if_neg hl]
    have e := h.mod (by omega) (n - s)
    rw [show s + (n - s) = n by omega] at e
    rw [e]
/-! ### powers by squaring -/
theorem pow_half (F G m p : Nat) : (if p % 2 = 1 then F * G % m else F) * (G * G % m) ^ (p / 2) % m = F * G ^ p % m := by
  have e : G ^ p = (if p % 2 = 1 then G else 1) * (G * G) ^ (p / 2) := by
    rw [← Nat.pow_two, ← Nat.pow_mul]
    split
    · rename_i h
      rw [← Nat.pow_succ']
      congr 1
      omega
    · rename_i h
      rw [Nat.one_mul]
      congr 1
      omega
  rw [e, Nat.mul_mod, ← Nat.pow_mod, ← Nat.mul_mod, ← Nat.mul_assoc]
  split
  · rw [Nat.mul_mod (F * G % m), Nat.mod_mod, ← Nat.mul_mod]
  · rw [Nat.mul_one]
end Rf

set_option maxHeartbeats 1000000
namespace Rf
/-! ### lengths of a bottom -/
/-- what is left of m when k factors b are taken out as far as they go -/
def lft (b m k : Nat) : Nat := m / Nat.gcd m (b ^ k)
theorem gcd_step (b m k : Nat) (hm : 0 < m) : Nat.gcd m (b ^ (k + 1)) = Nat.gcd m (b ^ k) * Nat.gcd (lft b m k) b := by
  have hg : 0 < Nat.gcd m (b ^ k) := Nat.gcd_pos_of_pos_left _ hm
  obtain ⟨m', hm'⟩ := Nat.gcd_dvd_left m (b ^ k)
  obtain ⟨c, hc⟩ := Nat.gcd_dvd_right m (b ^ k)
  have co : Nat.Coprime m' c := by
    have h1 : Nat.gcd (m / Nat.gcd m (b ^ k)) (b ^ k / Nat.gcd m (b ^ k)) = 1 := Nat.coprime_div_gcd_div_gcd hg
    have e1 : m / Nat.gcd m (b ^ k) = m' := Nat.div_eq_of_eq_mul_right hg hm'
    have e2 : b ^ k / Nat.gcd m (b ^ k) = c := Nat.div_eq_of_eq_mul_right hg hc
    rw [e1, e2] at h1
    exact h1
  have e1 : lft b m k = m' := Nat.div_eq_of_eq_mul_right hg hm'
  have e3 : b ^ (k + 1) = Nat.gcd m (b ^ k) * (c * b) := by rw [Nat.pow_succ, ← Nat.mul_assoc, ← hc]
  rw [e1]
  have e4 : Nat.gcd m (b ^ (k + 1)) = Nat.gcd (Nat.gcd m (b ^ k) * m') (Nat.gcd m (b ^ k) * (c * b)) := by
    rw [← hm', ← e3]
  rw [e4, Nat.gcd_mul_left, Nat.Coprime.gcd_mul_left_cancel_right b co.symm]
theorem lft_zero (b m : Nat) : lft b m 0 = m := by
  unfold lft
  rw [Nat.pow_zero, Nat.gcd_one_right, Nat.div_one]
theorem lft_pos {b m k : Nat} (hm : 0 < m) : 0 < lft b m k := Nat.div_pos (Nat.le_of_dvd hm (Nat.gcd_dvd_left _ _)) (Nat.gcd_pos_of_pos_left _ hm)
theorem lft_succ {b m k : Nat} (hm : 0 < m) : lft b m (k + 1) = lft b m k / Nat.gcd (lft b m k) b := by
  unfold lft
  rw [gcd_step b m k hm, Nat.div_div_eq_div_mul]
  rfl
theorem lft_le (b m k : Nat) : lft b m k ≤ m := Nat.div_le_self _ _
theorem lft_stay {b m s : Nat} (hm : 0 < m) (h : Nat.gcd (lft b m s) b = 1) : ∀ i, lft b m (s + i) = lft b m s
  | 0 => rfl
  | i + 1 => by
    rw [← Nat.add_assoc, lft_succ hm, lft_stay hm h i, h, Nat.div_one]
/-- m goes into x * y just where what is left of m by x goes into y -/
theorem dvd_left {m x y : Nat} (hm : 0 < m) : m ∣ x * y ↔ m / Nat.gcd m x ∣ y := by
  have hg : 0 < Nat.gcd m x := Nat.gcd_pos_of_pos_left _ hm
  obtain ⟨m', hm'⟩ := Nat.gcd_dvd_left m x
  obtain ⟨c, hc⟩ := Nat.gcd_dvd_right m x
  have e1 : m / Nat.gcd m x = m' := Nat.div_eq_of_eq_mul_right hg hm'
  have co : Nat.Coprime m' c := by
    have h1 : Nat.gcd (m / Nat.gcd m x) (x / Nat.gcd m x) = 1 := Nat.coprime_div_gcd_div_gcd hg
    have e2 : x / Nat.gcd m x = c := Nat.div_eq_of_eq_mul_right hg hc
    rw [e1, e2] at h1
    exact h1
  rw [e1]
  constructor
  · intro h
    have h2 : Nat.gcd m x * m' ∣ Nat.gcd m x * (c * y) := by
      rw [← hm', ← Nat.mul_assoc, ← hc]
      exact h
    have h3 : m' ∣ c * y := Nat.dvd_of_mul_dvd_mul_left hg h2
    exact co.dvd_of_dvd_mul_left h3
  · intro h
    have h2 : Nat.gcd m x * m' ∣ Nat.gcd m x * (c * y) := Nat.mul_dvd_mul_left _ (Nat.dvd_trans h (Nat.dvd_mul_left y c))
    rw [← hm', ← Nat.mul_assoc, ← hc] at h2
    exact h2
/-- equal rests -/
theorem mod_eq_iff {x y m : Nat} (h : x ≤ y) : x % m = y % m ↔ m ∣ y - x := by
  constructor
  · intro e
    exact Nat.dvd_of_mod_eq_zero (Nat.sub_mod_eq_zero_of_mod_eq e.symm)
  · intro e
    obtain ⟨c, hc⟩ := e
    have h2 : y = x + m * c := by omega
    rw [h2, Nat.add_mul_mod_self_left]
theorem rs_eq_iff {b m r j n : Nat} (hb : 0 < b) (hm : 0 < m) (hr : Nat.Coprime r m) : rs b m r j = rs b m r (j + n) ↔ lft b m j ∣ b ^ n - 1 := by
  unfold rs lft
  have h1 : r * b ^ j ≤ r * b ^ (j + n) := Nat.mul_le_mul_left _ (Nat.pow_le_pow_right hb (by omega))
  rw [mod_eq_iff h1, ← dvd_left hm]
  have e : r * b ^ (j + n) - r * b ^ j = r * (b ^ j * (b ^ n - 1)) := by
    rw [Nat.pow_add, ← Nat.mul_sub, Nat.mul_sub (b ^ j), Nat.mul_one]
  rw [e]
  constructor
  · intro h
    exact hr.symm.dvd_of_dvd_mul_left h
  · intro h
    exact Nat.dvd_trans h (Nat.dvd_mul_left _ _)
theorem rs_zero_iff {b m r k : Nat} (hm : 0 < m) (hr : Nat.Coprime r m) : rs b m r k = 0 ↔ lft b m k = 1 := by
  unfold rs lft
  have hg : 0 < Nat.gcd m (b ^ k) := Nat.gcd_pos_of_pos_left _ hm
  constructor
  · intro h
    have h1 : m ∣ r * b ^ k := Nat.dvd_of_mod_eq_zero h
    have h2 : m ∣ b ^ k := hr.symm.dvd_of_dvd_mul_left h1
    rw [Nat.gcd_eq_left h2, Nat.div_self hm]
  · intro h
    have h1 : m = Nat.gcd m (b ^ k) := by
      have := Nat.div_mul_cancel (Nat.gcd_dvd_left m (b ^ k))
      rw [h, Nat.one_mul] at this
      exact this.symm
    have h2 : m ∣ b ^ k := by
      rw [h1]
      exact Nat.gcd_dvd_right _ _
    exact Nat.mod_eq_zero_of_dvd (Nat.dvd_trans h2 (Nat.dvd_mul_left _ _))
/-- the lengths of the bottom m -/
structure LenAt (b m s l : Nat) : Prop where
  more : ∀ j, j < s → 1 < Nat.gcd (lft b m j) b
  done : Nat.gcd (lft b m s) b = 1
  one : lft b m s = 1 → l = 0
  ring : lft b m s ≠ 1 → 0 < l ∧ b ^ l % lft b m s = 1 ∧ ∀ n, 0 < n → n < l → b ^ n % lft b m s ≠ 1
theorem pow_one_iff {b q n : Nat} (hb : 0 < b) (hq : 1 < q) : b ^ n % q = 1 ↔ q ∣ b ^ n - 1 := by
  have h1 : 1 ≤ b ^ n := Nat.pow_pos hb
  rw [← mod_eq_iff h1, Nat.mod_eq_of_lt hq]
  exact eq_comm
theorem co_of_pow {b q n : Nat} (hb : 0 < b) (hn : 0 < n) (h : q ∣ b ^ n - 1) : Nat.gcd q b = 1 := by
  have h1 : Nat.gcd q b ∣ b ^ n - 1 := Nat.dvd_trans (Nat.gcd_dvd_left _ _) h
  have h2 : Nat.gcd q b ∣ b ^ n := Nat.dvd_trans (Nat.gcd_dvd_right q b) (by obtain ⟨k, rfl⟩ : ∃ k, n = k + 1 := ⟨n - 1, by omega⟩; rw [Nat.pow_succ]; exact Nat.dvd_mul_left b (b ^ k))
  have h3 : 1 ≤ b ^ n := Nat.pow_pos hb
  have h4 : Nat.gcd q b ∣ b ^ n - (b ^ n - 1) := Nat.dvd_sub h2 h1
  rw [show b ^ n - (b ^ n - 1) = 1 by omega] at h4
  exact Nat.dvd_one.mp h4
theorem LenAt.div {b m r s l : Nat} (h : LenAt b m s l) (hb : 0 < b) (hm : 0 < m) (hr : Nat.Coprime r m) : DivAt b m r s l := by
  have hst := lft_stay hm h.done
  have hz : ∀ k, k < s + l → lft b m k ≠ 1 := fun k hk e => by
    by_cases hks : k < s
    · have := h.more k hks
      rw [e, Nat.gcd_one_left] at this
      omega
    · have e2 := hst (k - s)
      rw [show s + (k - s) = k by omega, e] at e2
      have := h.one e2.symm
      omega
  refine ⟨fun k hk e => hz k hk ((rs_zero_iff hm hr).mp e), fun j k hjk hk e => ?_, fun hl => ?_, fun hl => ?_⟩
  · rw [show k = j + (k - j) by omega, rs_eq_iff hb hm hr] at e
    have hco := co_of_pow hb (show 0 < k - j by omega) e
    by_cases hjs : j < s
    · have := h.more j hjs
      omega
    · have e2 := hst (j - s)
      rw [show s + (j - s) = j by omega] at e2
      rw [e2] at e
      have h1 : lft b m s ≠ 1 := fun z => by
        have := h.one z
        omega
      have hq : 1 < lft b m s := by
        have := lft_pos (b := b) (k := s) hm
        omega
      exact (h.ring h1).2.2 (k - j) (by omega) (by omega) ((pow_one_iff hb hq).mpr e)
  · refine (rs_zero_iff hm hr).mpr ?_
    by_cases h1 : lft b m s = 1
    · exact h1
    · have := (h.ring h1).1
      omega
  · have h1 : lft b m s ≠ 1 := fun z => by
      have := h.one z
      omega
    have hq : 1 < lft b m s := by
      have := lft_pos (b := b) (k := s) hm
      omega
    exact ((rs_eq_iff hb hm hr).mpr ((pow_one_iff hb hq).mp (h.ring h1).2.1)).symm
theorem lft_dec {b m k : Nat} (hm : 0 < m) (h : 1 < Nat.gcd (lft b m k) b) : lft b m (k + 1) < lft b m k := by
  rw [lft_succ hm]
  exact Nat.div_lt_self (lft_pos hm) h
theorem done_exists {b m : Nat} (hm : 0 < m) : ∃ s, s ≤ m ∧ Nat.gcd (lft b m s) b = 1 ∧ ∀ j, j < s → 1 < Nat.gcd (lft b m j) b := by
  have key : ∀ k, (∀ j, j < k → 1 < Nat.gcd (lft b m j) b) → lft b m k + k ≤ m := fun k => by
    induction k with
    | zero => intro _; rw [lft_zero]; omega
    | succ k ih =>
      intro h
      have h1 := ih fun j hj => h j (by omega)
      have h2 := lft_dec hm (h k (by omega))
      omega
  have ge1 : ∀ j, 1 ≤ Nat.gcd (lft b m j) b := fun j => Nat.gcd_pos_of_pos_left _ (lft_pos hm)
  by_cases q : ∃ j, j ≤ m ∧ Nat.gcd (lft b m j) b = 1
  · obtain ⟨j, hj, e⟩ := q
    obtain ⟨k, hk, pk, lk⟩ := exists_least (fun j => Nat.gcd (lft b m j) b = 1) j e
    exact ⟨k, by omega, pk, fun j hj => by have := lk j hj; have := ge1 j; omega⟩
  · have h1 := key (m + 1) fun j hj => by
      have := ge1 j
      have : Nat.gcd (lft b m j) b ≠ 1 := fun e => q ⟨j, by omega, e⟩
      omega
    have := lft_pos (b := b) (k := m + 1) hm
    omega
theorem ord_exists {b q : Nat} (hb : 0 < b) (hq : 1 < q) (hc : Nat.gcd q b = 1) : ∃ l, 0 < l ∧ l ≤ q ∧ b ^ l % q = 1 ∧ ∀ n, 0 < n → n < l → b ^ n % q ≠ 1 := by
  have hq0 : 0 < q := by omega
  have hr : Nat.Coprime 1 q := Nat.coprime_one_left q
  obtain ⟨n, hn, h⟩ := stp_exists (b := b) (r := 1) hq0
  have hlz : lft b q 0 = q := lft_zero b q
  have hst : ∀ i, lft b q i = q := fun i => by
    have := lft_stay (b := b) (s := 0) hq0 (by rw [hlz]; exact hc) i
    rw [Nat.zero_add, hlz] at this
    exact this
  have ex : ∃ k, k ≤ q ∧ 0 < k ∧ b ^ k % q = 1 := by
    rcases h with h | ⟨j, hj, e⟩
    · have := (rs_zero_iff hq0 hr).mp h
      rw [hst] at this
      omega
    · rw [show n = j + (n - j) by omega, rs_eq_iff hb hq0 hr, hst] at e
      exact ⟨n - j, by omega, by omega, (pow_one_iff hb hq).mpr e⟩
  obtain ⟨k, hk, h0, h1⟩ := ex
  obtain ⟨l, hl, ⟨pl0, pl1⟩, ll⟩ := exists_least (fun k => 0 < k ∧ b ^ k % q = 1) k ⟨h0, h1⟩
  exact ⟨l, pl0, by omega, pl1, fun n hn0 hnl e => ll n hnl ⟨hn0, e⟩⟩
theorem lenAt_exists {b m : Nat} (hb : 0 < b) (hm : 0 < m) : ∃ s l, s ≤ m ∧ l ≤ m ∧ LenAt b m s l := by
  obtain ⟨s, hs, hd, hmore⟩ := done_exists (b := b) hm
  by_cases h1 : lft b m s = 1
  · exact ⟨s, 0, hs, by omega, ⟨hmore, hd, fun _ => rfl, fun z => absurd h1 z⟩⟩
  · have hq : 1 < lft b m s := by
      have := lft_pos (b := b) (k := s) hm
      omega
    obtain ⟨l, l0, ll, l1, l2⟩ := ord_exists hb hq hd
    have := lft_le b m s
    exact ⟨s, l, hs, by omega, ⟨hmore, hd, fun z => absurd z h1, fun _ => ⟨l0, l1, l2⟩⟩⟩
theorem co_one (m : Nat) (hm : 0 < m) : Nat.Coprime (1 % m) m := by
  by_cases h : m = 1
  · rw [h]; rfl
  · rw [Nat.mod_eq_of_lt (by omega)]
    exact Nat.coprime_one_left m
end Rf

set_option maxHeartbeats 1000000
namespace Rf
/-! ### a figure further -/
theorem rs_shift (b m r k : Nat) : rs b m (r * b % m) k = rs b m r (k + 1) := by
  unfold rs
  rw [Nat.pow_succ, Nat.mul_mod (r * b % m), Nat.mod_mod, ← Nat.mul_mod, Nat.mul_assoc, Nat.mul_comm b]
theorem dg_shift (b m r k : Nat) : dg b m (r * b % m) k = dg b m r (k + 1) := by
  unfold dg
  rw [rs_shift]
theorem dgs_shift (b m r i n : Nat) : dgs b m (r * b % m) i n = dgs b m r (i + 1) n := by
  unfold dgs
  refine List.map_congr_left fun k _ => ?_
  rw [dg_shift, show i + k + 1 = i + 1 + k by omega]
theorem DivAt.shift1 {b m r s l : Nat} (h : DivAt b m r (s + 1) l) : DivAt b m (r * b % m) s l := by
  refine ⟨fun k hk => ?_, fun j k hjk hk => ?_, fun hl => ?_, fun hl => ?_⟩
  · rw [rs_shift]; exact h.pos (k + 1) (by omega)
  · rw [rs_shift, rs_shift]; exact h.new (j + 1) (k + 1) (by omega) (by omega)
  · rw [rs_shift]; exact h.fin hl
  · rw [rs_shift, rs_shift, show s + l + 1 = s + 1 + l by omega]; exact h.rep hl
theorem DivAt.shift0 {b m r l : Nat} (hm : 0 < m) (h : DivAt b m r 0 l) : DivAt b m (r * b % m) 0 l := by
  by_cases hl : l = 0
  · subst hl
    have h1 := h.nought rfl 1
    refine ⟨fun k hk => by omega, fun j k hjk hk => by omega, fun _ => ?_, fun q => by omega⟩
    rw [rs_shift, Nat.zero_add]
    rw [Nat.zero_add] at h1
    exact h1
  · have hrep := h.rep (by omega)
    rw [Nat.zero_add] at hrep
    have wrap : ∀ k, k < l → rs b m (r * b % m) k = if k + 1 < l then rs b m r (k + 1) else rs b m r 0 := fun k hk => by
      rw [rs_shift]
      split
      · rfl
      · rw [show k + 1 = l by omega, hrep]
    refine ⟨fun k hk => ?_, fun j k hjk hk => ?_, fun q => absurd q hl, fun _ => ?_⟩
    · rw [wrap k (by omega)]
      split
      · exact h.pos _ (by omega)
      · exact h.pos _ (by omega)
    · rw [wrap j (by omega), wrap k (by omega), if_pos (show j + 1 < l by omega)]
      split
      · exact h.new _ _ (by omega) (by omega)
      · exact fun e => h.new 0 (j + 1) (by omega) (by omega) e.symm
    · rw [rs_shift, rs_shift]
      have := h.round (by omega) 1
      rw [Nat.zero_add] at this ⊢
      rw [Nat.zero_add] at this
      exact this
theorem dgs_split (b m r i n k : Nat) : dgs b m r i (n + k) = dgs b m r i n ++ dgs b m r (i + n) k := by
  induction k with
  | zero =>
    have : dgs b m r (i + n) 0 = [] := rfl
    rw [this, List.append_nil, Nat.add_zero]
  | succ k ih => rw [← Nat.add_assoc, dgs_succ, ih, dgs_succ, List.append_assoc, Nat.add_assoc]
theorem dgs_one (b m r i : Nat) : dgs b m r i 1 = [((dg b m r i : Nat) : Int)] := rfl
/-- the ring turned by one -/
theorem ring_turn {b m r l : Nat} (h : DivAt b m r 0 l) (hl : 0 < l) : dgs b m (r * b % m) 0 l = (dgs b m r 0 l).drop 1 ++ (dgs b m r 0 l).take 1 := by
  obtain ⟨k, rfl⟩ : ∃ k, l = k + 1 := ⟨l - 1, by omega⟩
  rw [dgs_shift, dgs_drop _ _ _ _ _ (by omega), dgs_take _ _ _ _ _ (by omega), dgs_one, dgs_succ]
  have hrep := h.rep hl
  rw [Nat.zero_add] at hrep
  have e : dg b m r (0 + 1 + k) = dg b m r 0 := by
    unfold dg
    rw [show 0 + 1 + k = k + 1 by omega, hrep]
  rw [e, Nat.add_sub_cancel, Nat.zero_add]
end Rf

set_option maxRecDepth 100000
set_option maxHeartbeats 4000000
namespace Rf
open PySem PySem.Spec PyProof.Rows L2
/-! ### comprehensions of values that are read off -/
theorem take_snoc {α : Type} {l : List α} {i : Nat} {x : α} (h : l[i]? = some x) : l.take (i + 1) = l.take i ++ [x] := by
  rw [List.take_add_one, h]; rfl
/-- over a list -/
theorem lc_vals {K : PySem.W.Frag} {a D : Addr} {xs : List V} {te : TE} {vs : List Nat} {σ : L2.St} {i : Nat} {H : Hp} {Qd : Hp → Prop} (g : V → V) (hS : SqL K H a xs) (nD : H D = none) (hlen : xs.length < 1000000)
    (hw : ∀ x, wipe ((wipe σ vs).set i (some x)) vs = wipe σ vs)
    (he : ∀ x, x ∈ xs → ∀ H' (Q : VK), Same H H' → (∀ H2, Same H' H2 → Q (g x) H2) → te ((wipe σ vs).set i (some x)) H' Q) (hd : ∀ H', Same H H' → H' D = some (.lst (xs.map g)) → Qd H') :
    ∃ W : Nat → Nat → Hp → Prop, (∃ m, W 0 m (upd H D (.lst []))) ∧ ∀ j m H, W j m H →
      ((Itl K a).stop j H ∧ Qd H) ∨ ((Itl K a).go j H ∧ ∃ Nx : Hp → Prop, (∀ H', Nx H' → ∃ m', m' < m ∧ W (j + 1) m' H') ∧ ∀ x H', (Itl K a).yld j H x H' → gName i x (wipe σ vs) H' fun σ2 H2 => wipe σ2 vs = wipe σ vs ∧ tYes σ2 H2 fun b H3 =>
        if b = true then te σ2 H3 fun y H4 => ∃ acc, H4 D = some (.lst acc) ∧ acc.length < sizeLine ∧ Nx (upd H4 D (.lst (acc ++ [y]))) else Nx H3) := by
  refine lc_list (K := K) (a := a) (xs := xs) (fun j H' => Same H H' ∧ H' D = some (.lst ((xs.take j).map g))) ⟨same_upd nD, upd_same⟩ (fun j H' _ ⟨s, _⟩ => s.seq hS) (fun j x H' hx ⟨s, hD⟩ => ?_) (fun H' ⟨s, hD⟩ => ?_)
  · refine ⟨hw x, ?_⟩
    show te ((wipe σ vs).set i (some x)) H' _
    refine he x (List.mem_of_getElem? hx) H' _ s fun H2 s2 => ⟨_, s2 _ _ hD, ?_, same_new (s.trans s2) nD, ?_⟩
    · rw [List.length_map, List.length_take]
      exact sz100lt (by omega)
    · rw [upd_same, take_snoc hx, List.map_append]
      rfl
  · rw [List.take_length] at hD
    exact hd H' s hD
/-- over range(n) -/
theorem lc_rng {D : Addr} {n : Nat} {te : TE} {vs : List Nat} {σ : L2.St} {i : Nat} {H : Hp} {Qd : Hp → Prop} (g : Nat → V) (nD : H D = none) (hlen : n < 1000000)
    (hw : ∀ x, wipe ((wipe σ vs).set i (some x)) vs = wipe σ vs)
    (he : ∀ k, k < n → ∀ H' (Q : VK), Same H H' → (∀ H2, Same H' H2 → Q (g k) H2) → te ((wipe σ vs).set i (some (.int (k : Int)))) H' Q) (hd : ∀ H', Same H H' → H' D = some (.lst ((List.range n).map g)) → Qd H') :
    ∃ W : Nat → Nat → Hp → Prop, (∃ m, W 0 m (upd H D (.lst []))) ∧ ∀ j m H, W j m H →
      ((Itr 0 n).stop j H ∧ Qd H) ∨ ((Itr 0 n).go j H ∧ ∃ Nx : Hp → Prop, (∀ H', Nx H' → ∃ m', m' < m ∧ W (j + 1) m' H') ∧ ∀ x H', (Itr 0 n).yld j H x H' → gName i x (wipe σ vs) H' fun σ2 H2 => wipe σ2 vs = wipe σ vs ∧ tYes σ2 H2 fun b H3 =>
        if b = true then te σ2 H3 fun y H4 => ∃ acc, H4 D = some (.lst acc) ∧ acc.length < sizeLine ∧ Nx (upd H4 D (.lst (acc ++ [y]))) else Nx H3) := by
  refine lc_range (lo := 0) (n := n) (fun j H' => Same H H' ∧ H' D = some (.lst ((List.range j).map g))) ⟨same_upd nD, upd_same⟩ (fun j H' hj ⟨s, hD⟩ => ?_) (fun H' ⟨s, hD⟩ => hd H' s hD)
  rw [Int.zero_add]
  refine ⟨hw _, ?_⟩
  show te ((wipe σ vs).set i (some (.int (j : Int)))) H' _
  refine he j hj H' _ s fun H2 s2 => ⟨_, s2 _ _ hD, ?_, same_new (s.trans s2) nD, ?_⟩
  · rw [List.length_map, List.length_range]
    exact sz100lt (by omega)
  · rw [upd_same, List.range_succ, List.map_append]
    rfl
/-- over zip of two lists of ints, the two names in the slots i and j -/
theorem lc_zips {K : PySem.W.Frag} {a b D : Addr} {xs ys : List Int} {te : TE} {vs : List Nat} {σ : L2.St} {i j : Nat} {H : Hp} {Qd : Hp → Prop} (g : Int → Int → V) (hS : SqL K H a (xs.map V.int)) (hT : SqL K H b (ys.map V.int)) (hl : xs.length = ys.length) (nD : H D = none) (hlen : xs.length < 1000000)
    (hw : ∀ x y, wipe (((wipe σ vs).set i (some x)).set j (some y)) vs = wipe σ vs)
    (he : ∀ x y, ∀ H' (Q : VK), Q (g x y) H' → te (((wipe σ vs).set i (some (.int x))).set j (some (.int y))) H' Q) (hd : ∀ H', Same H H' → H' D = some (.lst (List.zipWith g xs ys)) → Qd H') :
    ∃ W : Nat → Nat → Hp → Prop, (∃ m, W 0 m (upd H D (.lst []))) ∧ ∀ n m H, W n m H →
      ((Itz K a b).stop n H ∧ Qd H) ∨ ((Itz K a b).go n H ∧ ∃ Nx : Hp → Prop, (∀ H', Nx H' → ∃ m', m' < m ∧ W (n + 1) m' H') ∧ ∀ x H', (Itz K a b).yld n H x H' → gTup K 2 (gCons (gName i) (gCons (gName j) gNil)) x (wipe σ vs) H' fun σ2 H2 => wipe σ2 vs = wipe σ vs ∧ tYes σ2 H2 fun b H3 =>
        if b = true then te σ2 H3 fun y H4 => ∃ acc, H4 D = some (.lst acc) ∧ acc.length < sizeLine ∧ Nx (upd H4 D (.lst (acc ++ [y]))) else Nx H3) := by
  have W := walk_zip (K := K) (a := a) (b := b) (xs := xs.map V.int) (ys := ys.map V.int) (n := xs.length) (by rw [List.length_map, List.length_map, ← hl, Nat.min_self])
  refine lc_it W (fun n H' => Same H H' ∧ H' D = some (.lst (List.zipWith g (xs.take n) (ys.take n)))) ⟨same_upd nD, upd_same⟩ (fun n H' _ ⟨s, _⟩ => ⟨s.seq hS, s.seq hT⟩) (fun n v H1 H' hn ⟨s, hD⟩ hy => ?_) (fun H' ⟨s, hD⟩ => ?_)
  · obtain ⟨T, x, y, rfl, nT, rfl, hx, hy⟩ := hy
    dsimp only at hx hy
    rw [List.getElem?_map] at hx hy
    have hx' : xs[n]? = some xs[n] := List.getElem?_eq_getElem hn
    have hn2 : n < ys.length := by omega
    have hy' : ys[n]? = some ys[n] := List.getElem?_eq_getElem hn2
    rw [hx'] at hx
    rw [hy'] at hy
    have ex : V.int xs[n] = x := Option.some.inj hx
    have ey : V.int ys[n] = y := Option.some.inj hy
    subst ex ey
    refine ⟨T, _, rfl, sqt upd_same, rfl, _, _, rfl, _, _, rfl, rfl, hw _ _, ?_⟩
    show te (((wipe σ vs).set i (some (.int xs[n]))).set j (some (.int ys[n]))) _ _
    have nTD : D ≠ T := ne_of_none hD nT
    refine he _ _ _ _ ⟨_, (upd_ne nTD).trans hD, ?_, same_new (same_new s (s.free nT)) nD, ?_⟩
    · rw [List.length_zipWith, List.length_take, List.length_take]
      exact sz100lt (by omega)
    · rw [upd_same, take_snoc hx', take_snoc hy', List.zipWith_append (by rw [List.length_take, List.length_take]; omega)]
      rfl
  · rw [List.take_length, hl, List.take_length] at hD
    exact hd H' s hD
theorem mem_ints {ns : List Int} {x : V} (h : x ∈ ns.map V.int) : ∃ z, z ∈ ns ∧ x = .int z := by
  obtain ⟨z, hz, e⟩ := List.mem_map.mp h
  exact ⟨z, hz, e.symm⟩
theorem ixN_of {n j : Nat} {z : Int} (e : z = (j : Int)) (h : j < n) : ixN n z = some j := by
  unfold ixN
  rw [e, if_pos (by omega), if_pos (by omega), Int.toNat_natCast]
theorem map_setI (ns : List Int) (j : Nat) (v : Int) : (ns.map V.int).set j (.int v) = (ns.set j v).map V.int := (List.map_set).symm
theorem mem_set {ns : List Int} {j : Nat} {v x : Int} (h : x ∈ ns.set j v) : x = v ∨ x ∈ ns := by
  rcases List.mem_or_eq_of_mem_set h with h | h
  · exact .inr h
  · exact .inl h
/-- figures of a base -/
def Figs (b : Int) (ns : List Int) : Prop := ∀ x, x ∈ ns → 0 ≤ x ∧ x < b
theorem figs_nil {b : Int} : Figs b [] := fun x hx => by cases hx
theorem figs_take {b : Int} {ns : List Int} (h : Figs b ns) (k : Nat) : Figs b (ns.take k) := fun x hx => h x (List.mem_of_mem_take hx)
theorem figs_drop {b : Int} {ns : List Int} (h : Figs b ns) (k : Nat) : Figs b (ns.drop k) := fun x hx => h x (List.mem_of_mem_drop hx)
theorem figs_app {b : Int} {ns ms : List Int} (h : Figs b ns) (h2 : Figs b ms) : Figs b (ns ++ ms) := fun x hx => (List.mem_append.mp hx).elim (h x) (h2 x)
theorem figs_comp {b : Int} {ns : List Int} (h : Figs b ns) : Figs b (ns.map fun x => b - 1 - x) := fun x hx => by
  obtain ⟨z, hz, rfl⟩ := List.mem_map.mp hx
  have := h z hz
  omega
theorem figs_set {b : Int} {ns : List Int} {j : Nat} {v : Int} (h : Figs b ns) (hv : 0 ≤ v ∧ v < b) : Figs b (ns.set j v) := fun x hx => by
  rcases mem_set hx with e | e
  · rw [e]; exact hv
  · exact h x e
theorem figs_const {b v : Int} {ns : List Int} (hv : 0 ≤ v ∧ v < b) : Figs b (ns.map fun _ => v) := fun x hx => by
  obtain ⟨z, _, rfl⟩ := List.mem_map.mp hx
  exact hv
theorem figs_one {b v : Int} (hv : 0 ≤ v ∧ v < b) : Figs b [v] := fun x hx => by rw [List.mem_singleton.mp hx]; exact hv
theorem cut_lit (ns : List Int) (k : Nat) (z : Int) (e : z = (k : Int)) : cutV (ns.map V.int) none (some z) = (ns.take k).map V.int := by rw [e, cut_take, take_map]
theorem cut_litd (ns : List Int) (k : Nat) (z : Int) (e : z = (k : Int)) : cutV (ns.map V.int) (some z) none = (ns.drop k).map V.int := by rw [e, cut_drop, drop_map]
/-- a value's int -/
def iof : V → Int
  | .int z => z
  | _ => 0
theorem map_ints (f : Int → Int) (ns : List Int) : (ns.map V.int).map (fun v => V.int (f (iof v))) = (ns.map f).map V.int := by
  rw [List.map_map, List.map_map]
  rfl
theorem map_same (ns : List Int) : (ns.map V.int).map (fun v => v) = ns.map V.int := List.map_id' _
theorem rep_len {α : Type} (l : List α) : ∀ n : Nat, ((List.replicate n l).flatten).length = n * l.length
  | 0 => by rw [Nat.zero_mul]; rfl
  | n + 1 => by
    rw [List.replicate_succ, List.flatten_cons, List.length_append, rep_len l n, Nat.succ_mul, Nat.add_comm]
theorem figs_rep {b : Int} {ns : List Int} (h : Figs b ns) (n : Nat) : Figs b (List.replicate n ns).flatten := fun x hx => by
  obtain ⟨l, hl, hx⟩ := List.mem_flatten.mp hx
  rw [(List.mem_replicate.mp hl).2] at hx
  exact h x hx
theorem rep_map (ns : List Int) (n : Nat) : (List.replicate n (ns.map V.int)).flatten = ((List.replicate n ns).flatten).map V.int := by
  rw [List.map_flatten, List.map_replicate]
/-- a writing that may be handed in -/
structure WrOk (b : Int) (x : Wr) : Prop where
  w0 : 0 ≤ x.w
  w1 : x.w ≤ 1000000000000
  la : x.a.length ≤ 4000
  lr : x.r.length ≤ 4000
  fa : Figs b x.a
  fr : Figs b x.r
/-! ### pairs of ints as data -/
def dP (x y : Int) : PyData := .tuple [.int x, .int y]
theorem eqv_dP (x y x' y' : Int) : PyData.eqv (dP x y) (dP x' y') = decide (x = x' ∧ y = y') := by
  unfold dP
  rw [PyData.eqv]
  show ((x == x') && ((y == y') && true)) = _
  by_cases h1 : x = x' <;> by_cases h2 : y = y' <;> simp [h1, h2]
theorem shaped_dP (x y : Int) : SeqAt.shaped (dP x y) = true := rfl
theorem dp_dP {K : PySem.W.Frag} {H : Hp} {p : Addr} {x y : Int} (h : H p = some (.tup [.int x, .int y])) : Dp K H (.ref p) (dP x y) := .tup (sqt h) (.cons (.int x) (.cons (.int y) .nil))
theorem tyx_tup {K : PySem.W.Frag} {H : Hp} {p : Addr} {xs : List V} (h : H p = some (.tup xs)) : TyX K H (.ref p) (.type "tuple") := .base (.tup h)
theorem tyx_lst {K : PySem.W.Frag} {H : Hp} {p : Addr} {xs : List V} (h : H p = some (.lst xs)) : TyX K H (.ref p) (.type "list") := .base (.lst h)
end Rf

set_option maxHeartbeats 1000000
namespace Rf
/-! ### what figures tell -/
def numI (b : Int) (ns : List Int) : Int := ns.foldl (fun t f => t * b + f) 0
theorem num_from (b : Int) : ∀ (ns : List Int) (t : Int), ns.foldl (fun t f => t * b + f) t = t * b ^ ns.length + numI b ns
  | [], t => by
    show t = t * b ^ 0 + 0
    rw [Int.pow_zero]; omega
  | f :: ns, t => by
    have h1 := num_from b ns (t * b + f)
    have h2 := num_from b ns (0 * b + f)
    show ns.foldl (fun t f => t * b + f) (t * b + f) = t * b ^ (ns.length + 1) + ns.foldl (fun t f => t * b + f) (0 * b + f)
    rw [h1, h2, Int.pow_succ, Int.add_mul, Int.zero_mul, Int.zero_add, Int.mul_assoc, Int.mul_comm b (b ^ ns.length)]
    omega
theorem num_nil (b : Int) : numI b [] = 0 := rfl
theorem num_snoc (b : Int) (ns : List Int) (f : Int) : numI b (ns ++ [f]) = numI b ns * b + f := by
  unfold numI
  rw [List.foldl_append]
  rfl
theorem num_app (b : Int) (ns ms : List Int) : numI b (ns ++ ms) = numI b ns * b ^ ms.length + numI b ms := by
  have e : numI b (ns ++ ms) = ms.foldl (fun t f => t * b + f) (numI b ns) := by
    unfold numI
    rw [List.foldl_append]
  rw [e, num_from]
theorem num_cons (b f : Int) (ns : List Int) : numI b (f :: ns) = f * b ^ ns.length + numI b ns := by
  have e := num_app b [f] ns
  have e2 : numI b [f] = f := by
    show 0 * b + f = f
    omega
  rw [e2] at e
  exact e
theorem pow_posI {b : Int} (h : 0 < b) (n : Nat) : 0 < b ^ n := Int.pow_pos h
theorem num_ok {b : Int} (hb : 0 < b) : ∀ ns : List Int, (∀ x, x ∈ ns → 0 ≤ x ∧ x < b) → 0 ≤ numI b ns ∧ numI b ns < b ^ ns.length
  | [], _ => by
    show (0 : Int) ≤ 0 ∧ (0 : Int) < b ^ 0
    rw [Int.pow_zero]
    exact ⟨by decide, by decide⟩
  | f :: ns, h => by
    have ih := num_ok hb ns fun x hx => h x (List.mem_cons_of_mem _ hx)
    have hf := h f List.mem_cons_self
    have hp := pow_posI hb ns.length
    rw [num_cons, List.length_cons, Int.pow_succ]
    have h1 : 0 ≤ f * b ^ ns.length := Int.mul_nonneg hf.1 (Int.le_of_lt hp)
    have h2 : f * b ^ ns.length ≤ (b - 1) * b ^ ns.length := Int.mul_le_mul_of_nonneg_right (by omega) (Int.le_of_lt hp)
    have h3 : (b - 1) * b ^ ns.length = b ^ ns.length * b - b ^ ns.length := by rw [Int.sub_mul, Int.mul_comm, Int.one_mul]
    omega
theorem pow_ge1 {b : Int} (hb : 0 < b) (n : Nat) : 1 ≤ b ^ n := by
  have := pow_posI hb n
  omega
theorem pow_ge2 {b : Int} (hb : 2 ≤ b) {n : Nat} (hn : 0 < n) : 2 ≤ b ^ n := by
  obtain ⟨k, rfl⟩ : ∃ k, n = k + 1 := ⟨n - 1, by omega⟩
  rw [Int.pow_succ]
  have h1 := pow_ge1 (b := b) (by omega) k
  have h2 : 1 * b ≤ b ^ k * b := Int.mul_le_mul_of_nonneg_right h1 (by omega)
  omega
/-- a power of a base is below a power of two -/
theorem pow_lt2 {b : Int} (h0 : 0 ≤ b) (hb : b ≤ 64) (n : Nat) : b ^ n ≤ 2 ^ (6 * n) := by
  induction n with
  | zero => rw [Int.pow_zero, Nat.mul_zero, Int.pow_zero]; exact Int.le_refl _
  | succ n ih =>
    rw [Int.pow_succ, Nat.mul_succ, Int.pow_add]
    have h1 : (0 : Int) ≤ 2 ^ (6 * n) := Int.le_of_lt (Int.pow_pos (by decide))
    exact Int.mul_le_mul ih (by exact hb) h0 h1
/-! ### worths -/
def low (x y : Int) : Int × Int := (x / ((Nat.gcd x.toNat y.toNat : Nat) : Int), y / ((Nat.gcd x.toNat y.toNat : Nat) : Int))
/-- top and bottom of a writing -/
def wT (b w : Int) (a r : List Int) : Int := if r = [] then w * b ^ a.length + numI b a else (w * b ^ a.length + numI b a) * (b ^ r.length - 1) + numI b r
def wB (b : Int) (a r : List Int) : Int := if r = [] then b ^ a.length else b ^ a.length * (b ^ r.length - 1)
theorem wT_nn {b w : Int} {a r : List Int} (hb : 2 ≤ b) (hw : 0 ≤ w) (ha : ∀ x, x ∈ a → 0 ≤ x ∧ x < b) (hr : ∀ x, x ∈ r → 0 ≤ x ∧ x < b) : 0 ≤ wT b w a r := by
  have h1 := (num_ok (by omega) a ha).1
  have h2 := (num_ok (by omega) r hr).1
  have h3 : 0 ≤ w * b ^ a.length := Int.mul_nonneg hw (Int.le_of_lt (pow_posI (by omega) _))
  unfold wT
  split
  · omega
  · have h4 : 0 ≤ (w * b ^ a.length + numI b a) * (b ^ r.length - 1) := Int.mul_nonneg (by omega) (by have := pow_ge1 (b := b) (by omega) r.length; omega)
    omega
theorem wB_pos {b : Int} {a r : List Int} (hb : 2 ≤ b) : 0 < wB b a r := by
  unfold wB
  have h1 := pow_posI (b := b) (by omega) a.length
  split
  · exact h1
  · rename_i h
    have h2 := pow_ge2 hb (n := r.length) (List.length_pos_iff.mpr h)
    exact Int.mul_pos h1 (by omega)
end Rf

set_option maxRecDepth 100000
set_option maxHeartbeats 4000000
namespace Rf
open PySem PySem.Spec PyProof.Rows L2
/-! ### sizes of great numbers -/
theorem nabs_lt {i : Int} {m : Nat} (h0 : 0 ≤ i) (h : i < 2 ^ m) : i.natAbs < 2 ^ m := by
  have e : ((i.natAbs : Nat) : Int) = i := Int.natAbs_of_nonneg h0
  have e2 : (((2 ^ m : Nat)) : Int) = (2 : Int) ^ m := by rw [Int.natCast_pow]; rfl
  omega
theorem mulOk_of {i j : Int} {m n : Nat} (hi : 0 ≤ i) (hi2 : i < 2 ^ m) (hj : 0 ≤ j) (hj2 : j < 2 ^ n) (hm : 0 < m) (hn : 0 < n) (h : m + n ≤ 1000000) : IntMulOk i j := (wide_mul (nabs_lt hi hi2) (nabs_lt hj hj2) hm hn h).ok
theorem pow_mono2 {m n : Nat} (h : m ≤ n) : (2 : Int) ^ m ≤ 2 ^ n := by
  obtain ⟨k, rfl⟩ : ∃ k, n = m + k := ⟨n - m, by omega⟩
  rw [Int.pow_add]
  have h1 : (1 : Int) ≤ 2 ^ k := pow_ge1 (by decide) k
  have h2 : (0 : Int) ≤ 2 ^ m := Int.le_of_lt (Int.pow_pos (by decide))
  have h3 : (2 : Int) ^ m * 1 ≤ 2 ^ m * 2 ^ k := Int.mul_le_mul_of_nonneg_left h1 h2
  omega
theorem pow_ltb {b : Int} (h0 : 0 ≤ b) (hb : b ≤ 64) {n N : Nat} (h : n ≤ N) : b ^ n < 2 ^ (6 * N + 1) := by
  have h1 := pow_lt2 h0 hb n
  have h2 := pow_mono2 (show 6 * n ≤ 6 * N by omega)
  have h3 : (0 : Int) < 2 ^ (6 * N) := Int.pow_pos (by decide)
  rw [Int.pow_succ]
  omega
/-- the whole number and the figures ahead, as one number -/
theorem head_lt {b w : Int} {a : List Int} (hb : 2 ≤ b) (hb2 : b ≤ 36) (h0 : 0 ≤ w) (h1 : w ≤ 1000000000000) (la : a.length ≤ 4000) (fa : Figs b a) : 0 ≤ w * b ^ a.length + numI b a ∧ w * b ^ a.length + numI b a < 2 ^ 24041 := by
  have h2 := num_ok (by omega) a fa
  have h3 := pow_posI (b := b) (by omega) a.length
  have h4 : 0 ≤ w * b ^ a.length := Int.mul_nonneg h0 (Int.le_of_lt h3)
  have h5 : w * b ^ a.length + numI b a < (w + 1) * b ^ a.length := by rw [Int.add_mul, Int.one_mul]; omega
  have h6 := pow_lt2 (b := b) (by omega) (by omega) a.length
  have h40 : (2 : Int) ^ 40 = 1099511627776 := by decide
  have h7 : (w + 1) * b ^ a.length ≤ 2 ^ 40 * 2 ^ (6 * a.length) := Int.mul_le_mul (by omega) h6 (Int.le_of_lt h3) (by decide)
  rw [← Int.pow_add] at h7
  have h8 := pow_mono2 (show 40 + 6 * a.length ≤ 24041 by omega)
  omega
/-- what is asked of the divisions of a fraction taken to lowest terms -/
def LowOk (x y : Int) : Prop := CDivP x ((Nat.gcd x.toNat y.toNat : Nat) : Int) ∧ CDivP y ((Nat.gcd x.toNat y.toNat : Nat) : Int)
theorem lowOk_wide {x y : Int} (hy : 0 < y) (hw : Wid y.toNat) : LowOk x y := by
  have hg : 0 < Nat.gcd x.toNat y.toNat := Nat.gcd_pos_of_pos_right _ (by omega)
  have hl : Nat.gcd x.toNat y.toNat ≤ y.toNat := Nat.gcd_le_right _ (by omega)
  have hw2 : Wid (Nat.gcd x.toNat y.toNat) := by
    refine ⟨?_⟩
    have h1 := hw.lt
    have h2 : (Nat.gcd x.toNat y.toNat).log2 ≤ y.toNat.log2 := by
      rcases Nat.lt_or_ge y.toNat.log2 (Nat.gcd x.toNat y.toNat).log2 with q | q
      · have h3 := (Nat.log2_lt (by omega)).mp q
        have h4 := Nat.log2_self_le (n := Nat.gcd x.toNat y.toNat) (by omega)
        omega
      · exact q
    omega
  exact ⟨cdivp_wide hg hw2, cdivp_wide hg hw2⟩
/-- a writing of at most 124 figures ahead and 138 in the ring -/
theorem lowOk_wr {b w : Int} {a r : List Int} (hb : 2 ≤ b) (hb2 : b ≤ 36) (la : a.length ≤ 124) (lr : r.length ≤ 1200) : LowOk (wT b w a r) (wB b a r) := by
  have hp := wB_pos (a := a) (r := r) hb
  refine lowOk_wide hp (wid_of (k := 8000) ?_ (by decide) (by decide))
  have h1 := pow_lt2 (b := b) (by omega) (by omega) a.length
  have h2 := pow_lt2 (b := b) (by omega) (by omega) r.length
  have h3 := pow_posI (b := b) (by omega) a.length
  have h4 := pow_ge1 (b := b) (by omega) r.length
  have h5 : wB b a r ≤ 2 ^ (6 * a.length) * 2 ^ (6 * r.length) := by
    have h6 : b ^ a.length * b ^ r.length ≤ 2 ^ (6 * a.length) * 2 ^ (6 * r.length) := Int.mul_le_mul h1 h2 (by omega) (Int.le_of_lt (Int.pow_pos (by decide)))
    have h7 : b ^ a.length * 1 ≤ b ^ a.length * b ^ r.length := Int.mul_le_mul_of_nonneg_left h4 (Int.le_of_lt h3)
    unfold wB
    split
    · omega
    · rw [Int.mul_sub]; omega
  rw [← Int.pow_add] at h5
  have h8 := pow_mono2 (show 6 * a.length + 6 * r.length ≤ 7999 by omega)
  have h9 : (2 : Int) ^ 7999 < 2 ^ 8000 := by
    have e : (2 : Int) ^ (7999 + 1) = 2 ^ 7999 * 2 := Int.pow_succ 2 7999
    have e2 : (0 : Int) < 2 ^ 7999 := Int.pow_pos (by decide)
    rw [show (8000 : Nat) = 7999 + 1 from rfl, e]
    omega
  have h10 := nabs_lt (Int.le_of_lt hp) (show wB b a r < 2 ^ 8000 by omega)
  have e3 : (wB b a r).toNat = (wB b a r).natAbs := by omega
  rw [e3]
  exact h10
end Rf

set_option maxHeartbeats 1000000
namespace Rf
/-! ### rings turned -/
def Dig (b : Int) (ns : List Int) : Prop := ∀ x, x ∈ ns → 0 ≤ x ∧ x < b
def rotl (r : List Int) (i : Nat) : List Int := r.drop i ++ r.take i
/-- the ring's figures, for ever -/
def rf (r : List Int) (i : Nat) : Int := r.getD (i % r.length) 0
theorem rf_get {r : List Int} {i : Nat} (h : i < r.length) : r[i]? = some (rf r i) := by
  unfold rf
  rw [Nat.mod_eq_of_lt h, List.getD_eq_getElem?_getD, List.getElem?_eq_getElem h]
  rfl
theorem rf_len (r : List Int) (i : Nat) : rf r (i + r.length) = rf r i := by
  unfold rf
  rw [Nat.add_mod_right]
theorem rf_mod (r : List Int) (i : Nat) : rf r (i % r.length) = rf r i := by
  unfold rf
  rw [Nat.mod_mod]
theorem rf_mem {r : List Int} (h : 0 < r.length) (i : Nat) : rf r i ∈ r := by
  have h1 := rf_get (r := r) (i := i % r.length) (Nat.mod_lt _ h)
  rw [rf_mod] at h1
  exact List.mem_of_getElem? h1
theorem rotl_len (r : List Int) (i : Nat) : (rotl r i).length = r.length := by
  unfold rotl
  rw [List.length_append, List.length_drop, List.length_take]
  omega
theorem rotl_get {r : List Int} {i j : Nat} (hi : i ≤ r.length) (hj : j < r.length) : (rotl r i)[j]? = some (rf r (i + j)) := by
  unfold rotl
  by_cases h : i + j < r.length
  · rw [List.getElem?_append_left (by rw [List.length_drop]; omega), List.getElem?_drop, rf_get h]
  · rw [List.getElem?_append_right (by rw [List.length_drop]; omega), List.length_drop, List.getElem?_take_of_lt (by omega)]
    rw [rf_get (show j - (r.length - i) < r.length by omega)]
    have e : rf r (i + j) = rf r (j - (r.length - i)) := by
      rw [show i + j = (j - (r.length - i)) + r.length by omega, rf_len]
    rw [e]
theorem rotl_eq {r : List Int} {i j : Nat} (hi : i ≤ r.length) (hj : j ≤ r.length) : rotl r i = rotl r j ↔ ∀ k, rf r (i + k) = rf r (j + k) := by
  constructor
  · intro h k
    by_cases hl : r.length = 0
    · have : r = [] := List.eq_nil_of_length_eq_zero hl
      subst this
      rfl
    · have h1 := rotl_get hi (Nat.mod_lt k (show 0 < r.length by omega))
      have h2 := rotl_get hj (Nat.mod_lt k (show 0 < r.length by omega))
      rw [h, h2] at h1
      have h3 := Option.some.inj h1
      have e1 : rf r (i + k) = rf r (i + k % r.length) := by
        rw [← rf_mod r (i + k), ← rf_mod r (i + k % r.length), Nat.add_mod_mod]
      have e2 : rf r (j + k) = rf r (j + k % r.length) := by
        rw [← rf_mod r (j + k), ← rf_mod r (j + k % r.length), Nat.add_mod_mod]
      rw [e1, e2, h3]
  · intro h
    apply List.ext_getElem?
    intro k
    by_cases hk : k < r.length
    · rw [rotl_get hi hk, rotl_get hj hk, h k]
    · rw [List.getElem?_eq_none (by rw [rotl_len]; omega), List.getElem?_eq_none (by rw [rotl_len]; omega)]
theorem rotl_zero (r : List Int) : rotl r 0 = r := by
  unfold rotl
  rw [List.drop_zero, List.take_zero, List.append_nil]
theorem rotl_all (r : List Int) : rotl r r.length = r := by
  unfold rotl
  rw [List.drop_length, List.take_length, List.nil_append]
theorem per_iff {r : List Int} {d : Nat} (hd : d ≤ r.length) : rotl r d = r ↔ ∀ k, rf r (d + k) = rf r k := by
  have h := rotl_eq (r := r) (i := d) (j := 0) hd (Nat.zero_le _)
  rw [rotl_zero] at h
  rw [h]
  constructor
  · intro q k
    have := q k
    rw [Nat.zero_add] at this
    exact this
  · intro q k
    rw [Nat.zero_add]
    exact q k
theorem per_mul {f : Nat → Int} {d : Nat} (h : ∀ k, f (d + k) = f k) : ∀ n k, f (d * n + k) = f k
  | 0, k => by rw [Nat.mul_zero, Nat.zero_add]
  | n + 1, k => by rw [Nat.mul_succ, Nat.add_right_comm, Nat.add_comm (d * n + k) d, h, per_mul h n k]
theorem per_mod {f : Nat → Int} {d : Nat} (h : ∀ k, f (d + k) = f k) (k : Nat) : f (k % d) = f k := by
  have e := per_mul h (k / d) (k % d)
  rw [Nat.div_add_mod] at e
  exact e.symm
theorem per_gcd {f : Nat → Int} : ∀ (m n : Nat), (∀ k, f (m + k) = f k) → (∀ k, f (n + k) = f k) → ∀ k, f (Nat.gcd m n + k) = f k := fun m => by
  induction m using Nat.strongRecOn with
  | _ m ih =>
    intro n hm hn
    by_cases h0 : m = 0
    · subst h0
      rw [Nat.gcd_zero_left]
      exact hn
    · rw [Nat.gcd_rec]
      refine ih (n % m) (Nat.mod_lt _ (by omega)) m (fun k => ?_) hm
      have e := per_mul hm (n / m) (n % m + k)
      rw [← Nat.add_assoc, Nat.div_add_mod, hn] at e
      exact e.symm
/-- no shorter ring within -/
def Prim (r : List Int) : Prop := ∀ d, 0 < d → d < r.length → r.length % d = 0 → rotl r d ≠ r
theorem Prim.any {r : List Int} (h : Prim r) {d : Nat} (h0 : 0 < d) (hl : d < r.length) : rotl r d ≠ r := fun e => by
  have h1 := (per_iff (Nat.le_of_lt hl)).mp e
  have h2 : ∀ k, rf r (r.length + k) = rf r k := fun k => by rw [Nat.add_comm, rf_len]
  have h3 := per_gcd d r.length h1 h2
  have hg0 : 0 < Nat.gcd d r.length := Nat.gcd_pos_of_pos_left _ h0
  have hgd : Nat.gcd d r.length ≤ d := Nat.gcd_le_left _ h0
  exact h (Nat.gcd d r.length) hg0 (by omega) (Nat.mod_eq_zero_of_dvd (Nat.gcd_dvd_right _ _)) ((per_iff (by omega)).mpr h3)
theorem Prim.turns {r : List Int} (h : Prim r) {i j : Nat} (hij : i < j) (hj : j < r.length) : rotl r i ≠ rotl r j := fun e => by
  have h1 := (rotl_eq (by omega) (by omega)).mp e
  refine h.any (d := j - i) (by omega) (by omega) ((per_iff (by omega)).mpr fun k => ?_)
  have h2 := h1 (k + (r.length - i))
  rw [show i + (k + (r.length - i)) = k + r.length by omega, show j + (k + (r.length - i)) = j - i + k + r.length by omega, rf_len, rf_len] at h2
  exact h2.symm
/-! ### numbers of turned rings -/
theorem num_inj {b : Int} (hb : 0 < b) : ∀ (xs ys : List Int), xs.length = ys.length → Dig b xs → Dig b ys → numI b xs = numI b ys → xs = ys
  | [], [], _, _, _, _ => rfl
  | x :: xs, y :: ys, hl, hx, hy, e => by
    have hl' : xs.length = ys.length := by simpa using hl
    have h1 := num_ok hb xs fun z hz => hx z (List.mem_cons_of_mem _ hz)
    have h2 := num_ok hb ys fun z hz => hy z (List.mem_cons_of_mem _ hz)
    rw [num_cons, num_cons, hl'] at e
    rw [hl'] at h1
    have hp := pow_posI hb ys.length
    have exy : x = y := by
      have q1 : x = (x * b ^ ys.length + numI b xs) / b ^ ys.length := by
        rw [Int.add_comm, Int.add_mul_ediv_right _ _ (by omega), Int.ediv_eq_zero_of_lt h1.1 h1.2, Int.zero_add]
      have q2 : y = (y * b ^ ys.length + numI b ys) / b ^ ys.length := by
        rw [Int.add_comm, Int.add_mul_ediv_right _ _ (by omega), Int.ediv_eq_zero_of_lt h2.1 h2.2, Int.zero_add]
      rw [q1, q2, e]
    subst exy
    rw [num_inj hb xs ys hl' (fun z hz => hx z (List.mem_cons_of_mem _ hz)) (fun z hz => hy z (List.mem_cons_of_mem _ hz)) (by omega)]
theorem dig_rotl {b : Int} {r : List Int} (h : Dig b r) (i : Nat) : Dig b (rotl r i) := fun x hx => by
  unfold rotl at hx
  rcases List.mem_append.mp hx with q | q
  · exact h x (List.mem_of_mem_drop q)
  · exact h x (List.mem_of_mem_take q)
theorem rotl_succ {r : List Int} {i : Nat} (hi : i < r.length) : ∃ q, rotl r i = rf r i :: q ∧ rotl r (i + 1) = q ++ [rf r i] := by
  refine ⟨r.drop (i + 1) ++ r.take i, ?_, ?_⟩
  · unfold rotl
    have h1 := rf_get hi
    have h2 : r.drop i = rf r i :: r.drop (i + 1) := by
      rw [List.drop_eq_getElem_cons hi]
      congr 1
      rw [List.getElem?_eq_getElem hi] at h1
      exact Option.some.inj h1
    rw [h2]
    rfl
  · unfold rotl
    rw [List.take_add_one, rf_get hi, List.append_assoc]
    rfl
theorem num_turn {b : Int} {r : List Int} {i : Nat} (hi : i < r.length) : b * numI b (rotl r i) = rf r i * (b ^ r.length - 1) + numI b (rotl r (i + 1)) := by
  obtain ⟨q, h1, h2⟩ := rotl_succ hi
  have hl : q.length + 1 = r.length := by
    have := rotl_len r i
    rw [h1] at this
    exact this
  rw [h1, h2, num_cons, num_snoc, ← hl, Int.pow_succ, Int.mul_add, Int.mul_sub, Int.mul_one, Int.mul_comm b (numI b q), Int.mul_comm b (rf r i * b ^ q.length), Int.mul_assoc]
  omega
end Rf

set_option maxHeartbeats 1000000
namespace Rf
/-! ### a plain writing is what division tells -/
/-- plain, by the document's words: figures ahead a, ring r -/
structure PlainW (b : Int) (a r : List Int) : Prop where
  nz : r ≠ [] → ∃ x, x ∈ r ∧ x ≠ 0
  ng : r ≠ [] → ∃ x, x ∈ r ∧ x ≠ b - 1
  prim : Prim r
  last : ∀ x y, a.getLast? = some x → r.getLast? = some y → x ≠ y
  end0 : r = [] → ∀ x, a.getLast? = some x → x ≠ 0
/-- the ring's greatest number, 1 where there is none -/
def rM (b : Int) (r : List Int) : Int := if r = [] then 1 else b ^ r.length - 1
theorem wT_eq (b w : Int) (a r : List Int) : wT b w a r = w * wB b a r + (numI b a * rM b r + numI b r) := by
  unfold wT wB rM
  split
  · rename_i h
    subst h
    rw [num_nil]; omega
  · rw [Int.add_mul, Int.mul_assoc]; omega
theorem wB_eq (b : Int) (a r : List Int) : wB b a r = b ^ a.length * rM b r := by
  unfold wB rM
  split
  · rw [Int.mul_one]
  · rfl
theorem rM_pos {b : Int} (hb : 2 ≤ b) (r : List Int) : 0 < rM b r := by
  unfold rM
  split
  · decide
  · rename_i h
    have := pow_ge2 hb (n := r.length) (List.length_pos_iff.mpr h)
    omega
/-- all figures the greatest one -/
theorem num_all {b : Int} (hb : 2 ≤ b) : ∀ ns : List Int, Dig b ns → (∃ x, x ∈ ns ∧ x ≠ b - 1) → numI b ns < b ^ ns.length - 1
  | [], _, ⟨x, hx, _⟩ => by cases hx
  | f :: ns, h, ⟨x, hx, hne⟩ => by
    have hf := h f List.mem_cons_self
    have hd : Dig b ns := fun z hz => h z (List.mem_cons_of_mem _ hz)
    have h1 := num_ok (by omega) ns hd
    have hp := pow_posI (b := b) (by omega) ns.length
    rw [num_cons, List.length_cons, Int.pow_succ]
    by_cases hfb : f = b - 1
    · have hx' : x ∈ ns := by
        rcases List.mem_cons.mp hx with q | q
        · exact absurd (q.trans hfb) hne
        · exact q
      have ih := num_all hb ns hd ⟨x, hx', hne⟩
      rw [hfb, Int.sub_mul, Int.one_mul, Int.mul_comm b]
      omega
    · have h2 : f * b ^ ns.length ≤ (b - 2) * b ^ ns.length := Int.mul_le_mul_of_nonneg_right (by omega) (Int.le_of_lt hp)
      have h3 : (b - 2) * b ^ ns.length = b ^ ns.length * b - 2 * b ^ ns.length := by rw [Int.sub_mul, Int.mul_comm b]
      omega
theorem num_pos {b : Int} (hb : 2 ≤ b) : ∀ ns : List Int, Dig b ns → (∃ x, x ∈ ns ∧ x ≠ 0) → 0 < numI b ns
  | [], _, ⟨x, hx, _⟩ => by cases hx
  | f :: ns, h, ⟨x, hx, hne⟩ => by
    have hf := h f List.mem_cons_self
    have hd : Dig b ns := fun z hz => h z (List.mem_cons_of_mem _ hz)
    have h1 := num_ok (by omega) ns hd
    have hp := pow_posI (b := b) (by omega) ns.length
    rw [num_cons]
    by_cases hf0 : f = 0
    · have hx' : x ∈ ns := by
        rcases List.mem_cons.mp hx with q | q
        · exact absurd (q.trans hf0) hne
        · exact q
      have ih := num_pos hb ns hd ⟨x, hx', hne⟩
      rw [hf0]
      omega
    · have h2 : 0 < f * b ^ ns.length := Int.mul_pos (by omega) hp
      omega
/-- what is left behind k figures of a writing, over its own bottom -/
def tail (b : Int) (a r : List Int) (k : Nat) : Int := if k ≤ a.length then (numI b (a.drop k) * rM b r + numI b r) * b ^ k else numI b (rotl r ((k - a.length) % r.length)) * b ^ a.length
/-- the k-th figure of a writing -/
def fig (a r : List Int) (k : Nat) : Int := if k < a.length then a.getD k 0 else rf r (k - a.length)
theorem num_lt_rM {b : Int} (hb : 2 ≤ b) {r : List Int} (hd : Dig b r) (hg : r ≠ [] → ∃ x, x ∈ r ∧ x ≠ b - 1) : 0 ≤ numI b r ∧ numI b r < rM b r := by
  unfold rM
  split
  · rename_i h; subst h; rw [num_nil]; exact ⟨by decide, by decide⟩
  · rename_i h; exact ⟨(num_ok (by omega) r hd).1, num_all hb r hd (hg h)⟩
theorem rotl_mem {r : List Int} {i : Nat} {x : Int} (h : x ∈ r) : x ∈ rotl r i := by
  unfold rotl
  rw [← List.take_append_drop i r] at h
  rcases List.mem_append.mp h with q | q
  · exact List.mem_append_right _ q
  · exact List.mem_append_left _ q
theorem tail_step {b : Int} (hb : 2 ≤ b) {a r : List Int} (k : Nat) (hk : k < a.length ∨ r ≠ []) : b * tail b a r k = fig a r k * wB b a r + tail b a r (k + 1) := by
  unfold tail fig
  rw [wB_eq]
  by_cases h1 : k < a.length
  · rw [if_pos (Nat.le_of_lt h1), if_pos h1, if_pos (show k + 1 ≤ a.length by omega)]
    have e1 : a.drop k = a.getD k 0 :: a.drop (k + 1) := by
      rw [List.drop_eq_getElem_cons h1, List.getD_eq_getElem?_getD, List.getElem?_eq_getElem h1]
      rfl
    have e2 : (a.drop (k + 1)).length + 1 + k = a.length := by rw [List.length_drop]; omega
    rw [e1, num_cons, ← e2]
    generalize a.getD k 0 = x
    generalize numI b (a.drop (k + 1)) = N
    generalize (a.drop (k + 1)).length = L
    generalize numI b r = R
    generalize rM b r = M
    have e3 : b ^ (L + 1 + k) = b ^ L * b * b ^ k := by rw [Int.pow_add, Int.pow_succ]
    have e4 : b ^ (k + 1) = b ^ k * b := Int.pow_succ b k
    rw [e3, e4]
    generalize b ^ L = P
    generalize b ^ k = S
    have q1 : b * (((x * P + N) * M + R) * S) = (x * P * M) * S * b + (N * M + R) * S * b := by
      rw [Int.mul_comm b, ← Int.add_mul, ← Int.add_mul, Int.add_mul (x * P) N M, Int.add_assoc]
    have q2 : x * (P * b * S * M) = (x * P * M) * S * b := by
      simp only [Int.mul_assoc, Int.mul_comm, Int.mul_left_comm]
    rw [q1, q2, ← Int.mul_assoc (N * M + R) S b]
  · rw [if_neg h1, if_neg (show ¬ k + 1 ≤ a.length by omega)]
    have hne : r ≠ [] := by
      rcases hk with q | q
      · exact absurd q h1
      · exact q
    have hl : 0 < r.length := List.length_pos_iff.mpr hne
    have hM : rM b r = b ^ r.length - 1 := if_neg hne
    have e0 : (if k ≤ a.length then (numI b (a.drop k) * rM b r + numI b r) * b ^ k else numI b (rotl r ((k - a.length) % r.length)) * b ^ a.length) = numI b (rotl r ((k - a.length) % r.length)) * b ^ a.length := by
      by_cases h2 : k ≤ a.length
      · have h3 : k = a.length := by omega
        subst h3
        rw [if_pos (Nat.le_refl _), List.drop_length, num_nil, Int.zero_mul, Int.zero_add, Nat.sub_self, Nat.zero_mod, rotl_zero]
      · rw [if_neg h2]
    rw [e0]
    have hi : (k - a.length) % r.length < r.length := Nat.mod_lt _ hl
    have t1 := num_turn (b := b) hi
    rw [rf_mod] at t1
    have t2 : rotl r ((k - a.length) % r.length + 1) = rotl r ((k + 1 - a.length) % r.length) := by
      by_cases h3 : (k - a.length) % r.length + 1 < r.length
      · congr 1
        rw [show k + 1 - a.length = k - a.length + 1 by omega, Nat.add_mod]
        by_cases h4 : r.length = 1
        · omega
        · rw [Nat.mod_eq_of_lt (show 1 < r.length by omega), Nat.mod_eq_of_lt h3]
      · have h4 : (k - a.length) % r.length + 1 = r.length := by omega
        rw [h4, rotl_all]
        have h5 : (k + 1 - a.length) % r.length = 0 := by
          rw [show k + 1 - a.length = k - a.length + 1 by omega, ← Nat.mod_add_mod, h4, Nat.mod_self]
        rw [h5, rotl_zero]
    rw [t2] at t1
    rw [hM, ← Int.mul_assoc, t1, Int.add_mul]
    congr 1
    rw [Int.mul_assoc, Int.mul_comm (b ^ r.length - 1)]
end Rf

set_option maxHeartbeats 1000000
namespace Rf
theorem rotl_nil_iff {r : List Int} {i : Nat} : rotl r i = [] ↔ r = [] := by
  constructor
  · intro h
    have := rotl_len r i
    rw [h] at this
    exact List.eq_nil_of_length_eq_zero this.symm
  · intro h
    subst h
    unfold rotl
    rw [List.drop_nil, List.take_nil]
    rfl
theorem rM_rotl (b : Int) (r : List Int) (i : Nat) : rM b (rotl r i) = rM b r := by
  unfold rM
  rw [rotl_len]
  by_cases h : r = []
  · rw [if_pos h, if_pos (rotl_nil_iff.mpr h)]
  · rw [if_neg h, if_neg (fun q => h (rotl_nil_iff.mp q))]
theorem rotl_lt {b : Int} (hb : 2 ≤ b) {r : List Int} (hd : Dig b r) (hg : r ≠ [] → ∃ x, x ∈ r ∧ x ≠ b - 1) (i : Nat) : 0 ≤ numI b (rotl r i) ∧ numI b (rotl r i) < rM b r := by
  rw [← rM_rotl b r i]
  refine num_lt_rM hb (dig_rotl hd i) fun h => ?_
  obtain ⟨x, h1, h2⟩ := hg (fun q => h (rotl_nil_iff.mpr q))
  exact ⟨x, rotl_mem h1, h2⟩
theorem tail_zero (b : Int) (a r : List Int) : tail b a r 0 = numI b a * rM b r + numI b r := by
  unfold tail
  rw [if_pos (Nat.zero_le _), List.drop_zero, Int.pow_zero, Int.mul_one]
theorem dig_drop {b : Int} {a : List Int} (h : Dig b a) (k : Nat) : Dig b (a.drop k) := fun x hx => h x (List.mem_of_mem_drop hx)
theorem tail_ok {b : Int} (hb : 2 ≤ b) {a r : List Int} (da : Dig b a) (dr : Dig b r) (hg : r ≠ [] → ∃ x, x ∈ r ∧ x ≠ b - 1) (k : Nat) : 0 ≤ tail b a r k ∧ tail b a r k < wB b a r := by
  unfold tail
  rw [wB_eq]
  split
  · rename_i hk
    have h1 := num_ok (b := b) (by omega) _ (dig_drop da k)
    have h2 := num_lt_rM hb dr hg
    have h3 := pow_posI (b := b) (by omega) k
    have e : b ^ a.length = b ^ (a.drop k).length * b ^ k := by rw [← Int.pow_add, List.length_drop, Nat.sub_add_cancel hk]
    rw [e]
    generalize numI b (a.drop k) = N at *
    generalize b ^ (a.drop k).length = P at *
    generalize numI b r = R at *
    generalize rM b r = M at *
    generalize b ^ k = S at *
    refine ⟨Int.mul_nonneg (Int.add_nonneg (Int.mul_nonneg h1.1 (by omega)) h2.1) (Int.le_of_lt h3), ?_⟩
    rw [show P * S * M = P * M * S by rw [Int.mul_assoc, Int.mul_comm S, ← Int.mul_assoc]]
    refine Int.mul_lt_mul_of_pos_right ?_ h3
    have q1 : (N + 1) * M ≤ P * M := Int.mul_le_mul_of_nonneg_right (by omega) (by omega)
    rw [Int.add_mul, Int.one_mul] at q1
    omega
  · have h2 := rotl_lt hb dr hg ((k - a.length) % r.length)
    have h3 := pow_posI (b := b) (by omega) a.length
    refine ⟨Int.mul_nonneg h2.1 (Int.le_of_lt h3), ?_⟩
    rw [Int.mul_comm (b ^ a.length)]
    exact Int.mul_lt_mul_of_pos_right h2.2 h3
section U
variable {b : Nat} {a r : List Int} {D X : Nat}
theorem tails (hb : 2 ≤ b) (da : Dig b a) (dr : Dig b r) (hg : r ≠ [] → ∃ x, x ∈ r ∧ x ≠ (b : Int) - 1) (hD : (D : Int) = wB b a r) (hX : (X : Int) = tail b a r 0) : ∀ k, k ≤ a.length ∨ r ≠ [] → ((rs b D X k : Nat) : Int) = tail b a r k
  | 0, _ => by
    have h := tail_ok (b := (b : Int)) (by omega) da dr hg 0
    rw [rs_zero (by omega), hX]
  | k + 1, hk => by
    have hk' : k < a.length ∨ r ≠ [] := by
      rcases hk with q | q
      · exact .inl (by omega)
      · exact .inr q
    have ih := tails hb da dr hg hD hX k (hk'.imp Nat.le_of_lt id)
    have h := tail_ok (b := (b : Int)) (by omega) da dr hg (k + 1)
    have e := tail_step (b := (b : Int)) (by omega) k hk'
    rw [rs_succ, Int.natCast_emod, Int.natCast_mul, ih, hD, Int.mul_comm, e, Int.add_comm, Int.add_mul_emod_self_right, Int.emod_eq_of_lt h.1 h.2]
theorem figs_dg (hb : 2 ≤ b) (da : Dig b a) (dr : Dig b r) (hg : r ≠ [] → ∃ x, x ∈ r ∧ x ≠ (b : Int) - 1) (hD : (D : Int) = wB b a r) (hX : (X : Int) = tail b a r 0) (k : Nat) (hk : k < a.length ∨ r ≠ []) : ((dg b D X k : Nat) : Int) = fig a r k := by
  have ih := tails hb da dr hg hD hX k (hk.imp Nat.le_of_lt id)
  have h := tail_ok (b := (b : Int)) (by omega) da dr hg (k + 1)
  have e := tail_step (b := (b : Int)) (by omega) k hk
  unfold dg
  rw [Int.natCast_ediv, Int.natCast_mul, ih, hD, Int.mul_comm, e, Int.add_comm, Int.add_mul_ediv_right _ _ (by omega), Int.ediv_eq_zero_of_lt h.1 h.2, Int.zero_add]
theorem last_mem {a : List Int} {x : Int} {k : Nat} (h : a.getLast? = some x) (hk : k < a.length) : x ∈ a.drop k := by
  have e : (a.drop k).getLast? = some x := by
    rw [List.getLast?_drop, if_neg (by omega), h]
  exact List.mem_of_getLast? e
theorem tail_ring (hl : 0 < r.length) (i : Nat) : tail (b : Int) a r (a.length + i) = numI b (rotl r (i % r.length)) * (b : Int) ^ a.length := by
  unfold tail
  by_cases h : i = 0
  · subst h
    rw [Nat.add_zero, if_pos (Nat.le_refl _), List.drop_length, num_nil, Int.zero_mul, Int.zero_add, Nat.zero_mod, rotl_zero]
  · rw [if_neg (by omega), Nat.add_sub_cancel_left]
theorem tail_pos (hb : 2 ≤ b) (da : Dig b a) (dr : Dig b r) (hp : PlainW b a r) {k : Nat} (hk : k < a.length + r.length) : 0 < tail (b : Int) a r k := by
  by_cases hr : r = []
  · subst hr
    have hk' : k < a.length := by simpa using hk
    unfold tail
    rw [if_pos (Nat.le_of_lt hk'), num_nil, Int.add_zero]
    have hM : rM (b : Int) [] = 1 := rfl
    rw [hM, Int.mul_one]
    refine Int.mul_pos (num_pos (by omega) _ (dig_drop da k) ?_) (pow_posI (by omega) k)
    have hne : a ≠ [] := fun q => by subst q; simp at hk'
    have hx : a.getLast? = some (a.getLast hne) := List.getLast?_eq_some_getLast hne
    exact ⟨_, last_mem hx hk', hp.end0 rfl _ hx⟩
  · have hl : 0 < r.length := List.length_pos_iff.mpr hr
    have hM := rM_pos (b := (b : Int)) (by omega) r
    by_cases h : k ≤ a.length
    · unfold tail
      rw [if_pos h]
      have h1 := num_ok (b := (b : Int)) (by omega) _ (dig_drop da k)
      have h2 := num_pos (b := (b : Int)) (by omega) r dr (hp.nz hr)
      have h3 := Int.mul_nonneg h1.1 (Int.le_of_lt hM)
      exact Int.mul_pos (by omega) (pow_posI (by omega) k)
    · rw [show k = a.length + (k - a.length) by omega, tail_ring hl]
      obtain ⟨x, q1, q2⟩ := hp.nz hr
      exact Int.mul_pos (num_pos (by omega) _ (dig_rotl dr _) ⟨x, rotl_mem q1, q2⟩) (pow_posI (by omega) _)
theorem ring_inj (hb : 2 ≤ b) (dr : Dig b r) (hp : PlainW b a r) (hl : 0 < r.length) {i j : Nat} (h : tail (b : Int) a r (a.length + i) = tail (b : Int) a r (a.length + j)) : i % r.length = j % r.length := by
  rw [tail_ring hl, tail_ring hl] at h
  have h1 := Int.eq_of_mul_eq_mul_right (Int.ne_of_gt (pow_posI (b := (b : Int)) (by omega) a.length)) h
  have h2 := num_inj (b := (b : Int)) (by omega) _ _ (by rw [rotl_len, rotl_len]) (dig_rotl dr _) (dig_rotl dr _) h1
  have hi := Nat.mod_lt i hl
  have hj := Nat.mod_lt j hl
  rcases Nat.lt_trichotomy (i % r.length) (j % r.length) with q | q | q
  · exact absurd h2 (hp.prim.turns q hj)
  · exact q
  · exact absurd h2.symm (hp.prim.turns q hi)
theorem rs_on {b m r j k : Nat} (h : rs b m r j = rs b m r k) (n : Nat) : rs b m r (j + n) = rs b m r (k + n) := by
  rw [rs_add, h, ← rs_add]
theorem plain_divAt (hb : 2 ≤ b) (da : Dig b a) (dr : Dig b r) (hp : PlainW b a r) (hD : (D : Int) = wB b a r) (hX : (X : Int) = tail b a r 0) : DivAt b D X a.length r.length := by
  have T := tails hb da dr hp.ng hD hX
  have ok : ∀ {k}, k < a.length + r.length → k ≤ a.length ∨ r ≠ [] := fun {k} hk => by
    by_cases h : k ≤ a.length
    · exact .inl h
    · refine .inr fun q => ?_
      subst q
      exact h (by simpa using Nat.le_of_lt hk)
  have P : ∀ k, k < a.length + r.length → rs b D X k ≠ 0 := fun k hk e => by
    have h1 := T k (ok hk)
    have h2 := tail_pos hb da dr hp hk
    rw [e] at h1
    omega
  have F : r.length = 0 → rs b D X a.length = 0 := fun h0 => by
    have hr : r = [] := List.eq_nil_of_length_eq_zero h0
    have h1 := T a.length (.inl (Nat.le_refl _))
    subst hr
    unfold tail at h1
    rw [if_pos (Nat.le_refl _), List.drop_length, num_nil, Int.zero_mul, Int.zero_add, Int.zero_mul] at h1
    omega
  refine ⟨P, fun j k hjk hk e => ?_, F, fun hl => ?_⟩
  · by_cases h0 : r.length = 0
    · have h1 := rs_on e (a.length - k)
      rw [show k + (a.length - k) = a.length by omega, F h0] at h1
      exact P _ (by omega) h1
    · have hl : 0 < r.length := by omega
      have hr : r ≠ [] := List.length_pos_iff.mp hl
      by_cases hj : a.length ≤ j
      · have h1 := T j (.inr hr)
        rw [e, T k (.inr hr), show k = a.length + (k - a.length) by omega, show j = a.length + (j - a.length) by omega] at h1
        have h2 := ring_inj hb dr hp hl h1
        rw [Nat.mod_eq_of_lt (by omega), Nat.mod_eq_of_lt (by omega)] at h2
        omega
      · have h1 := rs_on e (a.length - 1 - j)
        have ea : j + (a.length - 1 - j) = a.length - 1 := by omega
        obtain ⟨i, hi⟩ : ∃ i, k + (a.length - 1 - j) = a.length + i := ⟨k + (a.length - 1 - j) - a.length, by omega⟩
        rw [ea, hi] at h1
        have h2 := rs_on h1 1
        rw [show a.length - 1 + 1 = a.length + 0 by omega, Nat.add_assoc] at h2
        have h3 := T (a.length + 0) (.inr hr)
        rw [h2, T _ (.inr hr)] at h3
        have h4 := ring_inj hb dr hp hl h3
        rw [Nat.zero_mod] at h4
        have f1 := figs_dg hb da dr hp.ng hD hX (a.length - 1) (.inr hr)
        have f2 := figs_dg hb da dr hp.ng hD hX (a.length + i) (.inr hr)
        have f3 : dg b D X (a.length - 1) = dg b D X (a.length + i) := by unfold dg; rw [h1]
        rw [f3, f2] at f1
        unfold fig at f1
        rw [if_neg (by omega), if_pos (by omega), Nat.add_sub_cancel_left] at f1
        have hne : a ≠ [] := fun q => by subst q; simp at hj
        have hx : a.getLast? = some (a.getD (a.length - 1) 0) := by
          rw [List.getLast?_eq_getElem?, List.getD_eq_getElem?_getD, List.getElem?_eq_getElem (by omega)]
          rfl
        have him : i % r.length = r.length - 1 := by
          have q1 := Nat.mod_lt i hl
          have q2 : (i % r.length + 1) % r.length = 0 := by rw [Nat.mod_add_mod]; exact h4
          by_cases q3 : i % r.length + 1 < r.length
          · rw [Nat.mod_eq_of_lt q3] at q2
            omega
          · omega
        have hy : r.getLast? = some (rf r i) := by
          rw [List.getLast?_eq_getElem?, ← rf_mod, him]
          exact rf_get (by omega)
        exact hp.last _ _ hx hy f1.symm
  · have hr : r ≠ [] := List.length_pos_iff.mp hl
    have h1 := T (a.length + r.length) (.inr hr)
    have h2 := T (a.length + 0) (.inr hr)
    rw [tail_ring hl, Nat.mod_self] at h1
    rw [tail_ring hl, Nat.zero_mod, ← h1, Nat.add_zero] at h2
    omega
theorem plain_ahead (hb : 2 ≤ b) (da : Dig b a) (dr : Dig b r) (hp : PlainW b a r) (hD : (D : Int) = wB b a r) (hX : (X : Int) = tail b a r 0) : a = dgs b D X 0 a.length := by
  apply List.ext_getElem?
  intro k
  by_cases hk : k < a.length
  · rw [dgs_get _ _ _ _ _ _ hk, Nat.zero_add, figs_dg hb da dr hp.ng hD hX k (.inl hk)]
    unfold fig
    rw [if_pos hk, List.getD_eq_getElem?_getD, List.getElem?_eq_getElem hk]
    rfl
  · rw [List.getElem?_eq_none (by omega), List.getElem?_eq_none (by rw [dgs_len]; omega)]
theorem plain_ring (hb : 2 ≤ b) (da : Dig b a) (dr : Dig b r) (hp : PlainW b a r) (hD : (D : Int) = wB b a r) (hX : (X : Int) = tail b a r 0) : r = dgs b D X a.length r.length := by
  apply List.ext_getElem?
  intro k
  by_cases hk : k < r.length
  · rw [dgs_get _ _ _ _ _ _ hk, figs_dg hb da dr hp.ng hD hX _ (.inr (fun q => by subst q; simp at hk))]
    unfold fig
    rw [if_neg (by omega), Nat.add_sub_cancel_left]
    exact rf_get hk
  · rw [List.getElem?_eq_none (by omega), List.getElem?_eq_none (by rw [dgs_len]; omega)]
end U
/-! ### the same fraction in other terms -/
theorem rs_scale {b m p D X : Nat} (h : m * X = D * p) (k : Nat) : D * rs b m p k = m * rs b D X k := by
  unfold rs
  rw [← Nat.mul_mod_mul_left, ← Nat.mul_mod_mul_left, ← Nat.mul_assoc, ← Nat.mul_assoc, h, Nat.mul_comm D m]
theorem dg_scale {b m p D X : Nat} (hm : 0 < m) (hD : 0 < D) (h : m * X = D * p) (k : Nat) : dg b m p k = dg b D X k := by
  unfold dg
  rw [← Nat.mul_div_mul_left _ _ hD, ← Nat.mul_assoc, rs_scale h k, Nat.mul_assoc, Nat.mul_comm D m, Nat.mul_div_mul_left _ _ hm]
theorem dgs_scale {b m p D X : Nat} (hm : 0 < m) (hD : 0 < D) (h : m * X = D * p) (i n : Nat) : dgs b m p i n = dgs b D X i n := by
  unfold dgs
  congr 1
  funext k
  rw [dg_scale hm hD h]
theorem rs_scale_eq {b m p D X : Nat} (hm : 0 < m) (hD : 0 < D) (h : m * X = D * p) {j k : Nat} : rs b m p j = rs b m p k ↔ rs b D X j = rs b D X k := by
  have h1 := rs_scale (b := b) h j
  have h2 := rs_scale (b := b) h k
  constructor
  · intro e
    rw [e, h2] at h1
    exact (Nat.eq_of_mul_eq_mul_left hm h1).symm
  · intro e
    rw [e, ← h2] at h1
    exact Nat.eq_of_mul_eq_mul_left hD h1
theorem rs_scale_zero {b m p D X : Nat} (hm : 0 < m) (hD : 0 < D) (h : m * X = D * p) {j : Nat} : rs b m p j = 0 ↔ rs b D X j = 0 := by
  have h1 := rs_scale (b := b) h j
  constructor
  · intro e
    rw [e, Nat.mul_zero] at h1
    rcases Nat.mul_eq_zero.mp h1.symm with q | q
    · omega
    · exact q
  · intro e
    rw [e, Nat.mul_zero] at h1
    rcases Nat.mul_eq_zero.mp h1 with q | q
    · omega
    · exact q
theorem DivAt.scale {b m p D X s l : Nat} (d : DivAt b D X s l) (hm : 0 < m) (hD : 0 < D) (h : m * X = D * p) : DivAt b m p s l :=
  ⟨fun k hk e => d.pos k hk ((rs_scale_zero hm hD h).mp e), fun j k hjk hk e => d.new j k hjk hk ((rs_scale_eq hm hD h).mp e),
   fun hl => (rs_scale_zero hm hD h).mpr (d.fin hl), fun hl => (rs_scale_eq hm hD h).mpr (d.rep hl)⟩
/-! ### plain writings and divisions -/
theorem split_eq {b w : Int} {a r : List Int} {t m : Nat} (hb : 2 ≤ b) (da : Dig b a) (dr : Dig b r) (hg : r ≠ [] → ∃ x, x ∈ r ∧ x ≠ b - 1) (hm : 0 < m) (h : wT b w a r * m = t * wB b a r) : w = ((t / m : Nat) : Int) ∧ (m : Int) * tail b a r 0 = wB b a r * ((t % m : Nat) : Int) := by
  have h0 := tail_ok hb da dr hg 0
  have e : wT b w a r = w * wB b a r + tail b a r 0 := by rw [tail_zero, wT_eq]
  rw [e] at h
  generalize wB b a r = D at *
  generalize tail b a r 0 = X at *
  have hm' : (0 : Int) < m := by omega
  have et : (t : Int) = ((t / m : Nat) : Int) * m + ((t % m : Nat) : Int) := by
    have := Nat.div_add_mod t m
    rw [Nat.mul_comm] at this
    exact_mod_cast this.symm
  have hr : ((t % m : Nat) : Int) < m := by
    have := Nat.mod_lt t hm
    omega
  have hr0 : (0 : Int) ≤ ((t % m : Nat) : Int) := by omega
  generalize ((t / m : Nat) : Int) = q at *
  generalize ((t % m : Nat) : Int) = p at *
  generalize (m : Int) = M at *
  rw [et, Int.add_mul, Int.add_mul] at h
  have h1 : w * D * M = w * (M * D) := by rw [Int.mul_assoc, Int.mul_comm D]
  have h2 : q * M * D = q * (M * D) := by rw [Int.mul_assoc]
  rw [h1, h2] at h
  have l1 : X * M < M * D := by rw [Int.mul_comm M]; exact Int.mul_lt_mul_of_pos_right h0.2 hm'
  have l2 : p * D < M * D := Int.mul_lt_mul_of_pos_right hr (by omega)
  have l3 : 0 ≤ X * M := Int.mul_nonneg h0.1 (by omega)
  have l4 : 0 ≤ p * D := Int.mul_nonneg hr0 (by omega)
  have hW : 0 < M * D := by omega
  have ew : w = q := by
    have q1 : (w * (M * D) + X * M) / (M * D) = w := by
      rw [Int.add_comm, Int.add_mul_ediv_right _ _ (by omega), Int.ediv_eq_zero_of_lt l3 l1, Int.zero_add]
    have q2 : (q * (M * D) + p * D) / (M * D) = q := by
      rw [Int.add_comm, Int.add_mul_ediv_right _ _ (by omega), Int.ediv_eq_zero_of_lt l4 l2, Int.zero_add]
    rw [← q1, h, q2]
  subst ew
  refine ⟨rfl, ?_⟩
  rw [Int.mul_comm M, Int.mul_comm D]
  omega
/-- a plain writing is what division tells -/
theorem plain_unique {b : Nat} {w : Int} {a r : List Int} {t m : Nat} (hb : 2 ≤ b) (da : Dig b a) (dr : Dig b r) (hp : PlainW b a r) (hm : 0 < m) (h : wT b w a r * m = t * wB b a r) : w = ((t / m : Nat) : Int) ∧ DivAt b m (t % m) a.length r.length ∧ a = dgs b m (t % m) 0 a.length ∧ r = dgs b m (t % m) a.length r.length := by
  obtain ⟨e, h1⟩ := split_eq (b := (b : Int)) (by omega) da dr hp.ng hm h
  have h0 := tail_ok (b := (b : Int)) (by omega) da dr hp.ng 0
  obtain ⟨D, hD⟩ : ∃ D : Nat, (D : Int) = wB b a r := ⟨(wB b a r).toNat, by omega⟩
  obtain ⟨X, hX⟩ : ∃ X : Nat, (X : Int) = tail b a r 0 := ⟨(tail (b : Int) a r 0).toNat, by omega⟩
  rw [← hD, ← hX] at h1
  have h2 : m * X = D * (t % m) := by exact_mod_cast h1
  have hD0 : 0 < D := by omega
  have d := (plain_divAt hb da dr hp hD hX).scale hm hD0 h2
  refine ⟨e, d, ?_, ?_⟩
  · rw [dgs_scale hm hD0 h2]
    exact plain_ahead hb da dr hp hD hX
  · rw [dgs_scale hm hD0 h2]
    exact plain_ring hb da dr hp hD hX
theorem num_dgs (b m p i : Nat) : ∀ n, numI (b : Int) (dgs b m p i n) * m + ((rs b m p (i + n) : Nat) : Int) = ((rs b m p i : Nat) : Int) * (b : Int) ^ n
  | 0 => by
    show numI (b : Int) [] * m + _ = _
    rw [num_nil, Int.zero_mul, Int.zero_add, Int.pow_zero, Int.mul_one, Nat.add_zero]
  | n + 1 => by
    have ih := num_dgs b m p i n
    have e : ((rs b m p (i + n) : Nat) : Int) * b = ((dg b m p (i + n) : Nat) : Int) * m + ((rs b m p (i + n + 1) : Nat) : Int) := by
      have := Nat.div_add_mod (rs b m p (i + n) * b) m
      rw [rs_succ]
      unfold dg
      rw [Nat.mul_comm m] at this
      exact_mod_cast this.symm
    rw [dgs_succ, num_snoc, ← Nat.add_assoc, Int.pow_succ, ← Int.mul_assoc, ← ih, Int.add_mul, Int.add_mul, e, Int.mul_assoc, Int.mul_assoc, Int.mul_comm (b : Int)]
    omega
theorem dig_dgs {b m p i n : Nat} (hb : 0 < b) (hm : 0 < m) : Dig b (dgs b m p i n) := fun x hx => by
  unfold dgs at hx
  obtain ⟨k, _, rfl⟩ := List.mem_map.mp hx
  refine ⟨Int.natCast_nonneg _, ?_⟩
  have h : dg b m p (i + k) < b := by
    unfold dg
    rw [Nat.div_lt_iff_lt_mul hm, Nat.mul_comm b]
    exact Nat.mul_lt_mul_of_pos_right (rs_lt hm) hb
  omega
/-- what division tells is worth the fraction -/
theorem div_worth {b t m s l : Nat} (hb : 2 ≤ b) (hm : 0 < m) (d : DivAt b m (t % m) s l) : wT b ((t / m : Nat) : Int) (dgs b m (t % m) 0 s) (dgs b m (t % m) s l) * m = t * wB b (dgs b m (t % m) 0 s) (dgs b m (t % m) s l) := by
  have h1 := num_dgs b m (t % m) 0 s
  have h2 := num_dgs b m (t % m) s l
  rw [Nat.zero_add, rs_zero (Nat.mod_lt _ hm)] at h1
  have et : (t : Int) = ((t / m : Nat) : Int) * m + ((t % m : Nat) : Int) := by
    have := Nat.div_add_mod t m
    rw [Nat.mul_comm] at this
    exact_mod_cast this.symm
  rw [wT_eq, wB_eq, dgs_len]
  have key : (numI (b : Int) (dgs b m (t % m) 0 s) * rM b (dgs b m (t % m) s l) + numI (b : Int) (dgs b m (t % m) s l)) * m = ((t % m : Nat) : Int) * ((b : Int) ^ s * rM b (dgs b m (t % m) s l)) := by
    by_cases hl : l = 0
    · subst hl
      have hM : rM (b : Int) (dgs b m (t % m) s 0) = 1 := rfl
      have hN : numI (b : Int) (dgs b m (t % m) s 0) = 0 := rfl
      rw [hM, hN, Int.mul_one, Int.add_zero, Int.mul_one, ← h1, d.fin rfl]
      simp
    · have hM : rM (b : Int) (dgs b m (t % m) s l) = (b : Int) ^ l - 1 := by
        unfold rM
        rw [if_neg (fun q => hl (by rw [← dgs_len b m (t % m) s l, q]; rfl)), dgs_len]
      rw [d.rep (by omega)] at h2
      rw [hM, ← Int.mul_assoc, ← h1]
      generalize numI (b : Int) (dgs b m (t % m) 0 s) = A at *
      generalize numI (b : Int) (dgs b m (t % m) s l) = R at *
      generalize ((rs b m (t % m) s : Nat) : Int) = S at *
      generalize (b : Int) ^ l = P at *
      have e : R * m = S * (P - 1) := by rw [Int.mul_sub, Int.mul_one]; omega
      rw [Int.add_mul, e, Int.add_mul, Int.mul_assoc, Int.mul_assoc, Int.mul_comm (P - 1)]
  generalize numI (b : Int) (dgs b m (t % m) 0 s) * rM b (dgs b m (t % m) s l) + numI (b : Int) (dgs b m (t % m) s l) = X at *
  generalize (b : Int) ^ s * rM b (dgs b m (t % m) s l) = D at *
  rw [Int.add_mul, key, et, Int.add_mul, Int.mul_assoc, Int.mul_assoc, Int.mul_comm D]
end Rf

set_option maxHeartbeats 1000000
namespace Rf
/-! ### the steps that make a writing plain -/
/-- two writings of one worth -/
def SameW (b w : Int) (a r : List Int) (w' : Int) (a' r' : List Int) : Prop := wT b w' a' r' * wB b a r = wT b w a r * wB b a' r'
theorem SameW.refl {b w : Int} {a r : List Int} : SameW b w a r w a r := rfl
theorem SameW.trans {b w w1 w2 : Int} {a r a1 r1 a2 r2 : List Int} (hb : 2 ≤ b) (h1 : SameW b w a r w1 a1 r1) (h2 : SameW b w1 a1 r1 w2 a2 r2) : SameW b w a r w2 a2 r2 := by
  unfold SameW at *
  have p := wB_pos (b := b) (a := a1) (r := r1) hb
  refine Int.eq_of_mul_eq_mul_right (Int.ne_of_gt p) ?_
  rw [Int.mul_right_comm, h2, Int.mul_right_comm, h1, Int.mul_right_comm]
theorem sameW_of {b w w' k : Int} {a r a' r' : List Int} (hT : wT b w a r = k * wT b w' a' r') (hB : wB b a r = k * wB b a' r') : SameW b w a r w' a' r' := by
  unfold SameW
  rw [hT, hB, Int.mul_left_comm, Int.mul_assoc]
theorem sameW_wo {b w w' : Int} {a r a' r' : List Int} {t m : Int} (hb : 2 ≤ b) (h : SameW b w a r w' a' r') (e : wT b w a r * m = t * wB b a r) : wT b w' a' r' * m = t * wB b a' r' := by
  unfold SameW at h
  have p := wB_pos (b := b) (a := a) (r := r) hb
  refine Int.eq_of_mul_eq_mul_right (Int.ne_of_gt p) ?_
  rw [Int.mul_right_comm, h, Int.mul_right_comm, e, Int.mul_right_comm]
theorem num_max {b : Int} (hb : 2 ≤ b) : ∀ r : List Int, (∀ x, x ∈ r → x = b - 1) → numI b r = b ^ r.length - 1
  | [], _ => by rw [num_nil, List.length_nil, Int.pow_zero]; rfl
  | x :: r, h => by
    rw [num_cons, num_max hb r (fun y hy => h y (List.mem_cons_of_mem _ hy)), h x List.mem_cons_self, List.length_cons, Int.pow_succ, Int.sub_mul, Int.mul_comm b]
    omega
theorem num_zero (b : Int) : ∀ r : List Int, (∀ x, x ∈ r → x = 0) → numI b r = 0
  | [], _ => rfl
  | x :: r, h => by
    rw [num_cons, num_zero b r (fun y hy => h y (List.mem_cons_of_mem _ hy)), h x List.mem_cons_self]
    omega
theorem sameW_max {b w w' : Int} {a r a' : List Int} (hb : 2 ≤ b) (hr : r ≠ []) (h : ∀ x, x ∈ r → x = b - 1) (hl : a'.length = a.length) (e : w' * b ^ a.length + numI b a' = w * b ^ a.length + numI b a + 1) : SameW b w a r w' a' [] := by
  refine sameW_of (k := b ^ r.length - 1) ?_ ?_
  · unfold wT
    rw [if_neg hr, if_pos rfl, num_max hb r h, hl, e, Int.mul_comm, Int.mul_add _ _ 1, Int.mul_one]
  · unfold wB
    rw [if_neg hr, if_pos rfl, hl, Int.mul_comm]
theorem sameW_zero {b w : Int} {a r : List Int} (hr : r ≠ []) (h : ∀ x, x ∈ r → x = 0) : SameW b w a r w a [] := by
  refine sameW_of (k := b ^ r.length - 1) ?_ ?_
  · unfold wT
    rw [if_neg hr, if_pos rfl, num_zero b r h, Int.add_zero, Int.mul_comm]
  · unfold wB
    rw [if_neg hr, if_pos rfl, Int.mul_comm]
theorem num_short {b : Int} {r : List Int} {d : Nat} (hd : d ≤ r.length) (h : rotl r d = r) : numI b r * (b ^ d - 1) = numI b (r.take d) * (b ^ r.length - 1) := by
  have e1 : numI b r = numI b (r.take d) * b ^ (r.length - d) + numI b (r.drop d) := by
    have := num_app b (r.take d) (r.drop d)
    rw [List.take_append_drop, List.length_drop] at this
    exact this
  have e2 : numI b r = numI b (r.drop d) * b ^ d + numI b (r.take d) := by
    have := num_app b (r.drop d) (r.take d)
    rw [List.length_take, Nat.min_eq_left hd] at this
    unfold rotl at h
    rw [h] at this
    exact this
  have e3 : b ^ r.length = b ^ (r.length - d) * b ^ d := by rw [← Int.pow_add, Nat.sub_add_cancel hd]
  rw [e3]
  generalize b ^ (r.length - d) = P at *
  generalize b ^ d = Q at *
  generalize numI b (r.take d) = T at *
  generalize numI b (r.drop d) = S at *
  generalize numI b r = N at *
  have e4 : S = N - T * P := by omega
  rw [e4, Int.sub_mul, Int.mul_assoc] at e2
  rw [Int.mul_sub, Int.mul_sub]
  omega
theorem sameW_short {b w : Int} {a r : List Int} {d : Nat} (hb : 2 ≤ b) (h0 : 0 < d) (hd : d ≤ r.length) (h : rotl r d = r) : SameW b w a r w a (r.take d) := by
  have e := num_short (b := b) hd h
  have hr : r ≠ [] := fun q => by subst q; simp at hd; omega
  have hl : (r.take d).length = d := by rw [List.length_take, Nat.min_eq_left hd]
  have ht : r.take d ≠ [] := fun q => by rw [q] at hl; simp at hl; omega
  unfold SameW wT wB
  rw [if_neg hr, if_neg hr, if_neg ht, if_neg ht, hl]
  generalize w * b ^ a.length + numI b a = K
  generalize b ^ d - 1 = Q at *
  generalize b ^ r.length - 1 = P at *
  generalize numI b r = N at *
  generalize numI b (r.take d) = T at *
  generalize b ^ a.length = S
  rw [Int.add_mul, Int.add_mul]
  have q1 : K * Q * (S * P) = K * P * (S * Q) := by simp only [Int.mul_assoc, Int.mul_comm, Int.mul_left_comm]
  have q2 : T * (S * P) = N * (S * Q) := by
    rw [Int.mul_left_comm, ← e, Int.mul_left_comm]
  rw [q1, q2]
theorem rf_take {r : List Int} {d : Nat} (h0 : 0 < d) (hd : d ≤ r.length) (h : rotl r d = r) (k : Nat) : rf (r.take d) k = rf r k := by
  have h1 := (per_iff hd).mp h
  rw [← per_mod h1 k]
  unfold rf
  have hl : (r.take d).length = d := by rw [List.length_take, Nat.min_eq_left hd]
  have hk := Nat.mod_lt k h0
  rw [hl, Nat.mod_eq_of_lt (show k % d < r.length by omega), List.getD_eq_getElem?_getD, List.getD_eq_getElem?_getD, List.getElem?_take_of_lt hk]
theorem prim_take {r : List Int} {d : Nat} (h0 : 0 < d) (hd : d ≤ r.length) (hdl : r.length % d = 0) (h : rotl r d = r) (least : ∀ e, 0 < e → e < d → r.length % e = 0 → rotl r e ≠ r) : Prim (r.take d) := fun e he hed hde q => by
  have hl : (r.take d).length = d := by rw [List.length_take, Nat.min_eq_left hd]
  rw [hl] at hed hde
  refine least e he hed ?_ ?_
  · exact Nat.mod_eq_zero_of_dvd (Nat.dvd_trans (Nat.dvd_of_mod_eq_zero hde) (Nat.dvd_of_mod_eq_zero hdl))
  · refine (per_iff (by omega)).mpr fun k => ?_
    have h1 := (per_iff (by omega)).mp q k
    rw [rf_take h0 hd h, rf_take h0 hd h] at h1
    exact h1
theorem rf_rotl {r : List Int} {i : Nat} (hi : i ≤ r.length) (k : Nat) : rf (rotl r i) k = rf r (i + k) := by
  by_cases hl : r.length = 0
  · have : r = [] := List.eq_nil_of_length_eq_zero hl
    subst this
    unfold rotl rf
    simp
  · have hk := Nat.mod_lt k (show 0 < r.length by omega)
    have h1 := rotl_get hi hk
    have h2 : (rotl r i)[k % r.length]? = some (rf (rotl r i) k) := by
      have := rf_get (r := rotl r i) (i := k % r.length) (by rw [rotl_len]; exact hk)
      rw [this]
      rw [← rf_mod (rotl r i) k, rotl_len]
    rw [h1] at h2
    rw [← Option.some.inj h2, ← rf_mod r (i + k), ← rf_mod r (i + k % r.length), Nat.add_mod_mod]
theorem Prim.rotl {r : List Int} (h : Prim r) {i : Nat} (hi : i ≤ r.length) : Prim (rotl r i) := fun d h0 hd hdl q => by
  rw [rotl_len] at hd hdl
  refine h d h0 hd hdl ((per_iff (Nat.le_of_lt hd)).mpr fun k => ?_)
  have h1 := (per_iff (by rw [rotl_len]; omega)).mp q (k + (r.length - i))
  rw [rf_rotl hi, rf_rotl hi] at h1
  rw [show i + (d + (k + (r.length - i))) = d + k + r.length by omega, show i + (k + (r.length - i)) = k + r.length by omega, rf_len, rf_len] at h1
  exact h1
theorem rotl_snoc (r : List Int) (x : Int) : rotl (r ++ [x]) r.length = x :: r := by
  unfold rotl
  rw [List.drop_append_of_le_length (Nat.le_refl _), List.drop_length, List.take_append_of_le_length (Nat.le_refl _), List.take_length]
  rfl
theorem prim_snoc {r : List Int} {x : Int} (h : Prim (r ++ [x])) : Prim (x :: r) := by
  have := h.rotl (i := r.length) (by rw [List.length_append]; omega)
  rw [rotl_snoc] at this
  exact this
theorem sameW_turn {b w x : Int} {a r : List Int} : SameW b w (a ++ [x]) (r ++ [x]) w a (x :: r) := by
  have h1 : r ++ [x] ≠ [] := by simp
  refine sameW_of (k := b) ?_ ?_
  · unfold wT
    rw [if_neg h1, if_neg (List.cons_ne_nil _ _), num_snoc, num_snoc, num_cons, List.length_append, List.length_append, show (x :: r).length = r.length + 1 from rfl]
    show (w * b ^ (a.length + 1) + (numI b a * b + x)) * (b ^ (r.length + 1) - 1) + (numI b r * b + x) = _
    rw [Int.pow_succ, Int.pow_succ]
    generalize b ^ a.length = S
    generalize b ^ r.length = P
    generalize numI b a = A
    generalize numI b r = R
    have e1 : w * (S * b) + (A * b + x) = b * (w * S + A) + x := by
      rw [Int.mul_add, ← Int.mul_assoc, Int.mul_comm (w * S), Int.mul_comm A]; omega
    rw [e1]
    generalize w * S + A = K
    have e2 : x * (P * b - 1) = b * (x * P) - x := by rw [Int.mul_sub, Int.mul_one, ← Int.mul_assoc, Int.mul_comm (x * P)]
    rw [Int.add_mul, e2, Int.mul_assoc, Int.mul_comm R, Int.mul_add b, Int.mul_add b]
    omega
  · unfold wB
    rw [if_neg h1, if_neg (List.cons_ne_nil _ _), List.length_append, List.length_append, show (x :: r).length = r.length + 1 from rfl]
    show b ^ (a.length + 1) * (b ^ (r.length + 1) - 1) = _
    rw [Int.pow_succ b a.length, Int.mul_comm _ b, Int.mul_assoc]
theorem sameW_pop {b w : Int} {a : List Int} : SameW b w (a ++ [0]) [] w a [] := by
  refine sameW_of (k := b) ?_ ?_
  · unfold wT
    rw [if_pos rfl, if_pos rfl, num_snoc, List.length_append]
    show w * b ^ (a.length + 1) + (numI b a * b + 0) = _
    rw [Int.pow_succ, Int.mul_add, ← Int.mul_assoc, Int.mul_comm b, Int.mul_comm b]
    omega
  · unfold wB
    rw [if_pos rfl, if_pos rfl, List.length_append]
    show b ^ (a.length + 1) = _
    rw [Int.pow_succ, Int.mul_comm]
/-! ### low fractions and cross products -/
theorem low_cross {x y : Int} (hx : 0 ≤ x) (hy : 0 < y) : (low x y).1 * y = x * (low x y).2 ∧ 0 < (low x y).2 ∧ 0 ≤ (low x y).1 := by
  obtain ⟨n, rfl⟩ : ∃ n : Nat, x = n := ⟨x.toNat, by omega⟩
  obtain ⟨m, rfl⟩ : ∃ m : Nat, y = m := ⟨y.toNat, by omega⟩
  unfold low
  simp only [Int.toNat_natCast]
  have hg : 0 < Nat.gcd n m := Nat.gcd_pos_of_pos_right _ (by omega)
  obtain ⟨u, hu⟩ := Nat.gcd_dvd_left n m
  obtain ⟨v, hv⟩ := Nat.gcd_dvd_right n m
  have e1 : n / Nat.gcd n m = u := by
    conv => lhs; lhs; rw [hu]
    exact Nat.mul_div_cancel_left _ hg
  have e2 : m / Nat.gcd n m = v := by
    conv => lhs; lhs; rw [hv]
    exact Nat.mul_div_cancel_left _ hg
  have hv0 : 0 < v := by
    rcases Nat.eq_zero_or_pos v with q | q
    · rw [q, Nat.mul_zero] at hv; omega
    · exact q
  refine ⟨?_, ?_, ?_⟩
  · show ((n : Int) / ((Nat.gcd n m : Nat) : Int)) * (m : Int) = (n : Int) * ((m : Int) / ((Nat.gcd n m : Nat) : Int))
    rw [← Int.natCast_ediv, ← Int.natCast_ediv, e1, e2]
    have : u * m = n * v := by
      conv => lhs; rw [hv]
      conv => rhs; rw [hu]
      rw [Nat.mul_left_comm, Nat.mul_assoc]
    exact_mod_cast this
  · show 0 < (m : Int) / ((Nat.gcd n m : Nat) : Int)
    rw [← Int.natCast_ediv, e2]
    omega
  · show 0 ≤ (n : Int) / ((Nat.gcd n m : Nat) : Int)
    rw [← Int.natCast_ediv, e1]
    omega
theorem low_co {x y : Int} (hx : 0 ≤ x) (hy : 0 < y) : Nat.gcd (low x y).1.toNat (low x y).2.toNat = 1 := by
  obtain ⟨n, rfl⟩ : ∃ n : Nat, x = n := ⟨x.toNat, by omega⟩
  obtain ⟨m, rfl⟩ : ∃ m : Nat, y = m := ⟨y.toNat, by omega⟩
  unfold low
  simp only [Int.toNat_natCast, ← Int.natCast_ediv]
  exact Nat.gcd_div_gcd_div_gcd_of_pos_right (by omega)
/-- equal cross products, equal low fractions -/
theorem low_eq {x y u v : Int} (hx : 0 ≤ x) (hy : 0 < y) (hu : 0 ≤ u) (hv : 0 < v) : low x y = low u v ↔ x * v = u * y := by
  have c1 := low_cross hx hy
  have c2 := low_cross hu hv
  constructor
  · intro h
    rw [h] at c1
    have hp := c2.2.1
    generalize (low u v).1 = p at *
    generalize (low u v).2 = q at *
    refine Int.eq_of_mul_eq_mul_right (Int.ne_of_gt hp) ?_
    rw [Int.mul_right_comm, ← c1.1, Int.mul_right_comm u, ← c2.1, Int.mul_right_comm]
  · intro h
    have g1 := low_co hx hy
    have g2 := low_co hu hv
    have e : (low x y).1 * (low u v).2 = (low u v).1 * (low x y).2 := by
      have hyv : y * v ≠ 0 := Int.ne_of_gt (Int.mul_pos hy hv)
      refine Int.eq_of_mul_eq_mul_right hyv ?_
      have q1 : (low x y).1 * (low u v).2 * (y * v) = ((low x y).1 * y) * ((low u v).2 * v) := by simp only [Int.mul_assoc, Int.mul_comm, Int.mul_left_comm]
      have q2 : (low u v).1 * (low x y).2 * (y * v) = ((low u v).1 * v) * ((low x y).2 * y) := by simp only [Int.mul_assoc, Int.mul_comm, Int.mul_left_comm]
      rw [q1, q2, c1.1, c2.1]
      have q3 : x * (low x y).2 * ((low u v).2 * v) = (x * v) * ((low x y).2 * (low u v).2) := by simp only [Int.mul_assoc, Int.mul_comm, Int.mul_left_comm]
      have q4 : u * (low u v).2 * ((low x y).2 * y) = (u * y) * ((low x y).2 * (low u v).2) := by simp only [Int.mul_assoc, Int.mul_comm, Int.mul_left_comm]
      rw [q3, q4, h]
    have p1 := c1.2
    have p2 := c2.2
    apply Prod.ext
    all_goals
      obtain ⟨n1, h1⟩ : ∃ n : Nat, (low x y).1 = n := ⟨(low x y).1.toNat, by omega⟩
      obtain ⟨m1, h2⟩ : ∃ n : Nat, (low x y).2 = n := ⟨(low x y).2.toNat, by omega⟩
      obtain ⟨n2, h3⟩ : ∃ n : Nat, (low u v).1 = n := ⟨(low u v).1.toNat, by omega⟩
      obtain ⟨m2, h4⟩ : ∃ n : Nat, (low u v).2 = n := ⟨(low u v).2.toNat, by omega⟩
      rw [h1, h2] at g1
      rw [h3, h4] at g2
      rw [h1, h2, h3, h4] at e
      rw [h2] at p1
      rw [h4] at p2
      simp only [Int.toNat_natCast] at g1 g2
      have e' : n1 * m2 = n2 * m1 := by exact_mod_cast e
      have d1 : m1 ∣ m2 := (Nat.Coprime.symm g1).dvd_of_dvd_mul_left ⟨n2, by rw [e', Nat.mul_comm]⟩
      have d2 : m2 ∣ m1 := (Nat.Coprime.symm g2).dvd_of_dvd_mul_left ⟨n1, by rw [← e', Nat.mul_comm]⟩
      have em : m1 = m2 := Nat.dvd_antisymm d1 d2
      subst em
      have en : n1 = n2 := Nat.eq_of_mul_eq_mul_right (by omega) e'
      subst en
      first | rw [h1, h3] | rw [h2, h4]
end Rf

open PySem L2
namespace Rf
/-! ### what makes a writing plain -/
/-- the shortest ring that goes round as ns does -/
def ShortOf (ns ns' : List Int) : Prop := Prim ns' ∧ (ns' = ns ∨ ∃ d, 0 < d ∧ d ≤ ns.length ∧ rotl ns d = ns ∧ ns' = ns.take d)
theorem ShortOf.len {ns ns' : List Int} (h : ShortOf ns ns') : ns'.length ≤ ns.length := by
  rcases h.2 with e | ⟨d, h0, hd, _, e⟩
  · rw [e]; exact Nat.le_refl _
  · rw [e, List.length_take]; omega
theorem ShortOf.sub {ns ns' : List Int} (h : ShortOf ns ns') {x : Int} (hx : x ∈ ns') : x ∈ ns := by
  rcases h.2 with e | ⟨d, h0, hd, _, e⟩
  · rw [e] at hx; exact hx
  · rw [e] at hx; exact List.mem_of_mem_take hx
theorem ShortOf.nil {ns : List Int} (h : ShortOf ns []) : ns = [] := by
  rcases h.2 with e | ⟨d, h0, hd, _, e⟩
  · exact e.symm
  · have hl : (ns.take d).length = d := by rw [List.length_take]; omega
    rw [← e] at hl
    simp at hl
    omega
theorem ShortOf.sup {ns ns' : List Int} (h : ShortOf ns ns') {x : Int} (hx : x ∈ ns) : x ∈ ns' := by
  rcases h.2 with e | ⟨d, h0, hd, hr, e⟩
  · rw [e]; exact hx
  · obtain ⟨k, hk, rfl⟩ := List.getElem_of_mem hx
    have h1 := rf_get hk
    rw [List.getElem?_eq_getElem hk] at h1
    rw [Option.some.inj h1, ← rf_take h0 hd hr, e]
    exact rf_mem (by rw [List.length_take]; omega) _
theorem ShortOf.same {b w : Int} {a ns ns' : List Int} (hb : 2 ≤ b) (h : ShortOf ns ns') : SameW b w a ns w a ns' := by
  rcases h.2 with e | ⟨d, h0, hd, hr, e⟩
  · rw [e]; exact SameW.refl
  · rw [e]; exact sameW_short hb h0 hd hr
theorem shortOf_nil : ShortOf [] [] := ⟨fun d h0 hd => by simp at hd, .inl rfl⟩
/-- what stands between the lines: the whole number, figures ahead, ring -/
structure MadeSt (b : Int) (x : Wr) (w : Int) (an rn : List Int) : Prop where
  fa : Figs b an
  fr : Figs b rn
  la : an.length ≤ x.a.length
  lr : rn.length ≤ x.r.length
  w0 : x.w ≤ w
  w1 : w ≤ x.w + 1
  same : SameW b x.w x.a x.r w an rn
/-- where it stands: two new lists -/
structure MadeAt (H H' : Hp) (fa fr : Addr) (an rn : List Int) : Prop where
  same : Same H H'
  la : H' fa = some (.lst (an.map V.int))
  lr : H' fr = some (.lst (rn.map V.int))
  na : H fa = none
  nr : H fr = none
  ne : fa ≠ fr
/-- a plain writing of the same worth -/
structure MadeOf (b : Int) (x y : Wr) : Prop where
  pl : PlainW b y.a y.r
  st : MadeSt b x y.w y.a y.r
theorem cut_init (xs : List V) (v : V) : cutV (xs ++ [v]) none (some (-1)) = xs := by
  unfold cutV
  rw [HT.sIx_none, List.drop_zero, Nat.sub_zero]
  have e : HT.sIx (xs ++ [v]).length (xs ++ [v]).length (some (-1)) = xs.length := by
    unfold HT.sIx
    simp only [List.length_append, List.length_singleton]
    rw [if_pos (by decide)]
    omega
  rw [e, List.take_append_of_le_length (Nat.le_refl _), List.take_length]
theorem pop_last (xs : List V) (v : V) : (xs ++ [v])[(xs ++ [v]).length - 1]? = some v := by rw [← List.getLast?_eq_getElem?, List.getLast?_concat]
theorem snoc_of {ns : List Int} (h : 0 < ns.length) : ∃ ms z, ns = ms ++ [z] := by
  have hne : ns ≠ [] := List.length_pos_iff.mp h
  exact ⟨ns.dropLast, ns.getLast hne, (List.dropLast_concat_getLast hne).symm⟩
/-! ### one more -/
theorem om_take {ns : List Int} {k : Nat} (hk : k < ns.length) : ∃ x, ns[ns.length - 1 - k]? = some x ∧ ns.take (ns.length - k) = ns.take (ns.length - 1 - k) ++ [x] := by
  have h : ns.length - 1 - k < ns.length := by omega
  refine ⟨ns[ns.length - 1 - k], List.getElem?_eq_getElem h, ?_⟩
  rw [show ns.length - k = ns.length - 1 - k + 1 by omega]
  exact take_snoc (List.getElem?_eq_getElem h)
theorem om_get {ns : List Int} {k : Nat} (hk : k < ns.length) : (ns.take (ns.length - k) ++ List.replicate k 0)[ns.length - 1 - k]? = ns[ns.length - 1 - k]? := by
  rw [List.getElem?_append_left (by rw [List.length_take]; omega), List.getElem?_take_of_lt (by omega)]
theorem om_set {ns : List Int} {k : Nat} (hk : k < ns.length) (v : Int) : (ns.take (ns.length - k) ++ List.replicate k 0).set (ns.length - 1 - k) v = ns.take (ns.length - 1 - k) ++ v :: List.replicate k 0 := by
  obtain ⟨x, _, e⟩ := om_take hk
  rw [e, List.append_assoc, List.set_append_right _ _ (by rw [List.length_take]; omega), List.length_take, show ns.length - 1 - k - min (ns.length - 1 - k) ns.length = 0 by omega]
  rfl
end Rf

open PySem L2
namespace Rf
/-! ### divisions, of figures made plain -/
theorem cdivp_near {i j : Int} {u : Nat} (hj : 0 < j) (hi : i = j * u) (hu : u < 2 ^ 4000) : CDivP i j := by
  refine ⟨hj, ?_⟩
  obtain ⟨n, rfl⟩ : ∃ n : Nat, j = n := ⟨j.toNat, by omega⟩
  have hn : 0 < n := by omega
  rw [← Int.natCast_mul] at hi
  subst hi
  unfold Builtin.divisionGoesByPylong
  simp only [Int.natAbs_natCast]
  rw [Bool.and_eq_false_iff]
  refine .inr (decide_eq_false fun h => ?_)
  have hn0 : ((n : Int) == 0) = false := by
    rw [beq_eq_false_iff_ne]; omega
  rw [hn0] at h
  simp only [Bool.false_eq_true, if_false] at h
  by_cases hz : n * u = 0
  · rw [hz] at h
    simp at h
  · have hb0 : (((n * u : Nat) : Int) == 0) = false := by
      rw [beq_eq_false_iff_ne]; omega
    rw [hb0] at h
    simp only [Bool.false_eq_true, if_false] at h
    have h1 : (n * u).log2 < n.log2 + 1 + 4000 := by
      rw [Nat.log2_lt hz, Nat.pow_add]
      have h2 : n < 2 ^ (n.log2 + 1) := Nat.lt_log2_self
      exact Nat.mul_lt_mul_of_lt_of_le h2 (Nat.le_of_lt hu) (Nat.pow_pos (by decide))
    omega
/-- a fraction that is a small one in other terms -/
theorem lowOk_ratio {x y : Int} {t m : Nat} (hx : 0 ≤ x) (hy : 0 < y) (hm : 0 < m) (hm2 : m < 100000000000000000) (ht : t < 100000000000000000) (h : x * m = t * y) : LowOk x y := by
  obtain ⟨n, rfl⟩ : ∃ n : Nat, x = n := ⟨x.toNat, by omega⟩
  obtain ⟨d, rfl⟩ : ∃ m : Nat, y = m := ⟨y.toNat, by omega⟩
  have h' : n * m = t * d := by exact_mod_cast h
  unfold LowOk
  simp only [Int.toNat_natCast]
  have hg : 0 < Nat.gcd n d := Nat.gcd_pos_of_pos_right _ (by omega)
  have hc : Nat.Coprime (n / Nat.gcd n d) (d / Nat.gcd n d) := Nat.coprime_div_gcd_div_gcd hg
  obtain ⟨u, hu⟩ := Nat.gcd_dvd_left n d
  obtain ⟨v, hv⟩ := Nat.gcd_dvd_right n d
  have e1 : n / Nat.gcd n d = u := by
    conv => lhs; lhs; rw [hu]
    exact Nat.mul_div_cancel_left _ hg
  have e2 : d / Nat.gcd n d = v := by
    conv => lhs; lhs; rw [hv]
    exact Nat.mul_div_cancel_left _ hg
  rw [e1, e2] at hc
  generalize Nat.gcd n d = g at *
  subst hu hv
  have e3 : u * m = t * v := by
    have : g * (u * m) = g * (t * v) := by rw [← Nat.mul_assoc, h', Nat.mul_left_comm]
    exact Nat.eq_of_mul_eq_mul_left hg this
  have hvm : v ∣ m := (Nat.Coprime.symm hc).dvd_of_dvd_mul_left ⟨t, by rw [e3, Nat.mul_comm]⟩
  have hvl : v ≤ m := Nat.le_of_dvd hm hvm
  have hul : u ≤ t := by
    have : u * m ≤ t * m := by rw [e3]; exact Nat.mul_le_mul_left _ hvl
    exact Nat.le_of_mul_le_mul_right this hm
  have big : 100000000000000000 < 2 ^ 4000 := Nat.lt_of_lt_of_le (show 100000000000000000 < 2 ^ 60 by decide) (Nat.pow_le_pow_right (by decide) (by decide))
  exact ⟨cdivp_near (u := u) (by omega) (by rw [Int.natCast_mul]) (by omega), cdivp_near (u := v) (by omega) (by rw [Int.natCast_mul]) (by omega)⟩
/-- where the bottom goes into as many nines, so to speak, the division ends or comes round by then -/
theorem divAt_small {b m p A L : Nat} (h : (L ≠ 0 ∧ m ∣ b ^ A * (b ^ L - 1)) ∨ m ∣ b ^ A) (hb : 0 < b) : ∃ s l, s + l ≤ A + L ∧ DivAt b m p s l := by
  have hs : ∃ n, n ≤ A + L ∧ Stp b m p n := by
    rcases h with ⟨hL, q⟩ | q
    · refine ⟨A + L, Nat.le_refl _, .inr ⟨A, by omega, ?_⟩⟩
      unfold rs
      have e : p * b ^ (A + L) = p * b ^ A + p * (b ^ A * (b ^ L - 1)) := by
        rw [Nat.pow_add, ← Nat.mul_add]
        congr 1
        have : b ^ L = 1 + (b ^ L - 1) := by have := Nat.pow_pos (n := L) hb; omega
        conv => lhs; rw [this]
        rw [Nat.mul_add, Nat.mul_one]
      rw [e, Nat.add_mod, Nat.mod_eq_zero_of_dvd (Nat.dvd_trans q (Nat.dvd_mul_left _ _)), Nat.add_zero, Nat.mod_mod]
    · refine ⟨A, Nat.le_add_right _ _, .inl ?_⟩
      unfold rs
      exact Nat.mod_eq_zero_of_dvd (Nat.dvd_trans q (Nat.dvd_mul_left _ _))
  obtain ⟨n, hn, h⟩ := hs
  obtain ⟨k, hk, pk, lk⟩ := exists_least (Stp b m p) n h
  obtain ⟨s, l, e, d⟩ := divAt_of_stp pk lk
  exact ⟨s, l, by omega, d⟩
/-- a writing's worth in lowest terms, as naturals, and how soon its division comes round -/
theorem low_div {b : Nat} {w : Int} {a r : List Int} (hb : 2 ≤ b) (hT : 0 ≤ wT (b : Int) w a r) : ∃ t m : Nat, low (wT b w a r) (wB b a r) = ((t : Int), (m : Int)) ∧ 0 < m ∧ wT b w a r * m = t * wB b a r ∧ (m : Int) ≤ wB b a r ∧ ∃ s l, s + l ≤ a.length + r.length ∧ DivAt b m (t % m) s l := by
  have hB := wB_pos (b := (b : Int)) (a := a) (r := r) (by omega)
  have c := low_cross hT hB
  have g := low_co hT hB
  obtain ⟨t, ht⟩ : ∃ t : Nat, (low (wT b w a r) (wB b a r)).1 = t := ⟨(low (wT b w a r) (wB b a r)).1.toNat, by omega⟩
  obtain ⟨m, hm⟩ : ∃ t : Nat, (low (wT b w a r) (wB b a r)).2 = t := ⟨(low (wT b w a r) (wB b a r)).2.toNat, by omega⟩
  rw [ht, hm] at c g
  have hm0 : 0 < m := by omega
  obtain ⟨T, hT'⟩ : ∃ t : Nat, wT b w a r = t := ⟨(wT b w a r).toNat, by omega⟩
  obtain ⟨B, hB'⟩ : ∃ t : Nat, wB b a r = t := ⟨(wB b a r).toNat, by omega⟩
  have e : T * m = t * B := by
    have := c.1
    rw [hT', hB'] at this
    exact_mod_cast this.symm
  simp only [Int.toNat_natCast] at g
  have hd : m ∣ B := (Nat.Coprime.symm g).dvd_of_dvd_mul_left ⟨T, by rw [← e, Nat.mul_comm]⟩
  have hle : m ≤ B := Nat.le_of_dvd (by omega) hd
  refine ⟨t, m, Prod.ext ht hm, hm0, c.1.symm, by omega, divAt_small ?_ (by omega)⟩
  by_cases hr : r = []
  · right
    have q : B = b ^ a.length := by
      have : wB (b : Int) a r = (b : Int) ^ a.length := if_pos hr
      rw [hB'] at this
      exact_mod_cast this
    rw [← q]; exact hd
  · left
    have hl : 0 < r.length := List.length_pos_iff.mpr hr
    refine ⟨by omega, ?_⟩
    have q : B = b ^ a.length * (b ^ r.length - 1) := by
      have : wB (b : Int) a r = (b : Int) ^ a.length * ((b : Int) ^ r.length - 1) := if_neg hr
      rw [hB'] at this
      have h1 : 1 ≤ b ^ r.length := Nat.pow_pos (by omega)
      have h2 : ((b ^ r.length - 1 : Nat) : Int) = (b : Int) ^ r.length - 1 := by
        rw [Int.natCast_sub h1, Int.natCast_pow]; rfl
      rw [← h2] at this
      exact_mod_cast this
    rw [← q]; exact hd
/-- what is made plain is what division tells -/
theorem made_div {b : Nat} {x y : Wr} {t m s l : Nat} (hb : 2 ≤ b) (hm : 0 < m) (h : MadeOf (b : Int) x y) (e : wT b x.w x.a x.r * m = t * wB b x.a x.r) (hd : DivAt b m (t % m) s l) : y = ⟨((t / m : Nat) : Int), dgs b m (t % m) 0 s, dgs b m (t % m) s l⟩ := by
  have e' := sameW_wo (b := (b : Int)) (by omega) h.st.same e
  obtain ⟨q1, q2, q3, q4⟩ := plain_unique hb h.st.fa h.st.fr h.pl hm e'
  obtain ⟨u1, u2⟩ := q2.unique hd
  obtain ⟨w, a, r⟩ := y
  subst q1
  simp only at u1 u2 q3 q4 ⊢
  rw [u1] at q3
  rw [u1, u2] at q4
  rw [← q3, ← q4]
/-- two writings made plain are one if their worths are, and only then -/
theorem made_eq {b : Nat} {x y x' y' : Wr} (hb : 2 ≤ b) (hx : WrOk (b : Int) x) (hx' : WrOk (b : Int) x') (h : MadeOf (b : Int) x y) (h' : MadeOf (b : Int) x' y') : y = y' ↔ low (wT b x.w x.a x.r) (wB b x.a x.r) = low (wT b x'.w x'.a x'.r) (wB b x'.a x'.r) := by
  have T1 := wT_nn (b := (b : Int)) (a := x.a) (r := x.r) (by omega) hx.w0 hx.fa hx.fr
  have T2 := wT_nn (b := (b : Int)) (a := x'.a) (r := x'.r) (by omega) hx'.w0 hx'.fa hx'.fr
  have B1 := wB_pos (b := (b : Int)) (a := x.a) (r := x.r) (by omega)
  have B2 := wB_pos (b := (b : Int)) (a := x'.a) (r := x'.r) (by omega)
  constructor
  · intro e
    subst e
    rw [low_eq T1 B1 T2 B2]
    have s1 := h.st.same
    have s2 := h'.st.same
    unfold SameW at s1 s2
    have B3 := wB_pos (b := (b : Int)) (a := y.a) (r := y.r) (by omega)
    refine Int.eq_of_mul_eq_mul_right (Int.ne_of_gt B3) ?_
    rw [Int.mul_right_comm, ← s1, Int.mul_right_comm _ _ (wB b y.a y.r), ← s2, Int.mul_right_comm]
  · intro e
    obtain ⟨t, m, q1, q2, q3, q4, s, l, q5, q6⟩ := low_div hb T1
    have c2 := low_cross T2 B2
    rw [← e, q1] at c2
    rw [made_div hb q2 h q3 q6, made_div hb q2 h' c2.1.symm q6]
/-- what is plain is left alone -/
theorem made_self {b : Nat} {x y y' : Wr} (hb : 2 ≤ b) (hx : WrOk (b : Int) x) (hy : WrOk (b : Int) y) (h : MadeOf (b : Int) x y) (h' : MadeOf (b : Int) y y') : y' = y := by
  have T1 := wT_nn (b := (b : Int)) (a := x.a) (r := x.r) (by omega) hx.w0 hx.fa hx.fr
  obtain ⟨t, m, q1, q2, q3, q4, s, l, q5, q6⟩ := low_div hb T1
  have e' := sameW_wo (b := (b : Int)) (by omega) h.st.same q3
  rw [made_div hb q2 h' e' q6, made_div hb q2 h q3 q6]
theorem wid_wr {b : Int} {a r : List Int} {m : Nat} (hb : 2 ≤ b) (hb2 : b ≤ 36) (la : a.length ≤ 132) (lr : r.length ≤ 1200) (h : (m : Int) ≤ wB b a r) : Wid m := by
  have hp := wB_pos (a := a) (r := r) hb
  refine wid_of (k := 8000) ?_ (by decide) (by decide)
  have h1 := pow_lt2 (b := b) (by omega) (by omega) a.length
  have h2 := pow_lt2 (b := b) (by omega) (by omega) r.length
  have h3 := pow_posI (b := b) (by omega) a.length
  have h4 := pow_ge1 (b := b) (by omega) r.length
  have h5 : wB b a r ≤ 2 ^ (6 * a.length) * 2 ^ (6 * r.length) := by
    have h6 : b ^ a.length * b ^ r.length ≤ 2 ^ (6 * a.length) * 2 ^ (6 * r.length) := Int.mul_le_mul h1 h2 (by omega) (Int.le_of_lt (Int.pow_pos (by decide)))
    have h7 : b ^ a.length * 1 ≤ b ^ a.length * b ^ r.length := Int.mul_le_mul_of_nonneg_left h4 (Int.le_of_lt h3)
    unfold wB
    split
    · omega
    · rw [Int.mul_sub]; omega
  rw [← Int.pow_add] at h5
  have h8 := pow_mono2 (show 6 * a.length + 6 * r.length ≤ 7999 by omega)
  have h9 : (2 : Int) ^ 7999 < 2 ^ 8000 := by
    have e : (2 : Int) ^ (7999 + 1) = 2 ^ 7999 * 2 := Int.pow_succ 2 7999
    have e2 : (0 : Int) < 2 ^ 7999 := Int.pow_pos (by decide)
    rw [show (8000 : Nat) = 7999 + 1 from rfl, e]
    omega
  have h10 := nabs_lt (Int.le_of_lt hp) (show wB b a r < 2 ^ 8000 by omega)
  omega
theorem lowOk_wr2 {b w : Int} {a r : List Int} (hb : 2 ≤ b) (hb2 : b ≤ 36) (la : a.length ≤ 132) (lr : r.length ≤ 1200) : LowOk (wT b w a r) (wB b a r) := by
  have hp := wB_pos (a := a) (r := r) hb
  exact lowOk_wide hp (wid_wr hb hb2 la lr (by omega))
/-- a ring made of its head taken so many times goes round as that does -/
theorem rep_rotl {r : List Int} {d : Nat} (h0 : 0 < d) (hd : d < r.length) (e : r = (List.replicate (r.length / d) (r.take d)).flatten) : rotl r d = r := by
  obtain ⟨q, hq⟩ : ∃ q, r.length / d = q + 1 := ⟨r.length / d - 1, by have := Nat.div_pos (Nat.le_of_lt hd) h0; omega⟩
  rw [hq] at e
  have hl : (r.take d).length = d := by rw [List.length_take]; omega
  have e1 : r.drop d = (List.replicate q (r.take d)).flatten := by
    have h1 : r.take d ++ r.drop d = r.take d ++ (List.replicate q (r.take d)).flatten := by
      rw [List.take_append_drop]
      conv => lhs; rw [e]
      rw [List.replicate_succ, List.flatten_cons]
    exact List.append_cancel_left h1
  unfold rotl
  rw [e1]
  conv => rhs; rw [e]
  rw [List.replicate_succ', List.flatten_append]
  simp
theorem made_same {b : Nat} {x y y' : Wr} (hb : 2 ≤ b) (hx : WrOk (b : Int) x) (h : MadeOf (b : Int) x y) (h' : MadeOf (b : Int) x y') : y = y' := (made_eq hb hx hx h h').mpr rfl
end Rf

open PySem L2
namespace Rf
/-! ### divisions' writings -/
def IsDiv (b t m : Nat) (x : Wr) : Prop := ∃ s l, s + l ≤ m ∧ DivAt b m (t % m) s l ∧ x = ⟨((t / m : Nat) : Int), dgs b m (t % m) 0 s, dgs b m (t % m) s l⟩
theorem IsDiv.mk' {b t m s l : Nat} (hm : 0 < m) (d : DivAt b m (t % m) s l) : IsDiv b t m ⟨((t / m : Nat) : Int), dgs b m (t % m) 0 s, dgs b m (t % m) s l⟩ := by
  obtain ⟨s', l', hl, h'⟩ := divAt_exists (b := b) (r := t % m) hm
  obtain ⟨e1, e2⟩ := d.unique h'
  subst e1 e2
  exact ⟨s, l, hl, d, rfl⟩
theorem IsDiv.ex {b t m : Nat} (hm : 0 < m) : ∃ x, IsDiv b t m x := by
  obtain ⟨s, l, hl, h⟩ := divAt_exists (b := b) (m := m) (r := t % m) hm
  exact ⟨_, s, l, hl, h, rfl⟩
theorem IsDiv.eq {b t m : Nat} {x y : Wr} (h : IsDiv b t m x) (h' : IsDiv b t m y) : x = y := by
  obtain ⟨s, l, _, d, rfl⟩ := h
  obtain ⟨s', l', _, d', rfl⟩ := h'
  obtain ⟨e1, e2⟩ := d.unique d'
  subst e1 e2
  rfl
theorem IsDiv.cross {b t m t' m' : Nat} {x : Wr} (h : IsDiv b t m x) (hm : 0 < m) (hm' : 0 < m') (e : t * m' = t' * m) : IsDiv b t' m' x := by
  obtain ⟨s, l, _, d, rfl⟩ := h
  have hs : m' * (t % m) = m * (t' % m') := by
    rw [Nat.mul_comm m', ← Nat.mul_mod_mul_right, e, Nat.mul_comm m m', Nat.mul_mod_mul_right, Nat.mul_comm]
  have hq : t / m = t' / m' := by
    rw [← Nat.mul_div_mul_right t m hm', e, Nat.mul_comm m m', Nat.mul_div_mul_right _ _ hm]
  have d' : DivAt b m' (t' % m') s l := d.scale hm' hm hs
  rw [hq, ← dgs_scale hm' hm hs, ← dgs_scale hm' hm hs]
  exact IsDiv.mk' hm' d'
theorem IsDiv.ok {b t m : Nat} {x : Wr} (h : IsDiv b t m x) (hb : 0 < b) (hm : 0 < m) (hm2 : m ≤ 2000) (ht : t ≤ 1000000000000 * m) : WrOk (b : Int) x := by
  obtain ⟨s, l, hl, d, rfl⟩ := h
  have hq : t / m ≤ 1000000000000 := Nat.div_le_of_le_mul (by rw [Nat.mul_comm]; exact ht)
  refine ⟨Int.natCast_nonneg _, ?_, ?_, ?_, dig_dgs hb hm, dig_dgs hb hm⟩
  · show ((t / m : Nat) : Int) ≤ _
    exact Int.ofNat_le.mpr hq
  · show (dgs b m (t % m) 0 s).length ≤ _; rw [dgs_len]; omega
  · show (dgs b m (t % m) s l).length ≤ _; rw [dgs_len]; omega
theorem IsDiv.worth {b t m : Nat} {x : Wr} (h : IsDiv b t m x) (hb : 2 ≤ b) (hm : 0 < m) : wT b x.w x.a x.r * m = t * wB b x.a x.r := by
  obtain ⟨s, l, hl, d, rfl⟩ := h
  exact div_worth hb hm d
/-- what worth tells of it -/
theorem IsDiv.low {b t m : Nat} {x : Wr} (h : IsDiv b t m x) (hb : 2 ≤ b) (hm : 0 < m) (hm2 : m ≤ 2000) (ht : t ≤ 1000000000000 * m) : LowOk (wT b x.w x.a x.r) (wB b x.a x.r) ∧ ∃ u v : Nat, low (wT b x.w x.a x.r) (wB b x.a x.r) = ((u : Int), (v : Int)) ∧ 0 < v ∧ v ≤ m ∧ u * m = t * v ∧ u ≤ t := by
  have ok := h.ok (by omega) hm hm2 ht
  have e := h.worth hb hm
  have T0 := wT_nn (b := (b : Int)) (a := x.a) (r := x.r) (by omega) ok.w0 ok.fa ok.fr
  have B0 := wB_pos (b := (b : Int)) (a := x.a) (r := x.r) (by omega)
  refine ⟨lowOk_ratio T0 B0 hm (by omega) (by omega) e, ?_⟩
  have el : Rf.low (wT b x.w x.a x.r) (wB b x.a x.r) = Rf.low (t : Int) (m : Int) := (low_eq T0 B0 (by omega) (by omega)).mpr e
  rw [el]
  have c := low_cross (x := (t : Int)) (y := (m : Int)) (by omega) (by omega)
  have g := low_co (x := (t : Int)) (y := (m : Int)) (by omega) (by omega)
  obtain ⟨u, hu⟩ : ∃ u : Nat, (Rf.low (t : Int) (m : Int)).1 = u := ⟨(Rf.low (t : Int) (m : Int)).1.toNat, by omega⟩
  obtain ⟨v, hv⟩ : ∃ v : Nat, (Rf.low (t : Int) (m : Int)).2 = v := ⟨(Rf.low (t : Int) (m : Int)).2.toNat, by omega⟩
  rw [hu, hv] at c g
  simp only [Int.toNat_natCast] at g
  have hv0 : 0 < v := by omega
  have e2 : u * m = t * v := by exact_mod_cast c.1
  have hd : v ∣ m := (Nat.Coprime.symm g).dvd_of_dvd_mul_left ⟨t, by rw [e2, Nat.mul_comm]⟩
  have hvm := Nat.le_of_dvd hm hd
  refine ⟨u, v, Prod.ext hu hv, hv0, hvm, e2, ?_⟩
  have : u * m ≤ t * m := by rw [e2]; exact Nat.mul_le_mul_left _ hvm
  exact Nat.le_of_mul_le_mul_right this hm
/-- a comprehension over range(n) of calls that hand back new writings -/
theorem lc_wrs {D : Addr} {n : Nat} {te : TE} {vs : List Nat} {σ : L2.St} {i : Nat} {H : Hp} {Qd : Hp → Prop} (X : Nat → Wr) (nD : H D = none) (hlen : n < 1000000)
    (hw : ∀ x, wipe ((wipe σ vs).set i (some x)) vs = wipe σ vs)
    (he : ∀ k, k < n → ∀ H' (Q : VK), Same H H' → (∀ H2 p a r, WrNew H' H2 p a r (X k) → Q (.ref p) H2) → te ((wipe σ vs).set i (some (.int (k : Int)))) H' Q)
    (hd : ∀ H' (ps : List Addr), Same H H' → ps.length = n → H' D = some (.lst (ps.map V.ref)) → (∀ k p, ps[k]? = some p → ∃ a r, WrAt H' p a r (X k)) → Qd H') :
    ∃ W : Nat → Nat → Hp → Prop, (∃ m, W 0 m (upd H D (.lst []))) ∧ ∀ j m H, W j m H →
      ((Itr 0 n).stop j H ∧ Qd H) ∨ ((Itr 0 n).go j H ∧ ∃ Nx : Hp → Prop, (∀ H', Nx H' → ∃ m', m' < m ∧ W (j + 1) m' H') ∧ ∀ x H', (Itr 0 n).yld j H x H' → gName i x (wipe σ vs) H' fun σ2 H2 => wipe σ2 vs = wipe σ vs ∧ tYes σ2 H2 fun b H3 =>
        if b = true then te σ2 H3 fun y H4 => ∃ acc, H4 D = some (.lst acc) ∧ acc.length < sizeLine ∧ Nx (upd H4 D (.lst (acc ++ [y]))) else Nx H3) := by
  refine lc_range (lo := 0) (n := n) (fun j H' => Same H H' ∧ ∃ ps : List Addr, ps.length = j ∧ H' D = some (.lst (ps.map V.ref)) ∧ ∀ k p, ps[k]? = some p → ∃ a r, WrAt H' p a r (X k) ∧ a ≠ D ∧ r ≠ D)
    ⟨same_upd nD, [], rfl, upd_same, fun k p h => by cases h⟩ (fun j H' hj ⟨s, ps, hl, hD, hP⟩ => ?_) (fun H' ⟨s, ps, hl, hD, hP⟩ => hd H' ps s hl hD (fun k p h => by obtain ⟨a, r, w, _, _⟩ := hP k p h; exact ⟨a, r, w⟩))
  rw [Int.zero_add]
  refine ⟨hw _, ?_⟩
  show te ((wipe σ vs).set i (some (.int (j : Int)))) H' _
  refine he j hj H' _ s fun H2 p2 a2 r2 w2 => ⟨_, w2.same _ _ hD, ?_, same_new (s.trans w2.same) nD, ps ++ [p2], ?_, ?_, fun k p h => ?_⟩
  · rw [List.length_map]
    exact sz100lt (by omega)
  · rw [List.length_append, hl]; rfl
  · rw [upd_same, List.map_append]; rfl
  · have nd : ∀ z, H' z = none → z ≠ D := fun z hz e => by rw [e, hD] at hz; cases hz
    by_cases hk : k < ps.length
    · rw [List.getElem?_append_left hk] at h
      obtain ⟨a, r, w, ha, hr⟩ := hP k p h
      have w' := w.same w2.same
      have hp : p ≠ D := ne_of w.tp hD (fun z => by cases z)
      exact ⟨a, r, ⟨(upd_ne hp).trans w'.tp, (upd_ne ha).trans w'.la, (upd_ne hr).trans w'.lr⟩, ha, hr⟩
    · by_cases hk2 : k = ps.length
      · subst hk2
        rw [List.getElem?_append_right (Nat.le_refl _), Nat.sub_self] at h
        have e : p2 = p := Option.some.inj h
        subst e
        rw [hl]
        exact ⟨a2, r2, ⟨(upd_ne (nd _ w2.np)).trans w2.at'.tp, (upd_ne (nd _ w2.na)).trans w2.at'.la, (upd_ne (nd _ w2.nr)).trans w2.at'.lr⟩, nd _ w2.na, nd _ w2.nr⟩
      · rw [List.getElem?_eq_none (by rw [List.length_append, List.length_singleton]; omega)] at h
        cases h
theorem isDiv_int (b q : Nat) {m : Nat} (hm : 0 < m) : IsDiv b (q * m) m ⟨(q : Int), [], []⟩ := by
  have h := IsDiv.mk' (b := b) (t := q * m) (m := m) (s := 0) (l := 0) hm ⟨fun k hk => by omega, fun j k _ hk => by omega, fun _ => by unfold rs; rw [Nat.mul_mod_left, Nat.zero_mul, Nat.zero_mod], fun h => by omega⟩
  rw [Nat.mul_div_cancel _ hm] at h
  exact h
end Rf

set_option maxRecDepth 100000
set_option maxHeartbeats 4000000
open PySem PySem.Spec PyProof.Rows L2
namespace Rf
/-! ### list(reversed(xs)) -/
/-- what the i-th turn of a walk from the end gives -/
abbrev BackAt (vs : Array Value) : Nat → Value → Prop := fun i v => vs[vs.size - 1 - i]? = some v
/-- a list object's own make -/
abbrev lob (vs : Array Value) (c : Nat) : Obj := { cls := .type "list", data := .seq vs c }
section
variable {prog : Program} {w : World} {A : Around} {E : Value → Shared → Prop} {s : Shared}
theorem back_ext {R : Result → Shared → Prop} {j l S : Addr} {vs : Array Value} {c : Nat} (res : Value)
    (calm : A.handled = none) (hj : s.heap.IsRevIter j l ((vs.size : Int) - 1)) (hl : s.heap.IsList l vs)
    (lj : l ≠ j) (sj : S ≠ j) (sl : S ≠ l) (sz : vs.size ≤ sizeLine)
    (hS : s.heap.get? S = some (lob #[] c))
    (fin : ∀ h' tk acc c', (∀ b o, b ≠ S → b ≠ j → s.heap.get? b = some o → h'.get? b = some o) → h'.get? S = some (lob acc c')
      → ItemsOf (BackAt vs) acc vs.size → R (.ok (.ret res)) { s with heap := h', toks := tk }) :
    wpAny (model prog w) A.in1 (Builtin.List.listExtendWith (.ref S) (.ref j) res)
      (fun e s' => match e with
        | .done f => R (.ok f) s'
        | .again k => k.quiet = true ∧ codeAny (model prog w) A k R s')
      (fun e s' => R (.error e) s') s := by
  have walk := (Walks.listRev (prog := prog) (w := w) (A := A.in1) calm j l lj vs).toS
  have out : S ∉ [j, l] := fun m => by
    rcases List.mem_cons.mp m with z | z
    · exact sj z
    · exact sl (List.mem_singleton.mp z)
  have ty : s.TypeIs (.ref j) "list_reverseiterator" := Heap.IsRevIter.typeIs hj
  have other : Builtin.List.listSameRef (.ref S) (.ref j) = false := by simp [Builtin.List.listSameRef, sj]
  unfold Builtin.List.listExtendWith
  apply wpAny_bind
  refine wpAny_typeOf ty ?_
  rw [if_neg (by rw [other]; decide)]
  apply wpAny_bind
  refine wpAny_pyIter_revIter hj ?_
  apply wpAny_bind
  refine wpAny_holding ?_
  unfold Builtin.List.listLengthHint
  apply wpAny_bind
  refine wpAny_specialOf ty RT.nolen_lri ?_
  show wpAny (model prog w) A.in1 (specialOf (.ref j) (Str.ofString "__length_hint__") >>= _) _ _ s
  apply wpAny_bind
  refine wpAny_specialOf ty RT.hint_lri ?_
  generalize nm : ("list_reverseiterator.__length_hint__" : String) = x0
  wp_delta
  rw [show splitId x0 = some ("list_reverseiterator", "__length_hint__") from by
    subst nm
    decide +kernel]
  subst nm
  apply wpAny_bind
  refine wpAny_isInstance (b := true) ty (by
    rw [isSubtype_type]
    kernel_rfl) ?_
  refine wpAny_pure ?_
  rw [if_neg (by decide)]
  have first : ((vs.size : Nat) : Int) - 1 - ((0 : Nat) : Int) = (vs.size : Int) - 1 := by omega
  refine wpAny_pure ⟨plainId_quiet F.plain_extend_loop _, ?_⟩
  refine codeAny_extend_loopS walk sz S out res vs.size 0 _ #[] c rfl (Nat.zero_le _) ⟨Nat.zero_le _, ?_, hl⟩ hS (ItemsOf.nil _) ?_
  · rw [first]; exact hj
  · intro s' acc c' mv hS' hacc
    rw [Moved.eq_with mv]
    refine fin s'.heap s'.toks acc c' (fun b o b1 b2 e => mv.heap b o (fun m => ?_) e) hS' hacc
    rcases List.mem_cons.mp m with z | z
    · exact b1 z
    · exact b2 (List.mem_singleton.mp z)
theorem back_init {R : Result → Shared → Prop} {j l S : Addr} {vs : Array Value}
    (calm : A.handled = none) (hj : s.heap.IsRevIter j l ((vs.size : Int) - 1)) (hl : s.heap.IsList l vs)
    (lj : l ≠ j) (sj : S ≠ j) (sl : S ≠ l) (sz : vs.size ≤ sizeLine)
    (hS : s.heap.get? S = some (lob #[] 0))
    (fin : ∀ h' tk acc c', (∀ b o, b ≠ S → b ≠ j → s.heap.get? b = some o → h'.get? b = some o) → h'.get? S = some (lob acc c')
      → ItemsOf (BackAt vs) acc vs.size → R (.ok (.ret .none)) { s with heap := h', toks := tk }) :
    wpAny (model prog w) A.in1 (Builtin.«list.__init__» ⟨[.ref S, .ref j], []⟩)
      (fun e s' => match e with
        | .done f => R (.ok f) s'
        | .again k => k.quiet = true ∧ codeAny (model prog w) A k R s')
      (fun e s' => R (.error e) s') s := by
  show wpAny _ A.in1 (Builtin.List.listItems (.ref S) >>= fun old => Builtin.List.listUpdate (.ref S) (fun _ => #[]) >>= fun _ =>
    letGo old.toList.reverse >>= fun _ => Builtin.List.listExtendWith (.ref S) (.ref j) .none) _ _ s
  apply wpAny_bind
  unfold Builtin.List.listItems
  apply wpAny_bind
  refine wpAny_seqItems hS rfl (wpAny_pure ?_)
  apply wpAny_bind
  show wpAny _ A.in1 (updateSeq S (fun _ => #[])) _ _ s
  refine wpAny_updateSeq hS rfl ?_
  have new := Heap.get?_update_self (Obj.mapSeq fun _ => (#[] : Array Value)) hS rfl
  have stay : ∀ b o, b ≠ S → s.heap.get? b = some o → (s.heap.update S (Obj.mapSeq fun _ => (#[] : Array Value))).get? b = some o := fun b o n e => by
    rw [Heap.get?_update_other _ _ (Ne.symm n)]
    exact e
  apply wpAny_bind
  refine wpAny_letGo ?_
  refine back_ext .none calm (hj.at fun o e => stay j o (Ne.symm sj) e) (hl.at fun o e => stay l o (Ne.symm sl) e) lj sj sl sz new ?_
  intro h' tk acc c' k
  exact fin h' tk acc c' fun b o b1 b2 e => k b o b1 b2 (stay b o b1 e)
theorem back_call {Q : Value → Shared → Prop} {j l : Addr} {vs : Array Value}
    (calm : A.handled = none) (hj : s.heap.IsRevIter j l ((vs.size : Int) - 1)) (hl : s.heap.IsList l vs)
    (lj : l ≠ j) (sz : vs.size ≤ sizeLine)
    (fin : ∀ h' tk acc c', (∀ b o, b ≠ j → s.heap.get? b = some o → h'.get? b = some o) → h'.get? s.heap.objs.size = some (lob acc c')
      → ItemsOf (BackAt vs) acc vs.size → Q (.ref s.heap.objs.size) { s with heap := h', toks := tk }) :
    wpAny (model prog w) A (call (.type "list") [.ref j]) Q E s := by
  refine callType_codes (Q₁ := fun o s1 => o = .ref s.heap.objs.size ∧ s1 = { s with heap := s.heap.push (lob #[] 0) }) F.called_list (F.typeCall_list_1 (.ref j)) F.entry_list_init (code_list_new (.ref j) ⟨rfl, rfl⟩) ?_
  rintro o s1 ⟨rfl, rfl⟩
  have at0 : (s.heap.push (lob #[] 0)).get? s.heap.objs.size = some (lob #[] 0) := Heap.get?_push_size _ rfl
  have stay : ∀ b o, s.heap.get? b = some o → (s.heap.push (lob #[] 0)).get? b = some o := fun b o e => Heap.get?_push_of_some _ e
  have jlt : j < s.heap.objs.size := by
    obtain ⟨o, e, _⟩ := hj
    exact Heap.lt_size e
  have llt : l < s.heap.objs.size := by
    obtain ⟨o, e, _⟩ := hl
    exact Heap.lt_size e
  refine ⟨⟨_, at0, rfl⟩, F.args_list_init_2 _ _, ?_⟩
  refine back_init (A := A.in1) calm (hj.at fun o e => stay j o e) (hl.at fun o e => stay l o e) lj (Nat.ne_of_gt jlt) (Nat.ne_of_gt llt) sz at0 ?_
  intro h' tk acc c' k e i
  exact ⟨rfl, fin h' tk acc c' (fun b o n eb => k b o (Nat.ne_of_lt (Heap.lt_size eb)) n (stay b o eb)) e i⟩
end
/-- list(reversed(x)), x a list: a new list -/
def tBack (K : PySem.W.Frag) (te : TE) : TE := fun σ H Q => te σ H fun v H1 =>
  ∃ (a : Addr) (xs : List V), v = .ref a ∧ SqL K H1 a xs ∧ ∀ q, H1 q = none → Q (.ref q) (upd H1 q (.lst xs.reverse))
theorem pe_lrev {X : Cx} {e : Expr} {te : TE} {p p2 pos pos2 : Pos} (gl : Gl X "list") (ml : X.mg "list" = none) (gr : Gl X "reversed") (mr : X.mg "reversed" = none)
    (he : PE X e te) (hc : X.calm = true := by rfl)
    (st1 : starEach [e] X.env = (false, eval e X.env) :: starEach [] X.env := by rfl)
    (st2 : starEach [.Call (.Name "reversed" p2) [e] [] pos2] X.env = (false, eval (.Call (.Name "reversed" p2) [e] [] pos2) X.env) :: starEach [] X.env := by rfl) :
    PE X (.Call (.Name "list" p) [.Call (.Name "reversed" p2) [e] [] pos2] [] pos) (tBack X.K te) := by
  refine ⟨fun pins s σ H Q I h => ?_⟩
  refine Call_ (ld_blt I gl ml boot_list (PyProof.Rows.callWith_type1 (args_cons (Call_ (ld_blt I gr mr PyProof.Rows.boot_reversed (PyProof.Rows.callWith_type1 (args_cons (thn (he.run pins s σ H _ I h) ?_) st1) st1 rfl))) st2) st2 rfl))
  rintro u s1 ⟨v, H1, I1, ru, a, xs, rfl, sq, q⟩
  obtain rfl : u = Value.ref a := ru
  obtain ⟨its, rv, il, hz⟩ := I1.list sq
  refine args_nil ?_
  refine call_reversed_list il.isList (args_nil ?_)
  have ll := il.isList
  have alt : a < s1.heap.objs.size := by
    obtain ⟨o, e, _⟩ := id ll
    exact Heap.lt_size e
  have sz : its.toArray.size ≤ sizeLine := by
    rw [List.size_toArray, ← rv.length]
    exact hz
  refine back_call (s := { s1 with heap := s1.heap.push (revObj a ((its.toArray.size : Int) - 1)) }) (I1.ok.hd hc) ⟨_, Heap.get?_push_size _ rfl, rfl, rfl⟩ (ll.push _) (Nat.ne_of_lt alt) sz ?_
  intro h' tk acc c' k e i
  have big : s1.heap.objs.size ≤ (s1.heap.push (revObj a ((its.toArray.size : Int) - 1))).objs.size := by
    rw [Heap.size_push]
    exact Nat.le_succ _
  have keep : ∀ b o, s1.heap.get? b = some o → h'.get? b = some o := fun b o eb => k b o (Nat.ne_of_lt (Heap.lt_size eb)) (Heap.get?_push_of_some _ eb)
  refine ⟨.ref (s1.heap.push (revObj a ((its.toArray.size : Int) - 1))).objs.size, _, I1.laid (t' := tk) (o := .lst xs.reverse) keep big ?_, rfl, q _ (I1.hok.fresh big)⟩
  refine ⟨by rw [List.length_reverse]; exact hz, acc.toList, c', RT.vals_rev rv i, ?_⟩
  rw [Array.toArray_toList]
  exact e
end Rf

open PySem PySem.Spec PyProof.Rows L2
namespace Rf
/-! ### signs -/
def sg (x : Int) : Nat := if x < 10 then 48 + x.toNat else 87 + x.toNat
def sgs (ns : List Int) : Str := ⟨(ns.map sg).toArray⟩
def SIG : Str := Str.ofString "0123456789abcdefghijklmnopqrstuvwxyz"
theorem sig_cps : SIG.cps.toList = (List.range 36).map fun k : Nat => sg (k : Int) := by decide +kernel
theorem sig_get {x : Int} (h0 : 0 ≤ x) (h : x < 36) : SIG.cps.toList[x.toNat]? = some (sg x) := by
  rw [sig_cps, List.getElem?_map, List.getElem?_range (by omega)]
  show some (sg ((x.toNat : Nat) : Int)) = some _
  rw [Int.toNat_of_nonneg h0]
theorem sig_at {x : Int} (h0 : 0 ≤ x) (h : x < 36) : atI SIG.cps.toList x = some (sg x) := by
  have := atI_nat (sig_get h0 h)
  rw [Int.toNat_of_nonneg h0] at this
  exact this
theorem fold_signs (xs : List Int) : ∀ A : Array Nat, List.foldl (fun (acc : Array Nat) (p : Str) => acc ++ (Str.ofString "").cps ++ p.cps) A (xs.map fun x => (⟨#[sg x]⟩ : Str)) = A ++ (xs.map sg).toArray := by
  induction xs with
  | nil => intro A; simp
  | cons x xs ih =>
    intro A
    rw [List.map_cons, List.foldl_cons, ih]
    have e : (Str.ofString "").cps = #[] := by decide +kernel
    rw [e, List.map_cons]
    apply Array.ext'
    simp
theorem join_signs (ns : List Int) : Txt.join (Str.ofString "") (ns.map fun x => (⟨#[sg x]⟩ : Str)) = sgs ns := by
  unfold Txt.join Builtin.Str.glued sgs
  cases ns with
  | nil => rfl
  | cons x xs =>
    congr 1
    rw [List.map_cons, List.headD_cons, List.drop_one, List.tail_cons]
    refine (fold_signs xs _).trans ?_
    apply Array.ext'
    simp
theorem sum_signs (ns : List Int) : ((ns.map fun x => (⟨#[sg x]⟩ : Str)).map fun x => x.length).sum = ns.length := by
  induction ns with
  | nil => rfl
  | cons x xs ih =>
    rw [List.map_cons, List.map_cons, List.sum_cons, ih, List.length_cons]
    show 1 + _ = _
    omega
/-! ### the figures of a whole number -/
def dgN (b n : Nat) : List Int := if h : b < 2 ∨ n < b then [(n : Int)] else dgN b (n / b) ++ [((n % b : Nat) : Int)]
termination_by n
decreasing_by exact Nat.div_lt_self (by omega) (by omega)
theorem dgN_small {b n : Nat} (h : n < b) : dgN b n = [(n : Int)] := by
  rw [dgN, dif_pos (.inr h)]
theorem dgN_big {b n : Nat} (hb : 2 ≤ b) (h : b ≤ n) : dgN b n = dgN b (n / b) ++ [((n % b : Nat) : Int)] := by
  rw [dgN, dif_neg (by omega)]
theorem dgN_ok {b : Nat} (hb : 2 ≤ b) : ∀ n : Nat, ∀ x, x ∈ dgN b n → 0 ≤ x ∧ x < (b : Int) := fun n => by
  induction n using Nat.strongRecOn with
  | _ n ih =>
    intro x hx
    by_cases h : n < b
    · rw [dgN_small h] at hx
      rw [List.mem_singleton.mp hx]
      omega
    · rw [dgN_big hb (by omega)] at hx
      rcases List.mem_append.mp hx with q | q
      · exact ih (n / b) (Nat.div_lt_self (by omega) (by omega)) x q
      · rw [List.mem_singleton.mp q]
        have := Nat.mod_lt n (show 0 < b by omega)
        omega
theorem dgN_num {b : Nat} (hb : 2 ≤ b) : ∀ n : Nat, (dgN b n).foldl (fun t f => t * (b : Int) + f) 0 = (n : Int) := fun n => by
  induction n using Nat.strongRecOn with
  | _ n ih =>
    by_cases h : n < b
    · rw [dgN_small h]
      show 0 * (b : Int) + (n : Int) = n
      rw [Int.zero_mul, Int.zero_add]
    · rw [dgN_big hb (by omega), List.foldl_append, ih (n / b) (Nat.div_lt_self (by omega) (by omega))]
      show ((n / b : Nat) : Int) * b + ((n % b : Nat) : Int) = n
      have := Nat.div_add_mod n b
      rw [Nat.mul_comm] at this
      exact_mod_cast this
theorem dgN_len {b : Nat} (hb : 2 ≤ b) : ∀ n k : Nat, n < 2 ^ k → (dgN b n).length ≤ k + 1 := fun n => by
  induction n using Nat.strongRecOn with
  | _ n ih =>
    intro k hk
    by_cases h : n < b
    · rw [dgN_small h]; simp
    · rw [dgN_big hb (by omega), List.length_append]
      obtain ⟨j, rfl⟩ : ∃ j, k = j + 1 := ⟨k - 1, by
        rcases Nat.eq_zero_or_pos k with z | z
        · rw [z] at hk; simp at hk; omega
        · omega⟩
      have h1 : n / b < 2 ^ j := by
        rw [Nat.div_lt_iff_lt_mul (by omega)]
        rw [Nat.pow_succ] at hk
        exact Nat.lt_of_lt_of_le hk (Nat.mul_le_mul_left _ hb)
      have := ih (n / b) (Nat.div_lt_self (by omega) (by omega)) j h1
      show _ + 1 ≤ _
      omega
/-- no nought ahead but in nought itself -/
theorem dgN_head {b : Nat} (hb : 2 ≤ b) : ∀ n : Nat, ∃ x xs, dgN b n = x :: xs ∧ (x = 0 → xs = []) := fun n => by
  induction n using Nat.strongRecOn with
  | _ n ih =>
    by_cases h : n < b
    · exact ⟨n, [], dgN_small h, fun _ => rfl⟩
    · obtain ⟨x, xs, e, hx⟩ := ih (n / b) (Nat.div_lt_self (by omega) (by omega))
      refine ⟨x, xs ++ [((n % b : Nat) : Int)], by rw [dgN_big hb (by omega), e]; rfl, fun z => ?_⟩
      exfalso
      have hxs := hx z
      subst z hxs
      have hn := dgN_num hb (n / b)
      rw [e] at hn
      have h1 : 0 < n / b := Nat.div_pos (by omega) (by omega)
      simp at hn
      omega
theorem sgs_app (xs ys : List Int) : sgs xs ++ sgs ys = sgs (xs ++ ys) := by
  show (⟨(xs.map sg).toArray ++ (ys.map sg).toArray⟩ : Str) = ⟨((xs ++ ys).map sg).toArray⟩
  congr 1
  apply Array.ext'
  simp
theorem sgs_one (x : Int) : (⟨#[sg x]⟩ : Str) = sgs [x] := rfl
theorem sgs_len (xs : List Int) : (sgs xs).length = xs.length := by
  show ((xs.map sg).toArray).size = _
  simp
/-- a text by its code points -/
def tx (l : List Nat) : Str := ⟨l.toArray⟩
theorem tx_app (l l' : List Nat) : tx l ++ tx l' = tx (l ++ l') := by
  show (⟨l.toArray ++ l'.toArray⟩ : Str) = ⟨(l ++ l').toArray⟩
  congr 1
  apply Array.ext'
  simp
theorem sgs_tx (ns : List Int) : sgs ns = tx (ns.map sg) := rfl
theorem tx_len (l : List Nat) : (tx l).length = l.length := by
  show (l.toArray).size = _
  simp
theorem tx_dot : Str.ofString "." = tx [46] := by decide +kernel
theorem tx_open : Str.ofString "(" = tx [40] := by decide +kernel
theorem tx_close : Str.ofString ")" = tx [41] := by decide +kernel
/-! ### texts of writings -/
theorem tx_S (l : List Nat) : tx l = SX.S l := rfl
/-- the signs of a writing -/
def txN (b : Nat) (x : Wr) : List Nat := (dgN b x.w.toNat).map sg ++ (if x.a = [] ∧ x.r = [] then [] else 46 :: x.a.map sg) ++ (if x.r = [] then [] else 40 :: x.r.map sg ++ [41])
def txS (b : Nat) (x : Wr) : Str := tx (txN b x)
theorem sg_lo {x : Int} (h : 0 ≤ x) : 48 ≤ sg x := by
  unfold sg
  split <;> omega
theorem sg_inj {x y : Int} (h1 : 0 ≤ x) (h2 : 0 ≤ y) (h : sg x = sg y) : x = y := by
  unfold sg at h
  split at h <;> split at h <;> omega
theorem sg_not {ns : List Int} {b : Int} {c : Nat} (h : Figs b ns) (hc : c < 48) : c ∉ ns.map sg := fun hm => by
  obtain ⟨x, hx, e⟩ := List.mem_map.mp hm
  have := sg_lo (h x hx).1
  omega
theorem sig_take (b : Nat) (hb : b ≤ 36) : SIG.cps.toList.take b = (List.range b).map fun k : Nat => sg (k : Int) := by
  rw [sig_cps, ← List.map_take, List.take_range, Nat.min_eq_left hb]
theorem mem_sig {b c : Nat} (hb : b ≤ 36) : c ∈ SIG.cps.toList.take b ↔ ∃ x : Int, 0 ≤ x ∧ x < (b : Int) ∧ c = sg x := by
  rw [sig_take b hb]
  constructor
  · intro h
    obtain ⟨k, hk, e⟩ := List.mem_map.mp h
    have := List.mem_range.mp hk
    exact ⟨(k : Int), by omega, by omega, e.symm⟩
  · rintro ⟨x, h0, h1, rfl⟩
    refine List.mem_map.mpr ⟨x.toNat, List.mem_range.mpr (by omega), ?_⟩
    show sg ((x.toNat : Nat) : Int) = sg x
    rw [Int.toNat_of_nonneg h0]
theorem sig_slice {b : Nat} : Txt.slice SIG none (some (b : Int)) = tx (SIG.cps.toList.take b) := by
  have e : SIG = SX.S SIG.cps.toList := (SX.S_tl SIG).symm
  have h := SX.slice_to (a := SIG.cps.toList) (i := (b : Int)) (by omega)
  rw [← e, Int.toNat_natCast] at h
  exact h
theorem sig_occ_all : (List.range 36).all (fun k : Nat => (Builtin.Str.occurrences SIG ⟨#[sg (k : Int)]⟩ 0 SIG.length 1).head? == some k) = true := by decide +kernel
theorem sig_occ {x : Int} (h0 : 0 ≤ x) (h : x < 36) : ∃ rest, Builtin.Str.occurrences SIG ⟨#[sg x]⟩ 0 SIG.length 1 = x.toNat :: rest := by
  have e := List.all_eq_true.mp sig_occ_all x.toNat (List.mem_range.mpr (by omega))
  have e := eq_of_beq e
  rw [Int.toNat_of_nonneg h0] at e
  exact List.head?_eq_some_iff.mp e
/-- a loop over the signs of a text -/
theorem for_tx {l : List Nat} {g : TG} {tb : TS} {D : Ends} {σ : L2.St} {H : Hp} (Pv : Nat → L2.St → Hp → Prop) (h0 : Pv 0 σ H)
    (hs : ∀ i c σ H, l[i]? = some c → Pv i σ H → g (.str ⟨#[c]⟩) σ H fun σ2 H2 => tb { D with nx := Pv (i + 1), ct := Pv (i + 1), bk := D.nx } σ2 H2) (hd : ∀ σ H, Pv l.length σ H → D.nx σ H) :
    ∃ W : Nat → Nat → L2.St → Hp → Prop, (∃ m, W 0 m σ H) ∧ ∀ i m σ H, W i m σ H →
      ((Its (tx l)).stop i H ∧ D.nx σ H) ∨ ((Its (tx l)).go i H ∧ ∃ N : L2.St → Hp → Prop, (∀ σ' H', N σ' H' → ∃ m', m' < m ∧ W (i + 1) m' σ' H') ∧ ∀ v H', (Its (tx l)).yld i H v H' → g v σ H' fun σ2 H2 => tb { D with nx := N, ct := N, bk := D.nx } σ2 H2) := by
  have sz : (tx l).cps.size = l.length := List.size_toArray
  refine ⟨fun i m σ H => m = l.length - i ∧ i ≤ l.length ∧ Pv i σ H, ⟨_, rfl, Nat.zero_le _, h0⟩, ?_⟩
  rintro i m σ H ⟨rfl, hi, p⟩
  by_cases hlt : i < l.length
  · refine .inr ⟨by show i < (tx l).cps.size; omega, Pv (i + 1), fun σ' H' p' => ⟨l.length - (i + 1), by omega, rfl, hlt, p'⟩, fun v H' y => ?_⟩
    obtain ⟨rfl, c, hc, rfl⟩ := y
    refine hs i c σ _ ?_ p
    have : (l.toArray)[i]? = some c := hc
    rw [List.getElem?_toArray] at this
    exact this
  · have e : i = l.length := by omega
    subst e
    exact .inl ⟨by show (tx l).cps.size ≤ _; omega, hd σ H p⟩
/-! ### a text cut at a sign -/
theorem cut_at {c : Nat} {p : List Nat} (q : List Nat) (hc : c < 256) (h : c ∉ p) : Txt.split (tx (p ++ c :: q)) (tx [c]) = tx p :: Txt.split (tx q) (tx [c]) := by
  have hk : [c].all (· < 256) = true := by simp [hc]
  show Txt.split (SX.S (p ++ c :: q)) (SX.S [c]) = SX.S p :: Txt.split (SX.S q) (SX.S [c])
  rw [SX.split_S (by simp) hk, SX.split_S (by simp) hk]
  have e := TL.spl_part1 (s := c) (S := []) (p := p) (rest := q) (acc := []) h
  rw [List.nil_append] at e
  rw [show p ++ c :: q = p ++ ([c] ++ q) from rfl, e]
  rfl
theorem cut_none {c : Nat} {p : List Nat} (hc : c < 256) (h : c ∉ p) : Txt.split (tx p) (tx [c]) = [tx p] := by
  have hk : [c].all (· < 256) = true := by simp [hc]
  show Txt.split (SX.S p) (SX.S [c]) = _
  rw [SX.split_S (by simp) hk, TL.spl_last1 h]
  rfl
/-- what stands behind the point -/
def txB (x : Wr) : List Nat := x.a.map sg ++ (if x.r = [] then [] else 40 :: (x.r.map sg ++ [41]))
theorem txN_none {b : Nat} {x : Wr} (h : x.a = [] ∧ x.r = []) : txN b x = (dgN b x.w.toNat).map sg := by
  unfold txN
  rw [if_pos h, if_pos h.2, List.append_nil, List.append_nil]
theorem txN_some {b : Nat} {x : Wr} (h : ¬ (x.a = [] ∧ x.r = [])) : txN b x = (dgN b x.w.toNat).map sg ++ 46 :: txB x := by
  unfold txN txB
  rw [if_neg h]
  simp only [List.append_assoc, List.cons_append]
theorem not_dg {b c : Nat} (hb : 2 ≤ b) (n : Nat) (hc : c < 48) : c ∉ (dgN b n).map sg := sg_not (b := (b : Int)) (dgN_ok hb n) hc
theorem split_none {b : Nat} {x : Wr} (hb : 2 ≤ b) (h : x.a = [] ∧ x.r = []) : Txt.split (txS b x) (tx [46]) = [tx ((dgN b x.w.toNat).map sg)] := by
  unfold txS
  rw [txN_none h]
  exact cut_none (by decide) (not_dg hb _ (by decide))
theorem split_some {b : Nat} {x : Wr} (hb : 2 ≤ b) (fa : Figs b x.a) (fr : Figs b x.r) (h : ¬ (x.a = [] ∧ x.r = [])) : Txt.split (txS b x) (tx [46]) = [tx ((dgN b x.w.toNat).map sg), tx (txB x)] := by
  unfold txS
  rw [txN_some h, cut_at _ (by decide) (not_dg hb _ (by decide)), cut_none (by decide)]
  unfold txB
  intro hm
  rcases List.mem_append.mp hm with q | q
  · exact sg_not fa (by decide) q
  · split at q
    · cases q
    · rcases List.mem_cons.mp q with q | q
      · exact absurd q (by decide)
      · rcases List.mem_append.mp q with q | q
        · exact sg_not fr (by decide) q
        · exact absurd (List.mem_singleton.mp q) (by decide)
theorem behind_none {b : Nat} {x : Wr} (fa : Figs b x.a) (h : x.r = []) : Txt.split (tx (txB x)) (tx [40]) = [tx (x.a.map sg)] := by
  unfold txB
  rw [if_pos h, List.append_nil]
  exact cut_none (by decide) (sg_not fa (by decide))
theorem behind_some {b : Nat} {x : Wr} (fa : Figs b x.a) (fr : Figs b x.r) (h : x.r ≠ []) : Txt.split (tx (txB x)) (tx [40]) = [tx (x.a.map sg), tx (x.r.map sg ++ [41])] := by
  unfold txB
  rw [if_neg h, cut_at _ (by decide) (sg_not fa (by decide)), cut_none (by decide)]
  intro hm
  rcases List.mem_append.mp hm with q | q
  · exact sg_not fr (by decide) q
  · exact absurd (List.mem_singleton.mp q) (by decide)
theorem txS_len {b : Nat} {x : Wr} (hb : 2 ≤ b) (ho : WrOk b x) : (txS b x).length ≤ 9000 := by
  have h40 : (2 : Nat) ^ 40 = 1099511627776 := by decide
  have hw := ho.w1
  have := dgN_len hb x.w.toNat 40 (by omega)
  have := ho.la
  have := ho.lr
  unfold txS txN
  rw [tx_len, List.length_append, List.length_append, List.length_map]
  have e1 : (if x.a = [] ∧ x.r = [] then ([] : List Nat) else 46 :: x.a.map sg).length ≤ 4001 := by
    split
    · exact Nat.zero_le _
    · rw [List.length_cons, List.length_map]; omega
  have e2 : (if x.r = [] then ([] : List Nat) else 40 :: x.r.map sg ++ [41]).length ≤ 4002 := by
    split
    · exact Nat.zero_le _
    · rw [List.length_append, List.length_cons, List.length_map]; show _ + 1 ≤ _; omega
  omega
theorem last_ring (r : List Int) : Txt.slice (tx (r.map sg ++ [41])) (some (-1)) none = tx [41] := SX.last_snoc _ _
theorem but_ring (r : List Int) : Txt.slice (tx (r.map sg ++ [41])) none (some (-1)) = tx (r.map sg) := SX.butlast_snoc _ _
end Rf

open PySem PySem.Spec PyProof.Rows L2
namespace Rf
/-! ### rules inside a comprehension, their K named -/
theorem call_len_K {X : Cx} {K : PySem.W.Frag} (h : X.K = K) : CallR X (.builtin "len") (fun xs H Q => ∃ (p : Addr) (ys : List V), xs = [V.ref p] ∧ (SqL K H p ys ∨ SqT K H p ys) ∧ Q (V.int (ys.length : Int)) H) := by
  subst h
  exact call_len_seq
theorem ix_list_K {X : Cx} {K : PySem.W.Frag} (h : X.K = K) : IxR X (rIxL K) := by
  subst h
  exact ix_list
end Rf

set_option maxRecDepth 100000
set_option maxHeartbeats 4000000
open PySem PySem.Spec PyProof.Rows L2
namespace Rf
/-! ### a def that is called in an except suite, the exception in hand at p -/
structure FnE (P : Program) (w : World) (K : PySem.W.Frag) (mg : Str → Option Value) (base : Heap) (p : Addr × Obj) (k : Nat) (f : Addr) (fd : FuncData) (ps : List Str) (sp : Sp) : Prop where
  arity : ∀ vs H Q E, sp vs H Q E → vs.length = ps.length
  goes : ∀ (A : Around) (outer : List Env) (s : Shared) (H : Hp) (args : Args) (us : List Value) (vs : List V) (Q : VK) (E : XK),
    L2H.RoomH k A → L2H.PinOk outer H s p → Env0 P w K mg base A outer s H → BindsTo s fd args (ps.zip us) → Vals vs us → sp vs H Q E →
      codeAny (model P w) A (.call (.ref f) args) (CR CX0 outer P w H s Q E) s
section
variable {P : Program} {w : World} {K : PySem.W.Frag} {mg : Str → Option Value} {base : Heap} {p : Addr × Obj}
theorem Fun.okE {x qual : Str} {st : Stmt} {f : Addr} {fd : FuncData} {N ps : List Str} {k : Nat} {sp : Sp} (F : Fun K x qual st f fd) (S : FnScope N ps (defScope st))
    (len : ∀ vs H Q E, sp vs H Q E → vs.length = ps.length)
    (body : ∀ (cdv : Value) (A : Around) (outer : List Env) (s : Shared) (H : Hp) (vs : List V) (Q : VK) (E : XK),
      L2H.RoomH k (A.deeper (envOfC qual (defScope st) s.heap.objs.size f cdv)) → sp vs H Q E →
      ∃ t, PSs (L2H.cxH CX0 P w K mg base N qual (defScope st) f cdv A outer s H E p) (defBody st) t ∧ t { nx := fun _ H' => Q .non H', rt := Q } (L2.start N vs) H) :
    FnE P w K mg base p (k + 1) f fd ps sp := by
  obtain ⟨oc, od, kV, doc, pm, an, cdv, ct, osl, rfl, lk, code⟩ := F.ex
  refine ⟨len, ?_⟩
  intro A outer s H args us vs Q E room pin env bnd r wish
  have KIn : K.In s.heap := env.mod.kin.keeps fun b o z => (env.bs b o z).1
  have NoL : s.heap.NoLimit := env.mod.nolimit.keeps fun b o z => (env.bs b o z).1
  have kinds : ∀ y ∈ ps.zip us, (defScope st).names.lookup y.1 = some .local ∨ ((defScope st).names.lookup y.1 = some .cell ∧ ((cellsFrom (s.heap.objs.size + 1) (defScope st).names []).lookup y.1).isSome = true) := by
    rintro ⟨n, v⟩ hy
    rcases S.par n (List.of_mem_zip hy).1 with q | q
    · exact Or.inl q
    · exact Or.inr ⟨q, PySem.W.cellsFrom_some _ _ _ (Or.inl q)⟩
  refine codeAny_call_function room.depth (KIn _ _ lk) rfl S.co S.gen rfl (PySem.W.codeRec_of KIn code) (bnd _ _ _ _ ?_)
  refine wpAny_newFunctionEnv_cells S.kind kinds ?_
  rintro env' rfl s1 call
  refine ⟨NoL.keeps call.toInCall.keep, codeAny_func ?_⟩
  obtain ⟨t, der, read⟩ := body cdv A outer s H vs Q E (room.deeper _) wish
  have I0 := L2H.inv_startH (CX := CX0) (P := P) (w := w) (E := E) (cd := cdv) S pin env (len _ _ _ _ wish) r call
  refine wpAny_mono (der.run [] s1 (L2.start N vs) H _ I0 read) ?_ (fun e s' z => z)
  intro fl s' z
  cases fl with
  | brk => obtain ⟨_, _, _, z⟩ := z; exact z.elim
  | cont => obtain ⟨_, _, _, z⟩ := z; exact z.elim
  | next =>
    obtain ⟨σ', H', J, z⟩ := z
    exact ⟨V.non, H', J.os, J.bare, J.base, J.hok, rfl, z⟩
  | ret u =>
    obtain ⟨v, σ', H', J, rv, z⟩ := z
    exact ⟨v, H', J.os, J.bare, J.base, J.hok, rv, z⟩
end
section
variable {X : Cx} {k : Nat} {f : Addr} {fd : FuncData} {ps : List Str} {sp : Sp} {x : Str} {q pos : Pos} {e : Expr} {es : List Expr} {t : TA}
/-- such a call, in the suite of the exception at p -/
theorem pe_callE {p : Addr × Obj} (F : FnE X.prog X.w X.K X.mg X.base p k f fd ps sp) (room : L2H.RoomH k X.A) (mem : p ∈ X.pn) (hg : Gl X x) (hm : X.mg x = some (.ref f)) (kp : PySem.W.keepIn X.K (.ref f) = true) (bnd : Binds X.K fd ps [])
    (ha : PA X (e :: es) t) (dbg : (x == ("__debug__" : Str)) = false := by decide)
    (st1 : starEach (e :: es) X.env = (false, eval e X.env) :: starEach es X.env := by rfl) (st2 : (backTo pos (starEach es X.env)).any (·.1) = false := by rfl) :
    PE X (.Call (.Name x q) (e :: es) [] pos) (tCallS sp (fun _ => E0) t) := by
  refine ⟨?_⟩
  intro pins s σ H Q I h
  refine wpAny_Call_Name_kw (ld_glob I hg hm ?_ dbg)
  refine PySem.W.callWith_K (h₀ := X.base) I.ok.mod.kin kp (thn (ha.run pos pins s σ H _ I h) ?_) st1 st2
  rintro us s1 ⟨vs, H1, I1, r, z⟩
  refine ⟨I1.kIn, ?_⟩
  have n1 : us.length = ps.length := (r.length).symm.trans (F.arity _ _ _ _ z)
  have b := bnd s1 us I1.kIn (by rw [List.append_nil]; exact n1)
  rw [List.append_nil] at b
  have at1 := I1.pin p (List.mem_append_left _ mem)
  have pin : L2H.PinOk X.stack H1 s1 p := by
    refine ⟨at1.1, at1.2.1, fun m => ?_, at1.2.2.2.2⟩
    rcases List.mem_cons.mp (I1.stkSub p.1 m) with y | y
    · exact at1.2.2.1 y
    · exact at1.2.2.2.1 y
  refine wpAny_call (codeAny_mono (F.goes X.A X.stack s1 H1 ⟨us, []⟩ us vs Q E0 room pin I1.env0 b r z) ?_)
  intro res s2 out
  cases res with
  | error _ => exact False.elim out
  | ok fl =>
    cases fl with
    | ret u => exact I1.after out
    | next => exact out.elim
    | brk => exact out.elim
    | cont => exact out.elim
/-- isinstance(e, c) of the exception in hand -/
theorem call_isP {D : Addr} {p : Addr × Obj} (mem : p ∈ X.pn) (C : ExcC X.K D) (hz : Zc (.ref D) none p.2) (hf : ∃ vs, p.2.data = .fields vs) : CallR X (.builtin "isinstance") (rIsE X.K D p.1) := by
  intro pins s σ H xs us Q I r h
  obtain ⟨c, cv, b, rfl, one, kit, z⟩ := h
  obtain ⟨u1, u2, rfl, r1, r2⟩ := vals2 r
  cases r1
  have e2 := one _ r2
  subst e2
  have at1 := (I.pin p (List.mem_append_left _ mem)).1
  obtain ⟨vs, hv⟩ := hf
  obtain ⟨pa, oc, od, dat, osl⟩ := p
  obtain ⟨h1, h2⟩ := hz
  dsimp only at h1 h2 hv at1
  subst h1 h2 hv
  have J : PySem.W.InstAt s.heap pa { cls := .ref D, dict := none, data := .fields vs, slots := osl } D none := ⟨at1, rfl, rfl, trivial⟩
  refine PySem.W.kia_one (PySem.W.handS_kitx_exc C.hg C.hk C.hs C.hd C.ha C.hn C.ht C.hm) I.kIn J kit (fun y => nomatch y) ?_
  intro tk
  exact ⟨.bl b, H, I.kept (t' := tk) fun _ _ y => y, rfl, z⟩
end
/-! ### truth values counted -/
theorem vals_bls : ∀ {bs : List Bool} {us : List Value}, Vals (bs.map V.bl) us → us = bs.map Value.bool
  | [], _, .nil => rfl
  | b :: bs, _, .cons r rs => by
    have e : _ = Value.bool b := r
    rw [e, vals_bls rs]
    rfl
def eqb (k : Bool) (v : Value) : Bool := match v with
  | .bool b => b == k
  | _ => false
theorem eqb_count (k : Bool) : ∀ bs : List Bool, (bs.map Value.bool).countP (eqb k) = bs.count k
  | [] => rfl
  | b :: bs => by
    rw [List.map_cons, List.countP_cons, List.count_cons, eqb_count k bs]
    rfl
def rCntB (K : PySem.W.Frag) : V → List V → Hp → VK → Prop := fun x xs H Q => ∃ (a : Addr) (bs : List Bool) (k : Bool), x = .ref a ∧ xs = [.bl k] ∧ SqL K H a (bs.map V.bl) ∧ Q (.int (bs.count k : Nat)) H
theorem mt_bcount {X : Cx} : MtR X "list.count" (rCntB X.K) := by
  intro pins s σ H x xs v us Q I rx rxs h
  obtain ⟨a, bs, k, rfl, rfl, sq, z⟩ := h
  cases rx
  obtain ⟨u, rfl, ru⟩ := rxs.one
  cases ru
  obtain ⟨its, rv, ⟨⟨cls, dd, dat, sl⟩, n, at1, hc, hdn, hd⟩, hlen⟩ := I.list sq
  dsimp only at hc hd
  subst hc hd
  have es := vals_bls rv
  subst es
  refine call_meets PySem.F.slot_list_count ⟨_, at1, rfl⟩ PySem.F.entry_list_count (PySem.F.args_list_count_2 _ _)
    (SeqAt.list_countAt a _ n dd sl (.bool k) (eqb k)) ⟨at1, fun y hy => ?_, ?_⟩
  · obtain ⟨b, _, rfl⟩ := List.mem_map.mp (show y ∈ bs.map Value.bool by simpa using hy)
    exact SeqAt.EqAt.bool_bool b k
  · refine ⟨.int (bs.count k : Nat), H, I.tok _, ⟨s.toks, ?_⟩, z⟩
    show Value.int (((bs.map Value.bool).toArray.toList.countP (eqb k) : Nat) : Int) s.toks = _
    rw [← eqb_count k bs]
/-! ### defs that raise, by their names -/
structure CalX (P : Program) (w : World) (K : PySem.W.Frag) (mg : Str → Option Value) (base : Heap) (k : Nat) (x : Str) (sp : Sp) : Prop where
  ex : ∃ (f : Addr) (fd : FuncData) (ps : List Str), FnOk P w K mg base (L2.CX P w) k f fd ps sp ∧ mg x = some (.ref f) ∧ PySem.W.keepIn K (.ref f) = true ∧ Binds K fd ps []
structure CalE (P : Program) (w : World) (K : PySem.W.Frag) (mg : Str → Option Value) (base : Heap) (k : Nat) (x : Str) (sp : Addr → Value → Option Addr → Sp) : Prop where
  ex : ∃ (f : Addr) (fd : FuncData) (ps : List Str), (∀ (p : Addr × Obj) (cls : Value) (d : Option Addr), Zc cls d p.2 → (∃ vs, p.2.data = .fields vs) → FnE P w K mg base p k f fd ps (sp p.1 cls d)) ∧
    mg x = some (.ref f) ∧ PySem.W.keepIn K (.ref f) = true ∧ Binds K fd ps []
section
variable {X : Cx} {j k : Nat} {x : Str} {q pos : Pos} {e : Expr} {es : List Expr} {t : TA}
theorem pe_x {sp : Sp} {W : WX} (c : CalX X.prog X.w X.K X.mg X.base k x sp) (hr : Room j X.A) (hk : k ≤ j) (hg : Gl X x) (tk : Takes X W) (ha : PA X (e :: es) t)
    (dbg : (x == ("__debug__" : Str)) = false := by decide)
    (st1 : starEach (e :: es) X.env = (false, eval e X.env) :: starEach es X.env := by rfl) (st2 : (backTo pos (starEach es X.env)).any (·.1) = false := by rfl) :
    PE X (.Call (.Name x q) (e :: es) [] pos) (tCallS sp (WE W) t) := by
  obtain ⟨f, fd, ps, F, hm, kp, b⟩ := c.ex
  exact pe_callS F (hr.mono hk) hg hm kp b (fun σ => passAt tk σ) ha dbg st1 st2
theorem pe_e {sp : Addr → Value → Option Addr → Sp} {a : Addr} {oe : Obj} {cls : Value} {d : Option Addr} {pn : List (Addr × Obj)} (c : CalE X.prog X.w X.K X.mg X.base k x sp) (hr : Room j X.A) (hk : k ≤ j) (hg : Gl (X.suite a ((a, oe) :: pn)) x)
    (hz : Zc cls d oe) (hf : ∃ vs, oe.data = .fields vs) (ha : PA (X.suite a ((a, oe) :: pn)) (e :: es) t)
    (dbg : (x == ("__debug__" : Str)) = false := by decide)
    (st1 : starEach (e :: es) X.env = (false, eval e X.env) :: starEach es X.env := by rfl) (st2 : (backTo pos (starEach es X.env)).any (·.1) = false := by rfl) :
    PE (X.suite a ((a, oe) :: pn)) (.Call (.Name x q) (e :: es) [] pos) (tCallS (sp a cls d) (fun _ => E0) t) := by
  obtain ⟨f, fd, ps, F, hm, kp, b⟩ := c.ex
  have r := L2H.roomH_of (hr.mono hk)
  exact pe_callE (p := (a, oe)) (F (a, oe) cls d hz hf) ⟨r.dp, r.un⟩ List.mem_cons_self hg hm kp b ha dbg st1 st2
end
/-- what raising an own class asks -/
structure ExK (K : PySem.W.Frag) (C : Addr) : Prop where
  x : PySem.W.excIn K C [.type "ValueError", .type "Exception", .type "BaseException", .type "object"] "ValueError.__new__" = true
  k : PySem.W.keepIn K (.ref C) = true
  b : PySem.W.subIn K (.ref C) (.type "BaseException") = some true
  t : PySem.W.typeIn K (.ref C) = some (.type "type")
/-! ### isinstance of classes, by what the written part tells -/
theorem kit_yes {K : PySem.W.Frag} {D : Addr} : PySem.W.kitOne K (.ref D) (.ref D) = some true := by
  unfold PySem.W.kitOne
  exact if_pos (beq_self_eq_true _)
theorem kit_no {K : PySem.W.Frag} {C D : Addr} (j : PySem.W.isClsIn K C = true) (t : PySem.W.typeIn K (.ref C) = some (.type "type")) (s : PySem.W.subIn K (.ref D) (.ref D) = some true) (n : PySem.W.subIn K (.ref D) (.ref C) = some false) : PySem.W.kitOne K (.ref D) (.ref C) = some false := by
  have ne : D ≠ C := fun e => by
    rw [← e, s] at n
    cases n
  have j2 : (PySem.W.clsIn K C).isSome = true := j
  unfold PySem.W.kitOne
  rw [if_neg (fun e => ne (Value.ref.inj (eq_of_beq e)))]
  show (if ((PySem.W.clsIn K C).isSome && PySem.W.typeIn K (.ref C) == some (.type "type")) = true then PySem.W.subIn K (.ref D) (.ref C) else none) = some false
  rw [if_pos (by rw [j2, t]; rfl), n]
theorem kit_ve {K : PySem.W.Frag} {D : Addr} (s : PySem.W.subIn K (.ref D) (.type "ValueError") = some true) : PySem.W.kitOne K (.ref D) (.type "ValueError") = some true := by
  unfold PySem.W.kitOne
  rw [if_neg (fun e => by cases eq_of_beq e)]
  show (if PySem.W.kitMeta "ValueError" = true then PySem.W.subIn K (.ref D) (.type "ValueError") else none) = some true
  rw [if_pos (by decide +kernel), s]
end Rf

set_option maxRecDepth 100000
set_option maxHeartbeats 4000000
open PySem L2
namespace Rf
/-! ### sizes -/
theorem two_lt {m n : Nat} (h : m < n) : (2 : Int) ^ m < 2 ^ n := by
  have h1 := pow_mono2 (show m + 1 ≤ n by omega)
  rw [Int.pow_succ] at h1
  have h2 : (0 : Int) < 2 ^ m := Int.pow_pos (by decide)
  omega
theorem wB_lt {b : Int} {a r : List Int} (hb : 2 ≤ b) (hb2 : b ≤ 36) (la : a.length ≤ 124) (lr : r.length ≤ 138) : wB b a r < 2 ^ 2000 := by
  have h1 := pow_lt2 (b := b) (by omega) (by omega) a.length
  have h2 := pow_lt2 (b := b) (by omega) (by omega) r.length
  have h3 := pow_posI (b := b) (by omega) a.length
  have h4 := pow_ge1 (b := b) (by omega) r.length
  have h5 : wB b a r ≤ 2 ^ (6 * a.length) * 2 ^ (6 * r.length) := by
    have h6 : b ^ a.length * b ^ r.length ≤ 2 ^ (6 * a.length) * 2 ^ (6 * r.length) := Int.mul_le_mul h1 h2 (by omega) (Int.le_of_lt (Int.pow_pos (by decide)))
    have h7 : b ^ a.length * 1 ≤ b ^ a.length * b ^ r.length := Int.mul_le_mul_of_nonneg_left h4 (Int.le_of_lt h3)
    unfold wB
    split
    · omega
    · rw [Int.mul_sub]; omega
  rw [← Int.pow_add] at h5
  have h8 := two_lt (show 6 * a.length + 6 * r.length < 2000 by omega)
  omega
theorem wT_lt {b w : Int} {a r : List Int} (hb : 2 ≤ b) (hb2 : b ≤ 36) (h0 : 0 ≤ w) (h1 : w ≤ 1000000000000) (la : a.length ≤ 124) (lr : r.length ≤ 138) (fa : Figs b a) (fr : Figs b r) : wT b w a r < 2 ^ 2100 := by
  have n1 := num_ok (by omega) a fa
  have n2 := num_ok (by omega) r fr
  have p1 := pow_posI (b := b) (by omega) a.length
  have p2 := pow_ge1 (b := b) (by omega) r.length
  have l1 := pow_lt2 (b := b) (by omega) (by omega) a.length
  have l2 := pow_lt2 (b := b) (by omega) (by omega) r.length
  have h40 : (2 : Int) ^ 40 = 1099511627776 := by decide
  have hh : w * b ^ a.length + numI b a < (w + 1) * b ^ a.length := by rw [Int.add_mul, Int.one_mul]; omega
  have h7 : (w + 1) * b ^ a.length ≤ 2 ^ 40 * 2 ^ (6 * a.length) := Int.mul_le_mul (by omega) l1 (Int.le_of_lt p1) (by decide)
  have hn : 0 ≤ w * b ^ a.length := Int.mul_nonneg h0 (Int.le_of_lt p1)
  rw [← Int.pow_add] at h7
  unfold wT
  split
  · have h8 := two_lt (show 40 + 6 * a.length < 2100 by omega)
    omega
  · have hp : 0 ≤ w * b ^ a.length + numI b a := by omega
    generalize w * b ^ a.length + numI b a = h at *
    have h9 : (h + 1) * b ^ r.length ≤ 2 ^ (40 + 6 * a.length) * 2 ^ (6 * r.length) := Int.mul_le_mul (by omega) l2 (by omega) (Int.le_of_lt (Int.pow_pos (by decide)))
    rw [← Int.pow_add] at h9
    have h8 := two_lt (show 40 + 6 * a.length + 6 * r.length < 2100 by omega)
    have e1 : (h + 1) * b ^ r.length = h * b ^ r.length + b ^ r.length := by rw [Int.add_mul, Int.one_mul]
    rw [Int.mul_sub, Int.mul_one]
    omega
/-! ### a writing and its worth -/
structure LW (b : Nat) (x : Wr) (u v : Nat) : Prop where
  ok : WrOk (b : Int) x
  lo : LowOk (wT (b : Int) x.w x.a x.r) (wB (b : Int) x.a x.r)
  eq : low (wT (b : Int) x.w x.a x.r) (wB (b : Int) x.a x.r) = ((u : Int), (v : Int))
  v0 : 0 < v
  vb : (v : Int) < 2 ^ 2000
  ub : (u : Int) < 2 ^ 2100
theorem LW.drawn {b : Nat} {x : Wr} (hb : 2 ≤ b) (hb2 : b ≤ 36) (ok : WrOk (b : Int) x) (la : x.a.length ≤ 124) (lr : x.r.length ≤ 138) : ∃ u v, LW b x u v := by
  have T0 := wT_nn (b := (b : Int)) (by omega) ok.w0 ok.fa ok.fr
  have B0 := wB_pos (b := (b : Int)) (a := x.a) (r := x.r) (by omega)
  obtain ⟨t, m, e, m0, c, ml, _⟩ := low_div hb T0
  have h1 := wB_lt (b := (b : Int)) (by omega) (by omega) la lr
  have h2 := wT_lt (b := (b : Int)) (by omega) (by omega) ok.w0 ok.w1 la lr ok.fa ok.fr
  refine ⟨t, m, ok, lowOk_wr (by omega) (by omega) la (Nat.le_trans lr (by decide)), e, m0, by omega, ?_⟩
  have h3 : wT (b : Int) x.w x.a x.r * m ≤ wT (b : Int) x.w x.a x.r * wB (b : Int) x.a x.r := Int.mul_le_mul_of_nonneg_left ml T0
  rw [c] at h3
  have h4 := Int.le_of_mul_le_mul_right h3 B0
  omega
theorem LW.div {b t m : Nat} {x : Wr} (hb : 2 ≤ b) (d : IsDiv b t m x) (hm : 0 < m) (hm2 : m ≤ 2000) (ht : t ≤ 1000000000000 * m) : ∃ u v, LW b x u v := by
  obtain ⟨lo, u, v, e, v0, vm, _, ut⟩ := d.low hb hm hm2 ht
  have p : (2 : Int) ^ 60 < 2 ^ 2000 := two_lt (by decide)
  have p2 : (2 : Int) ^ 60 < 2 ^ 2100 := two_lt (by decide)
  have e60 : (2 : Int) ^ 60 = 1152921504606846976 := by decide
  refine ⟨u, v, d.ok (by omega) hm hm2 ht, lo, e, v0, ?_, ?_⟩
  · rw [e60] at p; omega
  · rw [e60] at p2; omega
/-- in lowest terms -/
def lw (T B : Nat) : Nat × Nat := ((low (T : Int) (B : Int)).1.toNat, (low (T : Int) (B : Int)).2.toNat)
theorem lw_spec (T : Nat) {B : Nat} (hB : 0 < B) : (low (T : Int) (B : Int)).1 = ((lw T B).1 : Int) ∧ (low (T : Int) (B : Int)).2 = ((lw T B).2 : Int) ∧ 0 < (lw T B).2 ∧ (lw T B).2 ≤ B := by
  have c := low_cross (x := (T : Int)) (y := (B : Int)) (by omega) (by omega)
  unfold lw
  have h2 : (low (T : Int) (B : Int)).2 ≤ (B : Int) := Int.ediv_le_self _ (by omega)
  refine ⟨by omega, by omega, by omega, by omega⟩
/-- a result that isn't told -/
def Long (T B : Nat) : Prop := 2000 < (lw T B).2 ∨ 1000000000000 < (lw T B).1 / (lw T B).2
instance (T B : Nat) : Decidable (Long T B) := by unfold Long; exact inferInstance
theorem lowOk_B {T B : Nat} (hB : 0 < B) (h : (B : Int) < 2 ^ 5000) : LowOk (T : Int) (B : Int) := by
  refine lowOk_wide (by omega) (wid_of (k := 5000) ?_ (by decide) (by decide))
  rw [Int.toNat_natCast]
  have e : (((2 ^ 5000 : Nat)) : Int) = (2 : Int) ^ 5000 := by rw [Int.natCast_pow]; rfl
  omega
theorem mul_lt2 {u v : Nat} {i j k : Nat} (hu : (u : Int) < 2 ^ i) (hv : (v : Int) < 2 ^ j) (h : i + j = k) : ((u * v : Nat) : Int) < 2 ^ k := by
  have hj : (0 : Int) < 2 ^ j := Int.pow_pos (by decide)
  have hi : (0 : Int) < 2 ^ i := Int.pow_pos (by decide)
  rw [← h, Int.pow_add, Int.natCast_mul]
  rcases Nat.eq_zero_or_pos v with z | z
  · rw [z]
    show (u : Int) * 0 < _
    rw [Int.mul_zero]
    exact Int.mul_pos hi hj
  · have h1 : (u : Int) * v < 2 ^ i * v := Int.mul_lt_mul_of_pos_right hu (by omega)
    have h2 : (2 : Int) ^ i * v ≤ 2 ^ i * 2 ^ j := Int.mul_le_mul_of_nonneg_left (Int.le_of_lt hv) (Int.le_of_lt hi)
    omega
/-- the sum of two fractions -/
def sT (u v u' v' : Nat) : Nat := u * v' + u' * v
theorem sT_comm (u v u' v' : Nat) : sT u v u' v' = sT u' v' u v := Nat.add_comm _ _
/-- what is told of a fraction: its plain writing, or a word -/
inductive Told (H H' : Hp) (b T B : Nat) : V → Prop where
  | long (h : Long T B) (s : Same H H') : Told H H' b T B (.str (Str.ofString "long"))
  | wr (h : ¬ Long T B) {p a r : Addr} {w : Wr} (n : WrNew H H' p a r w) (d : IsDiv b (lw T B).1 (lw T B).2 w) : Told H H' b T B (.ref p)
/-! ### two writings as data -/
theorem canLay_dW (x : Wr) : PyData.canLay0 (dW x) = true := by
  unfold dW dI
  show (PyData.canLay0 (.int x.w) && (PyData.canLayAll0 (x.a.map PyData.int) && (PyData.canLayAll0 (x.r.map PyData.int) && true))) = true
  rw [canLay_ints, canLay_ints]
  rfl
theorem depth_dW (x : Wr) : PyData.depth (dW x) = 2 := by
  unfold dW dI
  show max 0 (max (PyData.depthAll (x.a.map PyData.int) + 1) (max (PyData.depthAll (x.r.map PyData.int) + 1) 0)) + 1 = 2
  rw [depth_ints, depth_ints]
  rfl
def dW2 (x y : Wr) : PyData := .list [dW x, dW y]
theorem shaped_dW2 (x y : Wr) : SeqAt.shaped (dW2 x y) = true := by
  unfold SeqAt.shaped dW2
  show ((PyData.canLay0 (dW x) && (PyData.canLay0 (dW y) && true)) && decide (max (PyData.depth (dW x)) (max (PyData.depth (dW y)) 0) + 1 ≤ 64)) = true
  rw [canLay_dW, canLay_dW, depth_dW, depth_dW]
  rfl
theorem eqv_dW2 (x y : Wr) : PyData.eqv (dW2 x y) (dW2 x y) = true := by
  unfold dW2
  rw [PyData.eqv]
  show (PyData.eqv (dW x) (dW x) && (PyData.eqv (dW y) (dW y) && true)) = true
  rw [eqv_dW, eqv_dW, decide_eq_true rfl, decide_eq_true rfl]
  rfl
theorem dp_dW2 {K : PySem.W.Frag} {H : Hp} {h p a r p' a' r' : Addr} {x y : Wr} (hh : H h = some (.lst [.ref p, .ref p'])) (hx : WrAt H p a r x) (hy : WrAt H p' a' r' y) : Dp K H (.ref h) (dW2 x y) :=
  .lst (sql hh) (.cons hx.dp (.cons hy.dp .nil))
end Rf

namespace Rf
open PySem PySem.Spec PyProof.Rows L2
open C8 (Cal pe_c pe_gc)
local macro_rules | `(tactic| walk_at "side") => `(tactic| first
  | ((with_reducible show IntMulOk _ _); first | assumption | exact (show ∀ i : Int, IntMulOk i _ from by assumption) _ | (refine mulB_right ?_ ?_ <;> omega) | (refine mulB_left ?_ ?_ <;> omega))
  | ((with_reducible show CDivP _ _); first | assumption | exact (show ∀ i : Int, CDivP i _ from by assumption) _ | (refine cdivp_small ?_ ?_ <;> omega))
  | ((with_reducible show (_ : Int) < _); first | assumption | omega | decide)
  | ((with_reducible show scal _ _ = true); rfl)
  | ((with_reducible show _ ≤ sizeLine); first | exact sz100 (Nat.le_of_ble_eq_true rfl) | exact sz100 (by omega))
  | ((with_reducible show CPow _ _); dsimp only [CPow]; decide))
local macro_rules | `(tactic| walk_at "sq") => `(tactic| first | assumption | exact sql (by assumption) | exact sqt (by assumption) | exact sqt upd_same | exact sql upd_same)
local macro_rules | `(tactic| walk_at "call") => `(tactic| fail)
local macro_rules | `(tactic| walk_at "st1") => `(tactic| first
  | refine ⟨_, rfl, ?_⟩
  | refine ⟨_, _, rfl, rfl, ?_⟩
  | refine And.intro (by walk_at "side") ?_
  | refine ⟨_, _, rfl, .inl (by walk_at "sq"), ?_⟩
  | refine ⟨_, _, rfl, .inr (by walk_at "sq"), ?_⟩
  | refine And.intro rfl ?_
  | refine ⟨_, _, _, _, rfl, rfl, (by walk_at "sq"), rfl, ?_⟩
  | refine ⟨_, _, rfl, (by walk_at "sq"), rfl, ?_⟩
  | refine ⟨_, _, _, _, _, rfl, .ty _, (by first | exact tyx_tup (by assumption) | exact tyx_lst (by assumption)), (by first | exact kit_tup | exact kit_lst), ?_⟩
  | refine ⟨_, _, rfl, ?_⟩
  | walk_at "call")
local macro_rules | `(tactic| walk_at "st") => `(tactic| repeat walk_at "st1")
def topS (i : Nat) : Stmt := PySem.Challenge.pw_ringfigures_k16_refused.main.body.getD i (.Pass ⟨0, 0, 0, 0⟩)
/-- what the module's names hold -/
structure Md (K : PySem.W.Frag) (mg : Str → Option Value) : Prop where
  m_len : mg "len" = none
  m_range : mg "range" = none
  m_list : mg "list" = none
  m_min : mg "min" = none
  m_max : mg "max" = none
  m_all : mg "all" = none
  m_zip : mg "zip" = none
  m_reversed : mg "reversed" = none
  m_isinstance : mg "isinstance" = none
  m_ValueError : mg "ValueError" = none
  m_int : mg "int" = none
  g_GREATEST : ∃ u, mg "GREATEST" = some u ∧ RelV (.int 1000000000000) u
  g_MOST_BOTTOM : ∃ u, mg "MOST_BOTTOM" = some u ∧ RelV (.int 2000) u
  g_MOST_FIGURES : ∃ u, mg "MOST_FIGURES" = some u ∧ RelV (.int 4000) u
  g_SIGNS : ∃ u, mg "SIGNS" = some u ∧ RelV (.str "0123456789abcdefghijklmnopqrstuvwxyz") u
  g_MOST_TIMES : ∃ u, mg "MOST_TIMES" = some u ∧ RelV (.int 1000000) u
/-- where the classes stand -/
structure Cs where
  FigureError : Addr
  NoBase : Addr
  NoFraction : Addr
  NoWriting : Addr
  NoNumber : Addr
  TooLong : Addr
  NoNote : Addr
/-- what the written part says of them -/
structure Me (K : PySem.W.Frag) (mg : Str → Option Value) (c : Cs) : Prop where
  g_FigureError : mg "FigureError" = some (.ref c.FigureError)
  g_NoBase : mg "NoBase" = some (.ref c.NoBase)
  g_NoFraction : mg "NoFraction" = some (.ref c.NoFraction)
  g_NoWriting : mg "NoWriting" = some (.ref c.NoWriting)
  g_NoNumber : mg "NoNumber" = some (.ref c.NoNumber)
  g_TooLong : mg "TooLong" = some (.ref c.TooLong)
  g_NoNote : mg "NoNote" = some (.ref c.NoNote)
  x_NoBase : ExK K c.NoBase
  i_NoBase : ExcC K c.NoBase
  m_NoBase : PySem.W.exmOne K (.ref c.NoBase) (.ref c.FigureError) = some true
  v_NoBase : PySem.W.kitOne K (.ref c.NoBase) (.type "ValueError") = some true
  x_NoFraction : ExK K c.NoFraction
  i_NoFraction : ExcC K c.NoFraction
  m_NoFraction : PySem.W.exmOne K (.ref c.NoFraction) (.ref c.FigureError) = some true
  v_NoFraction : PySem.W.kitOne K (.ref c.NoFraction) (.type "ValueError") = some true
  x_NoWriting : ExK K c.NoWriting
  i_NoWriting : ExcC K c.NoWriting
  m_NoWriting : PySem.W.exmOne K (.ref c.NoWriting) (.ref c.FigureError) = some true
  v_NoWriting : PySem.W.kitOne K (.ref c.NoWriting) (.type "ValueError") = some true
  x_NoNumber : ExK K c.NoNumber
  i_NoNumber : ExcC K c.NoNumber
  m_NoNumber : PySem.W.exmOne K (.ref c.NoNumber) (.ref c.FigureError) = some true
  v_NoNumber : PySem.W.kitOne K (.ref c.NoNumber) (.type "ValueError") = some true
  x_TooLong : ExK K c.TooLong
  i_TooLong : ExcC K c.TooLong
  m_TooLong : PySem.W.exmOne K (.ref c.TooLong) (.ref c.FigureError) = some true
  v_TooLong : PySem.W.kitOne K (.ref c.TooLong) (.type "ValueError") = some true
  q_NoBase_NoBase : PySem.W.kitOne K (.ref c.NoBase) (.ref c.NoBase) = some true
  q_NoBase_NoFraction : PySem.W.kitOne K (.ref c.NoBase) (.ref c.NoFraction) = some false
  q_NoBase_NoWriting : PySem.W.kitOne K (.ref c.NoBase) (.ref c.NoWriting) = some false
  q_NoBase_NoNumber : PySem.W.kitOne K (.ref c.NoBase) (.ref c.NoNumber) = some false
  q_NoBase_TooLong : PySem.W.kitOne K (.ref c.NoBase) (.ref c.TooLong) = some false
  q_NoBase_NoNote : PySem.W.kitOne K (.ref c.NoBase) (.ref c.NoNote) = some false
  q_NoFraction_NoBase : PySem.W.kitOne K (.ref c.NoFraction) (.ref c.NoBase) = some false
  q_NoFraction_NoFraction : PySem.W.kitOne K (.ref c.NoFraction) (.ref c.NoFraction) = some true
  q_NoFraction_NoWriting : PySem.W.kitOne K (.ref c.NoFraction) (.ref c.NoWriting) = some false
  q_NoFraction_NoNumber : PySem.W.kitOne K (.ref c.NoFraction) (.ref c.NoNumber) = some false
  q_NoFraction_TooLong : PySem.W.kitOne K (.ref c.NoFraction) (.ref c.TooLong) = some false
  q_NoFraction_NoNote : PySem.W.kitOne K (.ref c.NoFraction) (.ref c.NoNote) = some false
  q_NoWriting_NoBase : PySem.W.kitOne K (.ref c.NoWriting) (.ref c.NoBase) = some false
  q_NoWriting_NoFraction : PySem.W.kitOne K (.ref c.NoWriting) (.ref c.NoFraction) = some false
  q_NoWriting_NoWriting : PySem.W.kitOne K (.ref c.NoWriting) (.ref c.NoWriting) = some true
  q_NoWriting_NoNumber : PySem.W.kitOne K (.ref c.NoWriting) (.ref c.NoNumber) = some false
  q_NoWriting_TooLong : PySem.W.kitOne K (.ref c.NoWriting) (.ref c.TooLong) = some false
  q_NoWriting_NoNote : PySem.W.kitOne K (.ref c.NoWriting) (.ref c.NoNote) = some false
  q_NoNumber_NoBase : PySem.W.kitOne K (.ref c.NoNumber) (.ref c.NoBase) = some false
  q_NoNumber_NoFraction : PySem.W.kitOne K (.ref c.NoNumber) (.ref c.NoFraction) = some false
  q_NoNumber_NoWriting : PySem.W.kitOne K (.ref c.NoNumber) (.ref c.NoWriting) = some false
  q_NoNumber_NoNumber : PySem.W.kitOne K (.ref c.NoNumber) (.ref c.NoNumber) = some true
  q_NoNumber_TooLong : PySem.W.kitOne K (.ref c.NoNumber) (.ref c.TooLong) = some false
  q_NoNumber_NoNote : PySem.W.kitOne K (.ref c.NoNumber) (.ref c.NoNote) = some false
  q_TooLong_NoBase : PySem.W.kitOne K (.ref c.TooLong) (.ref c.NoBase) = some false
  q_TooLong_NoFraction : PySem.W.kitOne K (.ref c.TooLong) (.ref c.NoFraction) = some false
  q_TooLong_NoWriting : PySem.W.kitOne K (.ref c.TooLong) (.ref c.NoWriting) = some false
  q_TooLong_NoNumber : PySem.W.kitOne K (.ref c.TooLong) (.ref c.NoNumber) = some false
  q_TooLong_TooLong : PySem.W.kitOne K (.ref c.TooLong) (.ref c.TooLong) = some true
  q_TooLong_NoNote : PySem.W.kitOne K (.ref c.TooLong) (.ref c.NoNote) = some false
/-- what isinstance tells of an exception of the class at D, the j-th of the six -/
structure WordAt (K : PySem.W.Frag) (c : Cs) (D : Addr) (j : Nat) : Prop where
  j6 : j < 6
  i : ExcC K D
  q0 : PySem.W.kitOne K (.ref D) (.ref c.NoBase) = some (j == 0)
  q1 : PySem.W.kitOne K (.ref D) (.ref c.NoFraction) = some (j == 1)
  q2 : PySem.W.kitOne K (.ref D) (.ref c.NoWriting) = some (j == 2)
  q3 : PySem.W.kitOne K (.ref D) (.ref c.NoNumber) = some (j == 3)
  q4 : PySem.W.kitOne K (.ref D) (.ref c.TooLong) = some (j == 4)
  q5 : PySem.W.kitOne K (.ref D) (.ref c.NoNote) = some (j == 5)
  v : PySem.W.kitOne K (.ref D) (.type "ValueError") = some true
  m : PySem.W.exmOne K (.ref D) (.ref c.FigureError) = some true
theorem Me.w_NoBase {K : PySem.W.Frag} {mg : Str → Option Value} {c : Cs} (N : Me K mg c) : WordAt K c c.NoBase 0 := ⟨by decide, N.i_NoBase, N.q_NoBase_NoBase, N.q_NoBase_NoFraction, N.q_NoBase_NoWriting, N.q_NoBase_NoNumber, N.q_NoBase_TooLong, N.q_NoBase_NoNote, N.v_NoBase, N.m_NoBase⟩
theorem Me.w_NoFraction {K : PySem.W.Frag} {mg : Str → Option Value} {c : Cs} (N : Me K mg c) : WordAt K c c.NoFraction 1 := ⟨by decide, N.i_NoFraction, N.q_NoFraction_NoBase, N.q_NoFraction_NoFraction, N.q_NoFraction_NoWriting, N.q_NoFraction_NoNumber, N.q_NoFraction_TooLong, N.q_NoFraction_NoNote, N.v_NoFraction, N.m_NoFraction⟩
theorem Me.w_NoWriting {K : PySem.W.Frag} {mg : Str → Option Value} {c : Cs} (N : Me K mg c) : WordAt K c c.NoWriting 2 := ⟨by decide, N.i_NoWriting, N.q_NoWriting_NoBase, N.q_NoWriting_NoFraction, N.q_NoWriting_NoWriting, N.q_NoWriting_NoNumber, N.q_NoWriting_TooLong, N.q_NoWriting_NoNote, N.v_NoWriting, N.m_NoWriting⟩
theorem Me.w_NoNumber {K : PySem.W.Frag} {mg : Str → Option Value} {c : Cs} (N : Me K mg c) : WordAt K c c.NoNumber 3 := ⟨by decide, N.i_NoNumber, N.q_NoNumber_NoBase, N.q_NoNumber_NoFraction, N.q_NoNumber_NoWriting, N.q_NoNumber_NoNumber, N.q_NoNumber_TooLong, N.q_NoNumber_NoNote, N.v_NoNumber, N.m_NoNumber⟩
theorem Me.w_TooLong {K : PySem.W.Frag} {mg : Str → Option Value} {c : Cs} (N : Me K mg c) : WordAt K c c.TooLong 4 := ⟨by decide, N.i_TooLong, N.q_TooLong_NoBase, N.q_TooLong_NoFraction, N.q_TooLong_NoWriting, N.q_TooLong_NoNumber, N.q_TooLong_TooLong, N.q_TooLong_NoNote, N.v_TooLong, N.m_TooLong⟩
abbrev s_askedbase : Stmt := topS 12
theorem sc_askedbase : FnScope ["base"] ["base"] (defScope s_askedbase) := ⟨rfl, rfl, rfl, by decide +kernel, rfl, by decide +kernel, by decide +kernel⟩
@[irreducible] def sp_askedbase (K : PySem.W.Frag) (c : Cs) : Sp := fun vs H Q E => ∃ (x : Int), vs = [.int x] ∧ (2 ≤ x → x ≤ 36 → Q .non H) ∧ (x < 2 ∨ 36 < x → E (.ref c.NoBase) none H)
theorem go_askedbase {K : PySem.W.Frag} {c : Cs} {H : Hp} {x : Int} {Q : VK} {E : XK} (q : 2 ≤ x → x ≤ 36 → Q .non H) (e : x < 2 ∨ 36 < x → E (.ref c.NoBase) none H) : sp_askedbase K c [.int x] H Q E := by
  unfold sp_askedbase; exact ⟨x, rfl, q, e⟩
section
variable {P : Program} {w : World} {K : PySem.W.Frag} {mg : Str → Option Value} {base : Heap}
theorem ok_askedbase {f : Addr} {fd : FuncData} (F : Fun K "asked_base" "asked_base" s_askedbase f fd) (M : Md K mg) {c : Cs} (N : Me K mg c) : FnOk P w K mg base (L2.CX P w) 1 f fd ["base"] (sp_askedbase K c) := by
  refine F.okX sc_askedbase (fun vs H Q E h => ?_) (fun cdv A outer s H vs Q E hr h => ?_)
  · unfold sp_askedbase at h; obtain ⟨x, rfl, q, qe⟩ := h
    all_goals rfl
  · have hu := hu_of hr
    unfold sp_askedbase at h; obtain ⟨x, rfl, q, qe⟩ := h
    refine ⟨_, (pss_one (ps_if (PW.pt (pw_or (pt_cmpR op_lt (pv 0) pe_int (nomark _)) (pw_or1 (pt_cmpR op_gt (pv 0) pe_int (nomark _)))))
        (pss_one (ps_raise rfl (takes_of rfl rfl rfl rfl) (pmk_own PySem.F.excBase_ValueError N.x_NoBase.x N.g_NoBase N.x_NoBase.k (raises_own N.x_NoBase.b N.x_NoBase.t) rfl))) pss_nil)), ?_⟩
    walk_at "st"
    refine iteD (fun e => ?_) (fun e1 => ?_)
    · walk_at "st"
      exact qe (.inl e)
    walk_at "st"
    refine iteD (fun e => ?_) (fun e2 => ?_)
    · walk_at "st"
      exact qe (.inr e)
    exact q (by omega) (by omega)
end
abbrev s_askedfraction : Stmt := topS 13
theorem sc_askedfraction : FnScope ["base", "top", "bottom"] ["base", "top", "bottom"] (defScope s_askedfraction) := ⟨rfl, rfl, rfl, by decide +kernel, rfl, by decide +kernel, by decide +kernel⟩
/-- no base -/
def BadB (z : Int) : Prop := z < 2 ∨ 36 < z
/-- a fraction that may be handed in -/
def FrOk (t m : Int) : Prop := 0 ≤ t ∧ t ≤ 1000000000000 ∧ 1 ≤ m ∧ m ≤ 2000
theorem natB {z : Int} (g : ¬ BadB z) : ∃ b : Nat, z = b ∧ 2 ≤ b ∧ b ≤ 36 := ⟨z.toNat, by unfold BadB at g; omega, by unfold BadB at g; omega, by unfold BadB at g; omega⟩
theorem intB {z : Int} (g : ¬ BadB z) : 2 ≤ z ∧ z ≤ 36 := by unfold BadB at g; omega
theorem natF {t m : Int} (f : FrOk t m) : ∃ t' m' : Nat, t = t' ∧ m = m' ∧ t' ≤ 1000000000000 ∧ 1 ≤ m' ∧ m' ≤ 2000 := ⟨t.toNat, m.toNat, by unfold FrOk at f; omega, by unfold FrOk at f; omega, by unfold FrOk at f; omega, by unfold FrOk at f; omega, by unfold FrOk at f; omega⟩
@[irreducible] def sp_askedfraction (K : PySem.W.Frag) (c : Cs) : Sp := fun vs H Q E => ∃ (z t m : Int), vs = [.int z, .int t, .int m] ∧ (BadB z → E (.ref c.NoBase) none H) ∧ (¬ BadB z → ¬ FrOk t m → E (.ref c.NoFraction) none H) ∧ (¬ BadB z → FrOk t m → Q .non H)
theorem go_askedfraction {K : PySem.W.Frag} {c : Cs} {H : Hp} {z t m : Int} {Q : VK} {E : XK} (e0 : BadB z → E (.ref c.NoBase) none H) (e1 : ¬ BadB z → ¬ FrOk t m → E (.ref c.NoFraction) none H) (q : ¬ BadB z → FrOk t m → Q .non H) : sp_askedfraction K c [.int z, .int t, .int m] H Q E := by
  unfold sp_askedfraction; exact ⟨z, t, m, rfl, e0, e1, q⟩
section
variable {P : Program} {w : World} {K : PySem.W.Frag} {mg : Str → Option Value} {base : Heap}
theorem ok_askedfraction {f : Addr} {fd : FuncData} (F : Fun K "asked_fraction" "asked_fraction" s_askedfraction f fd) (M : Md K mg) {c : Cs} (N : Me K mg c) (c_askedbase : CalX P w K mg base 1 "asked_base" (sp_askedbase K c)) : FnOk P w K mg base (L2.CX P w) 2 f fd ["base", "top", "bottom"] (sp_askedfraction K c) := by
  refine F.okX sc_askedfraction (fun vs H Q E h => ?_) (fun cdv A outer s H vs Q E hr h => ?_)
  · unfold sp_askedfraction at h; obtain ⟨z, t, m, rfl, e0, e1, q⟩ := h
    all_goals rfl
  · have hu := hu_of hr
    unfold sp_askedfraction at h; obtain ⟨z, t, m, rfl, e0, e1, q⟩ := h
    refine ⟨_, (pss_cons (ps_expr (pe_x c_askedbase hr (by decide) (by rfl) (takes_of rfl rfl rfl rfl) (pa_cons (pv 0) pa_nil)))
      (pss_one (ps_if (PW.pt (pw_or (pt_cmpR op_lt (pv 1) pe_int (nomark _)) (pw_or (pt_cmpR op_gt (pv 1) (pe_gc (by rfl) M.g_GREATEST) (nomark _)) (pw_or (pt_cmpR op_lt (pv 2) pe_int (nomark _)) (pw_or1 (pt_cmpR op_gt (pv 2) (pe_gc (by rfl) M.g_MOST_BOTTOM) (nomark _)))))))
        (pss_one (ps_raise rfl (takes_of rfl rfl rfl rfl) (pmk_own PySem.F.excBase_ValueError N.x_NoFraction.x N.g_NoFraction N.x_NoFraction.k (raises_own N.x_NoFraction.b N.x_NoFraction.t) rfl))) pss_nil))), ?_⟩
    walk_at "st"
    refine go_askedbase (fun h1 h2 => ?_) (fun h => e0 h)
    have g : ¬ BadB z := fun h => by unfold BadB at h; omega
    have e1' : (t < 0 ∨ 1000000000000 < t ∨ m < 1 ∨ 2000 < m) → E (.ref c.NoFraction) none H := fun h => e1 g (fun h' => by unfold FrOk at h'; omega)
    walk_at "st"
    refine iteD (fun e => ?_) (fun _ => ?_)
    · walk_at "st"
      exact e1' (.inl e)
    walk_at "st"
    refine iteD (fun e => ?_) (fun _ => ?_)
    · walk_at "st"
      exact e1' (.inr (.inl e))
    walk_at "st"
    refine iteD (fun e => ?_) (fun _ => ?_)
    · walk_at "st"
      exact e1' (.inr (.inr (.inl e)))
    walk_at "st"
    refine iteD (fun e => ?_) (fun _ => ?_)
    · walk_at "st"
      exact e1' (.inr (.inr (.inr e)))
    exact q g (by unfold FrOk; omega)
end
abbrev s_askedfigures : Stmt := topS 14
theorem sc_askedfigures : FnScope ["base", "figures", "figure"] ["base", "figures"] (defScope s_askedfigures) := ⟨rfl, rfl, rfl, by decide +kernel, rfl, by decide +kernel, by decide +kernel⟩
/-- figures that may be handed in -/
def FgOk (z : Int) (ns : List Int) : Prop := ns.length ≤ 4000 ∧ Figs z ns
@[irreducible] def sp_askedfigures (K : PySem.W.Frag) (c : Cs) : Sp := fun vs H Q E => ∃ (z : Int) (a : Addr) (ns : List Int), vs = [.int z, .ref a] ∧ SqL K H a (ns.map V.int) ∧ (¬ FgOk z ns → E (.ref c.NoWriting) none H) ∧ (FgOk z ns → Q .non H)
theorem go_askedfigures {K : PySem.W.Frag} {c : Cs} {H : Hp} {z : Int} {a : Addr} {ns : List Int} {Q : VK} {E : XK} (hS : SqL K H a (ns.map V.int)) (e : ¬ FgOk z ns → E (.ref c.NoWriting) none H) (q : FgOk z ns → Q .non H) : sp_askedfigures K c [.int z, .ref a] H Q E := by
  unfold sp_askedfigures; exact ⟨z, a, ns, rfl, hS, e, q⟩
section
variable {P : Program} {w : World} {K : PySem.W.Frag} {mg : Str → Option Value} {base : Heap}
theorem ok_askedfigures {f : Addr} {fd : FuncData} (F : Fun K "asked_figures" "asked_figures" s_askedfigures f fd) (M : Md K mg) {c : Cs} (N : Me K mg c) : FnOk P w K mg base (L2.CX P w) 1 f fd ["base", "figures"] (sp_askedfigures K c) := by
  refine F.okX sc_askedfigures (fun vs H Q E h => ?_) (fun cdv A outer s H vs Q E hr h => ?_)
  · unfold sp_askedfigures at h; obtain ⟨z, a, ns, rfl, hS, qe, q⟩ := h
    all_goals rfl
  · have hu := hu_of hr
    unfold sp_askedfigures at h; obtain ⟨z, a, ns, rfl, hS, qe, q⟩ := h
    refine ⟨_, (pss_cons (ps_if (pt_cmpR op_gt (pe_callB call_len_seq (by rfl) M.m_len PySem.boot_len (pa_cons (pv 1) pa_nil)) (pe_gc (by rfl) M.g_MOST_FIGURES) (nomark _))
        (pss_one (ps_raise rfl (takes_of rfl rfl rfl rfl) (pmk_own PySem.F.excBase_ValueError N.x_NoWriting.x N.g_NoWriting N.x_NoWriting.k (raises_own N.x_NoWriting.b N.x_NoWriting.t) rfl))) pss_nil)
      (pss_one (ps_for (passes_of rfl) rfl (pi_list (pv 1)) (pg_name (i := 2) sc_askedfigures.nd rfl (.inl rfl))
        (pss_one (ps_if (PW.pt (pw_or (pt_cmpR op_lt (pv 2) pe_int (nomark _)) (pw_or1 (pt_cmpR op_ge (pv 2) (pv 0) (nomark _)))))
        (pss_one (ps_raise rfl (takes_of rfl rfl rfl rfl) (pmk_own PySem.F.excBase_ValueError N.x_NoWriting.x N.g_NoWriting N.x_NoWriting.k (raises_own N.x_NoWriting.b N.x_NoWriting.t) rfl))) pss_nil))))), ?_⟩
    walk_at "st"
    rw [List.length_map]
    refine iteD (fun e => ?_) (fun e0 => ?_)
    · walk_at "st"
      exact qe (fun h => by have := h.1; omega)
    walk_at "st"
    refine ⟨⟨_, hS⟩, for_list (K := K) (a := a) (xs := ns.map V.int) (fun i σ H' => (∃ y2, σ = [some (.int z), some (.ref a), y2]) ∧ H = H' ∧ ∀ x, x ∈ ns.take i → 0 ≤ x ∧ x < z) ⟨⟨none, rfl⟩, rfl, fun x hx => by rw [List.take_zero] at hx; cases hx⟩ (fun i σ H' _ ⟨_, e, _⟩ => e ▸ hS) (fun i x σ H' hi hv => ?_) (fun σ H' hv => ?_)⟩
    · obtain ⟨⟨y2, rfl⟩, rfl, hf⟩ := hv
      obtain ⟨u, hu, rfl⟩ : ∃ u, ns[i]? = some u ∧ x = V.int u := by
        rw [List.getElem?_map] at hi
        cases e : ns[i]? with
        | none => rw [e] at hi; cases hi
        | some u => rw [e] at hi; exact ⟨u, rfl, (Option.some.inj hi).symm⟩
      have hm := List.mem_of_getElem? hu
      walk_at "st"
      refine iteD (fun e => ?_) (fun e1 => ?_)
      · walk_at "st"
        exact qe (fun h => by have := h.2 u hm; omega)
      walk_at "st"
      refine iteD (fun e => ?_) (fun e2 => ?_)
      · walk_at "st"
        exact qe (fun h => by have := h.2 u hm; omega)
      refine ⟨⟨_, rfl⟩, rfl, fun x hx => ?_⟩
      rw [take_snoc hu] at hx
      rcases List.mem_append.mp hx with h | h
      · exact hf x h
      · rw [List.mem_singleton.mp h]; omega
    · obtain ⟨⟨y2, rfl⟩, rfl, hf⟩ := hv
      rw [List.length_map, List.take_length] at hf
      exact q ⟨by omega, hf⟩
end
abbrev s_askedwriting : Stmt := topS 15
theorem sc_askedwriting : FnScope ["base", "writing"] ["base", "writing"] (defScope s_askedwriting) := ⟨rfl, rfl, rfl, by decide +kernel, rfl, by decide +kernel, by decide +kernel⟩
theorem wrOk_iff {z : Int} {x : Wr} : WrOk z x ↔ (0 ≤ x.w ∧ x.w ≤ 1000000000000) ∧ FgOk z x.a ∧ FgOk z x.r :=
  ⟨fun h => ⟨⟨h.w0, h.w1⟩, ⟨h.la, h.fa⟩, ⟨h.lr, h.fr⟩⟩, fun ⟨h1, h2, h3⟩ => ⟨h1.1, h1.2, h2.1, h3.1, h2.2, h3.2⟩⟩
@[irreducible] def sp_askedwriting (K : PySem.W.Frag) (c : Cs) : Sp := fun vs H Q E => ∃ (z : Int) (p a r : Addr) (x : Wr), vs = [.int z, .ref p] ∧ WrAt H p a r x ∧ (BadB z → E (.ref c.NoBase) none H) ∧ (¬ BadB z → ¬ WrOk z x → E (.ref c.NoWriting) none H) ∧ (¬ BadB z → WrOk z x → Q .non H)
theorem go_askedwriting {K : PySem.W.Frag} {c : Cs} {H : Hp} {z : Int} {p a r : Addr} {x : Wr} {Q : VK} {E : XK} (h : WrAt H p a r x) (e0 : BadB z → E (.ref c.NoBase) none H) (e1 : ¬ BadB z → ¬ WrOk z x → E (.ref c.NoWriting) none H) (q : ¬ BadB z → WrOk z x → Q .non H) : sp_askedwriting K c [.int z, .ref p] H Q E := by
  unfold sp_askedwriting; exact ⟨z, p, a, r, x, rfl, h, e0, e1, q⟩
section
variable {P : Program} {w : World} {K : PySem.W.Frag} {mg : Str → Option Value} {base : Heap}
theorem ok_askedwriting {f : Addr} {fd : FuncData} (F : Fun K "asked_writing" "asked_writing" s_askedwriting f fd) (M : Md K mg) {c : Cs} (N : Me K mg c) (c_askedbase : CalX P w K mg base 1 "asked_base" (sp_askedbase K c)) (c_askedfigures : CalX P w K mg base 1 "asked_figures" (sp_askedfigures K c)) : FnOk P w K mg base (L2.CX P w) 2 f fd ["base", "writing"] (sp_askedwriting K c) := by
  refine F.okX sc_askedwriting (fun vs H Q E h => ?_) (fun cdv A outer s H vs Q E hr h => ?_)
  · unfold sp_askedwriting at h; obtain ⟨z, p, a, r, x, rfl, h, e0, e1, q⟩ := h
    all_goals rfl
  · have hu := hu_of hr
    unfold sp_askedwriting at h; obtain ⟨z, p, a, r, x, rfl, h, e0, e1, q⟩ := h
    have ht := h.tp
    refine ⟨_, (pss_cons (ps_expr (pe_x c_askedbase hr (by decide) (by rfl) (takes_of rfl rfl rfl rfl) (pa_cons (pv 0) pa_nil)))
      (pss_cons (ps_if (PW.pt (pw_or (pt_cmpR op_lt (pe_ix ix_tup (pv 1) pe_int (fun _ _ => rfl)) pe_int (nomark _)) (pw_or1 (pt_cmpR op_gt (pe_ix ix_tup (pv 1) pe_int (fun _ _ => rfl)) (pe_gc (by rfl) M.g_GREATEST) (nomark _)))))
        (pss_one (ps_raise rfl (takes_of rfl rfl rfl rfl) (pmk_own PySem.F.excBase_ValueError N.x_NoWriting.x N.g_NoWriting N.x_NoWriting.k (raises_own N.x_NoWriting.b N.x_NoWriting.t) rfl))) pss_nil)
      (pss_cons (ps_expr (pe_x c_askedfigures hr (by decide) (by rfl) (takes_of rfl rfl rfl rfl) (pa_cons (pv 0) (pa_cons (pe_ix ix_tup (pv 1) pe_int (fun _ _ => rfl)) pa_nil))))
      (pss_one (ps_expr (pe_x c_askedfigures hr (by decide) (by rfl) (takes_of rfl rfl rfl rfl) (pa_cons (pv 0) (pa_cons (pe_ix ix_tup (pv 1) pe_int (fun _ _ => rfl)) pa_nil)))))))), ?_⟩
    walk_at "st"
    refine go_askedbase (fun h1 h2 => ?_) (fun h => e0 h)
    have g : ¬ BadB z := fun h => by unfold BadB at h; omega
    walk_at "st"
    refine iteD (fun e => ?_) (fun e2 => ?_)
    · walk_at "st"
      exact e1 g (fun h' => by have := h'.w0; omega)
    walk_at "st"
    refine iteD (fun e => ?_) (fun e3 => ?_)
    · walk_at "st"
      exact e1 g (fun h' => by have := h'.w1; omega)
    walk_at "st"
    refine go_askedfigures (sql h.la) (fun n => e1 g (fun h' => n (wrOk_iff.mp h').2.1)) (fun f1 => ?_)
    walk_at "st"
    refine go_askedfigures (sql h.lr) (fun n => e1 g (fun h' => n (wrOk_iff.mp h').2.2)) (fun f2 => ?_)
    exact q g (wrOk_iff.mpr ⟨⟨by omega, by omega⟩, f1, f2⟩)
end
abbrev s_common : Stmt := topS 16
theorem sc_common : FnScope ["one", "other", "rest"] ["one", "other"] (defScope s_common) := ⟨rfl, rfl, rfl, by decide +kernel, rfl, by decide +kernel, by decide +kernel⟩
@[irreducible] def sp_common (K : PySem.W.Frag) : Sp := fun vs H Q _ => ∃ (x y : Int) (a c : Nat), vs = [.int x, .int y] ∧ x = a ∧ y = c ∧ Q (.int ((Nat.gcd a c : Nat) : Int)) H
theorem go_common {K : PySem.W.Frag} {H : Hp} {x y : Int} {Q : VK} {E : XK} (a c : Nat) (hx : x = a) (hy : y = c) (q : Q (.int ((Nat.gcd a c : Nat) : Int)) H) : sp_common K [.int x, .int y] H Q E := by
  unfold sp_common; exact ⟨x, y, a, c, rfl, hx, hy, q⟩
section
variable {P : Program} {w : World} {K : PySem.W.Frag} {mg : Str → Option Value} {base : Heap}
theorem ok_common {f : Addr} {fd : FuncData} (F : Fun K "common" "common" s_common f fd) (M : Md K mg) {c : Cs} (N : Me K mg c) : FnOk P w K mg base CX0 1 f fd ["one", "other"] (sp_common K) := by
  refine F.ok sc_common (fun vs H Q E h => ?_) (fun cdv A outer s H vs Q E hr h => ?_)
  · unfold sp_common at h; obtain ⟨x, y, a, c, rfl, rfl, rfl, q⟩ := h
    all_goals rfl
  · have hu := hu_of hr
    unfold sp_common at h; obtain ⟨x, y, a, c, rfl, rfl, rfl, q⟩ := h
    refine ⟨_, (pss_cons (ps_while PassesOwn.never (pt_cmpR op_gt (pv 1) pe_int (nomark _))
        (pss_cons (ps_set (i := 2) sc_common.nd rfl (.inl rfl) (pe_op op_mod (pv 0) (pv 1)))
      (pss_cons (ps_set (i := 0) sc_common.nd rfl (.inl rfl) (pv 1))
      (pss_one (ps_set (i := 1) sc_common.nd rfl (.inl rfl) (pv 2))))))
      (pss_one (ps_ret (pv 0)))), ?_⟩
    refine ⟨fun μ σ H' => ∃ (A B : Nat) (y2 : Option V), μ = B ∧ Nat.gcd A B = Nat.gcd a c ∧ H = H' ∧ σ = [some (.int (A : Int)), some (.int (B : Int)), y2], ⟨c, a, c, none, rfl, rfl, rfl, rfl⟩, fun μ σ H' hW => ?_⟩
    obtain ⟨A, B, y2, e1, e2, rfl, rfl⟩ := hW
    walk_at "st"
    refine iteD (fun hp => ?_) (fun hp => ?_)
    · refine ⟨fun σ H' => H = H' ∧ ∃ y2, σ = [some (.int (B : Int)), some (.int ((A % B : Nat) : Int)), y2], fun σ H' hN => ?_, ?_⟩
      · obtain ⟨rfl, y3, rfl⟩ := hN
        refine ⟨A % B, ?_, B, A % B, y3, rfl, ?_, rfl, rfl⟩
        · rw [e1]; exact Nat.mod_lt _ (by omega)
        · rw [← e2, Nat.gcd_comm A B, Nat.gcd_rec B A, Nat.gcd_comm]
      · walk_at "st"
        exact ⟨_, rfl⟩
    · have hB : B = 0 := by omega
      rw [hB, Nat.gcd_zero_right] at e2
      rw [← e2] at q
      walk_at "st"
      exact q
end
abbrev s_lowest : Stmt := topS 17
theorem sc_lowest : FnScope ["top", "bottom", "part"] ["top", "bottom"] (defScope s_lowest) := ⟨rfl, rfl, rfl, by decide +kernel, rfl, by decide +kernel, by decide +kernel⟩
@[irreducible] def sp_lowest (K : PySem.W.Frag) : Sp := fun vs H Q _ => ∃ (x y : Int), vs = [.int x, .int y] ∧ 0 ≤ x ∧ 0 < y ∧ LowOk x y ∧ ∀ p, H p = none → Q (.ref p) (upd H p (.tup [.int (low x y).1, .int (low x y).2]))
theorem go_lowest {K : PySem.W.Frag} {H : Hp} {x y : Int} {Q : VK} {E : XK} (hx : 0 ≤ x) (hy : 0 < y) (hl : LowOk x y) (q : ∀ p, H p = none → Q (.ref p) (upd H p (.tup [.int (low x y).1, .int (low x y).2]))) : sp_lowest K [.int x, .int y] H Q E := by
  unfold sp_lowest; exact ⟨x, y, rfl, hx, hy, hl, q⟩
section
variable {P : Program} {w : World} {K : PySem.W.Frag} {mg : Str → Option Value} {base : Heap}
theorem ok_lowest {f : Addr} {fd : FuncData} (F : Fun K "lowest" "lowest" s_lowest f fd) (M : Md K mg) {c : Cs} (N : Me K mg c) (c_common : Cal P w K mg base 1 "common" (sp_common K) []) : FnOk P w K mg base CX0 2 f fd ["top", "bottom"] (sp_lowest K) := by
  refine F.ok sc_lowest (fun vs H Q E h => ?_) (fun cdv A outer s H vs Q E hr h => ?_)
  · unfold sp_lowest at h; obtain ⟨x, y, rfl, hx, hy, hl, q⟩ := h
    all_goals rfl
  · have hu := hu_of hr
    unfold sp_lowest at h; obtain ⟨x, y, rfl, hx, hy, hl, q⟩ := h
    obtain ⟨l1, l2⟩ := hl
    have ex : x = ((x.toNat : Nat) : Int) := (Int.toNat_of_nonneg hx).symm
    have ey : y = ((y.toNat : Nat) : Int) := (Int.toNat_of_nonneg (by omega)).symm
    refine ⟨_, (pss_cons (ps_set (i := 2) sc_lowest.nd rfl (.inl rfl) (pe_c c_common hr (by decide) (by rfl) (pa_cons (pv 0) (pa_cons (pv 1) pa_nil))))
      (pss_one (ps_ret (pe_tup (pa_cons (pe_op op_fdivP (pv 0) (pv 2)) (pa_cons (pe_op op_fdivP (pv 1) (pv 2)) pa_nil)))))), ?_⟩
    walk_at "st"
    refine go_common x.toNat y.toNat ex ey ?_
    walk_at "st"
    exact q
end
abbrev s_divided : Stmt := topS 18
theorem sc_divided : FnScope ["base", "top", "bottom", "rest", "places", "figures"] ["base", "top", "bottom"] (defScope s_divided) := ⟨rfl, rfl, rfl, by decide +kernel, rfl, by decide +kernel, by decide +kernel⟩
@[irreducible] def sp_divided (K : PySem.W.Frag) : Sp := fun vs H Q _ => ∃ (x y z : Int) (b t m s l : Nat), vs = [.int x, .int y, .int z] ∧ x = b ∧ y = t ∧ z = m ∧ 0 < m ∧ b < 100 ∧ Wid m ∧ DivAt b m (t % m) s l ∧ s + l ≤ 100000 ∧
  ∀ H' p a r, WrNew H H' p a r ⟨((t / m : Nat) : Int), dgs b m (t % m) 0 s, dgs b m (t % m) s l⟩ → Q (.ref p) H'
theorem go_divided {K : PySem.W.Frag} {H : Hp} {x y z : Int} {Q : VK} {E : XK} (b t m s l : Nat) (hx : x = b) (hy : y = t) (hz : z = m) (hm : 0 < m) (hb : b < 100) (hw : Wid m) (hd : DivAt b m (t % m) s l) (hn : s + l ≤ 100000)
    (q : ∀ H' p a r, WrNew H H' p a r ⟨((t / m : Nat) : Int), dgs b m (t % m) 0 s, dgs b m (t % m) s l⟩ → Q (.ref p) H') : sp_divided K [.int x, .int y, .int z] H Q E := by
  unfold sp_divided; exact ⟨x, y, z, b, t, m, s, l, rfl, hx, hy, hz, hm, hb, hw, hd, hn, q⟩
section
variable {P : Program} {w : World} {K : PySem.W.Frag} {mg : Str → Option Value} {base : Heap}
theorem ok_divided {f : Addr} {fd : FuncData} (F : Fun K "divided" "divided" s_divided f fd) (M : Md K mg) {c : Cs} (N : Me K mg c) : FnOk P w K mg base CX0 1 f fd ["base", "top", "bottom"] (sp_divided K) := by
  refine F.ok sc_divided (fun vs H Q E h => ?_) (fun cdv A outer s H vs Q E hr h => ?_)
  · unfold sp_divided at h; obtain ⟨x, y, z, b, t, m, s, l, rfl, rfl, rfl, rfl, hm, hb, hw, hd, hn, q⟩ := h
    all_goals rfl
  · have hu := hu_of hr
    unfold sp_divided at h; obtain ⟨x, y, z, b, t, m, s, l, rfl, rfl, rfl, rfl, hm, hb, hw, hd, hn, q⟩ := h
    have hmi : (0 : Int) < (m : Int) := by omega
    have cd : ∀ i : Int, CDivP i (m : Int) := fun i => cdivp_wide hm hw
    have mb : ∀ i : Int, IntMulOk i (b : Int) := fun i => mulB_right (by omega) (by omega)
    have e0 : (t : Int) % (m : Int) = ((rs b m (t % m) 0 : Nat) : Int) := by rw [rs_zero (Nat.mod_lt _ hm)]; rfl
    have eq : (t : Int) / (m : Int) = ((t / m : Nat) : Int) := rfl
    refine ⟨_, (pss_cons (ps_set (i := 3) sc_divided.nd rfl (.inl rfl) (pe_op op_mod (pv 1) (pv 2)))
      (pss_cons (ps_set (i := 4) sc_divided.nd rfl (.inl rfl) pe_dnewK)
      (pss_cons (ps_set (i := 5) sc_divided.nd rfl (.inl rfl) (pe_lst pa_nil))
      (pss_cons (ps_while PassesOwn.never (PW.pt (pw_and (pt_cmpR op_gt (pv 3) pe_int (nomark _)) (pw_and1 (pt_cmp (pc_dnotin hu (pv 3) (pv 4))))))
        (pss_cons (ps_dput hu (pv 4) (pv 3) (pe_callB call_len_seq (by rfl) M.m_len PySem.boot_len (pa_cons (pv 5) pa_nil)) rfl)
      (pss_cons (ps_expr (pe_bm PySem.F.plainAttrs_list PySem.F.slot_list_append PySem.F.type_list_append mt_append (pv 5) (pa_cons (pe_op op_fdivP (pe_op op_mulB (pv 3) (pv 0)) (pv 2)) pa_nil)))
      (pss_one (ps_set (i := 3) sc_divided.nd rfl (.inl rfl) (pe_op op_mod (pe_op op_mulB (pv 3) (pv 0)) (pv 2)))))))
      (pss_cons (ps_if (pt_cmpR op_eq (pv 3) pe_int (nomark _))
        (pss_one (ps_ret (pe_tup (pa_cons (pe_op op_fdivP (pv 1) (pv 2)) (pa_cons (pv 5) (pa_cons (pe_lst pa_nil) pa_nil)))))) pss_nil)
      (pss_one (ps_ret (pe_tup (pa_cons (pe_op op_fdivP (pv 1) (pv 2)) (pa_cons (pe_slice sl_list (pv 5) po_none (po_some (pe_dget hu (pv 4) (pv 3) (fun _ _ => rfl)))) (pa_cons (pe_slice sl_list (pv 5) (po_some (pe_dget hu (pv 4) (pv 3) (fun _ _ => rfl))) po_none) pa_nil))))))))))), ?_⟩
    walk_at "st"
    intro d nd
    walk_at "st"
    intro f nf
    have nd2 : H d = none := nd
    have nf2 : H f = none := free_upd nf
    have ndf : f ≠ d := ne_new nf
    refine ⟨fun μ σ H' => ∃ n kvs, n ≤ s + l ∧ μ = s + l - n ∧ σ = [some (.int b), some (.int t), some (.int m), some (.int ((rs b m (t % m) n : Nat) : Int)), some (.ref d), some (.ref f)] ∧ Same H H' ∧ H' d = some (.dK kvs) ∧ kvs.length = n ∧
        (∀ k, k < n → valV kvs (Sum.inl ((rs b m (t % m) k : Nat) : Int) : Key) = some (.int (k : Int))) ∧ (∀ z : Nat, (∀ k, k < n → rs b m (t % m) k ≠ z) → valV kvs (Sum.inl (z : Int) : Key) = none) ∧ H' f = some (.lst ((dgs b m (t % m) 0 n).map V.int)),
      ⟨s + l, 0, [], Nat.zero_le _, rfl, ?_, same_new (same_new (Same.refl H) nd2) nf2, ?_, rfl, fun k hk => by omega, fun z _ => rfl, ?_⟩, fun μ σ H' hW => ?_⟩
    · rw [← e0]; rfl
    · rw [upd_ne (Ne.symm ndf), upd_same]
    · exact upd_same
    obtain ⟨n, kvs, hnl, rfl, rfl, sm, hD, hk, hin, hout, hF⟩ := hW
    have hSq : SqL K H' f ((dgs b m (t % m) 0 n).map V.int) := sql hF
    have hlen : ((dgs b m (t % m) 0 n).map V.int).length = n := by rw [List.length_map, dgs_len]
    walk_at "st"
    by_cases hlt : n < s + l
    · -- one more figure
      have hp := hd.pos n hlt
      have hv : valV kvs (Sum.inl ((rs b m (t % m) n : Nat) : Int) : Key) = none := hout _ fun k hk' e => hd.new k n hk' hlt e
      refine iteD (fun _ => ?_) (fun e => absurd e (by omega))
      walk_at "st"
      refine ⟨d, _, rfl, DGet.k (k := Sum.inl ((rs b m (t % m) n : Nat) : Int)) hD, _, rfl, ?_⟩
      rw [hv]
      refine ⟨fun σ2 H2 => σ2 = [some (.int b), some (.int t), some (.int m), some (.int ((rs b m (t % m) (n + 1) : Nat) : Int)), some (.ref d), some (.ref f)] ∧ Same H H2 ∧ H2 d = some (.dK (kvs ++ [(Sum.inl ((rs b m (t % m) n : Nat) : Int), .int (n : Int))])) ∧ H2 f = some (.lst ((dgs b m (t % m) 0 (n + 1)).map V.int)),
        fun σ2 H2 ⟨e1, e2, e3, e4⟩ => ⟨s + l - (n + 1), by omega, n + 1, _, by omega, rfl, e1, e2, e3, by rw [List.length_append, hk]; rfl, fun k hk' => ?_, fun z hz => ?_, e4⟩, ?_⟩
      · rw [valV_snoc _ _ _ _ hv]
        by_cases hkn : k = n
        · subst hkn; rw [if_pos rfl]
        · rw [if_neg (keyne (hd.new k n (by omega) hlt)), hin k (by omega)]
      · rw [valV_snoc _ _ _ _ hv, if_neg (keyne fun q => hz n (by omega) q.symm), hout z fun k hk' => hz k (by omega)]
      · -- places[rest] = len(figures)
        refine ⟨_, rfl, f, _, rfl, .inl hSq, ?_⟩
        rw [hlen]
        refine ⟨_, rfl, _, rfl, d, _, rfl, DPut.k (k := Sum.inl ((rs b m (t % m) n : Nat) : Int)) hD (sz100lt (by omega)), ?_⟩
        rw [putK_new _ hv]
        have hF2 : (upd H' d (.dK (kvs ++ [(Sum.inl ((rs b m (t % m) n : Nat) : Int), V.int (n : Int))]))) f = some (.lst ((dgs b m (t % m) 0 n).map V.int)) := by rw [upd_ne ndf]; exact hF
        -- figures.append(..)
        refine ⟨_, rfl, .inl ⟨rfl, _, sql hF2⟩, ?_⟩
        walk_at "st"
        refine ⟨f, _, _, rfl, rfl, hF2, by rw [hlen]; exact sz100lt (by omega), ?_⟩
        walk_at "st"
        refine ⟨?_, same_new (same_new sm nd2) nf2, ?_, ?_⟩
        · rw [rs_succ]; rfl
        · rw [upd_ne (Ne.symm ndf), upd_same]
        · rw [upd_same, dgs_succ, List.map_append, Nat.zero_add]; rfl
    · have hns : n = s + l := by omega
      subst hns
      by_cases hl : l = 0
      · -- nothing is left
        subst hl
        have h0 := hd.fin rfl
        rw [Nat.add_zero] at *
        rw [h0]
        refine iteD (fun e => absurd e (by decide)) (fun _ => ?_)
        walk_at "st"
        intro g ng
        walk_at "st"
        intro p np
        have ngf : g ≠ f := fun z => by rw [z, hF] at ng; cases ng
        refine q _ p f g ⟨⟨upd_same, ?_, ?_⟩, same_new (same_new sm (sm.free ng)) (sm.free (free_upd np)), sm.free (free_upd np), nf2, sm.free ng, Ne.symm ngf⟩
        · rw [upd_ne (fun z => ?_), upd_ne (Ne.symm ngf)]
          · exact hF
          · rw [z] at hF; rw [free_upd np] at hF; cases hF
        · rw [upd_ne (Ne.symm (ne_new np)), upd_same]; rfl
      · have hrep := hd.rep (by omega)
        have hs0 := hd.pos s (by omega)
        have hv : valV kvs (Sum.inl ((rs b m (t % m) s : Nat) : Int) : Key) = some (.int (s : Int)) := hin s (by omega)
        rw [hrep]
        refine iteD (fun _ => ?_) (fun e => absurd e (by omega))
        walk_at "st"
        refine ⟨d, _, rfl, DGet.k (k := Sum.inl ((rs b m (t % m) s : Nat) : Int)) hD, _, rfl, ?_⟩
        rw [hv]
        walk_at "st"
        refine iteE (fun e => absurd e (by omega)) (fun _ => ?_)
        walk_at "st"
        have hg : DGet H' d (.int ((rs b m (t % m) s : Nat) : Int)) (some (.int (s : Int))) := by
          rw [← hv]; exact DGet.k (k := Sum.inl ((rs b m (t % m) s : Nat) : Int)) hD
        refine ⟨_, _, rfl, hg, _, rfl, f, _, rfl, hSq, fun a na => ?_⟩
        rw [cut_take, take_map, dgs_take _ _ _ _ _ (by omega)]
        have naf : a ≠ f := fun z => by rw [z, hF] at na; cases na
        have nad : a ≠ d := fun z => by rw [z, hD] at na; cases na
        walk_at "st"
        have hF1 := hF
        have hg1 : DGet (upd H' a (.lst ((dgs b m (t % m) 0 s).map V.int))) d (.int ((rs b m (t % m) s : Nat) : Int)) (some (.int (s : Int))) := by
          rw [← hv]; exact DGet.k (k := Sum.inl ((rs b m (t % m) s : Nat) : Int)) (by rw [upd_ne (Ne.symm nad)]; exact hD)
        have hSq1 : SqL K (upd H' a (.lst ((dgs b m (t % m) 0 s).map V.int))) f ((dgs b m (t % m) 0 (s + l)).map V.int) := sql (by rw [upd_ne (Ne.symm naf)]; exact hF)
        refine ⟨_, _, rfl, hg1, _, rfl, f, _, rfl, hSq1, fun g ng => ?_⟩
        rw [cut_drop, drop_map, dgs_drop _ _ _ _ _ (by omega), Nat.add_sub_cancel_left]
        walk_at "st"
        intro p np
        have np1 := free_upd np
        have np2 := free_upd np1
        refine q _ p a g ⟨⟨upd_same, ?_, ?_⟩, same_new (same_new (same_new sm (sm.free na)) (sm.free (free_upd ng))) (sm.free np2), sm.free np2, sm.free na, sm.free (free_upd ng), Ne.symm (ne_new ng)⟩
        · rw [upd_ne (Ne.symm (ne_new np1)), upd_ne (Ne.symm (ne_new ng)), upd_same]
        · rw [upd_ne (Ne.symm (ne_new np)), upd_same]
end
abbrev s_written : Stmt := topS 19
theorem sc_written : FnScope ["base", "top", "bottom"] ["base", "top", "bottom"] (defScope s_written) := ⟨rfl, rfl, rfl, by decide +kernel, rfl, by decide +kernel, by decide +kernel⟩
@[irreducible] def sp_written (K : PySem.W.Frag) (c : Cs) : Sp := fun vs H Q E => ∃ (z t m : Int), vs = [.int z, .int t, .int m] ∧ (BadB z → E (.ref c.NoBase) none H) ∧ (¬ BadB z → ¬ FrOk t m → E (.ref c.NoFraction) none H) ∧ (¬ BadB z → FrOk t m → ∀ H' v, Same H H' → Q v H')
theorem go_written {K : PySem.W.Frag} {c : Cs} {H : Hp} {z t m : Int} {Q : VK} {E : XK} (e0 : BadB z → E (.ref c.NoBase) none H) (e1 : ¬ BadB z → ¬ FrOk t m → E (.ref c.NoFraction) none H) (q : ¬ BadB z → FrOk t m → ∀ H' v, Same H H' → Q v H') : sp_written K c [.int z, .int t, .int m] H Q E := by
  unfold sp_written; exact ⟨z, t, m, rfl, e0, e1, q⟩
section
variable {P : Program} {w : World} {K : PySem.W.Frag} {mg : Str → Option Value} {base : Heap}
theorem ok_written {f : Addr} {fd : FuncData} (F : Fun K "written" "written" s_written f fd) (M : Md K mg) {c : Cs} (N : Me K mg c) (c_askedfraction : CalX P w K mg base 2 "asked_fraction" (sp_askedfraction K c)) (c_divided : Cal P w K mg base 1 "divided" (sp_divided K) []) : FnOk P w K mg base (L2.CX P w) 3 f fd ["base", "top", "bottom"] (sp_written K c) := by
  refine F.okX sc_written (fun vs H Q E h => ?_) (fun cdv A outer s H vs Q E hr h => ?_)
  · unfold sp_written at h; obtain ⟨z, t, m, rfl, e0, e1, q⟩ := h
    all_goals rfl
  · have hu := hu_of hr
    unfold sp_written at h; obtain ⟨z, t, m, rfl, e0, e1, q⟩ := h
    refine ⟨_, (pss_cons (ps_expr (pe_x c_askedfraction hr (by decide) (by rfl) (takes_of rfl rfl rfl rfl) (pa_cons (pv 0) (pa_cons (pv 1) (pa_cons (pv 2) pa_nil)))))
      (pss_one (ps_ret (pe_c c_divided hr (by decide) (by rfl) (pa_cons (pv 0) (pa_cons (pv 1) (pa_cons (pv 2) pa_nil))))))), ?_⟩
    walk_at "st"
    refine go_askedfraction e0 e1 (fun g hf => ?_)
    have q2 := q g hf
    obtain ⟨b, rfl, h1, h2⟩ := natB g
    obtain ⟨t, m, rfl, rfl, t2, m1, m2⟩ := natF hf
    obtain ⟨s, l, hsl, hd⟩ := divAt_exists (b := b) (m := m) (r := t % m) (by omega)
    walk_at "st"
    exact go_divided b t m s l rfl rfl rfl (by omega) (by omega) (wid_small (by omega)) hd (by omega) (fun H' p a r w => q2 _ _ w.same)
end
abbrev s_numberof : Stmt := topS 20
theorem sc_numberof : FnScope ["base", "figures", "total", "figure"] ["base", "figures"] (defScope s_numberof) := ⟨rfl, rfl, rfl, by decide +kernel, rfl, by decide +kernel, by decide +kernel⟩
@[irreducible] def sp_numberof (K : PySem.W.Frag) : Sp := fun vs H Q _ => ∃ (b : Int) (a : Addr) (ns : List Int), vs = [.int b, .ref a] ∧ 0 ≤ b ∧ b ≤ 100 ∧ SqL K H a (ns.map V.int) ∧ Q (.int (numI b ns)) H
theorem go_numberof {K : PySem.W.Frag} {H : Hp} {b : Int} {a : Addr} {ns : List Int} {Q : VK} {E : XK} (h1 : 0 ≤ b) (h2 : b ≤ 100) (hS : SqL K H a (ns.map V.int)) (q : Q (.int (numI b ns)) H) : sp_numberof K [.int b, .ref a] H Q E := by
  unfold sp_numberof; exact ⟨b, a, ns, rfl, h1, h2, hS, q⟩
section
variable {P : Program} {w : World} {K : PySem.W.Frag} {mg : Str → Option Value} {base : Heap}
theorem ok_numberof {f : Addr} {fd : FuncData} (F : Fun K "number_of" "number_of" s_numberof f fd) (M : Md K mg) {c : Cs} (N : Me K mg c) : FnOk P w K mg base CX0 1 f fd ["base", "figures"] (sp_numberof K) := by
  refine F.ok sc_numberof (fun vs H Q E h => ?_) (fun cdv A outer s H vs Q E hr h => ?_)
  · unfold sp_numberof at h; obtain ⟨b, a, ns, rfl, h1, h2, hS, q⟩ := h
    all_goals rfl
  · have hu := hu_of hr
    unfold sp_numberof at h; obtain ⟨b, a, ns, rfl, h1, h2, hS, q⟩ := h
    refine ⟨_, (pss_cons (ps_set (i := 2) sc_numberof.nd rfl (.inl rfl) pe_int)
      (pss_cons (ps_for PassesOwn.never rfl (pi_list (pv 1)) (pg_name (i := 3) sc_numberof.nd rfl (.inl rfl))
        (pss_one (ps_set (i := 2) sc_numberof.nd rfl (.inl rfl) (pe_op op_add (pe_op op_mulB (pv 2) (pv 0)) (pv 3)))))
      (pss_one (ps_ret (pv 2))))), ?_⟩
    walk_at "st"
    refine ⟨⟨_, hS⟩, for_list (K := K) (a := a) (xs := ns.map V.int) (fun i σ H' => H = H' ∧ ∃ y, σ = [some (.int b), some (.ref a), some (.int (numI b (ns.take i))), y]) ⟨rfl, none, rfl⟩ (fun i σ H' _ ⟨e, _⟩ => e ▸ hS) (fun i x σ H' hi hv => ?_) (fun σ H' hv => ?_)⟩
    · obtain ⟨rfl, y, rfl⟩ := hv
      rw [List.getElem?_map] at hi
      cases e : ns[i]? with
      | none => rw [e] at hi; cases hi
      | some u =>
        rw [e] at hi
        have e2 : V.int u = x := Option.some.inj hi
        subst e2
        rw [take_snoc e, num_snoc]
        walk_at "st"
        exact ⟨_, rfl⟩
    · obtain ⟨rfl, y, rfl⟩ := hv
      rw [List.length_map, List.take_length]
      walk_at "st"
      exact q
end
abbrev s_power : Stmt := topS 21
theorem sc_power : FnScope ["base", "many", "found", "k"] ["base", "many"] (defScope s_power) := ⟨rfl, rfl, rfl, by decide +kernel, rfl, by decide +kernel, by decide +kernel⟩
@[irreducible] def sp_power (K : PySem.W.Frag) : Sp := fun vs H Q _ => ∃ (b n : Int), vs = [.int b, .int n] ∧ 0 ≤ b ∧ b ≤ 100 ∧ 0 ≤ n ∧ n ≤ 100000 ∧ Q (.int (b ^ n.toNat)) H
theorem go_power {K : PySem.W.Frag} {H : Hp} {b n : Int} {Q : VK} {E : XK} (h1 : 0 ≤ b) (h2 : b ≤ 100) (h3 : 0 ≤ n) (h4 : n ≤ 100000) (q : Q (.int (b ^ n.toNat)) H) : sp_power K [.int b, .int n] H Q E := by
  unfold sp_power; exact ⟨b, n, rfl, h1, h2, h3, h4, q⟩
section
variable {P : Program} {w : World} {K : PySem.W.Frag} {mg : Str → Option Value} {base : Heap}
theorem ok_power {f : Addr} {fd : FuncData} (F : Fun K "power" "power" s_power f fd) (M : Md K mg) {c : Cs} (N : Me K mg c) : FnOk P w K mg base CX0 1 f fd ["base", "many"] (sp_power K) := by
  refine F.ok sc_power (fun vs H Q E h => ?_) (fun cdv A outer s H vs Q E hr h => ?_)
  · unfold sp_power at h; obtain ⟨b, n, rfl, h1, h2, h3, h4, q⟩ := h
    all_goals rfl
  · have hu := hu_of hr
    unfold sp_power at h; obtain ⟨b, n, rfl, h1, h2, h3, h4, q⟩ := h
    refine ⟨_, (pss_cons (ps_set (i := 2) sc_power.nd rfl (.inl rfl) pe_int)
      (pss_cons (ps_for PassesOwn.never rfl (pi_range1 (by rfl) M.m_range (pa_cons (pv 1) pa_nil)) (pg_name (i := 3) sc_power.nd rfl (.inl rfl))
        (pss_one (ps_set (i := 2) sc_power.nd rfl (.inl rfl) (pe_op op_mulB (pv 2) (pv 0)))))
      (pss_one (ps_ret (pv 2))))), ?_⟩
    walk_at "st"
    refine ⟨by omega, by omega, for_range (lo := 0) (n := n.toNat) (fun i σ H' => H = H' ∧ ∃ y, σ = [some (.int b), some (.int n), some (.int (b ^ i)), y]) ⟨rfl, none, by rw [Int.pow_zero]; rfl⟩ (fun i σ H' hi hv => ?_) (fun σ H' hv => ?_)⟩
    · obtain ⟨rfl, y, rfl⟩ := hv
      rw [Int.pow_succ]
      walk_at "st"
      exact ⟨_, rfl⟩
    · obtain ⟨rfl, y, rfl⟩ := hv
      walk_at "st"
      exact q
end
abbrev s_worth : Stmt := topS 22
theorem sc_worth : FnScope ["base", "writing", "whole", "ahead", "ring", "first", "top", "turned"] ["base", "writing"] (defScope s_worth) := ⟨rfl, rfl, rfl, by decide +kernel, rfl, by decide +kernel, by decide +kernel⟩
@[irreducible] def sp_worth (K : PySem.W.Frag) (c : Cs) : Sp := fun vs H Q E => ∃ (z : Int) (p a r : Addr) (x : Wr), vs = [.int z, .ref p] ∧ WrAt H p a r x ∧ (BadB z → E (.ref c.NoBase) none H) ∧ (¬ BadB z → ¬ WrOk z x → E (.ref c.NoWriting) none H) ∧ (∀ b : Nat, z = b → 2 ≤ b → b ≤ 36 → WrOk z x → ∃ u v, LW b x u v) ∧ (¬ BadB z → WrOk z x → ∀ (b : Nat) u v, z = b → LW b x u v → ∀ p', H p' = none → Q (.ref p') (upd H p' (.tup [.int (u : Nat), .int (v : Nat)])))
theorem go_worth {K : PySem.W.Frag} {c : Cs} {H : Hp} {z : Int} {p a r : Addr} {x : Wr} {Q : VK} {E : XK} (h : WrAt H p a r x) (e0 : BadB z → E (.ref c.NoBase) none H) (e1 : ¬ BadB z → ¬ WrOk z x → E (.ref c.NoWriting) none H) (hl : (∀ b : Nat, z = b → 2 ≤ b → b ≤ 36 → WrOk z x → ∃ u v, LW b x u v)) (q : ¬ BadB z → WrOk z x → ∀ (b : Nat) u v, z = b → LW b x u v → ∀ p', H p' = none → Q (.ref p') (upd H p' (.tup [.int (u : Nat), .int (v : Nat)]))) : sp_worth K c [.int z, .ref p] H Q E := by
  unfold sp_worth; exact ⟨z, p, a, r, x, rfl, h, e0, e1, hl, q⟩
section
variable {P : Program} {w : World} {K : PySem.W.Frag} {mg : Str → Option Value} {base : Heap}
theorem ok_worth {f : Addr} {fd : FuncData} (F : Fun K "worth" "worth" s_worth f fd) (M : Md K mg) {c : Cs} (N : Me K mg c) (c_askedwriting : CalX P w K mg base 2 "asked_writing" (sp_askedwriting K c)) (c_lowest : Cal P w K mg base 2 "lowest" (sp_lowest K) []) (c_numberof : Cal P w K mg base 1 "number_of" (sp_numberof K) []) (c_power : Cal P w K mg base 1 "power" (sp_power K) []) : FnOk P w K mg base (L2.CX P w) 3 f fd ["base", "writing"] (sp_worth K c) := by
  refine F.okX sc_worth (fun vs H Q E h => ?_) (fun cdv A outer s H vs Q E hr h => ?_)
  · unfold sp_worth at h; obtain ⟨z, p, a, r, x, rfl, h, e0, e1, hl0, qq⟩ := h
    all_goals rfl
  · have hu := hu_of hr
    unfold sp_worth at h; obtain ⟨z, p, a, r, x, rfl, h, e0, e1, hl0, qq⟩ := h
    refine ⟨_, (pss_cons (ps_expr (pe_x c_askedwriting hr (by decide) (by rfl) (takes_of rfl rfl rfl rfl) (pa_cons (pv 0) (pa_cons (pv 1) pa_nil))))
      (pss_cons (ps_asg (pv 1) (pg_tup rfl (pgs_cons (pg_name (i := 2) sc_worth.nd rfl (.inl rfl)) (pgs_cons (pg_name (i := 3) sc_worth.nd rfl (.inl rfl)) (pgs_cons (pg_name (i := 4) sc_worth.nd rfl (.inl rfl)) pgs_nil)))))
      (pss_cons (ps_set (i := 5) sc_worth.nd rfl (.inl rfl) (pe_c c_power hr (by decide) (by rfl) (pa_cons (pv 0) (pa_cons (pe_callB call_len_seq (by rfl) M.m_len PySem.boot_len (pa_cons (pv 3) pa_nil)) pa_nil))))
      (pss_cons (ps_set (i := 6) sc_worth.nd rfl (.inl rfl) (pe_op op_add (pe_op op_mulB (pv 2) (pv 5)) (pe_c c_numberof hr (by decide) (by rfl) (pa_cons (pv 0) (pa_cons (pv 3) pa_nil)))))
      (pss_cons (ps_if (pt_cmpR op_eq (pe_callB call_len_seq (by rfl) M.m_len PySem.boot_len (pa_cons (pv 4) pa_nil)) pe_int (nomark _))
        (pss_one (ps_ret (pe_c c_lowest hr (by decide) (by rfl) (pa_cons (pv 6) (pa_cons (pv 5) pa_nil))))) pss_nil)
      (pss_cons (ps_set (i := 7) sc_worth.nd rfl (.inl rfl) (pe_op op_sub (pe_c c_power hr (by decide) (by rfl) (pa_cons (pv 0) (pa_cons (pe_callB call_len_seq (by rfl) M.m_len PySem.boot_len (pa_cons (pv 4) pa_nil)) pa_nil))) pe_int))
      (pss_one (ps_ret (pe_c c_lowest hr (by decide) (by rfl) (pa_cons (pe_op op_add (pe_op op_mulB (pv 6) (pv 7)) (pe_c c_numberof hr (by decide) (by rfl) (pa_cons (pv 0) (pa_cons (pv 4) pa_nil)))) (pa_cons (pe_op op_mulB (pv 5) (pv 7)) pa_nil))))))))))), ?_⟩
    walk_at "st"
    refine go_askedwriting h e0 e1 (fun g ho => ?_)
    obtain ⟨b, rfl, h1, h2⟩ := natB g
    obtain ⟨u, v, L⟩ := hl0 b rfl h1 h2 ho
    have hl := L.lo
    have hb1 : (2 : Int) ≤ (b : Int) := by omega
    have hb2 : (b : Int) ≤ 36 := by omega
    have q : ∀ p', H p' = none → Q (.ref p') (upd H p' (.tup [.int (low (wT (b : Int) x.w x.a x.r) (wB (b : Int) x.a x.r)).1, .int (low (wT (b : Int) x.w x.a x.r) (wB (b : Int) x.a x.r)).2])) := fun p' np => by
      rw [L.eq]
      exact qq g ho b u v rfl L p' np
    have ht := h.tp
    have ha := h.la
    have hr' := h.lr
    have hla := ho.la
    have hlr := ho.lr
    have hd := head_lt hb1 hb2 ho.w0 ho.w1 ho.la ho.fa
    have hpa := pow_posI (b := (b : Int)) (by omega) x.a.length
    have hpl := pow_ltb (b := (b : Int)) (n := x.a.length) (N := 4000) (by omega) (by omega) hla
    have hrl := pow_ltb (b := (b : Int)) (n := x.r.length) (N := 4000) (by omega) (by omega) hlr
    have hrp := pow_ge1 (b := (b : Int)) (by omega) x.r.length
    have m1 : IntMulOk x.w ((b : Int) ^ x.a.length) := mulOk_of (m := 40) ho.w0 (by have h40 : (2 : Int) ^ 40 = 1099511627776 := (by decide); have := ho.w1; omega) (Int.le_of_lt hpa) hpl (by decide) (by decide) (by decide)
    have m2 : IntMulOk (x.w * (b : Int) ^ x.a.length + numI (b : Int) x.a) ((b : Int) ^ x.r.length - 1) := mulOk_of hd.1 hd.2 (by omega) (Int.lt_trans (Int.sub_lt_self _ (by decide)) hrl) (by decide) (by decide) (by decide)
    have m3 : IntMulOk ((b : Int) ^ x.a.length) ((b : Int) ^ x.r.length - 1) := mulOk_of (Int.le_of_lt hpa) hpl (by omega) (Int.lt_trans (Int.sub_lt_self _ (by decide)) hrl) (by decide) (by decide) (by decide)
    clear hpl hrl
    walk_at "st"
    simp only [List.length_map]
    refine go_power (by omega) (by omega) (by omega) (by omega) ?_
    rw [Int.toNat_natCast]
    walk_at "st"
    refine go_numberof (by omega) (by omega) (sql ha) ?_
    walk_at "st"
    simp only [List.length_map]
    refine iteE (fun c => ?_) (fun c => ?_)
    · have hr0 : x.r = [] := List.eq_nil_of_length_eq_zero (by omega)
      have e1 : wT (b : Int) x.w x.a x.r = x.w * (b : Int) ^ x.a.length + numI (b : Int) x.a := if_pos hr0
      have e2 : wB (b : Int) x.a x.r = (b : Int) ^ x.a.length := if_pos hr0
      rw [e1, e2] at q hl
      walk_at "st"
      exact go_lowest hd.1 hpa hl q
    · have hr0 : x.r ≠ [] := fun z => c (by rw [z]; rfl)
      have e1 : wT (b : Int) x.w x.a x.r = (x.w * (b : Int) ^ x.a.length + numI (b : Int) x.a) * ((b : Int) ^ x.r.length - 1) + numI (b : Int) x.r := if_neg hr0
      have e2 : wB (b : Int) x.a x.r = (b : Int) ^ x.a.length * ((b : Int) ^ x.r.length - 1) := if_neg hr0
      have p1 := wT_nn (a := x.a) (r := x.r) hb1 ho.w0 ho.fa ho.fr
      have p2 := wB_pos (a := x.a) (r := x.r) hb1
      rw [e1] at p1
      rw [e2] at p2
      rw [e1, e2] at q hl
      walk_at "st"
      simp only [List.length_map]
      refine go_power (by omega) (by omega) (by omega) (by omega) ?_
      rw [Int.toNat_natCast]
      walk_at "st"
      refine go_numberof (by omega) (by omega) (sql hr') ?_
      walk_at "st"
      exact go_lowest p1 p2 hl q
end
abbrev s_shortest : Stmt := topS 23
theorem sc_shortest : FnScope ["ring", "size"] ["ring"] (defScope s_shortest) := ⟨rfl, rfl, rfl, by decide +kernel, rfl, by decide +kernel, by decide +kernel⟩
@[irreducible] def sp_shortest (K : PySem.W.Frag) : Sp := fun vs H Q _ => ∃ (a : Addr) (ns : List Int), vs = [.ref a] ∧ H a = some (.lst (ns.map V.int)) ∧ ns.length ≤ 4000 ∧
  ∀ H' p ns', Same H H' → H' p = some (.lst (ns'.map V.int)) → (p = a ∨ H p = none) → ShortOf ns ns' → Q (.ref p) H'
theorem go_shortest {K : PySem.W.Frag} {H : Hp} {a : Addr} {ns : List Int} {Q : VK} {E : XK} (h : H a = some (.lst (ns.map V.int))) (hl : ns.length ≤ 4000)
    (q : ∀ H' p ns', Same H H' → H' p = some (.lst (ns'.map V.int)) → (p = a ∨ H p = none) → ShortOf ns ns' → Q (.ref p) H') : sp_shortest K [.ref a] H Q E := by
  unfold sp_shortest; exact ⟨a, ns, rfl, h, hl, q⟩
section
variable {P : Program} {w : World} {K : PySem.W.Frag} {mg : Str → Option Value} {base : Heap}
theorem ok_shortest {f : Addr} {fd : FuncData} (F : Fun K "shortest" "shortest" s_shortest f fd) (M : Md K mg) {c : Cs} (N : Me K mg c) : FnOk P w K mg base CX0 1 f fd ["ring"] (sp_shortest K) := by
  refine F.ok sc_shortest (fun vs H Q E h => ?_) (fun cdv A outer s H vs Q E hr h => ?_)
  · unfold sp_shortest at h; obtain ⟨a, ns, rfl, h, hl, q⟩ := h
    all_goals rfl
  · have hu := hu_of hr
    unfold sp_shortest at h; obtain ⟨a, ns, rfl, h, hl, q⟩ := h
    refine ⟨_, (pss_cons (ps_for PassesOwn.never rfl (pi_range2 (by rfl) M.m_range (pa_cons pe_int (pa_cons (pe_callB call_len_seq (by rfl) M.m_len PySem.boot_len (pa_cons (pv 0) pa_nil)) pa_nil))) (pg_name (i := 1) sc_shortest.nd rfl (.inl rfl))
        (pss_one (ps_if (PW.pt (pw_and (pt_cmpR op_eq (pe_op op_mod (pe_callB call_len_seq (by rfl) M.m_len PySem.boot_len (pa_cons (pv 0) pa_nil)) (pv 1)) pe_int (nomark _)) (pw_and1 (pt_cmpR (op_eqD hr.units) (pe_op op_cat (pe_slice sl_list (pv 0) (po_some (pv 1)) po_none) (pe_slice sl_list (pv 0) po_none (po_some (pv 1)))) (pv 0) (nomark _)))))
        (pss_one (ps_ret (pe_slice sl_list (pv 0) po_none (po_some (pv 1))))) pss_nil)))
      (pss_one (ps_ret (pv 0)))), ?_⟩
    walk_at "st"
    simp only [List.length_map]
    have en : ((ns.length : Int) - 1).toNat = ns.length - 1 := by omega
    rw [en]
    refine ⟨by omega, ?_⟩
    refine for_range (D := { nx := tRet (tVar 0) { nx := fun x H1 => Q V.non H1, rt := Q }, rt := Q }) (lo := 1) (n := ns.length - 1) (fun i σ H' => Same H H' ∧ (∃ y, σ = [some (.ref a), y]) ∧ ∀ e, 0 < e → e < i + 1 → ns.length % e = 0 → rotl ns e ≠ ns) ?_ ?_ ?_
    · exact ⟨Same.refl _, ⟨none, rfl⟩, fun e h0 h1 => by omega⟩
    · intro i σ H' hi hv
      obtain ⟨sm, ⟨y, rfl⟩, hn⟩ := hv
      have ha := sm _ _ h
      walk_at "st"
      refine iteE (fun c1 => ?_) (fun c1 => ?_)
      · rw [List.length_map] at c1
        walk_at "st"
        refine ⟨a, _, rfl, sql ha, fun p1 np1 => ?_⟩
        rw [cut_litd ns (i + 1) _ (by omega)]
        have s1 := same_new (o := .lst ((ns.drop (i + 1)).map V.int)) sm (sm.free np1)
        walk_at "st"
        refine ⟨a, _, rfl, sql (s1 _ _ h), fun p2 np2 => ?_⟩
        rw [cut_lit ns (i + 1) _ (by omega)]
        have s2 := same_new (o := .lst ((ns.take (i + 1)).map V.int)) s1 (sm.free (free_upd np2))
        have s3 : ∀ p3 o, upd (upd H' p1 (.lst ((ns.drop (i + 1)).map V.int))) p2 (.lst ((ns.take (i + 1)).map V.int)) p3 = none → Same H (upd (upd (upd H' p1 (.lst ((ns.drop (i + 1)).map V.int))) p2 (.lst ((ns.take (i + 1)).map V.int))) p3 o) := fun p3 o n3 => same_new s2 (s2.free n3)
        refine ⟨p1, p2, _, _, rfl, rfl, (by rw [upd_ne (Ne.symm (ne_new np2)), upd_same]), upd_same, sz100 (by rw [List.length_map, List.length_map, List.length_drop, List.length_take]; omega), fun p3 np3 => ?_⟩
        have s4 := s3 p3 (.lst ((ns.drop (i + 1)).map V.int ++ (ns.take (i + 1)).map V.int)) np3
        rw [← List.map_append] at s4 ⊢
        have h4 := s4 _ _ h
        walk_at "st"
        refine ⟨dI _, dI ns, dp_dI (sql upd_same), dp_dI (sql h4), shaped_dI _, shaped_dI _, ?_⟩
        rw [eqv_dI]
        refine ⟨_, rfl, ?_⟩
        refine iteD (c := ns.drop (i + 1) ++ ns.take (i + 1) = ns) (fun c2 => ?_) (fun c2 => ?_)
        · walk_at "st"
          refine ⟨a, _, rfl, sql h4, fun p5 np5 => ?_⟩
          rw [cut_lit ns (i + 1) _ (by omega)]
          have s5 := same_new (o := .lst ((ns.take (i + 1)).map V.int)) s4 (s4.free np5)
          have e1 : ns.length % (i + 1) = 0 := by
            rw [Int.add_comm] at c1
            exact_mod_cast c1
          exact q _ p5 _ s5 upd_same (.inr (s4.free np5)) ⟨prim_take (by omega) (by omega) e1 c2 (fun e h0 h1 he => hn e h0 h1 he), .inr ⟨i + 1, by omega, by omega, c2, rfl⟩⟩
        · walk_at "st"
          refine ⟨s4, ⟨_, rfl⟩, fun e h0 h1 he => ?_⟩
          by_cases h2 : e < i + 1
          · exact hn e h0 h2 he
          · have h3 : e = i + 1 := by omega
            subst h3
            exact c2
      · rw [List.length_map] at c1
        walk_at "st"
        refine ⟨sm, ⟨_, rfl⟩, fun e h0 h1 he => ?_⟩
        by_cases h2 : e < i + 1
        · exact hn e h0 h2 he
        · have h3 : e = i + 1 := by omega
          subst h3
          exact fun _ => c1 (by rw [Int.add_comm]; exact_mod_cast he)
    · intro σ H' hv
      obtain ⟨sm, ⟨y, rfl⟩, hn⟩ := hv
      walk_at "st"
      exact q H' a ns sm (sm _ _ h) (.inl rfl) ⟨fun d h0 hd => hn d h0 (by omega), .inl rfl⟩
end
abbrev s_onemore : Stmt := topS 24
theorem sc_onemore : FnScope ["base", "whole", "ahead", "found", "at"] ["base", "whole", "ahead"] (defScope s_onemore) := ⟨rfl, rfl, rfl, by decide +kernel, rfl, by decide +kernel, by decide +kernel⟩
@[irreducible] def sp_onemore (K : PySem.W.Frag) : Sp := fun vs H Q _ => ∃ (b w : Int) (a : Addr) (ns : List Int), vs = [.int b, .int w, .ref a] ∧ 2 ≤ b ∧ b ≤ 36 ∧ H a = some (.lst (ns.map V.int)) ∧ ns.length ≤ 4000 ∧ Figs b ns ∧
  ∀ H' p f w' ns', Same H H' → H' p = some (.tup [.int w', .ref f]) → H' f = some (.lst (ns'.map V.int)) → H p = none → H f = none → ns'.length = ns.length → Figs b ns' → w ≤ w' → w' ≤ w + 1 → w' * b ^ ns.length + numI b ns' = w * b ^ ns.length + numI b ns + 1 → Q (.ref p) H'
theorem go_onemore {K : PySem.W.Frag} {H : Hp} {b w : Int} {a : Addr} {ns : List Int} {Q : VK} {E : XK} (h1 : 2 ≤ b) (h2 : b ≤ 36) (h : H a = some (.lst (ns.map V.int))) (hl : ns.length ≤ 4000) (hf : Figs b ns)
    (q : ∀ H' p f w' ns', Same H H' → H' p = some (.tup [.int w', .ref f]) → H' f = some (.lst (ns'.map V.int)) → H p = none → H f = none → ns'.length = ns.length → Figs b ns' → w ≤ w' → w' ≤ w + 1 → w' * b ^ ns.length + numI b ns' = w * b ^ ns.length + numI b ns + 1 → Q (.ref p) H') : sp_onemore K [.int b, .int w, .ref a] H Q E := by
  unfold sp_onemore; exact ⟨b, w, a, ns, rfl, h1, h2, h, hl, hf, q⟩
theorem num_zeros (b : Int) (k : Nat) : numI b (List.replicate k 0) = 0 := num_zero b _ fun x hx => (List.mem_replicate.mp hx).2
section
variable {P : Program} {w : World} {K : PySem.W.Frag} {mg : Str → Option Value} {base : Heap}
theorem ok_onemore {f : Addr} {fd : FuncData} (F : Fun K "one_more" "one_more" s_onemore f fd) (M : Md K mg) {c : Cs} (N : Me K mg c) : FnOk P w K mg base CX0 1 f fd ["base", "whole", "ahead"] (sp_onemore K) := by
  refine F.ok sc_onemore (fun vs H Q E h => ?_) (fun cdv A outer s H vs Q E hr h => ?_)
  · unfold sp_onemore at h; obtain ⟨b, w, a, ns, rfl, h1, h2, h, hl, hf, q⟩ := h
    all_goals rfl
  · have hu := hu_of hr
    unfold sp_onemore at h; obtain ⟨b, w, a, ns, rfl, h1, h2, h, hl, hf, q⟩ := h
    refine ⟨_, (pss_cons (ps_set (i := 3) sc_onemore.nd rfl (.inl rfl) (pe_callTy call_list_of (by rfl) M.m_list (by decide +kernel) (pa_cons (pv 2) pa_nil)))
      (pss_cons (ps_set (i := 4) sc_onemore.nd rfl (.inl rfl) (pe_op op_sub (pe_callB call_len_seq (by rfl) M.m_len PySem.boot_len (pa_cons (pv 3) pa_nil)) pe_int))
      (pss_cons (ps_while PassesOwn.never (PW.pt (pw_and (pt_cmpR op_ge (pv 4) pe_int (nomark _)) (pw_and1 (pt_cmpR op_eq (pe_ix ix_list (pv 3) (pv 4) (fun _ _ => rfl)) (pe_op op_sub (pv 0) pe_int) (nomark _)))))
        (pss_cons (ps_asg pe_int (pg_sub (pv 3) (pv 4) set_list))
      (pss_one (ps_set (i := 4) sc_onemore.nd rfl (.inl rfl) (pe_op op_sub (pv 4) pe_int)))))
      (pss_cons (ps_if (pt_cmpR op_lt (pv 4) pe_int (nomark _))
        (pss_one (ps_ret (pe_tup (pa_cons (pe_op op_add (pv 1) pe_int) (pa_cons (pv 3) pa_nil))))) pss_nil)
      (pss_cons (ps_asg (pe_op op_add (pe_ix ix_list (pv 3) (pv 4) (fun _ _ => rfl)) pe_int) (pg_sub (pv 3) (pv 4) set_list))
      (pss_one (ps_ret (pe_tup (pa_cons (pv 1) (pa_cons (pv 3) pa_nil)))))))))), ?_⟩
    walk_at "st"
    intro f nf
    have sm0 := same_upd (o := .lst (ns.map V.int)) nf
    walk_at "st"
    simp only [List.length_map]
    refine ⟨fun μ σ H' => ∃ k, k ≤ ns.length ∧ μ = ns.length - k ∧ σ = [some (.int b), some (.int w), some (.ref a), some (.ref f), some (.int ((ns.length : Int) - 1 - k))] ∧ Same H H' ∧ H' f = some (.lst ((ns.take (ns.length - k) ++ List.replicate k 0).map V.int)) ∧ numI b ns + 1 = (numI b (ns.take (ns.length - k)) + 1) * b ^ k, ?_, fun μ σ H' hW => ?_⟩
    · refine ⟨_, 0, Nat.zero_le _, rfl, ?_, sm0, ?_, ?_⟩
      · rw [show ((0 : Nat) : Int) = 0 from rfl, Int.sub_zero]; rfl
      · rw [upd_same, Nat.sub_zero, List.take_length, List.replicate_zero, List.append_nil]
      · rw [Nat.sub_zero, List.take_length, Int.pow_zero, Int.mul_one]
    · obtain ⟨k, hk, rfl, rfl, sm, hF, hN⟩ := hW
      walk_at "st"
      refine iteD (fun c => ?_) (fun c => ?_)
      · have hk2 : k < ns.length := by omega
        obtain ⟨x, hx, ht⟩ := om_take hk2
        have hx0 := hf x (List.mem_of_getElem? hx)
        have hg := om_get hk2
        walk_at "st"
        refine ⟨f, _, _, _, rfl, rfl, sql hF, atI_of (j := ns.length - 1 - k) (by omega) (map_get (hg.trans hx)), ?_⟩
        walk_at "st"
        refine iteE (fun c2 => ?_) (fun c2 => ?_)
        · have ht2 : ns.length - (k + 1) = ns.length - 1 - k := by omega
          refine ⟨fun σ H2 => σ = [some (.int b), some (.int w), some (.ref a), some (.ref f), some (.int ((ns.length : Int) - 1 - (k + 1 : Nat)))] ∧ Same H H2 ∧ H2 f = some (.lst ((ns.take (ns.length - (k + 1)) ++ List.replicate (k + 1) 0).map V.int)), fun σ2 H2 ⟨e1, e2, e3⟩ => ⟨_, (?_ : ns.length - (k + 1) < _), k + 1, by omega, rfl, e1, e2, e3, ?_⟩, ?_⟩
          · walk_at "st"
            refine ⟨f, _, _, ns.length - 1 - k, rfl, rfl, hF, ixN_of (by omega) (by rw [List.length_map, List.length_append, List.length_take, List.length_replicate]; omega), ?_⟩
            rw [map_setI, om_set hk2]
            walk_at "st"
            refine ⟨?_, same_new sm nf, ?_⟩
            · show [some (V.int b), some (V.int w), some (V.ref a), some (V.ref f), some (V.int ((ns.length : Int) - 1 - k - 1))] = _
              rw [show (ns.length : Int) - 1 - k - 1 = (ns.length : Int) - 1 - (k + 1 : Nat) by omega]
            · rw [upd_same, ht2]
              rfl
          · omega
          · rw [hN, ht, ht2, num_snoc, Int.pow_succ, c2]
            have e : numI b (ns.take (ns.length - 1 - k)) * b + (b - 1) + 1 = (numI b (ns.take (ns.length - 1 - k)) + 1) * b := by rw [Int.add_mul, Int.one_mul]; omega
            rw [e, Int.mul_assoc, Int.mul_comm b]
        · walk_at "st"
          refine iteD (fun c3 => absurd c3 (by omega)) (fun _ => ?_)
          walk_at "st"
          refine ⟨f, _, _, _, rfl, rfl, sql hF, atI_of (j := ns.length - 1 - k) (by omega) (map_get (hg.trans hx)), ?_⟩
          walk_at "st"
          refine ⟨f, _, _, ns.length - 1 - k, rfl, rfl, hF, ixN_of (by omega) (by rw [List.length_map, List.length_append, List.length_take, List.length_replicate]; omega), ?_⟩
          rw [map_setI, om_set hk2]
          have s4 := same_new (o := .lst ((ns.take (ns.length - 1 - k) ++ (x + 1) :: List.replicate k 0).map V.int)) sm nf
          walk_at "st"
          intro p np
          have el : (ns.take (ns.length - 1 - k) ++ (x + 1) :: List.replicate k 0).length = ns.length := by
            rw [List.length_append, List.length_take, List.length_cons, List.length_replicate]; omega
          refine q _ p f w _ (same_ups s4 np) upd_same (by rw [upd_ne (Ne.symm (ne_new np)), upd_same]) (s4.free np) nf el ?_ (Int.le_refl _) (by omega) ?_
          · refine figs_app (figs_take hf _) (fun y hy => ?_)
            rcases List.mem_cons.mp hy with e | e
            · omega
            · rw [(List.mem_replicate.mp e).2]; omega
          · rw [num_app, num_cons, num_zeros, List.length_cons, List.length_replicate, Int.pow_succ]
            rw [ht, num_snoc, Int.add_mul, Int.add_mul, Int.mul_assoc, Int.mul_comm b] at hN
            rw [Int.add_mul]
            omega
      · have hk2 : k = ns.length := by omega
        subst hk2
        rw [Nat.sub_self, List.take_zero, num_nil, Int.zero_add, Int.one_mul] at hN
        rw [Nat.sub_self, List.take_zero, List.nil_append] at hF
        walk_at "st"
        refine iteD (fun c3 => ?_) (fun c3 => absurd (by omega) c3)
        walk_at "st"
        intro p np
        refine q _ p f (w + 1) _ (same_ups sm np) upd_same ((upd_ne (fun z => by rw [z, np] at hF; cases hF)).trans hF) (sm.free np) nf (List.length_replicate ..) (fun y hy => ?_) (by omega) (Int.le_refl _) ?_
        · rw [(List.mem_replicate.mp hy).2]; omega
        · rw [num_zeros, Int.add_mul, Int.one_mul]
          omega
end
abbrev s_madeplain : Stmt := topS 25
theorem sc_madeplain : FnScope ["base", "writing", "whole", "ahead", "ring"] ["base", "writing"] (defScope s_madeplain) := ⟨rfl, rfl, rfl, by decide +kernel, rfl, by decide +kernel, by decide +kernel⟩
@[irreducible] def sp_madeplain (K : PySem.W.Frag) : Sp := fun vs H Q _ => ∃ (b : Int) (p a r : Addr) (x : Wr), vs = [.int b, .ref p] ∧ 2 ≤ b ∧ b ≤ 36 ∧ WrAt H p a r x ∧ WrOk b x ∧
  ∀ H' p' a' r' y, WrNew H H' p' a' r' y → MadeOf b x y → Q (.ref p') H'
theorem go_madeplain {K : PySem.W.Frag} {H : Hp} {b : Int} {p a r : Addr} {x : Wr} {Q : VK} {E : XK} (h1 : 2 ≤ b) (h2 : b ≤ 36) (h : WrAt H p a r x) (ho : WrOk b x)
    (q : ∀ H' p' a' r' y, WrNew H H' p' a' r' y → MadeOf b x y → Q (.ref p') H') : sp_madeplain K [.int b, .ref p] H Q E := by
  unfold sp_madeplain; exact ⟨b, p, a, r, x, rfl, h1, h2, h, ho, q⟩
section
variable {P : Program} {w : World} {K : PySem.W.Frag} {mg : Str → Option Value} {base : Heap}
theorem ok_madeplain {f : Addr} {fd : FuncData} (F : Fun K "made_plain" "made_plain" s_madeplain f fd) (M : Md K mg) {c : Cs} (N : Me K mg c) (c_shortest : Cal P w K mg base 1 "shortest" (sp_shortest K) []) (c_onemore : Cal P w K mg base 1 "one_more" (sp_onemore K) []) : FnOk P w K mg base CX0 2 f fd ["base", "writing"] (sp_madeplain K) := by
  refine F.ok sc_madeplain (fun vs H Q E h => ?_) (fun cdv A outer s H vs Q E hr h => ?_)
  · unfold sp_madeplain at h; obtain ⟨b, p, a, r, x, rfl, h1, h2, h, ho, q⟩ := h
    all_goals rfl
  · have hu := hu_of hr
    unfold sp_madeplain at h; obtain ⟨b, p, a, r, x, rfl, h1, h2, h, ho, q⟩ := h
    have ht := h.tp
    have ha := h.la
    have hr' := h.lr
    have hla := ho.la
    have hlr := ho.lr
    refine ⟨_, (pss_cons (ps_set (i := 2) sc_madeplain.nd rfl (.inl rfl) (pe_ix ix_tup (pv 1) pe_int (fun _ _ => rfl)))
      (pss_cons (ps_set (i := 3) sc_madeplain.nd rfl (.inl rfl) (pe_callTy call_list_of (by rfl) M.m_list (by decide +kernel) (pa_cons (pe_ix ix_tup (pv 1) pe_int (fun _ _ => rfl)) pa_nil)))
      (pss_cons (ps_set (i := 4) sc_madeplain.nd rfl (.inl rfl) (pe_callTy call_list_of (by rfl) M.m_list (by decide +kernel) (pa_cons (pe_ix ix_tup (pv 1) pe_int (fun _ _ => rfl)) pa_nil)))
      (Evl.pss_cut (ps_if (PW.pt (pw_and (pt_cmpR op_gt (pe_callB call_len_seq (by rfl) M.m_len PySem.boot_len (pa_cons (pv 4) pa_nil)) pe_int (nomark _)) (pw_and1 (pt_cmpR op_eq (pe_callB (cr_min rfl) (by rfl) M.m_min (by decide +kernel) (pa_cons (pv 4) pa_nil)) (pe_op op_sub (pv 0) pe_int) (nomark _)))))
        (pss_cons (ps_asg (pe_c c_onemore hr (by decide) (by rfl) (pa_cons (pv 0) (pa_cons (pv 2) (pa_cons (pv 3) pa_nil)))) (pg_tup rfl (pgs_cons (pg_name (i := 2) sc_madeplain.nd rfl (.inl rfl)) (pgs_cons (pg_name (i := 3) sc_madeplain.nd rfl (.inl rfl)) pgs_nil))))
      (pss_one (ps_set (i := 4) sc_madeplain.nd rfl (.inl rfl) (pe_lst pa_nil)))) pss_nil)
      (Evl.pss_cut (ps_if (PW.pt (pw_and (pt_cmpR op_gt (pe_callB call_len_seq (by rfl) M.m_len PySem.boot_len (pa_cons (pv 4) pa_nil)) pe_int (nomark _)) (pw_and1 (pt_cmpR op_eq (pe_callB (cr_max rfl) (by rfl) M.m_max (by decide +kernel) (pa_cons (pv 4) pa_nil)) pe_int (nomark _)))))
        (pss_one (ps_set (i := 4) sc_madeplain.nd rfl (.inl rfl) (pe_lst pa_nil))) pss_nil)
      (pss_cons (ps_set (i := 4) sc_madeplain.nd rfl (.inl rfl) (pe_c c_shortest hr (by decide) (by rfl) (pa_cons (pv 4) pa_nil)))
      (Evl.pss_cut (ps_while PassesOwn.never (PW.pt (pw_and (pt_cmpR op_gt (pe_callB call_len_seq (by rfl) M.m_len PySem.boot_len (pa_cons (pv 4) pa_nil)) pe_int (nomark _)) (pw_and (pt_cmpR op_gt (pe_callB call_len_seq (by rfl) M.m_len PySem.boot_len (pa_cons (pv 3) pa_nil)) pe_int (nomark _)) (pw_and1 (pt_cmpR op_eq (pe_ix ix_list (pv 3) (pe_un un_neg pe_int) (fun _ _ => rfl)) (pe_ix ix_list (pv 4) (pe_un un_neg pe_int) (fun _ _ => rfl)) (nomark _))))))
        (pss_one (ps_set (i := 4) sc_madeplain.nd rfl (.inl rfl) (pe_op op_cat (pe_lst (pa_cons (pe_bm0 PySem.F.plainAttrs_list PySem.F.slot_list_pop PySem.F.type_list_pop mt_pop (pv 3)) pa_nil)) (pe_slice sl_list (pv 4) po_none (po_some (pe_un un_neg pe_int)))))))
      (Evl.pss_cut (ps_while PassesOwn.never (PW.pt (pw_and (pt_cmpR op_eq (pe_callB call_len_seq (by rfl) M.m_len PySem.boot_len (pa_cons (pv 4) pa_nil)) pe_int (nomark _)) (pw_and (pt_cmpR op_gt (pe_callB call_len_seq (by rfl) M.m_len PySem.boot_len (pa_cons (pv 3) pa_nil)) pe_int (nomark _)) (pw_and1 (pt_cmpR op_eq (pe_ix ix_list (pv 3) (pe_un un_neg pe_int) (fun _ _ => rfl)) pe_int (nomark _))))))
        (pss_one (ps_expr (pe_bm0 PySem.F.plainAttrs_list PySem.F.slot_list_pop PySem.F.type_list_pop mt_pop (pv 3)))))
      (pss_one (ps_ret (pe_tup (pa_cons (pv 2) (pa_cons (pv 3) (pa_cons (pv 4) pa_nil)))))))))))))), ?_⟩
    walk_at "st"
    intro fa nfa
    have s1 := same_upd (o := .lst (x.a.map V.int)) nfa
    have ht1 := s1 _ _ ht
    have hr1 := s1 _ _ hr'
    walk_at "st"
    intro fr nfr
    have s2 := same_ups (o := .lst (x.r.map V.int)) s1 nfr
    have mA : MadeAt H (upd (upd H fa (.lst (x.a.map V.int))) fr (.lst (x.r.map V.int))) fa fr x.a x.r := ⟨s2, by rw [upd_ne (Ne.symm (ne_new nfr)), upd_same], upd_same, nfa, free_upd nfr, Ne.symm (ne_new nfr)⟩
    generalize upd (upd H fa (.lst (x.a.map V.int))) fr (.lst (x.r.map V.int)) = H2 at *
    have mS : MadeSt b x x.w x.a x.r := ⟨ho.fa, ho.fr, Nat.le_refl _, Nat.le_refl _, Int.le_refl _, by omega, SameW.refl⟩
    refine ⟨fun σ H' => ∃ w fa fr an rn, σ = [some (.int b), some (.ref p), some (.int w), some (.ref fa), some (.ref fr)] ∧ MadeAt H H' fa fr an rn ∧ MadeSt b x w an rn ∧ (rn ≠ [] → ∃ y, y ∈ rn ∧ y ≠ b - 1), ?_, fun σ H' hM => ?_⟩
    · have hA := mA.la
      have hR := mA.lr
      walk_at "st"
      simp only [List.length_map]
      refine iteD (fun c => ?_) (fun c => ?_)
      · walk_at "st"
        refine ⟨fr, x.r, rfl, sql hR, by omega, fun m hm hle => ?_⟩
        walk_at "st"
        have hmb := ho.fr m hm
        refine iteE (fun c2 => ?_) (fun c2 => ?_)
        · have hall : ∀ y, y ∈ x.r → y = b - 1 := fun y hy => by
            have q1 := hle y hy
            have q2 := ho.fr y hy
            omega
          walk_at "st"
          refine go_onemore h1 h2 hA hla ho.fa (fun H3 p3 f3 w3 n3 s3 t3 l3 np3 nf3 e3 g3 c3 c4 hnum => ?_)
          walk_at "st"
          intro g ng
          have hgf : g ≠ f3 := fun z => by rw [z, l3] at ng; cases ng
          refine ⟨w3, f3, g, n3, [], rfl, ⟨same_ups (mA.same.trans s3) ng, (upd_ne (Ne.symm hgf)).trans l3, upd_same, mA.same.free nf3, (mA.same.trans s3).free ng, Ne.symm hgf⟩, ⟨g3, figs_nil, by omega, Nat.zero_le _, c3, c4, sameW_max h1 (fun z => by rw [z] at c; simp at c) hall e3 hnum⟩, fun z => absurd rfl z⟩
        · walk_at "st"
          exact ⟨x.w, fa, fr, x.a, x.r, rfl, mA, mS, fun _ => ⟨m, hm, c2⟩⟩
      · walk_at "st"
        exact ⟨x.w, fa, fr, x.a, x.r, rfl, mA, mS, fun z => absurd (List.length_pos_iff.mpr z) (by omega)⟩
    clear mA mS s2 s1 nfr hr1 ht1 nfa H2 fr fa
    obtain ⟨w', fa, fr, an, rn, rfl, mA, mS, hg⟩ := hM
    refine ⟨fun σ H' => ∃ w fa fr an rn, σ = [some (.int b), some (.ref p), some (.int w), some (.ref fa), some (.ref fr)] ∧ MadeAt H H' fa fr an rn ∧ MadeSt b x w an rn ∧ (rn ≠ [] → ∃ y, y ∈ rn ∧ y ≠ b - 1) ∧ (rn ≠ [] → ∃ y, y ∈ rn ∧ y ≠ 0), ?_, fun σ H' hM => ?_⟩
    · have hA := mA.la
      have hR := mA.lr
      walk_at "st"
      simp only [List.length_map]
      refine iteD (fun c => ?_) (fun c => ?_)
      · walk_at "st"
        refine ⟨fr, rn, rfl, sql hR, by omega, fun m hm hle => ?_⟩
        walk_at "st"
        have hmb := mS.fr m hm
        refine iteE (fun c2 => ?_) (fun c2 => ?_)
        · have hall : ∀ y, y ∈ rn → y = 0 := fun y hy => by
            have q1 := hle y hy
            have q2 := mS.fr y hy
            omega
          walk_at "st"
          intro g ng
          have hgf : g ≠ fa := fun z => by rw [z, hA] at ng; cases ng
          refine ⟨w', fa, g, an, [], rfl, ⟨same_ups mA.same ng, (upd_ne (Ne.symm hgf)).trans hA, upd_same, mA.na, mA.same.free ng, Ne.symm hgf⟩, ⟨mS.fa, figs_nil, mS.la, Nat.zero_le _, mS.w0, mS.w1, mS.same.trans h1 (sameW_zero (fun z => by rw [z] at c; simp at c) hall)⟩, fun z => absurd rfl z, fun z => absurd rfl z⟩
        · walk_at "st"
          exact ⟨w', fa, fr, an, rn, rfl, mA, mS, hg, fun _ => ⟨m, hm, c2⟩⟩
      · walk_at "st"
        exact ⟨w', fa, fr, an, rn, rfl, mA, mS, hg, fun z => absurd (List.length_pos_iff.mpr z) (by omega)⟩
    clear mA mS hg fa fr an rn w'
    obtain ⟨w', fa, fr, an, rn, rfl, mA, mS, hg, hz⟩ := hM
    have hA := mA.la
    have hR := mA.lr
    walk_at "st"
    refine go_shortest hR (Nat.le_trans mS.lr hlr) (fun H3 fr3 r3 s3 l3 pa so => ?_)
    have mA3 : MadeAt H H3 fa fr3 an r3 := ⟨mA.same.trans s3, s3 _ _ hA, l3, mA.na, by
      rcases pa with e | e
      · rw [e]; exact mA.nr
      · exact mA.same.free e, by
      rcases pa with e | e
      · rw [e]; exact mA.ne
      · exact fun z => by rw [← z, hA] at e; cases e⟩
    have mS3 : MadeSt b x w' an r3 := ⟨mS.fa, fun y hy => mS.fr y (so.sub hy), mS.la, Nat.le_trans so.len mS.lr, mS.w0, mS.w1, mS.same.trans h1 (so.same h1)⟩
    have hg3 : r3 ≠ [] → ∃ y, y ∈ r3 ∧ y ≠ b - 1 := fun z => by
      obtain ⟨y, q1, q2⟩ := hg (fun e => by
        rw [e] at so
        exact z (by rcases so.2 with u | ⟨d, _, _, _, u⟩ <;> simp [u]))
      exact ⟨y, so.sup q1, q2⟩
    have hz3 : r3 ≠ [] → ∃ y, y ∈ r3 ∧ y ≠ 0 := fun z => by
      obtain ⟨y, q1, q2⟩ := hz (fun e => by
        rw [e] at so
        exact z (by rcases so.2 with u | ⟨d, _, _, _, u⟩ <;> simp [u]))
      exact ⟨y, so.sup q1, q2⟩
    have pr3 := so.1
    clear mA mS hg hz hA hR so pa l3 s3
    walk_at "st"
    refine ⟨fun σ H' => ∃ fr an rn, σ = [some (.int b), some (.ref p), some (.int w'), some (.ref fa), some (.ref fr)] ∧ MadeAt H H' fa fr an rn ∧ MadeSt b x w' an rn ∧ (rn ≠ [] → ∃ y, y ∈ rn ∧ y ≠ b - 1) ∧ (rn ≠ [] → ∃ y, y ∈ rn ∧ y ≠ 0) ∧ Prim rn ∧ ∀ u v, an.getLast? = some u → rn.getLast? = some v → u ≠ v, ?_, fun σ H' hM => ?_⟩
    · refine ⟨fun μ σ H' => ∃ fr an rn, μ = an.length ∧ σ = [some (.int b), some (.ref p), some (.int w'), some (.ref fa), some (.ref fr)] ∧ MadeAt H H' fa fr an rn ∧ MadeSt b x w' an rn ∧ (rn ≠ [] → ∃ y, y ∈ rn ∧ y ≠ b - 1) ∧ (rn ≠ [] → ∃ y, y ∈ rn ∧ y ≠ 0) ∧ Prim rn,
        ⟨_, fr3, an, r3, rfl, rfl, mA3, mS3, hg3, hz3, pr3⟩, fun μ σ H' hW => ?_⟩
      clear mA3 mS3 hg3 hz3 pr3 fr3 r3 an rn fr
      obtain ⟨fr, an, rn, rfl, rfl, mA, mS, hg, hz, pr⟩ := hW
      have hA := mA.la
      have hR := mA.lr
      walk_at "st"
      simp only [List.length_map]
      refine iteD (fun c => ?_) (fun c => ?_)
      · walk_at "st"
        simp only [List.length_map]
        refine iteD (fun c2 => ?_) (fun c2 => ?_)
        · obtain ⟨a0, u, rfl⟩ := snoc_of (ns := an) (by omega)
          obtain ⟨r0, v, rfl⟩ := snoc_of (ns := rn) (by omega)
          have hA' : H' fa = some (.lst (a0.map V.int ++ [V.int u])) := by rw [hA, List.map_append]; rfl
          have hR' : H' fr = some (.lst (r0.map V.int ++ [V.int v])) := by rw [hR, List.map_append]; rfl
          clear hA hR
          walk_at "st"
          refine ⟨fa, _, _, _, rfl, rfl, sql hA', atI_last _ _, ?_⟩
          walk_at "st"
          refine ⟨fr, _, _, _, rfl, rfl, sql hR', atI_last _ _, ?_⟩
          walk_at "st"
          refine iteE (fun c3 => ?_) (fun c3 => ?_)
          · subst c3
            have mS' : MadeSt b x w' a0 (u :: r0) := ⟨fun y hy => mS.fa y (List.mem_append_left _ hy), fun y hy => mS.fr y (by
                rcases List.mem_cons.mp hy with e | e
                · rw [e]; exact List.mem_append_right _ List.mem_cons_self
                · exact List.mem_append_left _ e), by have := mS.la; rw [List.length_append] at this; omega, by have := mS.lr; rw [List.length_append] at this; exact this, mS.w0, mS.w1, mS.same.trans h1 sameW_turn⟩
            have hg' : u :: r0 ≠ [] → ∃ y, y ∈ u :: r0 ∧ y ≠ b - 1 := fun _ => by
              obtain ⟨y, q1, q2⟩ := hg (by simp)
              exact ⟨y, by simp at q1 ⊢; exact q1.symm, q2⟩
            have hz' : u :: r0 ≠ [] → ∃ y, y ∈ u :: r0 ∧ y ≠ 0 := fun _ => by
              obtain ⟨y, q1, q2⟩ := hz (by simp)
              exact ⟨y, by simp at q1 ⊢; exact q1.symm, q2⟩
            refine ⟨fun σ2 H2 => ∃ fr2, σ2 = [some (.int b), some (.ref p), some (.int w'), some (.ref fa), some (.ref fr2)] ∧ MadeAt H H2 fa fr2 a0 (u :: r0), fun σ2 H2 ⟨fr2, e1, e2⟩ => ⟨a0.length, by rw [List.length_append]; exact Nat.lt_succ_self _, fr2, a0, u :: r0, rfl, e1, e2, mS', hg', hz', prim_snoc pr⟩, ?_⟩
            walk_at "st"
            refine ⟨.inl ⟨rfl, _, sql hA'⟩, ?_⟩
            walk_at "st"
            refine ⟨fa, _, _, rfl, rfl, hA', pop_last _ _, ?_⟩
            rw [List.dropLast_concat]
            walk_at "st"
            have nfr : fr ≠ fa := Ne.symm mA.ne
            have s5 := same_new (o := .lst (a0.map V.int)) mA.same mA.na
            have hR5 : (upd H' fa (.lst (a0.map V.int))) fr = some (.lst (r0.map V.int ++ [V.int u])) := (upd_ne nfr).trans hR'
            have hA5 : (upd H' fa (.lst (a0.map V.int))) fa = some (.lst (a0.map V.int)) := upd_same
            generalize upd H' fa (.lst (a0.map V.int)) = H5 at *
            intro l1 n1
            have s6 := same_upd (o := .lst [V.int u]) n1
            have hl6 : (upd H5 l1 (.lst [V.int u])) l1 = some (.lst [V.int u]) := upd_same
            generalize upd H5 l1 (.lst [V.int u]) = H6 at *
            walk_at "st"
            refine ⟨fr, _, rfl, sql (s6 _ _ hR5), fun l2 n2 => ?_⟩
            rw [cut_init]
            have s7 := same_upd (o := .lst (r0.map V.int)) n2
            have hl7 : (upd H6 l2 (.lst (r0.map V.int))) l2 = some (.lst (r0.map V.int)) := upd_same
            generalize upd H6 l2 (.lst (r0.map V.int)) = H7 at *
            have hl8 := mS.lr
            rw [List.length_append] at hl8
            refine ⟨l1, l2, _, _, rfl, rfl, s7 _ _ hl6, hl7, sz100 (by rw [List.length_map]; simp at hl8 ⊢; omega), fun l3 n3 => ?_⟩
            have s8 := same_upd (o := .lst ([V.int u] ++ r0.map V.int)) n3
            have hl9 : (upd H7 l3 (.lst ([V.int u] ++ r0.map V.int))) l3 = some (.lst ([V.int u] ++ r0.map V.int)) := upd_same
            have hA9 := s8 _ _ (s7 _ _ (s6 _ _ hA5))
            generalize upd H7 l3 (.lst ([V.int u] ++ r0.map V.int)) = H8 at *
            have s57 := s5.trans (s6.trans s7)
            walk_at "st"
            exact ⟨s57.trans s8, hA9, hl9, mA.na, s57.free n3, fun z => by rw [← z, (s7 _ _ (s6 _ _ hA5))] at n3; cases n3⟩
          · walk_at "st"
            refine ⟨fr, _, _, rfl, mA, mS, hg, hz, pr, fun u' v' q1 q2 => ?_⟩
            rw [List.getLast?_concat] at q1 q2
            rw [← Option.some.inj q1, ← Option.some.inj q2]
            exact c3
        · walk_at "st"
          refine ⟨fr, _, _, rfl, mA, mS, hg, hz, pr, fun u' v' q1 q2 => ?_⟩
          have e : an = [] := List.eq_nil_of_length_eq_zero (by omega)
          rw [e] at q1
          cases q1
      · walk_at "st"
        refine ⟨fr, _, _, rfl, mA, mS, hg, hz, pr, fun u' v' q1 q2 => ?_⟩
        have e : rn = [] := List.eq_nil_of_length_eq_zero (by omega)
        rw [e] at q2
        cases q2
    clear mA3 mS3 hg3 hz3 pr3 fr3 r3 an rn fr
    obtain ⟨fr, an, rn, rfl, mA, mS, hg, hz, pr, hla2⟩ := hM
    refine ⟨fun σ H' => ∃ an, σ = [some (.int b), some (.ref p), some (.int w'), some (.ref fa), some (.ref fr)] ∧ MadeAt H H' fa fr an rn ∧ MadeSt b x w' an rn ∧ (∀ u v, an.getLast? = some u → rn.getLast? = some v → u ≠ v) ∧ (rn = [] → ∀ u, an.getLast? = some u → u ≠ 0), ?_, fun σ H' hM => ?_⟩
    · refine ⟨fun μ σ H' => ∃ an, μ = an.length ∧ σ = [some (.int b), some (.ref p), some (.int w'), some (.ref fa), some (.ref fr)] ∧ MadeAt H H' fa fr an rn ∧ MadeSt b x w' an rn ∧ (∀ u v, an.getLast? = some u → rn.getLast? = some v → u ≠ v),
        ⟨_, an, rfl, rfl, mA, mS, hla2⟩, fun μ σ H' hW => ?_⟩
      clear mA mS hla2 an
      obtain ⟨an, rfl, rfl, mA, mS, hla2⟩ := hW
      have hA := mA.la
      have hR := mA.lr
      walk_at "st"
      simp only [List.length_map]
      refine iteE (fun c => ?_) (fun c => ?_)
      · have e : rn = [] := List.eq_nil_of_length_eq_zero (by omega)
        subst e
        walk_at "st"
        simp only [List.length_map]
        refine iteD (fun c2 => ?_) (fun c2 => ?_)
        · obtain ⟨a0, u, rfl⟩ := snoc_of (ns := an) (by omega)
          have hA' : H' fa = some (.lst (a0.map V.int ++ [V.int u])) := by rw [hA, List.map_append]; rfl
          clear hA
          walk_at "st"
          refine ⟨fa, _, _, _, rfl, rfl, sql hA', atI_last _ _, ?_⟩
          walk_at "st"
          refine iteE (fun c3 => ?_) (fun c3 => ?_)
          · subst c3
            have mS' : MadeSt b x w' a0 [] := ⟨fun y hy => mS.fa y (List.mem_append_left _ hy), mS.fr, by have := mS.la; rw [List.length_append] at this; omega, mS.lr, mS.w0, mS.w1, mS.same.trans h1 sameW_pop⟩
            refine ⟨fun σ2 H2 => σ2 = [some (.int b), some (.ref p), some (.int w'), some (.ref fa), some (.ref fr)] ∧ MadeAt H H2 fa fr a0 [], fun σ2 H2 ⟨e1, e2⟩ => ⟨a0.length, by rw [List.length_append]; exact Nat.lt_succ_self _, a0, rfl, e1, e2, mS', fun _ _ _ q2 => by cases q2⟩, ?_⟩
            walk_at "st"
            refine ⟨.inl ⟨rfl, _, sql hA'⟩, ?_⟩
            walk_at "st"
            refine ⟨fa, _, _, rfl, rfl, hA', pop_last _ _, ?_⟩
            rw [List.dropLast_concat]
            walk_at "st"
            exact ⟨same_new mA.same mA.na, upd_same, (upd_ne (Ne.symm mA.ne)).trans hR, mA.na, mA.nr, mA.ne⟩
          · walk_at "st"
            refine ⟨_, trivial, mA, mS, hla2, fun _ u' q1 => ?_⟩
            rw [List.getLast?_concat] at q1
            rw [← Option.some.inj q1]
            exact c3
        · walk_at "st"
          refine ⟨_, trivial, mA, mS, hla2, fun _ u' q1 => ?_⟩
          have e : an = [] := List.eq_nil_of_length_eq_zero (by omega)
          rw [e] at q1
          cases q1
      · walk_at "st"
        refine ⟨_, trivial, mA, mS, hla2, fun e => absurd ?_ c⟩
        rw [e]
        rfl
    clear mA mS hla2 an
    obtain ⟨an, rfl, mA, mS, hla2, he0⟩ := hM
    have hA := mA.la
    have hR := mA.lr
    walk_at "st"
    intro p2 np2
    have s9 := same_upd (o := .tup [.int w', .ref fa, .ref fr]) np2
    exact q _ p2 fa fr ⟨w', an, rn⟩ ⟨⟨upd_same, s9 _ _ hA, s9 _ _ hR⟩, mA.same.trans s9, mA.same.free np2, mA.na, mA.nr, mA.ne⟩ ⟨⟨hz, hg, pr, hla2, he0⟩, mS⟩
end
abbrev s_plain : Stmt := topS 26
theorem sc_plain : FnScope ["base", "writing"] ["base", "writing"] (defScope s_plain) := ⟨rfl, rfl, rfl, by decide +kernel, rfl, by decide +kernel, by decide +kernel⟩
@[irreducible] def sp_plain (K : PySem.W.Frag) (c : Cs) : Sp := fun vs H Q E => ∃ (z : Int) (p a r : Addr) (x : Wr), vs = [.int z, .ref p] ∧ WrAt H p a r x ∧ (BadB z → E (.ref c.NoBase) none H) ∧ (¬ BadB z → ¬ WrOk z x → E (.ref c.NoWriting) none H) ∧ (¬ BadB z → WrOk z x → ∀ H' v, Same H H' → Q v H')
theorem go_plain {K : PySem.W.Frag} {c : Cs} {H : Hp} {z : Int} {p a r : Addr} {x : Wr} {Q : VK} {E : XK} (h : WrAt H p a r x) (e0 : BadB z → E (.ref c.NoBase) none H) (e1 : ¬ BadB z → ¬ WrOk z x → E (.ref c.NoWriting) none H) (q : ¬ BadB z → WrOk z x → ∀ H' v, Same H H' → Q v H') : sp_plain K c [.int z, .ref p] H Q E := by
  unfold sp_plain; exact ⟨z, p, a, r, x, rfl, h, e0, e1, q⟩
section
variable {P : Program} {w : World} {K : PySem.W.Frag} {mg : Str → Option Value} {base : Heap}
theorem ok_plain {f : Addr} {fd : FuncData} (F : Fun K "plain" "plain" s_plain f fd) (M : Md K mg) {c : Cs} (N : Me K mg c) (c_askedwriting : CalX P w K mg base 2 "asked_writing" (sp_askedwriting K c)) (c_madeplain : Cal P w K mg base 2 "made_plain" (sp_madeplain K) []) : FnOk P w K mg base (L2.CX P w) 3 f fd ["base", "writing"] (sp_plain K c) := by
  refine F.okX sc_plain (fun vs H Q E h => ?_) (fun cdv A outer s H vs Q E hr h => ?_)
  · unfold sp_plain at h; obtain ⟨z, p, a, r, x, rfl, h, e0, e1, qq⟩ := h
    all_goals rfl
  · have hu := hu_of hr
    unfold sp_plain at h; obtain ⟨z, p, a, r, x, rfl, h, e0, e1, qq⟩ := h
    refine ⟨_, (pss_cons (ps_expr (pe_x c_askedwriting hr (by decide) (by rfl) (takes_of rfl rfl rfl rfl) (pa_cons (pv 0) (pa_cons (pv 1) pa_nil))))
      (pss_one (ps_ret (pe_c c_madeplain hr (by decide) (by rfl) (pa_cons (pv 0) (pa_cons (pv 1) pa_nil)))))), ?_⟩
    walk_at "st"
    refine go_askedwriting h e0 e1 (fun g ho => ?_)
    obtain ⟨h1, h2⟩ := intB g
    have q : ∀ H' p' a' r' y, WrNew H H' p' a' r' y → MadeOf z x y → Q (.ref p') H' := fun H' p' a' r' y w _ => qq g ho H' _ w.same
    walk_at "st"
    exact go_madeplain h1 h2 h ho q
end
abbrev s_isplain : Stmt := topS 27
theorem sc_isplain : FnScope ["base", "writing"] ["base", "writing"] (defScope s_isplain) := ⟨rfl, rfl, rfl, by decide +kernel, rfl, by decide +kernel, by decide +kernel⟩
@[irreducible] def sp_isplain (K : PySem.W.Frag) (c : Cs) : Sp := fun vs H Q E => ∃ (z : Int) (p a r : Addr) (x : Wr), vs = [.int z, .ref p] ∧ WrAt H p a r x ∧ (BadB z → E (.ref c.NoBase) none H) ∧ (¬ BadB z → ¬ WrOk z x → E (.ref c.NoWriting) none H) ∧ (¬ BadB z → WrOk z x → ∀ H' v, Same H H' → Q v H')
theorem go_isplain {K : PySem.W.Frag} {c : Cs} {H : Hp} {z : Int} {p a r : Addr} {x : Wr} {Q : VK} {E : XK} (h : WrAt H p a r x) (e0 : BadB z → E (.ref c.NoBase) none H) (e1 : ¬ BadB z → ¬ WrOk z x → E (.ref c.NoWriting) none H) (q : ¬ BadB z → WrOk z x → ∀ H' v, Same H H' → Q v H') : sp_isplain K c [.int z, .ref p] H Q E := by
  unfold sp_isplain; exact ⟨z, p, a, r, x, rfl, h, e0, e1, q⟩
section
variable {P : Program} {w : World} {K : PySem.W.Frag} {mg : Str → Option Value} {base : Heap}
theorem ok_isplain {f : Addr} {fd : FuncData} (F : Fun K "is_plain" "is_plain" s_isplain f fd) (M : Md K mg) {c : Cs} (N : Me K mg c) (c_askedwriting : CalX P w K mg base 2 "asked_writing" (sp_askedwriting K c)) (c_madeplain : Cal P w K mg base 2 "made_plain" (sp_madeplain K) []) : FnOk P w K mg base (L2.CX P w) 3 f fd ["base", "writing"] (sp_isplain K c) := by
  refine F.okX sc_isplain (fun vs H Q E h => ?_) (fun cdv A outer s H vs Q E hr h => ?_)
  · unfold sp_isplain at h; obtain ⟨z, p, a, r, x, rfl, h, e0, e1, qq⟩ := h
    all_goals rfl
  · have hu := hu_of hr
    unfold sp_isplain at h; obtain ⟨z, p, a, r, x, rfl, h, e0, e1, qq⟩ := h
    refine ⟨_, (pss_cons (ps_expr (pe_x c_askedwriting hr (by decide) (by rfl) (takes_of rfl rfl rfl rfl) (pa_cons (pv 0) (pa_cons (pv 1) pa_nil))))
      (pss_one (ps_ret (pe_cmpR (op_eqD hr.units) (pe_c c_madeplain hr (by decide) (by rfl) (pa_cons (pv 0) (pa_cons (pv 1) pa_nil))) (pe_tup (pa_cons (pe_ix ix_tup (pv 1) pe_int (fun _ _ => rfl)) (pa_cons (pe_callTy call_list_of (by rfl) M.m_list (by decide +kernel) (pa_cons (pe_ix ix_tup (pv 1) pe_int (fun _ _ => rfl)) pa_nil)) (pa_cons (pe_callTy call_list_of (by rfl) M.m_list (by decide +kernel) (pa_cons (pe_ix ix_tup (pv 1) pe_int (fun _ _ => rfl)) pa_nil)) pa_nil)))) (nomark _))))), ?_⟩
    walk_at "st"
    refine go_askedwriting h e0 e1 (fun g ho => ?_)
    obtain ⟨h1, h2⟩ := intB g
    have q : ∀ H' y, Same H H' → MadeOf z x y → Q (.bl (decide (y = x))) H' := fun H' y s _ => qq g ho H' _ s
    have ht := h.tp
    have ha := h.la
    have hr' := h.lr
    walk_at "st"
    refine go_madeplain h1 h2 h ho (fun H1 p1 a1 r1 y w1 m1 => ?_)
    have ht1 := w1.same _ _ ht
    have ha1 := w1.same _ _ ha
    have hr1 := w1.same _ _ hr'
    walk_at "st"
    intro a2 na2
    have s2 := same_upd (o := .lst (x.a.map V.int)) na2
    have ht2 := s2 _ _ ht1
    have hr2 := s2 _ _ hr1
    have w2 := w1.at'.same s2
    walk_at "st"
    intro r2 nr2
    have s3 := same_ups (o := .lst (x.r.map V.int)) s2 nr2
    have w3 := w1.at'.same s3
    walk_at "st"
    intro p2 np2
    have s4 := same_ups (o := .tup [.int x.w, .ref a2, .ref r2]) s3 np2
    have w4 := w1.at'.same s4
    have np3 := free_upd np2
    refine ⟨dW y, dW x, w4.dp, WrAt.dp (a := a2) (r := r2) ⟨upd_same, ?_, ?_⟩, shaped_dW _, shaped_dW _, ?_⟩
    · rw [upd_ne (Ne.symm (ne_new np3)), upd_ne (Ne.symm (ne_new nr2)), upd_same]
    · rw [upd_ne (Ne.symm (ne_new np2)), upd_same]
    · rw [eqv_dW]
      exact q _ y (w1.same.trans s4) m1
end
abbrev s_lengths : Stmt := topS 29
theorem sc_lengths : FnScope ["base", "bottom", "ahead", "left", "part", "ring", "rest"] ["base", "bottom"] (defScope s_lengths) := ⟨rfl, rfl, rfl, by decide +kernel, rfl, by decide +kernel, by decide +kernel⟩
@[irreducible] def sp_lengths (K : PySem.W.Frag) (c : Cs) : Sp := fun vs H Q E => ∃ (z m : Int), vs = [.int z, .int m] ∧ (BadB z → E (.ref c.NoBase) none H) ∧ (¬ BadB z → ¬ FrOk 0 m → E (.ref c.NoFraction) none H) ∧ (¬ BadB z → FrOk 0 m → ∀ H' v, Same H H' → Q v H')
theorem go_lengths {K : PySem.W.Frag} {c : Cs} {H : Hp} {z m : Int} {Q : VK} {E : XK} (e0 : BadB z → E (.ref c.NoBase) none H) (e1 : ¬ BadB z → ¬ FrOk 0 m → E (.ref c.NoFraction) none H) (q : ¬ BadB z → FrOk 0 m → ∀ H' v, Same H H' → Q v H') : sp_lengths K c [.int z, .int m] H Q E := by
  unfold sp_lengths; exact ⟨z, m, rfl, e0, e1, q⟩
section
variable {P : Program} {w : World} {K : PySem.W.Frag} {mg : Str → Option Value} {base : Heap}
theorem ok_lengths {f : Addr} {fd : FuncData} (F : Fun K "lengths" "lengths" s_lengths f fd) (M : Md K mg) {c : Cs} (N : Me K mg c) (c_askedfraction : CalX P w K mg base 2 "asked_fraction" (sp_askedfraction K c)) (c_common : Cal P w K mg base 1 "common" (sp_common K) []) : FnOk P w K mg base (L2.CX P w) 3 f fd ["base", "bottom"] (sp_lengths K c) := by
  refine F.okX sc_lengths (fun vs H Q E h => ?_) (fun cdv A outer s H vs Q E hr h => ?_)
  · unfold sp_lengths at h; obtain ⟨z, m, rfl, e0, e1, qq⟩ := h
    all_goals rfl
  · have hu := hu_of hr
    unfold sp_lengths at h; obtain ⟨z, m, rfl, e0, e1, qq⟩ := h
    refine ⟨_, (pss_cons (ps_expr (pe_x c_askedfraction hr (by decide) (by rfl) (takes_of rfl rfl rfl rfl) (pa_cons (pv 0) (pa_cons pe_int (pa_cons (pv 1) pa_nil)))))
      (pss_cons (ps_set (i := 2) sc_lengths.nd rfl (.inl rfl) pe_int)
      (pss_cons (ps_set (i := 3) sc_lengths.nd rfl (.inl rfl) (pv 1))
      (pss_cons (ps_set (i := 4) sc_lengths.nd rfl (.inl rfl) (pe_c c_common hr (by decide) (by rfl) (pa_cons (pv 3) (pa_cons (pv 0) pa_nil))))
      (pss_cons (ps_while (passes_of rfl) (pt_cmpR op_gt (pv 4) pe_int (nomark _))
        (pss_cons (ps_set (i := 3) sc_lengths.nd rfl (.inl rfl) (pe_op op_fdivP (pv 3) (pv 4)))
      (pss_cons (ps_set (i := 2) sc_lengths.nd rfl (.inl rfl) (pe_op op_add (pv 2) pe_int))
      (pss_one (ps_set (i := 4) sc_lengths.nd rfl (.inl rfl) (pe_c c_common hr (by decide) (by rfl) (pa_cons (pv 3) (pa_cons (pv 0) pa_nil))))))))
      (pss_cons (ps_if (pt_cmpR op_eq (pv 3) pe_int (nomark _))
        (pss_one (ps_ret (pe_tup (pa_cons (pv 2) (pa_cons pe_int pa_nil))))) pss_nil)
      (pss_cons (ps_set (i := 5) sc_lengths.nd rfl (.inl rfl) pe_int)
      (pss_cons (ps_set (i := 6) sc_lengths.nd rfl (.inl rfl) (pe_op op_mod (pv 0) (pv 3)))
      (pss_cons (ps_while (passes_of rfl) (pt_cmpR op_ne (pv 6) pe_int (nomark _))
        (pss_cons (ps_set (i := 6) sc_lengths.nd rfl (.inl rfl) (pe_op op_mod (pe_op op_mulB (pv 6) (pv 0)) (pv 3)))
      (pss_one (ps_set (i := 5) sc_lengths.nd rfl (.inl rfl) (pe_op op_add (pv 5) pe_int)))))
      (pss_one (ps_ret (pe_tup (pa_cons (pv 2) (pa_cons (pv 5) pa_nil)))))))))))))), ?_⟩
    walk_at "st"
    refine go_askedfraction e0 e1 (fun g hf => ?_)
    have q2 := qq g hf
    obtain ⟨b, rfl, h1, h2⟩ := natB g
    obtain ⟨t0, m, _, rfl, _, h3, h4⟩ := natF hf
    obtain ⟨s, l, sl, ll, hL⟩ := lenAt_exists (b := b) (m := m) (by omega) (by omega)
    have q : ∀ p, H p = none → Q (.ref p) (upd H p (.tup [.int (s : Int), .int (l : Int)])) := fun p np => q2 _ _ (same_upd np)
    walk_at "st"
    refine go_common m b rfl rfl ?_
    walk_at "st"
    refine ⟨fun μ σ H' => ∃ (k : Nat), k ≤ s ∧ μ = s - k ∧ H = H' ∧ σ = [some (.int (b : Int)), some (.int (m : Int)), some (.int (k : Int)), some (.int ((lft b m k : Nat) : Int)), some (.int ((Nat.gcd (lft b m k) b : Nat) : Int)), none, none], ⟨s, 0, by omega, rfl, rfl, ?_⟩, fun μ σ H' hW => ?_⟩
    · rw [lft_zero]; rfl
    obtain ⟨k, hk, rfl, rfl, rfl⟩ := hW
    have hp := lft_pos (b := b) (k := k) h3
    have hle := lft_le b m k
    walk_at "st"
    by_cases hks : k < s
    · have hg := hL.more k hks
      have hgle : Nat.gcd (lft b m k) b ≤ lft b m k := Nat.gcd_le_left _ hp
      refine iteD (fun _ => ?_) (fun e => absurd e (by omega))
      refine ⟨fun σ H' => H = H' ∧ σ = [some (.int (b : Int)), some (.int (m : Int)), some (.int ((k + 1 : Nat) : Int)), some (.int ((lft b m (k + 1) : Nat) : Int)), some (.int ((Nat.gcd (lft b m (k + 1)) b : Nat) : Int)), none, none], fun σ H' hN => ?_, ?_⟩
      · obtain ⟨rfl, rfl⟩ := hN
        exact ⟨s - (k + 1), by omega, k + 1, by omega, rfl, rfl, rfl⟩
      · walk_at "st"
        refine go_common (lft b m (k + 1)) b (by rw [lft_succ h3]; rfl) rfl ?_
        walk_at "st"
        rw [lft_succ h3]
        rfl
    · have hks2 : k = s := by omega
      subst hks2
      have hd := hL.done
      rw [hd]
      walk_at "st"
      refine iteE (fun c => ?_) (fun c => ?_)
      · have e1 := hL.one (by omega)
        rw [e1] at q
        walk_at "st"
        exact q
      · have hne : lft b m k ≠ 1 := by omega
        obtain ⟨l0, l1, l2⟩ := hL.ring hne
        have hq : 1 < lft b m k := by omega
        walk_at "st"
        refine ⟨fun μ σ H' => ∃ n : Nat, 1 ≤ n ∧ n ≤ l ∧ μ = l - n ∧ H = H' ∧ σ = [some (.int (b : Int)), some (.int (m : Int)), some (.int (k : Int)), some (.int ((lft b m k : Nat) : Int)), some (.int 1), some (.int (n : Int)), some (.int ((b ^ n % lft b m k : Nat) : Int))], ⟨l - 1, 1, by omega, by omega, rfl, rfl, ?_⟩, fun μ σ H' hW => ?_⟩
        · rw [Nat.pow_one]; rfl
        obtain ⟨n, n1, n2, rfl, rfl, rfl⟩ := hW
        walk_at "st"
        by_cases hn : n < l
        · have hne := l2 n n1 hn
          refine iteEn (fun _ => ?_) (fun e => absurd e (by omega))
          refine ⟨fun σ H' => H = H' ∧ σ = [some (.int (b : Int)), some (.int (m : Int)), some (.int (k : Int)), some (.int ((lft b m k : Nat) : Int)), some (.int 1), some (.int ((n + 1 : Nat) : Int)), some (.int ((b ^ (n + 1) % lft b m k : Nat) : Int))], fun σ H' hN => ?_, ?_⟩
          · obtain ⟨rfl, rfl⟩ := hN
            exact ⟨l - (n + 1), by omega, n + 1, by omega, by omega, rfl, rfl, rfl⟩
          · have e3 : b ^ (n + 1) % lft b m k = b ^ n % lft b m k * b % lft b m k := by
              rw [Nat.pow_succ, Nat.mul_mod (b ^ n) b, Nat.mul_mod (b ^ n % lft b m k) b, Nat.mod_mod]
            rw [e3]
            have hlt : b ^ n % lft b m k < lft b m k := Nat.mod_lt _ hp
            walk_at "st"
            rfl
        · have e3 : n = l := by omega
          subst e3
          rw [l1]
          walk_at "st"
          exact q
end
abbrev s_restat : Stmt := topS 30
theorem sc_restat : FnScope ["base", "top", "bottom", "place", "found", "factor"] ["base", "top", "bottom", "place"] (defScope s_restat) := ⟨rfl, rfl, rfl, by decide +kernel, rfl, by decide +kernel, by decide +kernel⟩
@[irreducible] def sp_restat (K : PySem.W.Frag) : Sp := fun vs H Q _ => ∃ (x y z k : Int) (b t m n : Nat), vs = [.int x, .int y, .int z, .int k] ∧ x = b ∧ y = t ∧ z = m ∧ k = n ∧ 0 < m ∧ m < 1000000 ∧ Q (.int ((rs b m (t % m) n : Nat) : Int)) H
theorem go_restat {K : PySem.W.Frag} {H : Hp} {x y z k : Int} {Q : VK} {E : XK} (b t m n : Nat) (hx : x = b) (hy : y = t) (hz : z = m) (hk : k = n) (hm : 0 < m) (hm2 : m < 1000000) (q : Q (.int ((rs b m (t % m) n : Nat) : Int)) H) : sp_restat K [.int x, .int y, .int z, .int k] H Q E := by
  unfold sp_restat; exact ⟨x, y, z, k, b, t, m, n, rfl, hx, hy, hz, hk, hm, hm2, q⟩
section
variable {P : Program} {w : World} {K : PySem.W.Frag} {mg : Str → Option Value} {base : Heap}
theorem ok_restat {f : Addr} {fd : FuncData} (F : Fun K "rest_at" "rest_at" s_restat f fd) (M : Md K mg) {c : Cs} (N : Me K mg c) : FnOk P w K mg base CX0 1 f fd ["base", "top", "bottom", "place"] (sp_restat K) := by
  refine F.ok sc_restat (fun vs H Q E h => ?_) (fun cdv A outer s H vs Q E hr h => ?_)
  · unfold sp_restat at h; obtain ⟨x, y, z, k, b, t, m, n, rfl, rfl, rfl, rfl, rfl, hm, hm2, q⟩ := h
    all_goals rfl
  · have hu := hu_of hr
    unfold sp_restat at h; obtain ⟨x, y, z, k, b, t, m, n, rfl, rfl, rfl, rfl, rfl, hm, hm2, q⟩ := h
    have hmi : (0 : Int) < (m : Int) := by omega
    refine ⟨_, (pss_cons (ps_set (i := 4) sc_restat.nd rfl (.inl rfl) (pe_op op_mod (pv 1) (pv 2)))
      (pss_cons (ps_set (i := 5) sc_restat.nd rfl (.inl rfl) (pe_op op_mod (pv 0) (pv 2)))
      (pss_cons (ps_while PassesOwn.never (pt_cmpR op_gt (pv 3) pe_int (nomark _))
        (pss_cons (ps_if (pt_cmpR op_eq (pe_op op_mod (pv 3) pe_int) pe_int (nomark _))
        (pss_one (ps_set (i := 4) sc_restat.nd rfl (.inl rfl) (pe_op op_mod (pe_op op_mulB (pv 4) (pv 5)) (pv 2)))) pss_nil)
      (pss_cons (ps_set (i := 5) sc_restat.nd rfl (.inl rfl) (pe_op op_mod (pe_op op_mulB (pv 5) (pv 5)) (pv 2)))
      (pss_one (ps_set (i := 3) sc_restat.nd rfl (.inl rfl) (pe_op op_fdivP (pv 3) pe_int))))))
      (pss_one (ps_ret (pv 4)))))), ?_⟩
    walk_at "st"
    refine ⟨fun μ σ H' => ∃ (F G p : Nat), μ = p ∧ F < m ∧ G < m ∧ F * G ^ p % m = rs b m (t % m) n ∧ H' = H ∧ σ = [some (.int (b : Int)), some (.int (t : Int)), some (.int (m : Int)), some (.int (p : Int)), some (.int (F : Int)), some (.int (G : Int))],
      ⟨n, t % m, b % m, n, rfl, Nat.mod_lt _ hm, Nat.mod_lt _ hm, ?_, rfl, rfl⟩, fun μ σ H' hW => ?_⟩
    · unfold rs
      rw [Nat.mul_mod, ← Nat.pow_mod, ← Nat.mul_mod]
    obtain ⟨F, G, p, eμ, hF, hG, e, eH, eσ⟩ := hW
    subst eμ eH eσ
    walk_at "st"
    refine iteD (fun hp => ?_) (fun hp => ?_)
    · have h0 : 0 < μ := by omega
      refine ⟨fun σ H2 => ∃ (F' : Nat), F' < m ∧ F' * (G * G % m) ^ (μ / 2) % m = rs b m (t % m) n ∧ H2 = H' ∧ σ = [some (.int (b : Int)), some (.int (t : Int)), some (.int (m : Int)), some (.int ((μ / 2 : Nat) : Int)), some (.int (F' : Int)), some (.int ((G * G % m : Nat) : Int))],
        fun σ H2 hN => ?_, ?_⟩
      · obtain ⟨F', hF', e', eH', eσ'⟩ := hN
        exact ⟨μ / 2, by omega, F', _, _, rfl, hF', Nat.mod_lt _ hm, e', eH', eσ'⟩
      · have key := pow_half F G m μ
        walk_at "st"
        refine iteE (fun c => ?_) (fun c => ?_)
        · rw [if_pos (show μ % 2 = 1 by omega), e] at key
          walk_at "st"
          exact ⟨F * G % m, Nat.mod_lt _ hm, key, rfl, rfl⟩
        · rw [if_neg (show ¬ μ % 2 = 1 by omega), e] at key
          walk_at "st"
          exact ⟨F, hF, key, rfl, rfl⟩
    · have h0 : μ = 0 := by omega
      rw [h0, Nat.pow_zero, Nat.mul_one, Nat.mod_eq_of_lt hF] at e
      rw [← e] at q
      walk_at "st"
      exact q
end
abbrev s_figureat : Stmt := topS 31
theorem sc_figureat : FnScope ["base", "top", "bottom", "place"] ["base", "top", "bottom", "place"] (defScope s_figureat) := ⟨rfl, rfl, rfl, by decide +kernel, rfl, by decide +kernel, by decide +kernel⟩
@[irreducible] def sp_figureat (K : PySem.W.Frag) (c : Cs) : Sp := fun vs H Q E => ∃ (z t m k : Int) (n : Nat), vs = [.int z, .int t, .int m, .int k] ∧ k = n ∧ (BadB z → E (.ref c.NoBase) none H) ∧ (¬ BadB z → ¬ FrOk t m → E (.ref c.NoFraction) none H) ∧ (¬ BadB z → FrOk t m → ∀ H' v, Same H H' → Q v H')
theorem go_figureat {K : PySem.W.Frag} {c : Cs} {H : Hp} {z t m k : Int} {Q : VK} {E : XK} (n : Nat) (hk : k = n) (e0 : BadB z → E (.ref c.NoBase) none H) (e1 : ¬ BadB z → ¬ FrOk t m → E (.ref c.NoFraction) none H) (q : ¬ BadB z → FrOk t m → ∀ H' v, Same H H' → Q v H') : sp_figureat K c [.int z, .int t, .int m, .int k] H Q E := by
  unfold sp_figureat; exact ⟨z, t, m, k, n, rfl, hk, e0, e1, q⟩
section
variable {P : Program} {w : World} {K : PySem.W.Frag} {mg : Str → Option Value} {base : Heap}
theorem ok_figureat {f : Addr} {fd : FuncData} (F : Fun K "figure_at" "figure_at" s_figureat f fd) (M : Md K mg) {c : Cs} (N : Me K mg c) (c_askedfraction : CalX P w K mg base 2 "asked_fraction" (sp_askedfraction K c)) (c_restat : Cal P w K mg base 1 "rest_at" (sp_restat K) []) : FnOk P w K mg base (L2.CX P w) 3 f fd ["base", "top", "bottom", "place"] (sp_figureat K c) := by
  refine F.okX sc_figureat (fun vs H Q E h => ?_) (fun cdv A outer s H vs Q E hr h => ?_)
  · unfold sp_figureat at h; obtain ⟨z, t, m, k, n, rfl, rfl, e0, e1, q⟩ := h
    all_goals rfl
  · have hu := hu_of hr
    unfold sp_figureat at h; obtain ⟨z, t, m, k, n, rfl, rfl, e0, e1, q⟩ := h
    refine ⟨_, (pss_cons (ps_expr (pe_x c_askedfraction hr (by decide) (by rfl) (takes_of rfl rfl rfl rfl) (pa_cons (pv 0) (pa_cons (pv 1) (pa_cons (pv 2) pa_nil)))))
      (pss_one (ps_ret (pe_op op_fdivP (pe_op op_mulB (pe_c c_restat hr (by decide) (by rfl) (pa_cons (pv 0) (pa_cons (pv 1) (pa_cons (pv 2) (pa_cons (pv 3) pa_nil))))) (pv 0)) (pv 2))))), ?_⟩
    walk_at "st"
    refine go_askedfraction e0 e1 (fun g hf => ?_)
    have q2 := q g hf
    obtain ⟨b, rfl, h1, h2⟩ := natB g
    obtain ⟨t, m, rfl, rfl, t2, m1, m2⟩ := natF hf
    walk_at "st"
    refine go_restat b t m n rfl rfl rfl rfl (by omega) (by omega) ?_
    walk_at "st"
    exact q2 _ _ (Same.refl _)
end
abbrev s_folds : Stmt := topS 32
theorem sc_folds : FnScope ["base", "ring", "half", "one", "other"] ["base", "ring"] (defScope s_folds) := ⟨rfl, rfl, rfl, by decide +kernel, rfl, by decide +kernel, by decide +kernel⟩
/-- an even number of figures, two or more, each with its fellow the greatest one -/
def flB (b : Int) (ns : List Int) : Bool := decide (ns.length % 2 = 0 ∧ ns.length ≠ 0 ∧ ns.take (ns.length / 2) = (ns.drop (ns.length / 2)).map (fun x => b - 1 - x))
theorem zip_all (b : Int) : ∀ xs ys : List Int, xs.length = ys.length → (List.zipWith (fun x y => decide (x + y = b - 1)) xs ys).all id = decide (xs = ys.map (fun x => b - 1 - x))
  | [], [], _ => rfl
  | x :: xs, y :: ys, h => by
    have ih := zip_all b xs ys (by simpa using h)
    rw [List.zipWith_cons_cons, List.all_cons, ih, List.map_cons]
    by_cases h1 : x + y = b - 1
    · have h2 : x = b - 1 - y := by omega
      simp [h1, h2]
    · have h2 : ¬ x = b - 1 - y := by omega
      simp [h1, h2]
@[irreducible] def sp_folds (K : PySem.W.Frag) (c : Cs) : Sp := fun vs H Q E => ∃ (z : Int) (a : Addr) (ns : List Int), vs = [.int z, .ref a] ∧ SqL K H a (ns.map V.int) ∧ (BadB z → E (.ref c.NoBase) none H) ∧ (¬ BadB z → ¬ FgOk z ns → E (.ref c.NoWriting) none H) ∧ (¬ BadB z → FgOk z ns → ∀ H' v, Same H H' → Q v H')
theorem go_folds {K : PySem.W.Frag} {c : Cs} {H : Hp} {z : Int} {a : Addr} {ns : List Int} {Q : VK} {E : XK} (hS : SqL K H a (ns.map V.int)) (e0 : BadB z → E (.ref c.NoBase) none H) (e1 : ¬ BadB z → ¬ FgOk z ns → E (.ref c.NoWriting) none H) (q : ¬ BadB z → FgOk z ns → ∀ H' v, Same H H' → Q v H') : sp_folds K c [.int z, .ref a] H Q E := by
  unfold sp_folds; exact ⟨z, a, ns, rfl, hS, e0, e1, q⟩
section
variable {P : Program} {w : World} {K : PySem.W.Frag} {mg : Str → Option Value} {base : Heap}
theorem ok_folds {f : Addr} {fd : FuncData} (F : Fun K "folds" "folds" s_folds f fd) (M : Md K mg) {c : Cs} (N : Me K mg c) (c_askedbase : CalX P w K mg base 1 "asked_base" (sp_askedbase K c)) (c_askedfigures : CalX P w K mg base 1 "asked_figures" (sp_askedfigures K c)) : FnOk P w K mg base (L2.CX P w) 2 f fd ["base", "ring"] (sp_folds K c) := by
  refine F.okX sc_folds (fun vs H Q E h => ?_) (fun cdv A outer s H vs Q E hr h => ?_)
  · unfold sp_folds at h; obtain ⟨b, a, ns, rfl, hS, e0, e1, qq⟩ := h
    all_goals rfl
  · have hu := hu_of hr
    unfold sp_folds at h; obtain ⟨b, a, ns, rfl, hS, e0, e1, qq⟩ := h
    refine ⟨_, (pss_cons (ps_expr (pe_x c_askedbase hr (by decide) (by rfl) (takes_of rfl rfl rfl rfl) (pa_cons (pv 0) pa_nil)))
      (pss_cons (ps_expr (pe_x c_askedfigures hr (by decide) (by rfl) (takes_of rfl rfl rfl rfl) (pa_cons (pv 0) (pa_cons (pv 1) pa_nil))))
      (pss_cons (ps_set (i := 2) sc_folds.nd rfl (.inl rfl) (pe_op op_fdivP (pe_callB call_len_seq (by rfl) M.m_len PySem.boot_len (pa_cons (pv 1) pa_nil)) pe_int))
      (pss_cons (ps_if (PW.pt (pw_or (pt_cmpR op_eq (pe_op op_mod (pe_callB call_len_seq (by rfl) M.m_len PySem.boot_len (pa_cons (pv 1) pa_nil)) pe_int) pe_int (nomark _)) (pw_or1 (pt_cmpR op_eq (pv 2) pe_int (nomark _)))))
        (pss_one (ps_ret pe_bl)) pss_nil)
      (pss_one (ps_ret (pe_callB (cr_all rfl) (by rfl) M.m_all (by decide +kernel) (pa_cons (pe_lc (own := [("one", 3), ("other", 4)]) (g := gTup K 2 (gCons (gName 3) (gCons (gName 4) gNil))) (tt := tYes) rfl sc_folds.nd (pi_zip (by rfl) M.m_zip (pa_cons (pe_slice sl_list (pv 1) po_none (po_some (pv 2))) (pa_cons (pe_slice sl_list (pv 1) (po_some (pv 2)) po_none) pa_nil))) (blkOk_by (own := [("one", 3), ("other", 4)]) (N := ["base", "ring", "half", "one", "other"]) (sc := defScope s_folds) (by decide +kernel)) (fun _ _ _ _ _ => (pg_tup rfl (by exact (pgs_cons (pg_name (i := 3) sc_folds.nd rfl (.inl rfl)) (pgs_cons (pg_name (i := 4) sc_folds.nd rfl (.inl rfl)) pgs_nil))))) (fun _ _ _ _ _ => pts_nil) (fun _ _ _ _ _ => (pe_cmpR op_eq (pe_op op_add (pv 3) (pv 4)) (pe_op op_sub (pv 0) pe_int) (nomark _)))) pa_nil)))))))), ?_⟩
    walk_at "st"
    refine go_askedbase (fun h1 h2 => ?_) (fun h => e0 h)
    have g : ¬ BadB b := fun h => by unfold BadB at h; omega
    walk_at "st"
    refine go_askedfigures hS (e1 g) (fun hg => ?_)
    have q : ∀ H', Same H H' → Q (.bl (flB b ns)) H' := fun H' s => qq g hg H' _ s
    have hl := hg.1
    have hf := hg.2
    walk_at "st"
    simp only [List.length_map]
    refine iteE (fun c => ?_) (fun c => ?_)
    · walk_at "st"
      have e : flB b ns = false := decide_eq_false (fun z => by omega)
      have q2 := q H (Same.refl _)
      rw [e] at q2
      exact q2
    · walk_at "st"
      have eh : (ns.length : Int) / 2 = ((ns.length / 2 : Nat) : Int) := rfl
      refine iteE (fun c2 => ?_) (fun c2 => ?_)
      · walk_at "st"
        have e : flB b ns = false := decide_eq_false (fun z => by omega)
        have q2 := q H (Same.refl _)
        rw [e] at q2
        exact q2
      · walk_at "st"
        refine ⟨a, _, rfl, hS, fun p1 np1 => ?_⟩
        rw [eh, cut_take, take_map]
        have s1 := same_upd (o := .lst ((ns.take (ns.length / 2)).map V.int)) np1
        have hS1 := s1.seq hS
        walk_at "st"
        refine ⟨a, _, rfl, hS1, fun p2 np2 => ?_⟩
        rw [cut_drop, drop_map]
        have s2 := same_ups (o := .lst ((ns.drop (ns.length / 2)).map V.int)) s1 np2
        have h1p : SqL K (upd (upd H p1 (.lst ((ns.take (ns.length / 2)).map V.int))) p2 (.lst ((ns.drop (ns.length / 2)).map V.int))) p1 ((ns.take (ns.length / 2)).map V.int) := sql (by rw [upd_ne (Ne.symm (ne_new np2)), upd_same])
        have hlen : (ns.take (ns.length / 2)).length = (ns.drop (ns.length / 2)).length := by rw [List.length_take, List.length_drop]; omega
        refine ⟨p1, p2, _, _, rfl, h1p, sql upd_same, fun D nD => ?_⟩
        refine lc_zips (K := K) (i := 3) (j := 4) (fun x y => V.bl (decide (x + y = b - 1))) h1p (sql upd_same) hlen nD (by rw [List.length_take]; omega) (fun _ _ => rfl) (fun x y H' Q' q' => ?_) (fun H' s hD => ?_)
        · walk_at "st"
          have e1 : decide (V.int (x + y) = V.int (b - 1)) = decide (x + y = b - 1) := by
            by_cases h : x + y = b - 1
            · rw [decide_eq_true h, decide_eq_true (by rw [h])]
            · rw [decide_eq_false h, decide_eq_false (fun z => h (V.int.inj z))]
          rw [e1]
          exact q'
        · have em : List.zipWith (fun x y => V.bl (decide (x + y = b - 1))) (ns.take (ns.length / 2)) (ns.drop (ns.length / 2)) = (List.zipWith (fun x y => decide (x + y = b - 1)) (ns.take (ns.length / 2)) (ns.drop (ns.length / 2))).map V.bl := by
            rw [List.map_zipWith]
          rw [em] at hD
          refine ⟨D, _, rfl, sql hD, ?_⟩
          rw [zip_all _ _ _ hlen]
          have e2 : decide (ns.take (ns.length / 2) = (ns.drop (ns.length / 2)).map (fun x => b - 1 - x)) = flB b ns := by
            unfold flB
            rw [decide_eq_decide]
            exact ⟨fun z => ⟨by omega, by omega, z⟩, fun z => z.2.2⟩
          rw [e2]
          exact q H' (s2.trans s)
end
abbrev s_textof : Stmt := topS 35
theorem sc_textof : FnScope ["figures", "figure"] ["figures"] (defScope s_textof) := ⟨rfl, rfl, rfl, by decide +kernel, rfl, by decide +kernel, by decide +kernel⟩
@[irreducible] def sp_textof (K : PySem.W.Frag) : Sp := fun vs H Q _ => ∃ (a : Addr) (ns : List Int), vs = [.ref a] ∧ SqL K H a (ns.map V.int) ∧ Figs 36 ns ∧ ns.length ≤ 100000 ∧ ∀ H', Same H H' → Q (.str (sgs ns)) H'
theorem go_textof {K : PySem.W.Frag} {H : Hp} {a : Addr} {ns : List Int} {Q : VK} {E : XK} (h : SqL K H a (ns.map V.int)) (hf : Figs 36 ns) (hl : ns.length ≤ 100000) (q : ∀ H', Same H H' → Q (.str (sgs ns)) H') : sp_textof K [.ref a] H Q E := by
  unfold sp_textof; exact ⟨a, ns, rfl, h, hf, hl, q⟩
section
variable {P : Program} {w : World} {K : PySem.W.Frag} {mg : Str → Option Value} {base : Heap}
theorem ok_textof {f : Addr} {fd : FuncData} (F : Fun K "text_of" "text_of" s_textof f fd) (M : Md K mg) {c : Cs} (N : Me K mg c) : FnOk P w K mg base CX0 1 f fd ["figures"] (sp_textof K) := by
  refine F.ok sc_textof (fun vs H Q E h => ?_) (fun cdv A outer s H vs Q E hr h => ?_)
  · unfold sp_textof at h; obtain ⟨a, ns, rfl, h, hf, hl, q⟩ := h
    all_goals rfl
  · have hu := hu_of hr
    unfold sp_textof at h; obtain ⟨a, ns, rfl, h, hf, hl, q⟩ := h
    refine ⟨_, (pss_one (ps_ret (pe_join pe_str (pe_lc (own := [("figure", 1)]) (g := gName 1) (tt := tYes) rfl sc_textof.nd (pi_list (pv 0)) (blkOk_by (own := [("figure", 1)]) (N := ["figures", "figure"]) (sc := defScope s_textof) (by decide +kernel)) (fun _ _ _ _ _ => (pg_name (i := 1) sc_textof.nd rfl (.inl rfl))) (fun _ _ _ _ _ => pts_nil) (fun _ _ _ _ _ => (pe_ix ix_str (pe_gc (by rfl) M.g_SIGNS) (pv 1) (fun _ _ => rfl))))))), ?_⟩
    refine ⟨⟨_, rfl⟩, ?_⟩
    refine ⟨_, rfl, a, rfl, ⟨_, h⟩, fun D nD => ?_⟩
    refine lc_vals (fun v => V.str (⟨#[sg (iof v)]⟩ : Str)) h nD (by rw [List.length_map]; omega) (fun _ => rfl) (fun v hv H' Q' s q' => ?_) (fun H' s hD => ?_)
    · obtain ⟨x, hx, rfl⟩ := mem_ints hv
      have hx36 := hf x hx
      refine ⟨_, rfl, ?_⟩
      refine ⟨SIG, x, _, rfl, rfl, by decide +kernel, sig_at hx36.1 hx36.2, ?_⟩
      exact q' _ (Same.refl _)
    · have e : (ns.map V.int).map (fun v => V.str (⟨#[sg (iof v)]⟩ : Str)) = (ns.map fun x => (⟨#[sg x]⟩ : Str)).map V.str := by
        rw [List.map_map, List.map_map]; rfl
      rw [e] at hD
      refine ⟨_, D, _, rfl, rfl, .inl (sql hD), ?_, ?_⟩
      · rw [sum_signs, List.length_map]
        have e0 : (Str.ofString "").length = 0 := by decide +kernel
        rw [e0]
        omega
      · rw [join_signs]
        exact q _ s
end
abbrev s_figuresof : Stmt := topS 36
theorem sc_figuresof : FnScope ["base", "number", "found"] ["base", "number"] (defScope s_figuresof) := ⟨rfl, rfl, rfl, by decide +kernel, rfl, by decide +kernel, by decide +kernel⟩
@[irreducible] def sp_figuresof (K : PySem.W.Frag) : Sp := fun vs H Q _ => ∃ (x y : Int) (b n : Nat), vs = [.int x, .int y] ∧ x = b ∧ y = n ∧ 2 ≤ b ∧ b ≤ 36 ∧ n ≤ 1000000000000 ∧
  ∀ H' p, Same H H' → H p = none → H' p = some (.lst ((dgN b n).map V.int)) → Q (.ref p) H'
theorem go_figuresof {K : PySem.W.Frag} {H : Hp} {x y : Int} {Q : VK} {E : XK} (b n : Nat) (hx : x = b) (hy : y = n) (h1 : 2 ≤ b) (h2 : b ≤ 36) (hn : n ≤ 1000000000000)
    (q : ∀ H' p, Same H H' → H p = none → H' p = some (.lst ((dgN b n).map V.int)) → Q (.ref p) H') : sp_figuresof K [.int x, .int y] H Q E := by
  unfold sp_figuresof; exact ⟨x, y, b, n, rfl, hx, hy, h1, h2, hn, q⟩
section
variable {P : Program} {w : World} {K : PySem.W.Frag} {mg : Str → Option Value} {base : Heap}
theorem ok_figuresof {f : Addr} {fd : FuncData} (F : Fun K "figures_of" "figures_of" s_figuresof f fd) (M : Md K mg) {c : Cs} (N : Me K mg c) : FnOk P w K mg base CX0 1 f fd ["base", "number"] (sp_figuresof K) := by
  refine F.ok sc_figuresof (fun vs H Q E h => ?_) (fun cdv A outer s H vs Q E hr h => ?_)
  · unfold sp_figuresof at h; obtain ⟨x, y, b, n, rfl, rfl, rfl, h1, h2, hn, q⟩ := h
    all_goals rfl
  · have hu := hu_of hr
    unfold sp_figuresof at h; obtain ⟨x, y, b, n, rfl, rfl, rfl, h1, h2, hn, q⟩ := h
    have hlen : (dgN b n).length ≤ 41 := dgN_len h1 n 40 (by
      have h40 : (2 : Nat) ^ 40 = 1099511627776 := by decide
      omega)
    refine ⟨_, (pss_cons (ps_set (i := 2) sc_figuresof.nd rfl (.inl rfl) (pe_lst (pa_cons (pe_op op_mod (pv 1) (pv 0)) pa_nil)))
      (pss_cons (ps_while PassesOwn.never (pt_cmpR op_ge (pv 1) (pv 0) (nomark _))
        (pss_cons (ps_set (i := 1) sc_figuresof.nd rfl (.inl rfl) (pe_op op_fdivP (pv 1) (pv 0)))
      (pss_one (ps_expr (pe_bm PySem.F.plainAttrs_list PySem.F.slot_list_append PySem.F.type_list_append mt_append (pv 2) (pa_cons (pe_op op_mod (pv 1) (pv 0)) pa_nil))))))
      (pss_one (ps_ret (pe_lrev (by rfl) M.m_list (by rfl) M.m_reversed (pv 2)))))), ?_⟩
    walk_at "st"
    intro f nf
    walk_at "st"
    refine ⟨fun μ σ H' => ∃ (m : Nat) (suf : List Int), μ = m ∧ m ≤ n ∧ dgN b n = dgN b m ++ suf ∧ σ = [some (.int (b : Int)), some (.int (m : Int)), some (.ref f)] ∧ Same H H' ∧ H' f = some (.lst ((suf.reverse ++ [((m % b : Nat) : Int)]).map V.int)),
      ⟨n, n, [], rfl, Nat.le_refl _, (List.append_nil _).symm, rfl, same_upd nf, upd_same⟩, fun μ σ H' hW => ?_⟩
    obtain ⟨m, suf, rfl, hmn, hd, rfl, sm, hF⟩ := hW
    walk_at "st"
    refine iteD (fun c => ?_) (fun c => ?_)
    · have hbm : b ≤ μ := by omega
      have hlt : μ / b < μ := Nat.div_lt_self (by omega) (by omega)
      have hd2 : dgN b n = dgN b (μ / b) ++ (((μ % b : Nat) : Int) :: suf) := by
        rw [hd, dgN_big h1 hbm, List.append_assoc]; rfl
      refine ⟨fun σ2 H2 => σ2 = [some (.int (b : Int)), some (.int ((μ / b : Nat) : Int)), some (.ref f)] ∧ Same H H2 ∧ H2 f = some (.lst (((((μ % b : Nat) : Int) :: suf).reverse ++ [((μ / b % b : Nat) : Int)]).map V.int)),
        fun σ2 H2 ⟨e1, e2, e3⟩ => ⟨μ / b, hlt, μ / b, _, rfl, by omega, hd2, e1, e2, e3⟩, ?_⟩
      walk_at "st"
      refine ⟨.inl ⟨rfl, _, sql hF⟩, ?_⟩
      walk_at "st"
      refine ⟨f, _, _, rfl, rfl, hF, sz100lt ?_, ?_⟩
      · rw [hd, List.length_append] at hlen
        rw [List.length_map, List.length_append, List.length_reverse, List.length_singleton]
        omega
      walk_at "st"
      refine ⟨same_new sm nf, ?_⟩
      rw [upd_same, List.reverse_cons]
      simp only [List.map_append]
      rfl
    · have hmb : μ % b = μ := Nat.mod_eq_of_lt (by omega)
      rw [dgN_small (show μ < b by omega)] at hd
      walk_at "st"
      refine ⟨f, _, rfl, sql hF, fun p np => ?_⟩
      refine q _ p (same_ups sm np) (sm.free np) ?_
      rw [upd_same, hd, hmb, ← List.map_reverse, List.reverse_append, List.reverse_reverse]
      rfl
end
abbrev s_shown : Stmt := topS 37
theorem sc_shown : FnScope ["base", "writing", "text"] ["base", "writing"] (defScope s_shown) := ⟨rfl, rfl, rfl, by decide +kernel, rfl, by decide +kernel, by decide +kernel⟩
@[irreducible] def sp_shown (K : PySem.W.Frag) (c : Cs) : Sp := fun vs H Q E => ∃ (z : Int) (p a r : Addr) (x : Wr), vs = [.int z, .ref p] ∧ WrAt H p a r x ∧ (BadB z → E (.ref c.NoBase) none H) ∧ (¬ BadB z → ¬ WrOk z x → E (.ref c.NoWriting) none H) ∧ (¬ BadB z → WrOk z x → ∀ H' v, Same H H' → Q v H')
theorem go_shown {K : PySem.W.Frag} {c : Cs} {H : Hp} {z : Int} {p a r : Addr} {x : Wr} {Q : VK} {E : XK} (h : WrAt H p a r x) (e0 : BadB z → E (.ref c.NoBase) none H) (e1 : ¬ BadB z → ¬ WrOk z x → E (.ref c.NoWriting) none H) (q : ¬ BadB z → WrOk z x → ∀ H' v, Same H H' → Q v H') : sp_shown K c [.int z, .ref p] H Q E := by
  unfold sp_shown; exact ⟨z, p, a, r, x, rfl, h, e0, e1, q⟩
section
variable {P : Program} {w : World} {K : PySem.W.Frag} {mg : Str → Option Value} {base : Heap}
theorem ok_shown {f : Addr} {fd : FuncData} (F : Fun K "shown" "shown" s_shown f fd) (M : Md K mg) {c : Cs} (N : Me K mg c) (c_askedwriting : CalX P w K mg base 2 "asked_writing" (sp_askedwriting K c)) (c_textof : Cal P w K mg base 1 "text_of" (sp_textof K) []) (c_figuresof : Cal P w K mg base 1 "figures_of" (sp_figuresof K) []) : FnOk P w K mg base (L2.CX P w) 3 f fd ["base", "writing"] (sp_shown K c) := by
  refine F.okX sc_shown (fun vs H Q E h => ?_) (fun cdv A outer s H vs Q E hr h => ?_)
  · unfold sp_shown at h; obtain ⟨z, p, a, r, x, rfl, h, e0, e1, qq⟩ := h
    all_goals rfl
  · have hu := hu_of hr
    unfold sp_shown at h; obtain ⟨z, p, a, r, x, rfl, h, e0, e1, qq⟩ := h
    refine ⟨_, (pss_cons (ps_expr (pe_x c_askedwriting hr (by decide) (by rfl) (takes_of rfl rfl rfl rfl) (pa_cons (pv 0) (pa_cons (pv 1) pa_nil))))
      (Evl.pss_cut (ps_set (i := 2) sc_shown.nd rfl (.inl rfl) (pe_c c_textof hr (by decide) (by rfl) (pa_cons (pe_c c_figuresof hr (by decide) (by rfl) (pa_cons (pv 0) (pa_cons (pe_ix ix_tup (pv 1) pe_int (fun _ _ => rfl)) pa_nil))) pa_nil)))
      (Evl.pss_cut (ps_if (pt_cmpR op_gt (pe_op op_add (pe_callB call_len_seq (by rfl) M.m_len PySem.boot_len (pa_cons (pe_ix ix_tup (pv 1) pe_int (fun _ _ => rfl)) pa_nil)) (pe_callB call_len_seq (by rfl) M.m_len PySem.boot_len (pa_cons (pe_ix ix_tup (pv 1) pe_int (fun _ _ => rfl)) pa_nil))) pe_int (nomark _))
        (pss_one (ps_set (i := 2) sc_shown.nd rfl (.inl rfl) (pe_op op_add_str (pe_op op_add_str (pv 2) pe_str) (pe_c c_textof hr (by decide) (by rfl) (pa_cons (pe_ix ix_tup (pv 1) pe_int (fun _ _ => rfl)) pa_nil))))) pss_nil)
      (Evl.pss_cut (ps_if (pt_cmpR op_gt (pe_callB call_len_seq (by rfl) M.m_len PySem.boot_len (pa_cons (pe_ix ix_tup (pv 1) pe_int (fun _ _ => rfl)) pa_nil)) pe_int (nomark _))
        (pss_one (ps_set (i := 2) sc_shown.nd rfl (.inl rfl) (pe_op op_add_str (pe_op op_add_str (pe_op op_add_str (pv 2) pe_str) (pe_c c_textof hr (by decide) (by rfl) (pa_cons (pe_ix ix_tup (pv 1) pe_int (fun _ _ => rfl)) pa_nil))) pe_str))) pss_nil)
      (pss_one (ps_ret (pv 2))))))), ?_⟩
    walk_at "st"
    refine go_askedwriting h e0 e1 (fun g ho => ?_)
    obtain ⟨b, rfl, h1, h2⟩ := natB g
    have q : ∀ H', Same H H' → Q (.str (txS b x)) H' := fun H' s => qq g ho H' _ s
    have ht := h.tp
    have ha := h.la
    have hr' := h.lr
    have hw0 := ho.w0
    have hw1 := ho.w1
    have hla := ho.la
    have hlr := ho.lr
    obtain ⟨n, hn⟩ : ∃ n : Nat, x.w = n := ⟨x.w.toNat, by omega⟩
    have en : x.w.toNat = n := by omega
    have hlen : (dgN b n).length ≤ 41 := dgN_len h1 n 40 (by
      have h40 : (2 : Nat) ^ 40 = 1099511627776 := by decide
      omega)
    walk_at "st"
    refine ⟨fun σ H' => Same H H' ∧ σ = [some (.int (b : Int)), some (.ref p), some (.str (tx ((dgN b n).map sg)))], ?_, fun σ H' hM => ?_⟩
    · walk_at "st"
      refine go_figuresof b n rfl hn h1 h2 (by omega) (fun H1 f s1 nf hf => ?_)
      walk_at "st"
      refine go_textof (sql hf) (fun y hy => ?_) (by omega) (fun H2 s2 => ?_)
      · have := dgN_ok h1 n y hy
        omega
      walk_at "st"
      exact ⟨s1.trans s2, rfl⟩
    obtain ⟨s1, rfl⟩ := hM
    refine ⟨fun σ H' => Same H H' ∧ σ = [some (.int (b : Int)), some (.ref p), some (.str (tx ((dgN b n).map sg ++ (if x.a = [] ∧ x.r = [] then [] else 46 :: x.a.map sg))))], ?_, fun σ H2 hM => ?_⟩
    · have h1t := s1 _ _ ht
      have h1a := s1 _ _ ha
      have h1r := s1 _ _ hr'
      walk_at "st"
      simp only [List.length_map]
      refine iteD (fun c => ?_) (fun c => ?_)
      · have e : ¬ (x.a = [] ∧ x.r = []) := fun ⟨e1, e2⟩ => by
          rw [e1, e2] at c
          exact absurd c (by decide)
        rw [if_neg e]
        walk_at "st"
        rw [tx_dot, tx_app, tx_len, tx_len, List.length_map]
        refine ⟨sz100 (by show (dgN b n).length + 1 ≤ _; omega), ?_⟩
        walk_at "st"
        refine go_textof (sql h1a) (fun y hy => ?_) (by omega) (fun H2 s2 => ?_)
        · have := ho.fa y hy
          omega
        rw [sgs_tx]
        walk_at "st"
        rw [tx_app, tx_len, tx_len, List.length_append, List.length_map, List.length_map]
        refine ⟨sz100 (by show (dgN b n).length + 1 + _ ≤ _; omega), ?_⟩
        walk_at "st"
        rw [List.append_assoc]
        exact ⟨s1.trans s2, rfl⟩
      · have e : x.a = [] ∧ x.r = [] := ⟨List.eq_nil_of_length_eq_zero (by omega), List.eq_nil_of_length_eq_zero (by omega)⟩
        rw [if_pos e, List.append_nil]
        walk_at "st"
        exact ⟨s1, rfl⟩
    obtain ⟨s2, rfl⟩ := hM
    have h2a := s2 _ _ ha
    have h2t := s2 _ _ ht
    have h2r := s2 _ _ hr'
    refine ⟨fun σ H' => Same H H' ∧ σ = [some (.int (b : Int)), some (.ref p), some (.str (txS b x))], ?_, fun σ H3 hM => ?_⟩
    · walk_at "st"
      simp only [List.length_map]
      refine iteD (fun c => ?_) (fun c => ?_)
      · have e : x.r ≠ [] := fun e => by
          rw [e] at c
          exact absurd c (by decide)
        have e2 : txS b x = tx ((dgN b n).map sg ++ (if x.a = [] ∧ x.r = [] then [] else 46 :: x.a.map sg) ++ [40] ++ x.r.map sg ++ [41]) := by
          unfold txS txN
          rw [if_neg e, en]
          simp only [List.append_assoc, List.cons_append, List.nil_append]
        have l1 : ((dgN b n).map sg ++ (if x.a = [] ∧ x.r = [] then [] else 46 :: x.a.map sg)).length ≤ 5000 := by
          rw [List.length_append, List.length_map]
          split
          · show _ + 0 ≤ _; omega
          · rw [List.length_cons, List.length_map]; omega
        rw [e2]
        generalize (dgN b n).map sg ++ (if x.a = [] ∧ x.r = [] then [] else 46 :: x.a.map sg) = A at *
        walk_at "st"
        rw [tx_open, tx_app, tx_len, tx_len]
        refine ⟨sz100 (by show A.length + 1 ≤ _; omega), ?_⟩
        walk_at "st"
        refine go_textof (sql h2r) (fun y hy => ?_) (by omega) (fun H2 s2' => ?_)
        · have := ho.fr y hy
          omega
        rw [sgs_tx]
        walk_at "st"
        rw [tx_app, tx_len, tx_len, List.length_append, List.length_map]
        refine ⟨sz100 (by show A.length + 1 + _ ≤ _; omega), ?_⟩
        walk_at "st"
        rw [tx_close, tx_app, tx_len, tx_len, List.length_append, List.length_append, List.length_map]
        refine ⟨sz100 (by show A.length + 1 + _ + 1 ≤ _; omega), ?_⟩
        walk_at "st"
        exact ⟨s2.trans s2', rfl⟩
      · have e : x.r = [] := List.eq_nil_of_length_eq_zero (by omega)
        walk_at "st"
        refine ⟨s2, ?_⟩
        unfold txS txN
        rw [en, if_pos e, List.append_nil]
    obtain ⟨s3, rfl⟩ := hM
    walk_at "st"
    exact q _ s3
end
abbrev s_resultof : Stmt := topS 40
theorem sc_resultof : FnScope ["base", "top", "bottom", "fraction"] ["base", "top", "bottom"] (defScope s_resultof) := ⟨rfl, rfl, rfl, by decide +kernel, rfl, by decide +kernel, by decide +kernel⟩
@[irreducible] def sp_resultof (K : PySem.W.Frag) (c : Cs) : Sp := fun vs H Q E => ∃ (x y z : Int) (b T B : Nat), vs = [.int x, .int y, .int z] ∧ x = b ∧ y = T ∧ z = B ∧ 2 ≤ b ∧ b ≤ 36 ∧ 0 < B ∧ (B : Int) < 2 ^ 5000 ∧
  (¬ Long T B → ∀ H' p a r w, WrNew H H' p a r w → IsDiv b (lw T B).1 (lw T B).2 w → Q (.ref p) H') ∧ (Long T B → ∀ H', Same H H' → E (.ref c.TooLong) none H')
theorem go_resultof {K : PySem.W.Frag} {c : Cs} {H : Hp} {x y z : Int} {Q : VK} {E : XK} (b T B : Nat) (hx : x = b) (hy : y = T) (hz : z = B) (h1 : 2 ≤ b) (h2 : b ≤ 36) (h3 : 0 < B) (h4 : (B : Int) < 2 ^ 5000)
    (q : ¬ Long T B → ∀ H' p a r w, WrNew H H' p a r w → IsDiv b (lw T B).1 (lw T B).2 w → Q (.ref p) H') (e : Long T B → ∀ H', Same H H' → E (.ref c.TooLong) none H') : sp_resultof K c [.int x, .int y, .int z] H Q E := by
  unfold sp_resultof; exact ⟨x, y, z, b, T, B, rfl, hx, hy, hz, h1, h2, h3, h4, q, e⟩
section
variable {P : Program} {w : World} {K : PySem.W.Frag} {mg : Str → Option Value} {base : Heap}
theorem ok_resultof {f : Addr} {fd : FuncData} (F : Fun K "result_of" "result_of" s_resultof f fd) (M : Md K mg) {c : Cs} (N : Me K mg c) (c_lowest : Cal P w K mg base 2 "lowest" (sp_lowest K) []) (c_divided : Cal P w K mg base 1 "divided" (sp_divided K) []) : FnOk P w K mg base (L2.CX P w) 3 f fd ["base", "top", "bottom"] (sp_resultof K c) := by
  refine F.okX sc_resultof (fun vs H Q E h => ?_) (fun cdv A outer s H vs Q E hr h => ?_)
  · unfold sp_resultof at h; obtain ⟨x, y, z, b, T, B, rfl, rfl, rfl, rfl, h1, h2, h3, h4, q, qe⟩ := h
    all_goals rfl
  · have hu := hu_of hr
    unfold sp_resultof at h; obtain ⟨x, y, z, b, T, B, rfl, rfl, rfl, rfl, h1, h2, h3, h4, q, qe⟩ := h
    obtain ⟨hu, hv, v0, vB⟩ := lw_spec T h3
    have hl : LowOk (T : Int) (B : Int) := lowOk_B h3 h4
    have lng : Long T B ↔ 2000 < (lw T B).2 ∨ 1000000000000 < (lw T B).1 / (lw T B).2 := Iff.rfl
    clear h4
    generalize (lw T B).1 = u at *
    generalize (lw T B).2 = v at *
    refine ⟨_, (pss_cons (ps_set (i := 3) sc_resultof.nd rfl (.inl rfl) (pe_c c_lowest hr (by decide) (by rfl) (pa_cons (pv 1) (pa_cons (pv 2) pa_nil))))
      (pss_cons (ps_if (PW.pt (pw_or (pt_cmpR op_gt (pe_ix ix_tup (pv 3) pe_int (fun _ _ => rfl)) (pe_gc (by rfl) M.g_MOST_BOTTOM) (nomark _)) (pw_or1 (pt_cmpR op_gt (pe_op op_fdivP (pe_ix ix_tup (pv 3) pe_int (fun _ _ => rfl)) (pe_ix ix_tup (pv 3) pe_int (fun _ _ => rfl))) (pe_gc (by rfl) M.g_GREATEST) (nomark _)))))
        (pss_one (ps_raise rfl (takes_of rfl rfl rfl rfl) (pmk_own PySem.F.excBase_ValueError N.x_TooLong.x N.g_TooLong N.x_TooLong.k (raises_own N.x_TooLong.b N.x_TooLong.t) rfl))) pss_nil)
      (pss_one (ps_ret (pe_c c_divided hr (by decide) (by rfl) (pa_cons (pv 0) (pa_cons (pe_ix ix_tup (pv 3) pe_int (fun _ _ => rfl)) (pa_cons (pe_ix ix_tup (pv 3) pe_int (fun _ _ => rfl)) pa_nil)))))))), ?_⟩
    walk_at "st"
    refine go_lowest (by omega) (by omega) hl (fun p1 n1 => ?_)
    rw [hu, hv]
    have s1 := same_upd (o := .tup [.int (u : Int), .int (v : Int)]) n1
    have t1 := upd_same (H := H) (a := p1) (o := .tup [.int (u : Int), .int (v : Int)])
    generalize upd H p1 (.tup [.int (u : Int), .int (v : Int)]) = H1 at *
    walk_at "st"
    refine iteD (fun z => ?_) (fun z1 => ?_)
    · walk_at "st"
      exact qe (lng.mpr (.inl (by omega))) _ s1
    walk_at "st"
    refine iteD (c := (1000000000000 : Int) < (u : Int) / (v : Int)) (fun z => ?_) (fun z2 => ?_)
    · rw [← Int.natCast_ediv] at z
      exact qe (lng.mpr (.inr (by omega))) _ s1
    have nl : ¬ Long T B := fun h => by
      rcases lng.mp h with h | h
      · omega
      · rw [← Int.natCast_ediv] at z2
        omega
    obtain ⟨s, l, hsl, hd⟩ := divAt_exists (b := b) (m := v) (r := u % v) v0
    walk_at "st"
    exact go_divided b u v s l rfl rfl rfl v0 (by omega) (wid_small (by omega)) hd (by omega) (fun H2 p2 a2 r2 w2 => q nl _ p2 a2 r2 _ ⟨w2.at', s1.trans w2.same, s1.free w2.np, s1.free w2.na, s1.free w2.nr, w2.ne⟩ (IsDiv.mk' v0 hd))
end
abbrev s_added : Stmt := topS 41
theorem sc_added : FnScope ["base", "one", "other", "left", "right"] ["base", "one", "other"] (defScope s_added) := ⟨rfl, rfl, rfl, by decide +kernel, rfl, by decide +kernel, by decide +kernel⟩
@[irreducible] def sp_added (K : PySem.W.Frag) (c : Cs) : Sp := fun vs H Q E => ∃ (z : Int) (p a r p' a' r' : Addr) (x y : Wr), vs = [.int z, .ref p, .ref p'] ∧ WrAt H p a r x ∧ WrAt H p' a' r' y ∧
  (BadB z → E (.ref c.NoBase) none H) ∧ (¬ BadB z → ¬ (WrOk z x ∧ WrOk z y) → E (.ref c.NoWriting) none H) ∧ (∀ b : Nat, z = b → 2 ≤ b → b ≤ 36 → WrOk z x → ∃ u v, LW b x u v) ∧ (∀ b : Nat, z = b → 2 ≤ b → b ≤ 36 → WrOk z y → ∃ u v, LW b y u v) ∧
  (¬ BadB z → WrOk z x → WrOk z y → (∀ H' v, Same H H' → Q v H') ∧ ∀ H', Same H H' → E (.ref c.TooLong) none H')
theorem go_added {K : PySem.W.Frag} {c : Cs} {H : Hp} {z : Int} {p a r p' a' r' : Addr} {x y : Wr} {Q : VK} {E : XK} (hx : WrAt H p a r x) (hy : WrAt H p' a' r' y)
    (e0 : BadB z → E (.ref c.NoBase) none H) (e1 : ¬ BadB z → ¬ (WrOk z x ∧ WrOk z y) → E (.ref c.NoWriting) none H) (lx : ∀ b : Nat, z = b → 2 ≤ b → b ≤ 36 → WrOk z x → ∃ u v, LW b x u v) (ly : ∀ b : Nat, z = b → 2 ≤ b → b ≤ 36 → WrOk z y → ∃ u v, LW b y u v)
    (q : ¬ BadB z → WrOk z x → WrOk z y → (∀ H' v, Same H H' → Q v H') ∧ ∀ H', Same H H' → E (.ref c.TooLong) none H') : sp_added K c [.int z, .ref p, .ref p'] H Q E := by
  unfold sp_added; exact ⟨z, p, a, r, p', a', r', x, y, rfl, hx, hy, e0, e1, lx, ly, q⟩
section
variable {P : Program} {w : World} {K : PySem.W.Frag} {mg : Str → Option Value} {base : Heap}
theorem ok_added {f : Addr} {fd : FuncData} (F : Fun K "added" "added" s_added f fd) (M : Md K mg) {c : Cs} (N : Me K mg c) (c_askedwriting : CalX P w K mg base 2 "asked_writing" (sp_askedwriting K c)) (c_worth : CalX P w K mg base 3 "worth" (sp_worth K c)) (c_resultof : CalX P w K mg base 3 "result_of" (sp_resultof K c)) : FnOk P w K mg base (L2.CX P w) 4 f fd ["base", "one", "other"] (sp_added K c) := by
  refine F.okX sc_added (fun vs H Q E h => ?_) (fun cdv A outer s H vs Q E hr h => ?_)
  · unfold sp_added at h; obtain ⟨z, p, a, r, p', a', r', x, y, rfl, hx, hy, e0, e1, lx, ly, q⟩ := h
    all_goals rfl
  · have hu := hu_of hr
    unfold sp_added at h; obtain ⟨z, p, a, r, p', a', r', x, y, rfl, hx, hy, e0, e1, lx, ly, q⟩ := h
    refine ⟨_, (pss_cons (ps_expr (pe_x c_askedwriting hr (by decide) (by rfl) (takes_of rfl rfl rfl rfl) (pa_cons (pv 0) (pa_cons (pv 1) pa_nil))))
      (pss_cons (ps_expr (pe_x c_askedwriting hr (by decide) (by rfl) (takes_of rfl rfl rfl rfl) (pa_cons (pv 0) (pa_cons (pv 2) pa_nil))))
      (pss_cons (ps_set (i := 3) sc_added.nd rfl (.inl rfl) (pe_x c_worth hr (by decide) (by rfl) (takes_of rfl rfl rfl rfl) (pa_cons (pv 0) (pa_cons (pv 1) pa_nil))))
      (pss_cons (ps_set (i := 4) sc_added.nd rfl (.inl rfl) (pe_x c_worth hr (by decide) (by rfl) (takes_of rfl rfl rfl rfl) (pa_cons (pv 0) (pa_cons (pv 2) pa_nil))))
      (pss_one (ps_ret (pe_x c_resultof hr (by decide) (by rfl) (takes_of rfl rfl rfl rfl) (pa_cons (pv 0) (pa_cons (pe_op op_add (pe_op op_mulB (pe_ix ix_tup (pv 3) pe_int (fun _ _ => rfl)) (pe_ix ix_tup (pv 4) pe_int (fun _ _ => rfl))) (pe_op op_mulB (pe_ix ix_tup (pv 4) pe_int (fun _ _ => rfl)) (pe_ix ix_tup (pv 3) pe_int (fun _ _ => rfl)))) (pa_cons (pe_op op_mulB (pe_ix ix_tup (pv 3) pe_int (fun _ _ => rfl)) (pe_ix ix_tup (pv 4) pe_int (fun _ _ => rfl))) pa_nil)))))))))), ?_⟩
    walk_at "st"
    refine go_askedwriting hx e0 (fun g n => e1 g (fun h => n h.1)) (fun g ox => ?_)
    walk_at "st"
    refine go_askedwriting hy e0 (fun g n => e1 g (fun h => n h.2)) (fun _ oy => ?_)
    obtain ⟨q1, q2⟩ := q g ox oy
    walk_at "st"
    refine go_worth hx e0 (fun g n => e1 g (fun h => n h.1)) lx (fun _ _ b u v ez dx p3 n3 => ?_)
    subst ez
    have s3 := same_upd (o := .tup [.int (u : Int), .int (v : Int)]) n3
    have t3 := upd_same (H := H) (a := p3) (o := .tup [.int (u : Int), .int (v : Int)])
    generalize upd H p3 (.tup [.int (u : Int), .int (v : Int)]) = H3 at *
    walk_at "st"
    refine go_worth (hy.same s3) (fun h => absurd h g) (fun g n => absurd oy n) ly (fun _ _ b' u' v' ez' dy p4 n4 => ?_)
    obtain rfl : b = b' := by omega
    have s4 := same_upd (o := .tup [.int (u' : Int), .int (v' : Int)]) n4
    have t4 := upd_same (H := H3) (a := p4) (o := .tup [.int (u' : Int), .int (v' : Int)])
    have t34 := s4 _ _ t3
    generalize upd H3 p4 (.tup [.int (u' : Int), .int (v' : Int)]) = H4 at *
    have s04 := s3.trans s4
    obtain ⟨b', ez2, h1, h2⟩ := natB g
    have v0 := dx.v0
    have v0' := dy.v0
    have m1 : IntMulOk (u : Int) (v' : Int) := mulOk_of (by omega) dx.ub (by omega) dy.vb (by decide) (by decide) (by decide)
    have m2 : IntMulOk (u' : Int) (v : Int) := mulOk_of (by omega) dy.ub (by omega) dx.vb (by decide) (by decide) (by decide)
    have m3 : IntMulOk (v : Int) (v' : Int) := mulOk_of (by omega) dx.vb (by omega) dy.vb (by decide) (by decide) (by decide)
    have hB : ((v * v' : Nat) : Int) < 2 ^ 5000 := Int.lt_trans (mul_lt2 dx.vb dy.vb rfl) (two_lt (by decide))
    have hv0 : 0 < v * v' := Nat.mul_pos v0 v0'
    clear hx hy ox oy dx dy lx ly
    walk_at "st"
    refine go_resultof b (sT u v u' v') (v * v') rfl (by unfold sT; rw [Int.natCast_add, Int.natCast_mul, Int.natCast_mul]) (by rw [Int.natCast_mul]) (by omega) (by omega) hv0 hB (fun nl H5 p5 a5 r5 w w5 d5 => ?_) (fun l H5 s5 => ?_)
    · exact q1 _ _ (s04.trans w5.same)
    · exact q2 _ (s04.trans s5)
end
abbrev s_times : Stmt := topS 42
theorem sc_times : FnScope ["base", "writing", "number", "fraction"] ["base", "writing", "number"] (defScope s_times) := ⟨rfl, rfl, rfl, by decide +kernel, rfl, by decide +kernel, by decide +kernel⟩
@[irreducible] def sp_times (K : PySem.W.Frag) (c : Cs) : Sp := fun vs H Q E => ∃ (z k : Int) (p a r : Addr) (x : Wr), vs = [.int z, .ref p, .int k] ∧ k < 0 ∧ WrAt H p a r x ∧ (BadB z → E (.ref c.NoBase) none H) ∧ (¬ BadB z → ¬ WrOk z x → E (.ref c.NoWriting) none H) ∧ (¬ BadB z → WrOk z x → E (.ref c.NoNumber) none H)
theorem go_times {K : PySem.W.Frag} {c : Cs} {H : Hp} {z k : Int} {p a r : Addr} {x : Wr} {Q : VK} {E : XK} (hk : k < 0) (h : WrAt H p a r x) (e0 : BadB z → E (.ref c.NoBase) none H) (e1 : ¬ BadB z → ¬ WrOk z x → E (.ref c.NoWriting) none H) (e2 : ¬ BadB z → WrOk z x → E (.ref c.NoNumber) none H) : sp_times K c [.int z, .ref p, .int k] H Q E := by
  unfold sp_times; exact ⟨z, k, p, a, r, x, rfl, hk, h, e0, e1, e2⟩
section
variable {P : Program} {w : World} {K : PySem.W.Frag} {mg : Str → Option Value} {base : Heap}
theorem ok_times {f : Addr} {fd : FuncData} (F : Fun K "times" "times" s_times f fd) (M : Md K mg) {c : Cs} (N : Me K mg c) (c_askedwriting : CalX P w K mg base 2 "asked_writing" (sp_askedwriting K c)) (c_worth : CalX P w K mg base 3 "worth" (sp_worth K c)) (c_resultof : CalX P w K mg base 3 "result_of" (sp_resultof K c)) : FnOk P w K mg base (L2.CX P w) 4 f fd ["base", "writing", "number"] (sp_times K c) := by
  refine F.okX sc_times (fun vs H Q E h => ?_) (fun cdv A outer s H vs Q E hr h => ?_)
  · unfold sp_times at h; obtain ⟨z, k, p, a, r, x, rfl, hk, h, e0, e1, e2⟩ := h
    all_goals rfl
  · have hu := hu_of hr
    unfold sp_times at h; obtain ⟨z, k, p, a, r, x, rfl, hk, h, e0, e1, e2⟩ := h
    refine ⟨_, (pss_cons (ps_expr (pe_x c_askedwriting hr (by decide) (by rfl) (takes_of rfl rfl rfl rfl) (pa_cons (pv 0) (pa_cons (pv 1) pa_nil))))
      (pss_cons (ps_if (PW.pt (pw_or (pt_cmpR op_lt (pv 2) pe_int (nomark _)) (pw_or1 (pt_cmpR op_gt (pv 2) (pe_gc (by rfl) M.g_MOST_TIMES) (nomark _)))))
        (pss_one (ps_raise rfl (takes_of rfl rfl rfl rfl) (pmk_own PySem.F.excBase_ValueError N.x_NoNumber.x N.g_NoNumber N.x_NoNumber.k (raises_own N.x_NoNumber.b N.x_NoNumber.t) rfl))) pss_nil)
      (pss_cons (ps_set (i := 3) sc_times.nd rfl (.inl rfl) (pe_x c_worth hr (by decide) (by rfl) (takes_of rfl rfl rfl rfl) (pa_cons (pv 0) (pa_cons (pv 1) pa_nil))))
      (pss_one (ps_ret (pe_x c_resultof hr (by decide) (by rfl) (takes_of rfl rfl rfl rfl) (pa_cons (pv 0) (pa_cons (pe_op op_mulB (pe_ix ix_tup (pv 3) pe_int (fun _ _ => rfl)) (pv 2)) (pa_cons (pe_ix ix_tup (pv 3) pe_int (fun _ _ => rfl)) pa_nil))))))))), ?_⟩
    walk_at "st"
    refine go_askedwriting h e0 e1 (fun g ho => ?_)
    walk_at "st"
    refine iteD (fun _ => ?_) (fun n => absurd hk n)
    walk_at "st"
    exact e2 g ho
end
abbrev s_xlawcellat : Stmt := topS 44
theorem sc_xlawcellat : FnScope ["script", "k"] ["script", "k"] (defScope s_xlawcellat) := ⟨rfl, rfl, rfl, by decide +kernel, rfl, by decide +kernel, by decide +kernel⟩
/-- the k-th of the script's numbers, or 0 -/
def cl (ns : List Int) (k : Nat) : Int := ns.getD k 0
@[irreducible] def sp_xlawcellat (K : PySem.W.Frag) : Sp := fun vs H Q _ => ∃ (a : Addr) (ns : List Int) (x : Int), vs = [.ref a, .int x] ∧ 0 ≤ x ∧ SqL K H a (ns.map V.int) ∧ Q (.int (cl ns x.toNat)) H
theorem go_cell {K : PySem.W.Frag} {H : Hp} {a : Addr} {ns : List Int} {x : Int} {Q : VK} {E : XK} (hx : 0 ≤ x) (hS : SqL K H a (ns.map V.int)) (q : Q (.int (cl ns x.toNat)) H) : sp_xlawcellat K [.ref a, .int x] H Q E := by
  unfold sp_xlawcellat; exact ⟨a, ns, x, rfl, hx, hS, q⟩
local macro_rules | `(tactic| walk_at "call") => `(tactic| refine go_cell (by omega) (by walk_at "sq") ?_)
theorem cl_in {ns : List Int} {k : Nat} (h : k < ns.length) : cl ns k = ns[k] := by
  unfold cl; rw [List.getD_eq_getElem?_getD, List.getElem?_eq_getElem h]; rfl
theorem cl_out {ns : List Int} {k : Nat} (h : ns.length ≤ k) : cl ns k = 0 := by
  unfold cl; rw [List.getD_eq_getElem?_getD, List.getElem?_eq_none h]; rfl
section
variable {P : Program} {w : World} {K : PySem.W.Frag} {mg : Str → Option Value} {base : Heap}
theorem ok_xlawcellat {f : Addr} {fd : FuncData} (F : Fun K "_law_cell_at" "_law_cell_at" s_xlawcellat f fd) (M : Md K mg) {c : Cs} (N : Me K mg c) : FnOk P w K mg base CX0 1 f fd ["script", "k"] (sp_xlawcellat K) := by
  refine F.ok sc_xlawcellat (fun vs H Q E h => ?_) (fun cdv A outer s H vs Q E hr h => ?_)
  · unfold sp_xlawcellat at h; obtain ⟨a, ns, x, rfl, hx, hS, q⟩ := h
    all_goals rfl
  · have hu := hu_of hr
    unfold sp_xlawcellat at h; obtain ⟨a, ns, x, rfl, hx, hS, q⟩ := h
    obtain ⟨k, rfl⟩ : ∃ k : Nat, x = (k : Int) := ⟨x.toNat, by omega⟩
    rw [Int.toNat_natCast] at q
    refine ⟨_, (pss_cons (ps_if (pt_cmpR op_lt (pv 1) (pe_callB call_len_seq (by rfl) M.m_len PySem.boot_len (pa_cons (pv 0) pa_nil)) (nomark _))
        (pss_one (ps_ret (pe_ix ix_list (pv 0) (pv 1) (fun _ _ => rfl)))) pss_nil)
      (pss_one (ps_ret pe_int))), ?_⟩
    walk_at "st"
    rw [List.length_map]
    refine iteD (fun e => ?_) (fun e => ?_)
    · have hk : k < ns.length := by omega
      walk_at "st"
      refine ⟨a, _, _, _, rfl, rfl, hS, atI_nat (map_get (List.getElem?_eq_getElem hk)), ?_⟩
      rw [← cl_in hk]
      exact q
    · rw [cl_out (by omega)] at q
      exact q
end
abbrev s_xlawdraw : Stmt := topS 45
theorem sc_xlawdraw : FnScope ["cell", "k", "bound", "stir"] ["cell", "k", "bound"] (defScope s_xlawdraw) := ⟨rfl, rfl, rfl, by decide +kernel, rfl, by decide +kernel, by decide +kernel⟩
def drA (c k : Int) : Int := (c % 2147483647 + 977 * k + 1) * 48271 % 2147483647
def drB (c k : Int) : Int := drA c k * drA c k % 2147483629
def drC (c k : Int) : Int := (drB c k + 40692 * (k + 3)) * 69621 % 2147483647
/-- a drawn number below b -/
def drw (c k b : Int) : Int := drC c k / 8 % b
theorem drw_ok (c k : Int) {b : Int} (h : 0 < b) : 0 ≤ drw c k b ∧ drw c k b < b := ⟨Int.emod_nonneg _ (by omega), Int.emod_lt_of_pos _ h⟩
@[irreducible] def sp_xlawdraw (K : PySem.W.Frag) : Sp := fun vs H Q _ => ∃ (c k b : Int), vs = [.int c, .int k, .int b] ∧ 0 ≤ k ∧ k < 1000000000 ∧ 0 < b ∧ Q (.int (drw c k b)) H
theorem go_xlawdraw {K : PySem.W.Frag} {H : Hp} {c k b : Int} {Q : VK} {E : XK} (h1 : 0 ≤ k) (h2 : k < 1000000000) (h3 : 0 < b) (q : Q (.int (drw c k b)) H) : sp_xlawdraw K [.int c, .int k, .int b] H Q E := by
  unfold sp_xlawdraw; exact ⟨c, k, b, rfl, h1, h2, h3, q⟩
section
variable {P : Program} {w : World} {K : PySem.W.Frag} {mg : Str → Option Value} {base : Heap}
theorem ok_xlawdraw {f : Addr} {fd : FuncData} (F : Fun K "_law_draw" "_law_draw" s_xlawdraw f fd) (M : Md K mg) {c : Cs} (N : Me K mg c) : FnOk P w K mg base CX0 1 f fd ["cell", "k", "bound"] (sp_xlawdraw K) := by
  refine F.ok sc_xlawdraw (fun vs H Q E h => ?_) (fun cdv A outer s H vs Q E hr h => ?_)
  · unfold sp_xlawdraw at h; obtain ⟨c, k, b, rfl, h1, h2, h3, q⟩ := h
    all_goals rfl
  · have hu := hu_of hr
    unfold sp_xlawdraw at h; obtain ⟨c, k, b, rfl, h1, h2, h3, q⟩ := h
    have hA : 0 ≤ drA c k ∧ drA c k < 2147483647 := ⟨Int.emod_nonneg _ (by decide), Int.emod_lt_of_pos _ (by decide)⟩
    have m1 : IntMulOk (977 : Int) k := mulB_left (by decide) (by decide)
    have m3 : IntMulOk (drA c k) (drA c k) := mulB_right (by omega) (by omega)
    refine ⟨_, (Evl.pss_cut (ps_set (i := 3) sc_xlawdraw.nd rfl (.inl rfl) (pe_op op_mod (pe_op op_mulB (pe_op op_add (pe_op op_add (pe_op op_mod (pv 0) pe_int) (pe_op op_mulB pe_int (pv 1))) pe_int) pe_int) pe_int))
      (Evl.pss_cut (ps_set (i := 3) sc_xlawdraw.nd rfl (.inl rfl) (pe_op op_mod (pe_op op_mulB (pv 3) (pv 3)) pe_int))
      (Evl.pss_cut (ps_set (i := 3) sc_xlawdraw.nd rfl (.inl rfl) (pe_op op_mod (pe_op op_mulB (pe_op op_add (pv 3) (pe_op op_mulB pe_int (pe_op op_add (pv 1) pe_int))) pe_int) pe_int))
      (pss_one (ps_ret (pe_op op_mod (pe_op op_fdivP (pv 3) pe_int) (pv 2))))))), ?_⟩
    refine ⟨fun σ H' => H = H' ∧ σ = [some (.int c), some (.int k), some (.int b), some (.int (drA c k))], ?_, fun σ H' hM => ?_⟩
    · refine ⟨_, rfl, _, _, rfl, rfl, (show (0 : Int) < 2147483647 by decide), _, rfl, _, _, rfl, rfl, m1, _, _, rfl, rfl, _, _, rfl, rfl, _, _, rfl, rfl, mulB_right (by decide) (by decide), _, _, rfl, rfl, (show (0 : Int) < 2147483647 by decide), ?_⟩
      exact ⟨rfl, rfl⟩
    obtain ⟨rfl, rfl⟩ := hM
    refine ⟨fun σ H' => H = H' ∧ σ = [some (.int c), some (.int k), some (.int b), some (.int (drB c k))], ?_, fun σ H' hM => ?_⟩
    · refine ⟨_, rfl, _, rfl, _, _, rfl, rfl, m3, _, _, rfl, rfl, (show (0 : Int) < 2147483629 by decide), ?_⟩
      exact ⟨rfl, rfl⟩
    obtain ⟨rfl, rfl⟩ := hM
    refine ⟨fun σ H' => H = H' ∧ σ = [some (.int c), some (.int k), some (.int b), some (.int (drC c k))], ?_, fun σ H' hM => ?_⟩
    · refine ⟨_, rfl, _, rfl, _, _, rfl, rfl, _, _, rfl, rfl, mulB_left (by decide) (by decide), _, _, rfl, rfl, _, _, rfl, rfl, mulB_right (by decide) (by decide), _, _, rfl, rfl, (show (0 : Int) < 2147483647 by decide), ?_⟩
      exact ⟨rfl, rfl⟩
    obtain ⟨rfl, rfl⟩ := hM
    refine ⟨_, rfl, _, _, rfl, rfl, cdivp_small (by decide) (by decide), _, rfl, _, _, rfl, rfl, h3, ?_⟩
    exact q
end
abbrev s_xlawfiguresby : Stmt := topS 46
theorem sc_xlawfiguresby : FnScope ["cell", "base", "many", "k"] ["cell", "base", "many"] (defScope s_xlawfiguresby) := ⟨rfl, rfl, rfl, by decide +kernel, rfl, by decide +kernel, by decide +kernel⟩
/-- so many drawn figures -/
def fgs (c b : Int) (n : Nat) : List Int := (List.range n).map fun k => drw c ((k : Nat) : Int) b
theorem fgs_len (c b : Int) (n : Nat) : (fgs c b n).length = n := by unfold fgs; rw [List.length_map, List.length_range]
theorem fgs_ok (c : Int) {b : Int} (n : Nat) (h : 0 < b) : ∀ x, x ∈ fgs c b n → 0 ≤ x ∧ x < b := fun x hx => by
  obtain ⟨k, _, rfl⟩ := List.mem_map.mp hx
  exact drw_ok c _ h
@[irreducible] def sp_xlawfiguresby (K : PySem.W.Frag) : Sp := fun vs H Q _ => ∃ (c b n : Int), vs = [.int c, .int b, .int n] ∧ 0 < b ∧ 0 ≤ n ∧ n ≤ 100000 ∧ ∀ H' p, Same H H' → H p = none → H' p = some (.lst ((fgs c b n.toNat).map V.int)) → Q (.ref p) H'
theorem go_xlawfiguresby {K : PySem.W.Frag} {H : Hp} {c b n : Int} {Q : VK} {E : XK} (h1 : 0 < b) (h2 : 0 ≤ n) (h3 : n ≤ 100000) (q : ∀ H' p, Same H H' → H p = none → H' p = some (.lst ((fgs c b n.toNat).map V.int)) → Q (.ref p) H') : sp_xlawfiguresby K [.int c, .int b, .int n] H Q E := by
  unfold sp_xlawfiguresby; exact ⟨c, b, n, rfl, h1, h2, h3, q⟩
theorem go_some {K : PySem.W.Frag} {H : Hp} {c b n : Int} {Q : VK} {E : XK} (h1 : 0 < b) (h2 : 0 ≤ n) (h3 : n ≤ 100000) (q : ∀ (rn : List Int) H' p, rn.length = n.toNat → Figs b rn → Same H H' → H p = none → H' p = some (.lst (rn.map V.int)) → Q (.ref p) H') : sp_xlawfiguresby K [.int c, .int b, .int n] H Q E :=
  go_xlawfiguresby h1 h2 h3 fun H' p s n' h => q _ H' p (fgs_len c b _) (fgs_ok c _ h1) s n' h
section
variable {P : Program} {w : World} {K : PySem.W.Frag} {mg : Str → Option Value} {base : Heap}
theorem ok_xlawfiguresby {f : Addr} {fd : FuncData} (F : Fun K "_law_figures_by" "_law_figures_by" s_xlawfiguresby f fd) (M : Md K mg) {c : Cs} (N : Me K mg c) (c_xlawdraw : Cal P w K mg base 1 "_law_draw" (sp_xlawdraw K) []) : FnOk P w K mg base CX0 2 f fd ["cell", "base", "many"] (sp_xlawfiguresby K) := by
  refine F.ok sc_xlawfiguresby (fun vs H Q E h => ?_) (fun cdv A outer s H vs Q E hr h => ?_)
  · unfold sp_xlawfiguresby at h; obtain ⟨c, b, n, rfl, h1, h2, h3, q⟩ := h
    all_goals rfl
  · have hu := hu_of hr
    unfold sp_xlawfiguresby at h; obtain ⟨c, b, n, rfl, h1, h2, h3, q⟩ := h
    refine ⟨_, (pss_one (ps_ret (pe_lc (own := [("k", 3)]) (g := gName 3) (tt := tYes) rfl sc_xlawfiguresby.nd (pi_range1 (by rfl) M.m_range (pa_cons (pv 2) pa_nil)) (blkOk_by (own := [("k", 3)]) (N := ["cell", "base", "many", "k"]) (sc := defScope s_xlawfiguresby) (by decide +kernel)) (fun _ _ _ _ _ => (pg_name (i := 3) sc_xlawfiguresby.nd rfl (.inl rfl))) (fun _ _ _ _ _ => pts_nil) (fun _ _ _ _ _ => (pe_c c_xlawdraw hr (by decide) (by rfl) (pa_cons (pv 0) (pa_cons (pv 3) (pa_cons (pv 1) pa_nil)))))))), ?_⟩
    refine ⟨_, rfl, n, rfl, by omega, by omega, fun D nD => ?_⟩
    refine lc_rng (fun k => V.int (drw c ((k : Nat) : Int) b)) nD (by omega) (fun _ => rfl) (fun k hk H' Q' s q' => ?_) (fun H' s hD => q H' D s nD ?_)
    · walk_at "st"
      exact go_xlawdraw (by omega) (by omega) h1 (q' _ (Same.refl _))
    · rw [hD]; unfold fgs; rw [List.map_map]; rfl
end
abbrev s_xlawwritingby : Stmt := topS 47
theorem sc_xlawwritingby : FnScope ["script", "first", "base", "whole", "cell", "ahead", "ring", "way", "figure"] ["script", "first", "base"] (defScope s_xlawwritingby) := ⟨rfl, rfl, rfl, by decide +kernel, rfl, by decide +kernel, by decide +kernel⟩
def MidW (H : Hp) (a : Addr) (k b w c y : Int) (nA nR : Nat) : L2.St → Hp → Prop := fun σ H' => ∃ (pa pr : Addr) (A R : List Int), Same H H' ∧ H pa = none ∧ H pr = none ∧ pa ≠ pr ∧ H' pa = some (.lst (A.map V.int)) ∧ H' pr = some (.lst (R.map V.int)) ∧ A.length ≤ nA ∧ R.length ≤ nR ∧ Figs b A ∧ Figs b R ∧
  σ = [some (.ref a), some (.int k), some (.int b), some (.int w), some (.int c), some (.ref pa), some (.ref pr), some (.int y), none]
@[irreducible] def sp_xlawwritingby (K : PySem.W.Frag) : Sp := fun vs H Q _ => ∃ (a : Addr) (ns : List Int) (k b : Int), vs = [.ref a, .int k, .int b] ∧ 0 ≤ k ∧ 2 ≤ b ∧ b ≤ 36 ∧ SqL K H a (ns.map V.int) ∧
  ∀ H' p pa pr x, WrNew H H' p pa pr x → WrOk b x → x.a.length ≤ 124 → x.r.length ≤ 138 → Q (.ref p) H'
theorem go_xlawwritingby {K : PySem.W.Frag} {H : Hp} {a : Addr} {ns : List Int} {k b : Int} {Q : VK} {E : XK} (h0 : 0 ≤ k) (h1 : 2 ≤ b) (h2 : b ≤ 36) (hS : SqL K H a (ns.map V.int)) (q : ∀ H' p pa pr x, WrNew H H' p pa pr x → WrOk b x → x.a.length ≤ 124 → x.r.length ≤ 138 → Q (.ref p) H') : sp_xlawwritingby K [.ref a, .int k, .int b] H Q E := by
  unfold sp_xlawwritingby; exact ⟨a, ns, k, b, rfl, h0, h1, h2, hS, q⟩
section
variable {P : Program} {w : World} {K : PySem.W.Frag} {mg : Str → Option Value} {base : Heap}
theorem ok_xlawwritingby {f : Addr} {fd : FuncData} (F : Fun K "_law_writing_by" "_law_writing_by" s_xlawwritingby f fd) (M : Md K mg) {c : Cs} (N : Me K mg c) (c_xlawcellat : Cal P w K mg base 1 "_law_cell_at" (sp_xlawcellat K) []) (c_xlawfiguresby : Cal P w K mg base 2 "_law_figures_by" (sp_xlawfiguresby K) []) : FnOk P w K mg base CX0 3 f fd ["script", "first", "base"] (sp_xlawwritingby K) := by
  refine F.ok sc_xlawwritingby (fun vs H Q E h => ?_) (fun cdv A outer s H vs Q E hr h => ?_)
  · unfold sp_xlawwritingby at h; obtain ⟨a, ns, k, b, rfl, h0, h1, h2, hS, q⟩ := h
    all_goals rfl
  · have hu := hu_of hr
    unfold sp_xlawwritingby at h; obtain ⟨a, ns, k, b, rfl, h0, h1, h2, hS, q⟩ := h
    refine ⟨_, (pss_cons (ps_set (i := 3) sc_xlawwritingby.nd rfl (.inl rfl) (pe_op op_mod (pe_c c_xlawcellat hr (by decide) (by rfl) (pa_cons (pv 0) (pa_cons (pv 1) pa_nil))) pe_int))
      (Evl.pss_cut (ps_if (pt_cmpR op_eq (pe_op op_mod (pe_op op_fdivP (pe_c c_xlawcellat hr (by decide) (by rfl) (pa_cons (pv 0) (pa_cons (pv 1) pa_nil))) pe_int) pe_int) pe_int (nomark _))
        (pss_one (ps_set (i := 3) sc_xlawwritingby.nd rfl (.inl rfl) (pe_op op_mod (pe_c c_xlawcellat hr (by decide) (by rfl) (pa_cons (pv 0) (pa_cons (pv 1) pa_nil))) (pe_op op_pow pe_int pe_int)))) pss_nil)
      (Evl.pss_cut (ps_if (pt_cmpR op_eq (pe_op op_mod (pe_op op_fdivP (pe_c c_xlawcellat hr (by decide) (by rfl) (pa_cons (pv 0) (pa_cons (pv 1) pa_nil))) pe_int) pe_int) pe_int (nomark _))
        (pss_one (ps_set (i := 3) sc_xlawwritingby.nd rfl (.inl rfl) (pe_op op_pow pe_int pe_int))) pss_nil)
      (pss_cons (ps_set (i := 4) sc_xlawwritingby.nd rfl (.inl rfl) (pe_c c_xlawcellat hr (by decide) (by rfl) (pa_cons (pv 0) (pa_cons (pe_op op_add (pv 1) pe_int) pa_nil))))
      (pss_cons (ps_set (i := 5) sc_xlawwritingby.nd rfl (.inl rfl) (pe_c c_xlawfiguresby hr (by decide) (by rfl) (pa_cons (pe_c c_xlawcellat hr (by decide) (by rfl) (pa_cons (pv 0) (pa_cons (pe_op op_add (pv 1) pe_int) pa_nil))) (pa_cons (pv 2) (pa_cons (pe_op op_mod (pv 4) pe_int) pa_nil)))))
      (pss_cons (ps_set (i := 6) sc_xlawwritingby.nd rfl (.inl rfl) (pe_c c_xlawfiguresby hr (by decide) (by rfl) (pa_cons (pe_c c_xlawcellat hr (by decide) (by rfl) (pa_cons (pv 0) (pa_cons (pe_op op_add (pv 1) pe_int) pa_nil))) (pa_cons (pv 2) (pa_cons (pe_op op_mod (pe_op op_fdivP (pv 4) pe_int) pe_int) pa_nil)))))
      (pss_cons (ps_set (i := 7) sc_xlawwritingby.nd rfl (.inl rfl) (pe_op op_mod (pe_op op_fdivP (pv 4) pe_int) pe_int))
      (pss_cons (ps_if (pt_cmpR op_eq (pe_op op_mod (pe_op op_fdivP (pv 4) pe_int) pe_int) pe_int (nomark _))
        (pss_cons (ps_set (i := 6) sc_xlawwritingby.nd rfl (.inl rfl) (pe_c c_xlawfiguresby hr (by decide) (by rfl) (pa_cons (pe_c c_xlawcellat hr (by decide) (by rfl) (pa_cons (pv 0) (pa_cons (pe_op op_add (pv 1) pe_int) pa_nil))) (pa_cons (pv 2) (pa_cons (pe_op op_add pe_int (pe_op op_mod (pe_op op_fdivP (pv 4) pe_int) pe_int)) pa_nil)))))
      (pss_cons (ps_set (i := 5) sc_xlawwritingby.nd rfl (.inl rfl) (pe_op op_cat (pe_op op_cat (pv 5) (pe_c c_xlawfiguresby hr (by decide) (by rfl) (pa_cons (pe_c c_xlawcellat hr (by decide) (by rfl) (pa_cons (pv 0) (pa_cons (pe_op op_add (pv 1) pe_int) pa_nil))) (pa_cons (pv 2) (pa_cons pe_int pa_nil))))) (pe_slice sl_list (pv 6) (po_some (pe_op op_mod (pv 4) pe_int)) po_none)))
      (pss_one (ps_ret (pe_tup (pa_cons (pv 3) (pa_cons (pv 5) (pa_cons (pe_op op_rep (pv 6) (pe_op op_add pe_int (pe_op op_mod (pv 4) pe_int))) pa_nil)))))))) pss_nil)
      (Evl.pss_cut (ps_if (pt_cmpR op_eq (pv 7) pe_int (nomark _))
        (pss_one (ps_setLc (i := 6) (own := [("figure", 8)]) (g := gName 8) (tt := tYes) rfl sc_xlawwritingby.nd rfl rfl (sw_true rfl rfl rfl (by decide +kernel)) (pi_list (pv 6)) (blkOk_by (own := [("figure", 8)]) (N := ["script", "first", "base", "whole", "cell", "ahead", "ring", "way", "figure"]) (sc := defScope s_xlawwritingby) (by decide +kernel)) (fun _ _ _ _ _ => (pg_name (i := 8) sc_xlawwritingby.nd rfl (.inl rfl))) (fun _ _ _ _ _ => pts_nil) (fun _ _ _ _ _ => (pe_op op_sub (pv 2) pe_int)))) pss_nil)
      (Evl.pss_cut (ps_if (pt_cmpR op_eq (pv 7) pe_int (nomark _))
        (pss_one (ps_setLc (i := 6) (own := [("figure", 8)]) (g := gName 8) (tt := tYes) rfl sc_xlawwritingby.nd rfl rfl (sw_true rfl rfl rfl (by decide +kernel)) (pi_list (pv 6)) (blkOk_by (own := [("figure", 8)]) (N := ["script", "first", "base", "whole", "cell", "ahead", "ring", "way", "figure"]) (sc := defScope s_xlawwritingby) (by decide +kernel)) (fun _ _ _ _ _ => (pg_name (i := 8) sc_xlawwritingby.nd rfl (.inl rfl))) (fun _ _ _ _ _ => pts_nil) (fun _ _ _ _ _ => pe_int))) pss_nil)
      (Evl.pss_cut (ps_if (pt_cmpR op_eq (pv 7) pe_int (nomark _))
        (pss_one (ps_set (i := 6) sc_xlawwritingby.nd rfl (.inl rfl) (pe_op op_cat (pv 6) (pv 6)))) pss_nil)
      (Evl.pss_cut (ps_if (pt_cmpR op_eq (pv 7) pe_int (nomark _))
        (pss_one (ps_set (i := 5) sc_xlawwritingby.nd rfl (.inl rfl) (pe_op op_cat (pv 5) (pe_slice sl_list (pv 6) (po_some pe_int) po_none)))) pss_nil)
      (Evl.pss_cut (ps_if (pt_cmpR op_eq (pv 7) pe_int (nomark _))
        (pss_cons (ps_set (i := 5) sc_xlawwritingby.nd rfl (.inl rfl) (pe_op op_cat (pv 5) (pe_lc (own := [("figure", 8)]) (g := gName 8) (tt := tYes) rfl sc_xlawwritingby.nd (pi_list (pv 6)) (blkOk_by (own := [("figure", 8)]) (N := ["script", "first", "base", "whole", "cell", "ahead", "ring", "way", "figure"]) (sc := defScope s_xlawwritingby) (by decide +kernel)) (fun _ _ _ _ _ => (pg_name (i := 8) sc_xlawwritingby.nd rfl (.inl rfl))) (fun _ _ _ _ _ => pts_nil) (fun _ _ _ _ _ => (pe_op op_sub (pv 2) pe_int)))))
      (pss_one (ps_set (i := 6) sc_xlawwritingby.nd rfl (.inl rfl) (pe_lst (pa_cons (pe_op op_sub (pv 2) pe_int) pa_nil))))) pss_nil)
      (Evl.pss_cut (ps_if (pt_cmpR op_eq (pv 7) pe_int (nomark _))
        (pss_cons (ps_set (i := 5) sc_xlawwritingby.nd rfl (.inl rfl) (pe_op op_cat (pv 5) (pe_lc (own := [("figure", 8)]) (g := gName 8) (tt := tYes) rfl sc_xlawwritingby.nd (pi_list (pv 6)) (blkOk_by (own := [("figure", 8)]) (N := ["script", "first", "base", "whole", "cell", "ahead", "ring", "way", "figure"]) (sc := defScope s_xlawwritingby) (by decide +kernel)) (fun _ _ _ _ _ => (pg_name (i := 8) sc_xlawwritingby.nd rfl (.inl rfl))) (fun _ _ _ _ _ => pts_nil) (fun _ _ _ _ _ => pe_int))))
      (pss_one (ps_set (i := 6) sc_xlawwritingby.nd rfl (.inl rfl) (pe_lst pa_nil)))) pss_nil)
      (Evl.pss_cut (ps_if (pt_cmpR op_eq (pv 7) pe_int (nomark _))
        (pss_one (ps_set (i := 6) sc_xlawwritingby.nd rfl (.inl rfl) (pe_op op_rep (pe_slice sl_list (pv 6) po_none (po_some pe_int)) (pe_op op_add pe_int (pe_op op_mod (pe_op op_fdivP (pv 4) pe_int) pe_int))))) pss_nil)
      (pss_one (ps_ret (pe_tup (pa_cons (pv 3) (pa_cons (pv 5) (pa_cons (pv 6) pa_nil))))))))))))))))))))), ?_⟩
    walk_at "st"
    refine ⟨fun σ H' => H = H' ∧ ∃ wh : Int, 0 ≤ wh ∧ wh ≤ 1000000000000 ∧ σ = [some (.ref a), some (.int k), some (.int b), some (.int wh), none, none, none, none, none], ?_, fun σ H' hM => ?_⟩
    · walk_at "st"
      refine iteE (fun c1 => ?_) (fun c1 => ?_)
      · walk_at "st"
        exact ⟨_, Int.emod_nonneg _ (by decide), Int.le_of_lt (Int.emod_lt_of_pos _ (by decide)), rfl⟩
      · exact ⟨rfl, _, Int.emod_nonneg _ (by decide), by show cl ns k.toNat % 40 ≤ _; omega, rfl⟩
    obtain ⟨rfl, wh, hw1, hw2, rfl⟩ := hM
    refine ⟨fun σ H' => H = H' ∧ ∃ wh : Int, 0 ≤ wh ∧ wh ≤ 1000000000000 ∧ σ = [some (.ref a), some (.int k), some (.int b), some (.int wh), none, none, none, none, none], ?_, fun σ H' hM => ?_⟩
    · walk_at "st"
      refine iteE (fun c1 => ?_) (fun c1 => ?_)
      · walk_at "st"
        exact ⟨_, by decide, by decide, rfl⟩
      · exact ⟨rfl, wh, hw1, hw2, rfl⟩
    clear hw1 hw2
    clear wh
    obtain ⟨rfl, wh, hw1, hw2, rfl⟩ := hM
    walk_at "st"
    generalize cl ns (k + 1).toNat = c
    refine go_some (by omega) (by omega) (by omega) (fun A0 H1 pa l1 f1 s1 n1 ha1 => ?_)
    have hS1 := s1.seq hS
    walk_at "st"
    refine go_some (by omega) (by omega) (by omega) (fun R0 H2 pr l2 f2 s2 n2 hr2 => ?_)
    have s12 := s1.trans s2
    have hS2 := s12.seq hS
    have ha2 := s2 _ _ ha1
    have nar : pa ≠ pr := ne_of_none ha1 n2
    have n2' := s1.free n2
    walk_at "st"
    refine iteE (fun c1 => ?_) (fun c1 => ?_)
    · -- the long ones
      walk_at "st"
      refine go_some (by omega) (by omega) (by omega) (fun R3 H3 p3 l3 f3 s3 n3 h3 => ?_)
      have s13 := s12.trans s3
      have hS3 := s13.seq hS
      have ha3 := s3 _ _ ha2
      have n3' := s12.free n3
      walk_at "st"
      refine go_some (by omega) (by omega) (by omega) (fun A4 H4 p4 l4 f4 s4 n4 h4 => ?_)
      have s14 := s13.trans s4
      have ha4 := s4 _ _ ha3
      have h34 := s4 _ _ h3
      refine ⟨pa, p4, _, _, rfl, rfl, ha4, h4, sz100 (by simp only [List.length_map]; omega), fun p5 np5 => ?_⟩
      rw [← List.map_append]
      have s15 := same_ups (o := .lst ((A0 ++ A4).map V.int)) s14 np5
      have h35 := (upd_ne (o := .lst ((A0 ++ A4).map V.int)) (ne_of_none h34 np5)).trans h34
      have h55 := upd_same (H := H4) (a := p5) (o := .lst ((A0 ++ A4).map V.int))
      have n5' := s14.free np5
      have f5 := figs_app f1 f4
      have l5 : (A0 ++ A4).length ≤ 55 := by rw [List.length_append]; omega
      generalize upd H4 p5 (.lst ((A0 ++ A4).map V.int)) = H5 at *
      generalize A0 ++ A4 = A5 at *
      walk_at "st"
      refine ⟨p3, _, rfl, sql h35, fun p6 np6 => ?_⟩
      rw [cut_litd R3 (c % 9).toNat _ (Int.toNat_of_nonneg (Int.emod_nonneg _ (by decide))).symm]
      have h56 := (upd_ne (o := .lst ((R3.drop (c % 9).toNat).map V.int)) (ne_of_none h55 np6)).trans h55
      have h36 := (upd_ne (o := .lst ((R3.drop (c % 9).toNat).map V.int)) (ne_of_none h35 np6)).trans h35
      have s16 := same_ups (o := .lst ((R3.drop (c % 9).toNat).map V.int)) s15 np6
      refine ⟨p5, p6, _, _, rfl, rfl, h56, upd_same, sz100 (by simp only [List.length_map, List.length_drop]; omega), fun p7 np7 => ?_⟩
      rw [← List.map_append]
      have s17 := same_ups (o := .lst ((A5 ++ R3.drop (c % 9).toNat).map V.int)) s16 np7
      have h37 := (upd_ne (o := .lst ((A5 ++ R3.drop (c % 9).toNat).map V.int)) (ne_of_none h36 np7)).trans h36
      have n7' := s16.free np7
      walk_at "st"
      refine ⟨p3, _, _, rfl, rfl, h37, by omega, by omega, sz100 ?_, fun p8 np8 => ?_⟩
      · rw [List.length_map]
        have : (1 + c % 2).toNat ≤ 2 := by omega
        exact Nat.le_trans (Nat.mul_le_mul_left _ this) (by omega)
      walk_at "st"
      intro p9 np9
      have np8' := free_upd np9
      have l8 : (R3.drop (c % 9).toNat).length ≤ 69 := by rw [List.length_drop]; omega
      have l9 : (List.replicate (1 + c % 2).toNat R3).flatten.length ≤ 138 := by
        rw [rep_len]
        have : (1 + c % 2).toNat ≤ 2 := by omega
        exact Nat.le_trans (Nat.mul_le_mul_right _ this) (by omega)
      have l10 : (A5 ++ R3.drop (c % 9).toNat).length ≤ 124 := by rw [List.length_append]; omega
      refine q _ p9 p7 p8 ⟨wh, A5 ++ R3.drop (c % 9).toNat, (List.replicate (1 + c % 2).toNat R3).flatten⟩ ⟨⟨upd_same, ?_, ?_⟩, same_ups (same_ups s17 np8) np9, s17.free np8', n7', s17.free np8, Ne.symm (ne_new np8)⟩ ⟨hw1, hw2, by exact Nat.le_trans l10 (by decide), by exact Nat.le_trans l9 (by decide), figs_app f5 (figs_drop f3 _), figs_rep f3 _⟩ l10 l9
      · rw [upd_ne (Ne.symm (ne_new np8')), upd_ne (Ne.symm (ne_new np8)), upd_same]
      · rw [upd_ne (Ne.symm (ne_new np9)), upd_same, rep_map]
    · refine ⟨MidW H a k b wh c (c / 42 % 8) 5 6, ?_, fun σ H' hM => ?_⟩
      · walk_at "st"
        refine iteE (fun c2 => ?_) (fun c2 => ?_)
        · walk_at "st"
          refine ⟨⟨_, sql hr2⟩, fun D nD => ?_⟩
          refine lc_vals (K := K) (fun v => V.int (b - 1)) (sql hr2) nD (by rw [List.length_map]; omega) (fun _ => rfl) (fun x hx H' Q' s q' => ?_) (fun H3 s3 hD => ?_)
          · walk_at "st"
            exact q' _ (Same.refl _)
          · rw [List.map_map] at hD
            exact ⟨pa, D, A0, R0.map (fun _ => b - 1), s12.trans s3, n1, s12.free nD, ne_of_none ha2 nD, s3 _ _ ha2, by rw [hD, List.map_map]; rfl, by omega, by rw [List.length_map]; omega, f1, figs_const ⟨by omega, by omega⟩, rfl⟩
        · exact ⟨pa, pr, A0, R0, s12, n1, n2', nar, ha2, hr2, by omega, by omega, f1, f2, rfl⟩
      clear s1 s2 s12 hS1 hS2 n1 n2 n2' nar ha1 ha2 hr2 f1 f2 l1 l2
      clear H1 H2 pa pr A0 R0
      obtain ⟨pa, pr, A, R, s1, na, nr, nar, ha, hr', la, lr, fa, fr, rfl⟩ := hM
      refine ⟨MidW H a k b wh c (c / 42 % 8) 5 6, ?_, fun σ H' hM => ?_⟩
      · walk_at "st"
        refine iteE (fun c2 => ?_) (fun c2 => ?_)
        · walk_at "st"
          refine ⟨⟨_, sql hr'⟩, fun D nD => ?_⟩
          refine lc_vals (K := K) (fun v => V.int 0) (sql hr') nD (by rw [List.length_map]; omega) (fun _ => rfl) (fun x hx H' Q' s q' => ?_) (fun H3 s3 hD => ?_)
          · walk_at "st"
            exact q' _ (Same.refl _)
          · rw [List.map_map] at hD
            exact ⟨pa, D, A, R.map (fun _ => 0), s1.trans s3, na, s1.free nD, ne_of_none ha nD, s3 _ _ ha, by rw [hD, List.map_map]; rfl, by omega, by rw [List.length_map]; omega, fa, figs_const ⟨by omega, by omega⟩, rfl⟩
        · exact ⟨pa, pr, A, R, s1, na, nr, nar, ha, hr', by omega, by omega, fa, fr, rfl⟩
      clear s1 na nr nar ha hr' la lr fa fr
      clear pa pr A R
      obtain ⟨pa, pr, A, R, s1, na, nr, nar, ha, hr', la, lr, fa, fr, rfl⟩ := hM
      refine ⟨MidW H a k b wh c (c / 42 % 8) 5 12, ?_, fun σ H' hM => ?_⟩
      · walk_at "st"
        refine iteE (fun c2 => ?_) (fun c2 => ?_)
        · walk_at "st"
          refine ⟨pr, pr, _, _, rfl, rfl, hr', hr', sz100 (by simp only [List.length_map]; omega), fun D nD => ?_⟩
          rw [← List.map_append]
          exact ⟨pa, D, A, R ++ R, same_ups s1 nD, na, s1.free nD, ne_of_none ha nD, (upd_ne (ne_of_none ha nD)).trans ha, upd_same, by omega, by rw [List.length_append]; omega, fa, figs_app fr fr, rfl⟩
        · exact ⟨pa, pr, A, R, s1, na, nr, nar, ha, hr', by omega, by omega, fa, fr, rfl⟩
      clear s1 na nr nar ha hr' la lr fa fr
      clear pa pr A R
      obtain ⟨pa, pr, A, R, s1, na, nr, nar, ha, hr', la, lr, fa, fr, rfl⟩ := hM
      refine ⟨MidW H a k b wh c (c / 42 % 8) 17 12, ?_, fun σ H' hM => ?_⟩
      · walk_at "st"
        refine iteE (fun c2 => ?_) (fun c2 => ?_)
        · walk_at "st"
          refine ⟨pr, _, rfl, sql hr', fun D nD => ?_⟩
          rw [cut_litd R 1 1 rfl]
          have h2a := (upd_ne (o := .lst ((R.drop 1).map V.int)) (ne_of_none ha nD)).trans ha
          have h2r := (upd_ne (o := .lst ((R.drop 1).map V.int)) (ne_of_none hr' nD)).trans hr'
          have s2 := same_ups (o := .lst ((R.drop 1).map V.int)) s1 nD
          refine ⟨pa, D, _, _, rfl, rfl, h2a, upd_same, sz100 (by simp only [List.length_map, List.length_drop]; omega), fun D2 nD2 => ?_⟩
          rw [← List.map_append]
          exact ⟨D2, pr, A ++ R.drop 1, R, same_ups s2 nD2, s2.free nD2, nr, Ne.symm (ne_of_none h2r nD2), upd_same, (upd_ne (ne_of_none h2r nD2)).trans h2r, by rw [List.length_append, List.length_drop]; omega, by omega, figs_app fa (figs_drop fr 1), fr, rfl⟩
        · exact ⟨pa, pr, A, R, s1, na, nr, nar, ha, hr', by omega, by omega, fa, fr, rfl⟩
      clear s1 na nr nar ha hr' la lr fa fr
      clear pa pr A R
      obtain ⟨pa, pr, A, R, s1, na, nr, nar, ha, hr', la, lr, fa, fr, rfl⟩ := hM
      refine ⟨MidW H a k b wh c (c / 42 % 8) 29 12, ?_, fun σ H' hM => ?_⟩
      · walk_at "st"
        refine iteE (fun c2 => ?_) (fun c2 => ?_)
        · walk_at "st"
          refine ⟨⟨_, sql hr'⟩, fun D nD => ?_⟩
          refine lc_vals (K := K) (fun v => V.int (b - 1)) (sql hr') nD (by rw [List.length_map]; omega) (fun _ => rfl) (fun x hx H' Q' s q' => ?_) (fun H3 s3 hD => ?_)
          · walk_at "st"
            exact q' _ (Same.refl _)
          · have hD' : H3 D = some (.lst ((R.map (fun _ => b - 1)).map V.int)) := by rw [hD, List.map_map, List.map_map]; rfl
            have ha3 := s3 _ _ ha
            refine ⟨pa, D, _, _, rfl, rfl, ha3, hD', sz100 (by simp only [List.length_map]; omega), fun D2 nD2 => ?_⟩
            rw [← List.map_append]
            have s4 := same_ups (o := .lst ((A ++ R.map (fun _ => b - 1)).map V.int)) (s1.trans s3) nD2
            walk_at "st"
            intro D3 nD3
            exact ⟨D2, D3, A ++ R.map (fun _ => b - 1), [b - 1], same_ups s4 nD3, (s1.trans s3).free nD2, s4.free nD3, Ne.symm (ne_new nD3), (upd_ne (Ne.symm (ne_new nD3))).trans upd_same, upd_same, by rw [List.length_append, List.length_map]; omega, by show 1 ≤ 12; decide, figs_app fa (figs_const ⟨by omega, by omega⟩), figs_one ⟨by omega, by omega⟩, rfl⟩
        · exact ⟨pa, pr, A, R, s1, na, nr, nar, ha, hr', by omega, by omega, fa, fr, rfl⟩
      clear s1 na nr nar ha hr' la lr fa fr
      clear pa pr A R
      obtain ⟨pa, pr, A, R, s1, na, nr, nar, ha, hr', la, lr, fa, fr, rfl⟩ := hM
      refine ⟨MidW H a k b wh c (c / 42 % 8) 41 12, ?_, fun σ H' hM => ?_⟩
      · walk_at "st"
        refine iteE (fun c2 => ?_) (fun c2 => ?_)
        · walk_at "st"
          refine ⟨⟨_, sql hr'⟩, fun D nD => ?_⟩
          refine lc_vals (K := K) (fun v => V.int 0) (sql hr') nD (by rw [List.length_map]; omega) (fun _ => rfl) (fun x hx H' Q' s q' => ?_) (fun H3 s3 hD => ?_)
          · walk_at "st"
            exact q' _ (Same.refl _)
          · have hD' : H3 D = some (.lst ((R.map (fun _ => (0 : Int))).map V.int)) := by rw [hD, List.map_map, List.map_map]; rfl
            have ha3 := s3 _ _ ha
            refine ⟨pa, D, _, _, rfl, rfl, ha3, hD', sz100 (by simp only [List.length_map]; omega), fun D2 nD2 => ?_⟩
            rw [← List.map_append]
            have s4 := same_ups (o := .lst ((A ++ R.map (fun _ => (0 : Int))).map V.int)) (s1.trans s3) nD2
            walk_at "st"
            intro D3 nD3
            exact ⟨D2, D3, A ++ R.map (fun _ => (0 : Int)), [], same_ups s4 nD3, (s1.trans s3).free nD2, s4.free nD3, Ne.symm (ne_new nD3), (upd_ne (Ne.symm (ne_new nD3))).trans upd_same, upd_same, by rw [List.length_append, List.length_map]; omega, by show 0 ≤ 12; decide, figs_app fa (figs_const ⟨by omega, by omega⟩), figs_nil, rfl⟩
        · exact ⟨pa, pr, A, R, s1, na, nr, nar, ha, hr', by omega, by omega, fa, fr, rfl⟩
      clear s1 na nr nar ha hr' la lr fa fr
      clear pa pr A R
      obtain ⟨pa, pr, A, R, s1, na, nr, nar, ha, hr', la, lr, fa, fr, rfl⟩ := hM
      have hS1 := s1.seq hS
      refine ⟨MidW H a k b wh c (c / 42 % 8) 41 14, ?_, fun σ H' hM => ?_⟩
      · walk_at "st"
        refine iteE (fun c2 => ?_) (fun c2 => ?_)
        · walk_at "st"
          refine ⟨pr, _, rfl, sql hr', fun D nD => ?_⟩
          rw [cut_lit R 2 2 rfl]
          have h2a := (upd_ne (o := .lst ((R.take 2).map V.int)) (ne_of_none ha nD)).trans ha
          have s2 := same_ups (o := .lst ((R.take 2).map V.int)) s1 nD
          have l2 : (R.take 2).length ≤ 2 := by rw [List.length_take]; omega
          have e7 : (3 + c / 336 % 5).toNat ≤ 7 := by omega
          walk_at "st"
          refine ⟨D, _, _, rfl, rfl, upd_same, by omega, by omega, sz100 ?_, fun D2 nD2 => ?_⟩
          · rw [List.length_map]
            exact Nat.le_trans (Nat.mul_le_mul l2 e7) (by decide)
          refine ⟨pa, D2, A, (List.replicate (3 + c / 336 % 5).toNat (R.take 2)).flatten, same_ups s2 nD2, na, s2.free nD2, ne_of_none h2a nD2, (upd_ne (ne_of_none h2a nD2)).trans h2a, ?_, la, ?_, fa, figs_rep (figs_take fr 2) _, rfl⟩
          · rw [upd_same, rep_map]
          · rw [rep_len]
            exact Nat.le_trans (Nat.mul_le_mul e7 l2) (by decide)
        · exact ⟨pa, pr, A, R, s1, na, nr, nar, ha, hr', by omega, by omega, fa, fr, rfl⟩
      clear s1 na nr nar ha hr' la lr fa fr hS1
      clear pa pr A R
      obtain ⟨pa, pr, A, R, s1, na, nr, nar, ha, hr', la, lr, fa, fr, rfl⟩ := hM
      walk_at "st"
      intro p np
      exact q _ p pa pr ⟨wh, A, R⟩ ⟨⟨upd_same, (upd_ne (ne_of_none ha np)).trans ha, (upd_ne (ne_of_none hr' np)).trans hr'⟩, same_ups s1 np, s1.free np, na, nr, nar⟩ ⟨hw1, hw2, by exact Nat.le_trans la (by decide), by exact Nat.le_trans lr (by decide), fa, fr⟩ (Nat.le_trans la (by decide)) (Nat.le_trans lr (by decide))
end
abbrev s_xlawcopy : Stmt := topS 48
theorem sc_xlawcopy : FnScope ["writing"] ["writing"] (defScope s_xlawcopy) := ⟨rfl, rfl, rfl, by decide +kernel, rfl, by decide +kernel, by decide +kernel⟩
@[irreducible] def sp_xlawcopy (K : PySem.W.Frag) : Sp := fun vs H Q _ => ∃ (p a r : Addr) (x : Wr), vs = [.ref p] ∧ WrAt H p a r x ∧ ∀ H' p' a' r', WrNew H H' p' a' r' x → Q (.ref p') H'
theorem go_xlawcopy {K : PySem.W.Frag} {H : Hp} {p a r : Addr} {x : Wr} {Q : VK} {E : XK} (h : WrAt H p a r x) (q : ∀ H' p' a' r', WrNew H H' p' a' r' x → Q (.ref p') H') : sp_xlawcopy K [.ref p] H Q E := by
  unfold sp_xlawcopy; exact ⟨p, a, r, x, rfl, h, q⟩
section
variable {P : Program} {w : World} {K : PySem.W.Frag} {mg : Str → Option Value} {base : Heap}
theorem ok_xlawcopy {f : Addr} {fd : FuncData} (F : Fun K "_law_copy" "_law_copy" s_xlawcopy f fd) (M : Md K mg) {c : Cs} (N : Me K mg c) : FnOk P w K mg base CX0 1 f fd ["writing"] (sp_xlawcopy K) := by
  refine F.ok sc_xlawcopy (fun vs H Q E h => ?_) (fun cdv A outer s H vs Q E hr h => ?_)
  · unfold sp_xlawcopy at h; obtain ⟨p, a, r, x, rfl, h, q⟩ := h
    all_goals rfl
  · have hu := hu_of hr
    unfold sp_xlawcopy at h; obtain ⟨p, a, r, x, rfl, h, q⟩ := h
    have ht := h.tp
    have ha := h.la
    have hr' := h.lr
    refine ⟨_, (pss_one (ps_ret (pe_tup (pa_cons (pe_ix ix_tup (pv 0) pe_int (fun _ _ => rfl)) (pa_cons (pe_callTy call_list_of (by rfl) M.m_list (by decide +kernel) (pa_cons (pe_ix ix_tup (pv 0) pe_int (fun _ _ => rfl)) pa_nil)) (pa_cons (pe_callTy call_list_of (by rfl) M.m_list (by decide +kernel) (pa_cons (pe_ix ix_tup (pv 0) pe_int (fun _ _ => rfl)) pa_nil)) pa_nil)))))), ?_⟩
    walk_at "st"
    intro a2 na2
    have s1 := same_upd (o := .lst (x.a.map V.int)) na2
    have ht1 := s1 _ _ ht
    have hr1 := s1 _ _ hr'
    walk_at "st"
    intro r2 nr2
    have s2 := same_ups (o := .lst (x.r.map V.int)) s1 nr2
    walk_at "st"
    intro p2 np2
    have np3 := free_upd np2
    refine q _ p2 a2 r2 ⟨⟨upd_same, ?_, ?_⟩, same_ups s2 np2, free_upd np3, na2, free_upd nr2, Ne.symm (ne_new nr2)⟩
    · rw [upd_ne (Ne.symm (ne_new np3)), upd_ne (Ne.symm (ne_new nr2)), upd_same]
    · rw [upd_ne (Ne.symm (ne_new np2)), upd_same]
end
abbrev s_xlawwordof : Stmt := topS 49
theorem sc_xlawwordof : FnScope ["e", "kinds"] ["e"] (defScope s_xlawwordof) := ⟨rfl, rfl, rfl, by decide +kernel, rfl, by decide +kernel, by decide +kernel⟩
def wordL : List Str := [Str.ofString "base", Str.ofString "fraction", Str.ofString "writing", Str.ofString "number", Str.ofString "long", Str.ofString "note"]
/-- the word of the j-th class -/
def word (j : Nat) : Str := wordL.getD j (Str.ofString "other")
@[irreducible] def sp_xlawwordof (K : PySem.W.Frag) (c : Cs) (a : Addr) (cls : Value) (d : Option Addr) : Sp := fun vs H Q _ => ∃ (D : Addr) (j : Nat), cls = .ref D ∧ d = none ∧ WordAt K c D j ∧ vs = [.ref a] ∧ ∀ H', Same H H' → Q (.str (word j)) H'
theorem go_xlawwordof {K : PySem.W.Frag} {c : Cs} {a : Addr} {D : Addr} {H : Hp} {Q : VK} {E : XK} (j : Nat) (hw : WordAt K c D j) (q : ∀ H', Same H H' → Q (.str (word j)) H') : sp_xlawwordof K c a (.ref D) none [.ref a] H Q E := by
  unfold sp_xlawwordof; exact ⟨D, j, rfl, rfl, hw, rfl, q⟩
theorem wd6 : ∀ {j : Nat}, j < 6 → (wordL.map V.str)[j]? = some (.str (word j)) := fun {j} h =>
  match j, h with
  | 0, _ => rfl
  | 1, _ => rfl
  | 2, _ => rfl
  | 3, _ => rfl
  | 4, _ => rfl
  | 5, _ => rfl
  | j + 6, h => absurd h (by omega)
theorem cnt6 : ∀ {j : Nat}, j < 6 → [j == 0, j == 1, j == 2, j == 3, j == 4, j == 5].count true = 1 := by decide
theorem ix6 : ∀ {j : Nat}, j < 6 → [V.bl (j == 0), .bl (j == 1), .bl (j == 2), .bl (j == 3), .bl (j == 4), .bl (j == 5)][j]? = some (.bl true) := by decide
theorem no6 : ∀ {j : Nat}, j < 6 → ∀ m : Nat, m < j → ∀ z, [V.bl (j == 0), .bl (j == 1), .bl (j == 2), .bl (j == 3), .bl (j == 4), .bl (j == 5)][m]? = some z → eqV z (.bl true) = false := by
  intro j h m hm z hz
  have key : ∀ {j : Nat}, j < 6 → ∀ m : Nat, m < j → [V.bl (j == 0), .bl (j == 1), .bl (j == 2), .bl (j == 3), .bl (j == 4), .bl (j == 5)][m]? = some (.bl false) := by decide
  rw [key h m hm] at hz
  rw [← Option.some.inj hz]
  decide
section
variable {P : Program} {w : World} {K : PySem.W.Frag} {mg : Str → Option Value} {base : Heap}
theorem ok_xlawwordof {f : Addr} {fd : FuncData} (F : Fun K "_law_word_of" "_law_word_of" s_xlawwordof f fd) (M : Md K mg) {c : Cs} (N : Me K mg c) (p : Addr × Obj) (cls : Value) (d : Option Addr) (hz : Zc cls d p.2) (hf : ∃ vs, p.2.data = .fields vs) : FnE P w K mg base p 1 f fd ["e"] (sp_xlawwordof K c p.1 cls d) := by
  refine Fun.okE F sc_xlawwordof (fun vs H Q E h => ?_) (fun cdv A outer s H vs Q E hr h => ?_)
  · unfold sp_xlawwordof at h; obtain ⟨D, j, rfl, rfl, hw, rfl, q⟩ := h
    all_goals rfl
  · unfold sp_xlawwordof at h; obtain ⟨D, j, rfl, rfl, hw, rfl, q⟩ := h
    have q0 := hw.q0
    have q1 := hw.q1
    have q2 := hw.q2
    have q3 := hw.q3
    have q4 := hw.q4
    have q5 := hw.q5
    have qv := hw.v
    have j6 := hw.j6
    refine ⟨_, (pss_cons (ps_set (i := 1) sc_xlawwordof.nd rfl (.inl rfl) (pe_lst (pa_cons (pe_callB (call_isP (p := p) (List.mem_singleton.mpr rfl) hw.i hz hf) (by rfl) M.m_isinstance (by decide +kernel) (pa_cons (pv 0) (pa_cons (pe_gc (v := .ref c.NoBase) (by rfl) ⟨_, N.g_NoBase, rfl⟩) pa_nil))) (pa_cons (pe_callB (call_isP (p := p) (List.mem_singleton.mpr rfl) hw.i hz hf) (by rfl) M.m_isinstance (by decide +kernel) (pa_cons (pv 0) (pa_cons (pe_gc (v := .ref c.NoFraction) (by rfl) ⟨_, N.g_NoFraction, rfl⟩) pa_nil))) (pa_cons (pe_callB (call_isP (p := p) (List.mem_singleton.mpr rfl) hw.i hz hf) (by rfl) M.m_isinstance (by decide +kernel) (pa_cons (pv 0) (pa_cons (pe_gc (v := .ref c.NoWriting) (by rfl) ⟨_, N.g_NoWriting, rfl⟩) pa_nil))) pa_nil)))))
      (pss_cons (ps_set (i := 1) sc_xlawwordof.nd rfl (.inl rfl) (pe_op op_cat (pv 1) (pe_lst (pa_cons (pe_callB (call_isP (p := p) (List.mem_singleton.mpr rfl) hw.i hz hf) (by rfl) M.m_isinstance (by decide +kernel) (pa_cons (pv 0) (pa_cons (pe_gc (v := .ref c.NoNumber) (by rfl) ⟨_, N.g_NoNumber, rfl⟩) pa_nil))) (pa_cons (pe_callB (call_isP (p := p) (List.mem_singleton.mpr rfl) hw.i hz hf) (by rfl) M.m_isinstance (by decide +kernel) (pa_cons (pv 0) (pa_cons (pe_gc (v := .ref c.TooLong) (by rfl) ⟨_, N.g_TooLong, rfl⟩) pa_nil))) (pa_cons (pe_callB (call_isP (p := p) (List.mem_singleton.mpr rfl) hw.i hz hf) (by rfl) M.m_isinstance (by decide +kernel) (pa_cons (pv 0) (pa_cons (pe_gc (v := .ref c.NoNote) (by rfl) ⟨_, N.g_NoNote, rfl⟩) pa_nil))) pa_nil))))))
      (pss_cons (ps_if (PW.pt (pw_or (pt_cmpR op_ne (pe_bm PySem.F.plainAttrs_list PySem.F.slot_list_count PySem.F.type_list_count mt_bcount (pv 1) (pa_cons pe_bl pa_nil)) pe_int (nomark _)) (pw_or1 (pt_not (pt_val (pe_callB (call_isP (p := p) (List.mem_singleton.mpr rfl) hw.i hz hf) (by rfl) M.m_isinstance (by decide +kernel) (pa_cons (pv 0) (pa_cons (pe_bltn (v := .ty "ValueError") (by rfl) M.m_ValueError (by decide +kernel) rfl) pa_nil))))))))
        (pss_one (ps_ret pe_str)) pss_nil)
      (pss_one (ps_ret (pe_ix ix_list (pe_lst (pa_cons pe_str (pa_cons pe_str (pa_cons pe_str (pa_cons pe_str (pa_cons pe_str (pa_cons pe_str pa_nil))))))) (pe_bm PySem.F.plainAttrs_list PySem.F.slot_list_index PySem.F.type_list_index mt_index (pv 1) (pa_cons pe_bl pa_nil)) (fun _ _ => rfl))))))), ?_⟩
    walk_at "st"
    refine ⟨_, _, _, rfl, fun _ r => r, q0, ?_⟩
    walk_at "st"
    refine ⟨_, _, _, rfl, fun _ r => r, q1, ?_⟩
    walk_at "st"
    refine ⟨_, _, _, rfl, fun _ r => r, q2, ?_⟩
    walk_at "st"
    intro l1 n1
    have s1 := same_upd (o := .lst [.bl (j == 0), .bl (j == 1), .bl (j == 2)]) n1
    have k1 := upd_same (H := H) (a := l1) (o := .lst [.bl (j == 0), .bl (j == 1), .bl (j == 2)])
    generalize upd H l1 (.lst [.bl (j == 0), .bl (j == 1), .bl (j == 2)]) = H1 at *
    walk_at "st"
    refine ⟨_, _, _, rfl, fun _ r => r, q3, ?_⟩
    walk_at "st"
    refine ⟨_, _, _, rfl, fun _ r => r, q4, ?_⟩
    walk_at "st"
    refine ⟨_, _, _, rfl, fun _ r => r, q5, ?_⟩
    walk_at "st"
    intro l2 n2
    have s2 := same_ups (o := .lst [.bl (j == 3), .bl (j == 4), .bl (j == 5)]) s1 n2
    have k2 := upd_same (H := H1) (a := l2) (o := .lst [.bl (j == 3), .bl (j == 4), .bl (j == 5)])
    have k1' := (upd_ne (o := .lst [.bl (j == 3), .bl (j == 4), .bl (j == 5)]) (ne_of_none k1 n2)).trans k1
    generalize upd H1 l2 (.lst [.bl (j == 3), .bl (j == 4), .bl (j == 5)]) = H2 at *
    refine ⟨l1, l2, _, _, rfl, rfl, k1', k2, sz100 (by show 3 + 3 ≤ _; decide), fun l3 n3 => ?_⟩
    have s3 := same_ups (o := .lst [.bl (j == 0), .bl (j == 1), .bl (j == 2), .bl (j == 3), .bl (j == 4), .bl (j == 5)]) s2 n3
    have k3 := upd_same (H := H2) (a := l3) (o := .lst [.bl (j == 0), .bl (j == 1), .bl (j == 2), .bl (j == 3), .bl (j == 4), .bl (j == 5)])
    have e3 : ([V.bl (j == 0), .bl (j == 1), .bl (j == 2)] ++ [.bl (j == 3), .bl (j == 4), .bl (j == 5)] : List V) = [.bl (j == 0), .bl (j == 1), .bl (j == 2), .bl (j == 3), .bl (j == 4), .bl (j == 5)] := rfl
    rw [e3]
    generalize upd H2 l3 (.lst [.bl (j == 0), .bl (j == 1), .bl (j == 2), .bl (j == 3), .bl (j == 4), .bl (j == 5)]) = H3 at *
    have k3' : SqL K H3 l3 ([j == 0, j == 1, j == 2, j == 3, j == 4, j == 5].map V.bl) := sql k3
    have cnt := cnt6 j6
    walk_at "st"
    refine ⟨.inl ⟨rfl, _, sql k3⟩, ?_⟩
    walk_at "st"
    refine ⟨l3, _, true, rfl, rfl, k3', ?_⟩
    rw [cnt]
    walk_at "st"
    refine ⟨_, _, _, rfl, fun _ r => r, qv, ?_⟩
    walk_at "st"
    intro l4 n4
    have k4 : upd H3 l4 (.lst (wordL.map V.str)) l4 = some (.lst (wordL.map V.str)) := upd_same
    have k3'' := (upd_ne (o := .lst (wordL.map V.str)) (ne_of_none k3 n4)).trans k3
    have s4 := same_ups (o := .lst (wordL.map V.str)) s3 n4
    show tBM _ _ _ _ _ _ (upd H3 l4 (.lst (wordL.map V.str))) _
    generalize upd H3 l4 (.lst (wordL.map V.str)) = H4 at *
    walk_at "st"
    refine ⟨.inl ⟨rfl, _, sql k3''⟩, ?_⟩
    walk_at "st"
    refine ⟨l3, _, .bl true, j, .bl true, rfl, rfl, sql k3'', rfl, rfl, ix6 j6, by decide, fun m z hm hz => no6 j6 m hm z hz, ?_⟩
    refine ⟨l4, _, _, _, rfl, rfl, sql k4, atI_nat (wd6 j6), ?_⟩
    exact q _ s4
end
abbrev s_xlawcalled : Stmt := topS 50
theorem sc_xlawcalled : FnScope ["which", "base", "fraction", "writing", "good"] ["which", "base", "fraction", "writing"] (defScope s_xlawcalled) := ⟨rfl, rfl, rfl, by decide +kernel, rfl, by decide +kernel, by decide +kernel⟩
/-- the place of the class with which it is refused -/
inductive Due16 (w z t m : Int) (x : Wr) : Nat → Prop where
  | base (h : BadB z) : Due16 w z t m x 0
  | frac (g : ¬ BadB z) (hw : w = 0 ∨ w = 1) (n : ¬ FrOk t m) : Due16 w z t m x 1
  | frac9 (g : ¬ BadB z) (hw : w = 9) (n : ¬ FrOk 0 m) : Due16 w z t m x 1
  | wr (g : ¬ BadB z) (h1 : 2 ≤ w) (h2 : w ≤ 8) (n : ¬ WrOk z x) : Due16 w z t m x 2
  | ring (g : ¬ BadB z) (hw : w = 10) (n : ¬ FgOk z x.r) : Due16 w z t m x 2
  | num (g : ¬ BadB z) (hw : w = 8) (f : WrOk z x) : Due16 w z t m x 3
  | long (g : ¬ BadB z) (hw : w = 6 ∨ w = 7) (f : WrOk z x) : Due16 w z t m x 4
/-- it is refused by none -/
inductive Fine16 (w z t m : Int) (x : Wr) : Prop where
  | fr (g : ¬ BadB z) (hw : w = 0 ∨ w = 1) (f : FrOk t m)
  | wr (g : ¬ BadB z) (h1 : 2 ≤ w) (h2 : w ≤ 7) (f : WrOk z x)
  | len (g : ¬ BadB z) (hw : w = 9) (f : FrOk 0 m)
  | ring (g : ¬ BadB z) (hw : w = 10) (f : FgOk z x.r)
theorem good_ok {z : Int} (g : ¬ BadB z) : WrOk z ⟨1, [], [0]⟩ := ⟨by decide, by decide, by decide, by decide, figs_nil, figs_one ⟨by decide, by have := intB g; omega⟩⟩
theorem good_lw {b : Nat} (h1 : 2 ≤ b) (h2 : b ≤ 36) : ∃ u v, LW b ⟨1, [], [0]⟩ u v := LW.drawn h1 h2 ⟨by decide, by decide, by decide, by decide, figs_nil, figs_one ⟨by decide, by omega⟩⟩ (by decide) (by decide)
@[irreducible] def sp_xlawcalled (K : PySem.W.Frag) (c : Cs) : Sp := fun vs H Q E => ∃ (w z t m : Int) (pf p a r : Addr) (x : Wr), vs = [.int w, .int z, .ref pf, .ref p] ∧ 0 ≤ w ∧ w ≤ 10 ∧ H pf = some (.tup [.int t, .int m]) ∧ WrAt H p a r x ∧ (w = 2 ∨ w = 6 ∨ w = 7 → ∀ b : Nat, z = b → 2 ≤ b → b ≤ 36 → WrOk z x → ∃ u v, LW b x u v) ∧
  (∀ j D H', WordAt K c D j → Due16 w z t m x j → Same H H' → E (.ref D) none H') ∧ (Fine16 w z t m x → ∀ H', Same H H' → Q .non H')
theorem go_xlawcalled {K : PySem.W.Frag} {c : Cs} {H : Hp} {w z : Int} (t m : Int) {pf p a r : Addr} {x : Wr} {Q : VK} {E : XK} (w0 : 0 ≤ w) (w10 : w ≤ 10) (hf : H pf = some (.tup [.int t, .int m])) (h : WrAt H p a r x) (hl : w = 2 ∨ w = 6 ∨ w = 7 → ∀ b : Nat, z = b → 2 ≤ b → b ≤ 36 → WrOk z x → ∃ u v, LW b x u v)
    (e : ∀ j D H', WordAt K c D j → Due16 w z t m x j → Same H H' → E (.ref D) none H') (q : Fine16 w z t m x → ∀ H', Same H H' → Q .non H') : sp_xlawcalled K c [.int w, .int z, .ref pf, .ref p] H Q E := by
  unfold sp_xlawcalled; exact ⟨w, z, t, m, pf, p, a, r, x, rfl, w0, w10, hf, h, hl, e, q⟩
section
variable {P : Program} {w : World} {K : PySem.W.Frag} {mg : Str → Option Value} {base : Heap}
theorem ok_xlawcalled {f : Addr} {fd : FuncData} (F : Fun K "_law_called" "_law_called" s_xlawcalled f fd) (M : Md K mg) {c : Cs} (N : Me K mg c) (c_written : CalX P w K mg base 3 "written" (sp_written K c)) (c_worth : CalX P w K mg base 3 "worth" (sp_worth K c)) (c_plain : CalX P w K mg base 3 "plain" (sp_plain K c)) (c_isplain : CalX P w K mg base 3 "is_plain" (sp_isplain K c)) (c_lengths : CalX P w K mg base 3 "lengths" (sp_lengths K c)) (c_figureat : CalX P w K mg base 3 "figure_at" (sp_figureat K c)) (c_folds : CalX P w K mg base 2 "folds" (sp_folds K c)) (c_shown : CalX P w K mg base 3 "shown" (sp_shown K c)) (c_added : CalX P w K mg base 4 "added" (sp_added K c)) (c_times : CalX P w K mg base 4 "times" (sp_times K c)) : FnOk P w K mg base (L2.CX P w) 5 f fd ["which", "base", "fraction", "writing"] (sp_xlawcalled K c) := by
  refine F.okX sc_xlawcalled (fun vs H Q E h => ?_) (fun cdv A outer s H vs Q E hr h => ?_)
  · unfold sp_xlawcalled at h; obtain ⟨w, z, t, m, pf, p, a, r, x, rfl, w0, w10, hf, h, hl, e, q⟩ := h
    all_goals rfl
  · have hu := hu_of hr
    unfold sp_xlawcalled at h; obtain ⟨w, z, t, m, pf, p, a, r, x, rfl, w0, w10, hf, h, hl, e, q⟩ := h
    have ht := h.tp
    have hr' := h.lr
    refine ⟨_, (pss_cons (ps_set (i := 4) sc_xlawcalled.nd rfl (.inl rfl) (pe_tup (pa_cons pe_int (pa_cons (pe_lst pa_nil) (pa_cons (pe_lst (pa_cons pe_int pa_nil)) pa_nil)))))
      (Evl.pss_cut (ps_if (pt_cmpR op_eq (pv 0) pe_int (nomark _))
        (pss_one (ps_expr (pe_x c_written hr (by decide) (by rfl) (takes_of rfl rfl rfl rfl) (pa_cons (pv 1) (pa_cons (pe_ix ix_tup (pv 2) pe_int (fun _ _ => rfl)) (pa_cons (pe_ix ix_tup (pv 2) pe_int (fun _ _ => rfl)) pa_nil)))))) pss_nil)
      (Evl.pss_cut (ps_if (pt_cmpR op_eq (pv 0) pe_int (nomark _))
        (pss_one (ps_expr (pe_x c_figureat hr (by decide) (by rfl) (takes_of rfl rfl rfl rfl) (pa_cons (pv 1) (pa_cons (pe_ix ix_tup (pv 2) pe_int (fun _ _ => rfl)) (pa_cons (pe_ix ix_tup (pv 2) pe_int (fun _ _ => rfl)) (pa_cons pe_int pa_nil))))))) pss_nil)
      (Evl.pss_cut (ps_if (pt_cmpR op_eq (pv 0) pe_int (nomark _))
        (pss_one (ps_expr (pe_x c_worth hr (by decide) (by rfl) (takes_of rfl rfl rfl rfl) (pa_cons (pv 1) (pa_cons (pv 3) pa_nil))))) pss_nil)
      (Evl.pss_cut (ps_if (pt_cmpR op_eq (pv 0) pe_int (nomark _))
        (pss_one (ps_expr (pe_x c_plain hr (by decide) (by rfl) (takes_of rfl rfl rfl rfl) (pa_cons (pv 1) (pa_cons (pv 3) pa_nil))))) pss_nil)
      (Evl.pss_cut (ps_if (pt_cmpR op_eq (pv 0) pe_int (nomark _))
        (pss_one (ps_expr (pe_x c_isplain hr (by decide) (by rfl) (takes_of rfl rfl rfl rfl) (pa_cons (pv 1) (pa_cons (pv 3) pa_nil))))) pss_nil)
      (Evl.pss_cut (ps_if (pt_cmpR op_eq (pv 0) pe_int (nomark _))
        (pss_one (ps_expr (pe_x c_shown hr (by decide) (by rfl) (takes_of rfl rfl rfl rfl) (pa_cons (pv 1) (pa_cons (pv 3) pa_nil))))) pss_nil)
      (Evl.pss_cut (ps_if (pt_cmpR op_eq (pv 0) pe_int (nomark _))
        (pss_one (ps_expr (pe_x c_added hr (by decide) (by rfl) (takes_of rfl rfl rfl rfl) (pa_cons (pv 1) (pa_cons (pv 3) (pa_cons (pv 4) pa_nil)))))) pss_nil)
      (Evl.pss_cut (ps_if (pt_cmpR op_eq (pv 0) pe_int (nomark _))
        (pss_one (ps_expr (pe_x c_added hr (by decide) (by rfl) (takes_of rfl rfl rfl rfl) (pa_cons (pv 1) (pa_cons (pv 4) (pa_cons (pv 3) pa_nil)))))) pss_nil)
      (Evl.pss_cut (ps_if (pt_cmpR op_eq (pv 0) pe_int (nomark _))
        (pss_one (ps_expr (pe_x c_times hr (by decide) (by rfl) (takes_of rfl rfl rfl rfl) (pa_cons (pv 1) (pa_cons (pv 3) (pa_cons (pe_un un_neg pe_int) pa_nil)))))) pss_nil)
      (Evl.pss_cut (ps_if (pt_cmpR op_eq (pv 0) pe_int (nomark _))
        (pss_one (ps_expr (pe_x c_lengths hr (by decide) (by rfl) (takes_of rfl rfl rfl rfl) (pa_cons (pv 1) (pa_cons (pe_ix ix_tup (pv 2) pe_int (fun _ _ => rfl)) pa_nil))))) pss_nil)
      (pss_one (ps_if (pt_cmpR op_eq (pv 0) pe_int (nomark _))
        (pss_one (ps_expr (pe_x c_folds hr (by decide) (by rfl) (takes_of rfl rfl rfl rfl) (pa_cons (pv 1) (pa_cons (pe_ix ix_tup (pv 3) pe_int (fun _ _ => rfl)) pa_nil))))) pss_nil))))))))))))), ?_⟩
    walk_at "st"
    intro g1 n1
    have s1 := same_upd (o := .lst []) n1
    have k1 := upd_same (H := H) (a := g1) (o := .lst [])
    generalize upd H g1 (.lst []) = H1 at *
    walk_at "st"
    intro g2 n2
    have s2 := same_ups (o := .lst [.int 0]) s1 n2
    have k2 := upd_same (H := H1) (a := g2) (o := .lst [.int 0])
    have k1' := (upd_ne (o := .lst [.int 0]) (ne_of_none k1 n2)).trans k1
    generalize upd H1 g2 (.lst [.int 0]) = H2 at *
    walk_at "st"
    intro pg n3
    have s3 := same_ups (o := .tup [.int 1, .ref g1, .ref g2]) s2 n3
    have k3 := upd_same (H := H2) (a := pg) (o := .tup [.int 1, .ref g1, .ref g2])
    have k2' := (upd_ne (o := .tup [.int 1, .ref g1, .ref g2]) (ne_of_none k2 n3)).trans k2
    have k1'' := (upd_ne (o := .tup [.int 1, .ref g1, .ref g2]) (ne_of_none k1' n3)).trans k1'
    generalize upd H2 pg (.tup [.int 1, .ref g1, .ref g2]) = H3 at *
    have wg : WrAt H3 pg g1 g2 ⟨1, [], [0]⟩ := ⟨k3, k1'', k2'⟩
    have hf3 := s3 _ _ hf
    have h3 := h.same s3
    have e' : ∀ j D H', WordAt K c D j → Due16 w z t m x j → Same H3 H' → E (.ref D) none H' := fun j D H' wa d s => e j D H' wa d (s3.trans s)
    have q' : Fine16 w z t m x → ∀ H', Same H3 H' → Q .non H' := fun f H' s => q f H' (s3.trans s)
    clear k1 k1' k1'' k2 k2' k3 n1 n2 n3 s1 s2 e q hf h ht hr'
    have ht := h3.tp
    have hr' := h3.lr
    walk_at "st"
    refine ⟨fun σ H' => Same H3 H' ∧ (w ≤ 0 → Fine16 w z t m x) ∧ σ = [some (.int w), some (.int z), some (.ref pf), some (.ref p), some (.ref pg)], ?_, fun σ H4 hM => ?_⟩
    · have sm := Same.refl H3
      have hp : w ≤ -1 → Fine16 w z t m x := fun h => absurd h (by omega)
      walk_at "st"
      refine iteE (fun hw => ?_) (fun hw => ?_)
      · walk_at "st"
        refine go_written (fun h => e' 0 _ _ N.w_NoBase (.base h) sm) (fun g n => e' 1 _ _ N.w_NoFraction (.frac g (.inl hw) n) sm) (fun g f H2 v s2 => ?_)
        exact ⟨sm.trans s2, fun _ => .fr g (.inl hw) f, rfl⟩
      · exact ⟨sm, fun h => hp (by omega), rfl⟩
    obtain ⟨sm, hp, rfl⟩ := hM
    have hf4 := sm _ _ hf3
    refine ⟨fun σ H' => Same H3 H' ∧ (w ≤ 1 → Fine16 w z t m x) ∧ σ = [some (.int w), some (.int z), some (.ref pf), some (.ref p), some (.ref pg)], ?_, fun σ H4 hM => ?_⟩
    · walk_at "st"
      refine iteE (fun hw => ?_) (fun hw => ?_)
      · walk_at "st"
        refine go_figureat 5 rfl (fun h => e' 0 _ _ N.w_NoBase (.base h) sm) (fun g n => e' 1 _ _ N.w_NoFraction (.frac g (.inr hw) n) sm) (fun g f H2 v s2 => ?_)
        exact ⟨sm.trans s2, fun _ => .fr g (.inr hw) f, rfl⟩
      · exact ⟨sm, fun h => hp (by omega), rfl⟩
    obtain ⟨sm, hp, rfl⟩ := hM
    refine ⟨fun σ H' => Same H3 H' ∧ (w ≤ 2 → Fine16 w z t m x) ∧ σ = [some (.int w), some (.int z), some (.ref pf), some (.ref p), some (.ref pg)], ?_, fun σ H4 hM => ?_⟩
    · walk_at "st"
      refine iteE (fun hw => ?_) (fun hw => ?_)
      · walk_at "st"
        refine go_worth (h3.same sm) (fun h => e' 0 _ _ N.w_NoBase (.base h) sm) (fun g n => e' 2 _ _ N.w_NoWriting (.wr g (by omega) (by omega) n) sm) (hl (.inl hw)) (fun g f b u v _ _ p2 np2 => ?_)
        exact ⟨sm.trans (same_upd np2), fun _ => .wr g (by omega) (by omega) f, rfl⟩
      · exact ⟨sm, fun h => hp (by omega), rfl⟩
    obtain ⟨sm, hp, rfl⟩ := hM
    refine ⟨fun σ H' => Same H3 H' ∧ (w ≤ 3 → Fine16 w z t m x) ∧ σ = [some (.int w), some (.int z), some (.ref pf), some (.ref p), some (.ref pg)], ?_, fun σ H4 hM => ?_⟩
    · walk_at "st"
      refine iteE (fun hw => ?_) (fun hw => ?_)
      · walk_at "st"
        refine go_plain (h3.same sm) (fun h => e' 0 _ _ N.w_NoBase (.base h) sm) (fun g n => e' 2 _ _ N.w_NoWriting (.wr g (by omega) (by omega) n) sm) (fun g f H2 v s2 => ?_)
        exact ⟨sm.trans s2, fun _ => .wr g (by omega) (by omega) f, rfl⟩
      · exact ⟨sm, fun h => hp (by omega), rfl⟩
    obtain ⟨sm, hp, rfl⟩ := hM
    refine ⟨fun σ H' => Same H3 H' ∧ (w ≤ 4 → Fine16 w z t m x) ∧ σ = [some (.int w), some (.int z), some (.ref pf), some (.ref p), some (.ref pg)], ?_, fun σ H4 hM => ?_⟩
    · walk_at "st"
      refine iteE (fun hw => ?_) (fun hw => ?_)
      · walk_at "st"
        refine go_isplain (h3.same sm) (fun h => e' 0 _ _ N.w_NoBase (.base h) sm) (fun g n => e' 2 _ _ N.w_NoWriting (.wr g (by omega) (by omega) n) sm) (fun g f H2 v s2 => ?_)
        exact ⟨sm.trans s2, fun _ => .wr g (by omega) (by omega) f, rfl⟩
      · exact ⟨sm, fun h => hp (by omega), rfl⟩
    obtain ⟨sm, hp, rfl⟩ := hM
    refine ⟨fun σ H' => Same H3 H' ∧ (w ≤ 5 → Fine16 w z t m x) ∧ σ = [some (.int w), some (.int z), some (.ref pf), some (.ref p), some (.ref pg)], ?_, fun σ H4 hM => ?_⟩
    · walk_at "st"
      refine iteE (fun hw => ?_) (fun hw => ?_)
      · walk_at "st"
        refine go_shown (h3.same sm) (fun h => e' 0 _ _ N.w_NoBase (.base h) sm) (fun g n => e' 2 _ _ N.w_NoWriting (.wr g (by omega) (by omega) n) sm) (fun g f H2 v s2 => ?_)
        exact ⟨sm.trans s2, fun _ => .wr g (by omega) (by omega) f, rfl⟩
      · exact ⟨sm, fun h => hp (by omega), rfl⟩
    obtain ⟨sm, hp, rfl⟩ := hM
    refine ⟨fun σ H' => Same H3 H' ∧ (w ≤ 6 → Fine16 w z t m x) ∧ σ = [some (.int w), some (.int z), some (.ref pf), some (.ref p), some (.ref pg)], ?_, fun σ H4 hM => ?_⟩
    · walk_at "st"
      refine iteE (fun hw => ?_) (fun hw => ?_)
      · walk_at "st"
        refine go_added (h3.same sm) (wg.same sm) (fun h => e' 0 _ _ N.w_NoBase (.base h) sm) (fun g n => e' 2 _ _ N.w_NoWriting (.wr g (by omega) (by omega) (fun k => n ⟨k, good_ok g⟩)) sm) (hl (.inr (.inl hw))) (fun b ez h1 h2 _ => good_lw h1 h2) (fun g f _ => ⟨fun H2 v s2 => ?_, fun H2 s2 => e' 4 _ _ N.w_TooLong (.long g (.inl hw) f) (sm.trans s2)⟩)
        exact ⟨sm.trans s2, fun _ => .wr g (by omega) (by omega) f, rfl⟩
      · exact ⟨sm, fun h => hp (by omega), rfl⟩
    obtain ⟨sm, hp, rfl⟩ := hM
    refine ⟨fun σ H' => Same H3 H' ∧ (w ≤ 7 → Fine16 w z t m x) ∧ σ = [some (.int w), some (.int z), some (.ref pf), some (.ref p), some (.ref pg)], ?_, fun σ H4 hM => ?_⟩
    · walk_at "st"
      refine iteE (fun hw => ?_) (fun hw => ?_)
      · walk_at "st"
        refine go_added (wg.same sm) (h3.same sm) (fun h => e' 0 _ _ N.w_NoBase (.base h) sm) (fun g n => e' 2 _ _ N.w_NoWriting (.wr g (by omega) (by omega) (fun k => n ⟨good_ok g, k⟩)) sm) (fun b ez h1 h2 _ => good_lw h1 h2) (hl (.inr (.inr hw))) (fun g _ f => ⟨fun H2 v s2 => ?_, fun H2 s2 => e' 4 _ _ N.w_TooLong (.long g (.inr hw) f) (sm.trans s2)⟩)
        exact ⟨sm.trans s2, fun _ => .wr g (by omega) (by omega) f, rfl⟩
      · exact ⟨sm, fun h => hp (by omega), rfl⟩
    obtain ⟨sm, hp, rfl⟩ := hM
    refine ⟨fun σ H' => Same H3 H' ∧ (w ≤ 8 → Fine16 w z t m x) ∧ σ = [some (.int w), some (.int z), some (.ref pf), some (.ref p), some (.ref pg)], ?_, fun σ H4 hM => ?_⟩
    · walk_at "st"
      refine iteE (fun hw => ?_) (fun hw => ?_)
      · walk_at "st"
        exact go_times (by decide) (h3.same sm) (fun h => e' 0 _ _ N.w_NoBase (.base h) sm) (fun g n => e' 2 _ _ N.w_NoWriting (.wr g (by omega) (by omega) n) sm) (fun g f => e' 3 _ _ N.w_NoNumber (.num g hw f) sm)
      · exact ⟨sm, fun h => hp (by omega), rfl⟩
    obtain ⟨sm, hp, rfl⟩ := hM
    have hf4 := sm _ _ hf3
    refine ⟨fun σ H' => Same H3 H' ∧ (w ≤ 9 → Fine16 w z t m x) ∧ σ = [some (.int w), some (.int z), some (.ref pf), some (.ref p), some (.ref pg)], ?_, fun σ H4 hM => ?_⟩
    · walk_at "st"
      refine iteE (fun hw => ?_) (fun hw => ?_)
      · walk_at "st"
        refine go_lengths (fun h => e' 0 _ _ N.w_NoBase (.base h) sm) (fun g n => e' 1 _ _ N.w_NoFraction (.frac9 g hw n) sm) (fun g f H2 v s2 => ?_)
        exact ⟨sm.trans s2, fun _ => .len g hw f, rfl⟩
      · exact ⟨sm, fun h => hp (by omega), rfl⟩
    obtain ⟨sm, hp, rfl⟩ := hM
    have ht4 := sm _ _ ht
    walk_at "st"
    refine iteE (fun hw => ?_) (fun hw => ?_)
    · walk_at "st"
      refine go_folds (sql (sm _ _ hr')) (fun h => e' 0 _ _ N.w_NoBase (.base h) sm) (fun g n => e' 2 _ _ N.w_NoWriting (.ring g hw n) sm) (fun g f H2 v s2 => ?_)
      exact q' (.ring g hw f) _ (sm.trans s2)
    · exact q' (hp (by omega)) _ sm
end
abbrev s_xlawtried : Stmt := topS 51
theorem sc_xlawtried : FnScope ["which", "base", "fraction", "writing", "e"] ["which", "base", "fraction", "writing"] (defScope s_xlawtried) := ⟨rfl, rfl, rfl, by decide +kernel, rfl, by decide +kernel, by decide +kernel⟩
@[irreducible] def sp_xlawtried (K : PySem.W.Frag) : Sp := fun vs H Q _ => ∃ (w z t m : Int) (pf p a r : Addr) (x : Wr), vs = [.int w, .int z, .ref pf, .ref p] ∧ 0 ≤ w ∧ w ≤ 10 ∧ H pf = some (.tup [.int t, .int m]) ∧ WrAt H p a r x ∧ (w = 2 ∨ w = 6 ∨ w = 7 → ∀ b : Nat, z = b → 2 ≤ b → b ≤ 36 → WrOk z x → ∃ u v, LW b x u v) ∧
  (∀ j H', Due16 w z t m x j → Same H H' → Q (.str (word j)) H') ∧ (Fine16 w z t m x → ∀ H', Same H H' → Q (.str (Str.ofString "done")) H')
theorem go_xlawtried {K : PySem.W.Frag} {H : Hp} {w z : Int} (t m : Int) {pf p a r : Addr} {x : Wr} {Q : VK} {E : XK} (w0 : 0 ≤ w) (w10 : w ≤ 10) (hf : H pf = some (.tup [.int t, .int m])) (h : WrAt H p a r x) (hl : w = 2 ∨ w = 6 ∨ w = 7 → ∀ b : Nat, z = b → 2 ≤ b → b ≤ 36 → WrOk z x → ∃ u v, LW b x u v)
    (e : ∀ j H', Due16 w z t m x j → Same H H' → Q (.str (word j)) H') (q : Fine16 w z t m x → ∀ H', Same H H' → Q (.str (Str.ofString "done")) H') : sp_xlawtried K [.int w, .int z, .ref pf, .ref p] H Q E := by
  unfold sp_xlawtried; exact ⟨w, z, t, m, pf, p, a, r, x, rfl, w0, w10, hf, h, hl, e, q⟩
section
variable {P : Program} {w : World} {K : PySem.W.Frag} {mg : Str → Option Value} {base : Heap}
theorem ok_xlawtried {f : Addr} {fd : FuncData} (F : Fun K "_law_tried" "_law_tried" s_xlawtried f fd) (M : Md K mg) {c : Cs} (N : Me K mg c) (c_xlawcopy : Cal P w K mg base 1 "_law_copy" (sp_xlawcopy K) []) (c_xlawwordof : CalE P w K mg base 1 "_law_word_of" (sp_xlawwordof K c)) (c_xlawcalled : CalX P w K mg base 5 "_law_called" (sp_xlawcalled K c)) : FnOk P w K mg base CX0 6 f fd ["which", "base", "fraction", "writing"] (sp_xlawtried K) := by
  refine F.ok sc_xlawtried (fun vs H Q E h => ?_) (fun cdv A outer s H vs Q E hr h => ?_)
  · unfold sp_xlawtried at h; obtain ⟨w, z, t, m, pf, p, a, r, x, rfl, w0, w10, hf, h, hl, e, q⟩ := h
    all_goals rfl
  · have hu := hu_of hr
    unfold sp_xlawtried at h; obtain ⟨w, z, t, m, pf, p, a, r, x, rfl, w0, w10, hf, h, hl, e, q⟩ := h
    refine ⟨_, (pss_cons (ps_try_as (i := 4) rfl rfl sc_xlawtried.nd rfl rfl ⟨rfl, by decide, .inl N.g_FigureError⟩ takes0
      (fun W pn xe tk _ => (pss_one (ps_expr (pe_x c_xlawcalled hr (by decide) (by rfl) tk (pa_cons (pv 0) (pa_cons (pv 1) (pa_cons (pv 2) (pa_cons (pe_c c_xlawcopy hr (by decide) (by rfl) (pa_cons (pv 3) pa_nil)) pa_nil))))))))
      (fun a oe cls d pn hz hf => (pss_one (ps_ret (pe_e c_xlawwordof hr (by decide) (by rfl) hz hf (pa_cons (pv 4) pa_nil))))))
      (pss_one (ps_ret pe_str))), ?_⟩
    walk_at "st"
    refine go_xlawcopy h (fun H1 p1 a1 r1 w1 => ?_)
    walk_at "st"
    refine go_xlawcalled t m w0 w10 (w1.same _ _ hf) w1.at' hl (fun j D H2 wa d s2 => ?_) (fun f H2 s2 => ?_)
    · refine ⟨true, wa.m, fun _ a0 na0 => ?_, fun z => nomatch z⟩
      walk_at "st"
      refine go_xlawwordof j wa (fun H3 s3 => ?_)
      exact e j _ d ((w1.same.trans s2).trans s3)
    · walk_at "st"
      exact q f _ (w1.same.trans s2)
end
abbrev s_xlawspoilt : Stmt := topS 52
theorem sc_xlawspoilt : FnScope ["script", "base", "writing", "way", "far", "whole", "ahead", "ring", "side", "at", "k"] ["script", "base", "writing", "way", "far"] (defScope s_xlawspoilt) := ⟨rfl, rfl, rfl, by decide +kernel, rfl, by decide +kernel, by decide +kernel⟩
@[irreducible] def sp_xlawspoilt (K : PySem.W.Frag) : Sp := fun vs H Q _ => ∃ (s p a r : Addr) (ns : List Int) (b way far : Int) (x : Wr), vs = [.ref s, .int b, .ref p, .int way, .int far] ∧ SqL K H s (ns.map V.int) ∧ WrAt H p a r x ∧ WrOk b x ∧ x.a.length ≤ 124 ∧ x.r.length ≤ 138 ∧ 0 ≤ way ∧ way < 8 ∧ 0 ≤ far ∧
  ∀ H' p' a' r' y, WrNew H H' p' a' r' y → ¬ WrOk b y → ((way > 1 ∧ way % 2 = 1 ∧ ¬ FgOk b y.r) ∨ (¬ (way > 1 ∧ way % 2 = 1) ∧ FgOk b y.r)) → Q (.ref p') H'
theorem go_xlawspoilt {K : PySem.W.Frag} {H : Hp} {s p a r : Addr} {ns : List Int} {b way far : Int} {x : Wr} {Q : VK} {E : XK} (hS : SqL K H s (ns.map V.int)) (h : WrAt H p a r x) (ho : WrOk b x) (la : x.a.length ≤ 124) (lr : x.r.length ≤ 138) (w0 : 0 ≤ way) (w8 : way < 8) (f0 : 0 ≤ far)
    (q : ∀ H' p' a' r' y, WrNew H H' p' a' r' y → ¬ WrOk b y → ((way > 1 ∧ way % 2 = 1 ∧ ¬ FgOk b y.r) ∨ (¬ (way > 1 ∧ way % 2 = 1) ∧ FgOk b y.r)) → Q (.ref p') H') : sp_xlawspoilt K [.ref s, .int b, .ref p, .int way, .int far] H Q E := by
  unfold sp_xlawspoilt; exact ⟨s, p, a, r, ns, b, way, far, x, rfl, hS, h, ho, la, lr, w0, w8, f0, q⟩
theorem bad_ins {b v : Int} {L : List Int} {k : Nat} (h : v < 0 ∨ b ≤ v) : ¬ FgOk b (L.take k ++ [v] ++ L.drop k) := fun f => by
  have := f.2 v (by simp)
  omega
theorem bad_ext {b : Int} {L M : List Int} (h : M.length = 4001) : ¬ FgOk b (L ++ M) := fun f => by
  have := f.1
  rw [List.length_append] at this
  omega
section
variable {P : Program} {w : World} {K : PySem.W.Frag} {mg : Str → Option Value} {base : Heap}
theorem ok_xlawspoilt {f : Addr} {fd : FuncData} (F : Fun K "_law_spoilt" "_law_spoilt" s_xlawspoilt f fd) (M : Md K mg) {c : Cs} (N : Me K mg c) (c_xlawcellat : Cal P w K mg base 1 "_law_cell_at" (sp_xlawcellat K) []) (c_xlawcopy : Cal P w K mg base 1 "_law_copy" (sp_xlawcopy K) []) : FnOk P w K mg base CX0 2 f fd ["script", "base", "writing", "way", "far"] (sp_xlawspoilt K) := by
  refine F.ok sc_xlawspoilt (fun vs H Q E h => ?_) (fun cdv A outer s H vs Q E hr h => ?_)
  · unfold sp_xlawspoilt at h; obtain ⟨s, p, a, r, ns, b, way, far, x, rfl, hS, h, ho, la, lr, w0, w8, f0, q⟩ := h
    all_goals rfl
  · have hu := hu_of hr
    unfold sp_xlawspoilt at h; obtain ⟨s, p, a, r, ns, b, way, far, x, rfl, hS, h, ho, la, lr, w0, w8, f0, q⟩ := h
    refine ⟨_, (pss_cons (ps_asg (pe_c c_xlawcopy hr (by decide) (by rfl) (pa_cons (pv 2) pa_nil)) (pg_tup rfl (pgs_cons (pg_name (i := 5) sc_xlawspoilt.nd rfl (.inl rfl)) (pgs_cons (pg_name (i := 6) sc_xlawspoilt.nd rfl (.inl rfl)) (pgs_cons (pg_name (i := 7) sc_xlawspoilt.nd rfl (.inl rfl)) pgs_nil)))))
      (Evl.pss_cut (ps_set (i := 8) sc_xlawspoilt.nd rfl (.inl rfl) (pe_ix ix_list (pe_lst (pa_cons (pv 6) (pa_cons (pv 7) pa_nil))) (pe_op op_mod (pv 3) pe_int) (fun _ _ => rfl)))
      (Evl.pss_cut (ps_set (i := 9) sc_xlawspoilt.nd rfl (.inl rfl) (pe_op op_mod (pe_c c_xlawcellat hr (by decide) (by rfl) (pa_cons (pv 0) (pa_cons pe_int pa_nil))) (pe_op op_add (pe_callB call_len_seq (by rfl) M.m_len PySem.boot_len (pa_cons (pv 8) pa_nil)) pe_int)))
      (pss_cons (ps_if (pt_cmpR op_eq (pv 3) pe_int (nomark _))
        (pss_one (ps_ret (pe_tup (pa_cons (pe_op op_sub (pe_un un_neg pe_int) (pv 4)) (pa_cons (pv 6) (pa_cons (pv 7) pa_nil)))))) pss_nil)
      (pss_cons (ps_if (pt_cmpR op_eq (pv 3) pe_int (nomark _))
        (pss_one (ps_ret (pe_tup (pa_cons (pe_op op_add (pe_op op_add (pe_op op_pow pe_int pe_int) pe_int) (pv 4)) (pa_cons (pv 6) (pa_cons (pv 7) pa_nil)))))) pss_nil)
      (Evl.pss_cut (ps_if (pt_cmpR op_lt (pv 3) pe_int (nomark _))
        (pss_one (ps_expr (pe_bm PySem.F.plainAttrs_list PySem.F.slot_list_insert PySem.F.type_list_insert mt_insert (pv 8) (pa_cons (pv 9) (pa_cons (pe_op op_sub (pe_un un_neg pe_int) (pv 4)) pa_nil))))) (pss_one (ps_if (pt_cmpR op_lt (pv 3) pe_int (nomark _))
        (pss_one (ps_expr (pe_bm PySem.F.plainAttrs_list PySem.F.slot_list_insert PySem.F.type_list_insert mt_insert (pv 8) (pa_cons (pv 9) (pa_cons (pe_op op_add (pv 1) (pv 4)) pa_nil))))) (pss_one (ps_expr (pe_bm PySem.F.plainAttrs_list PySem.F.slot_list_extend PySem.F.type_list_extend mt_extend (pv 8) (pa_cons (pe_lc (own := [("k", 10)]) (g := gName 10) (tt := tYes) rfl sc_xlawspoilt.nd (pi_range1 (by rfl) M.m_range (pa_cons pe_int pa_nil)) (blkOk_by (own := [("k", 10)]) (N := ["script", "base", "writing", "way", "far", "whole", "ahead", "ring", "side", "at", "k"]) (sc := defScope s_xlawspoilt) (by decide +kernel)) (fun _ _ _ _ _ => (pg_name (i := 10) sc_xlawspoilt.nd rfl (.inl rfl))) (fun _ _ _ _ _ => pts_nil) (fun _ _ _ _ _ => pe_int)) pa_nil)))))))
      (pss_one (ps_ret (pe_tup (pa_cons (pv 5) (pa_cons (pv 6) (pa_cons (pv 7) pa_nil)))))))))))), ?_⟩
    walk_at "st"
    refine go_xlawcopy h (fun H1 p1 a1 r1 w1 => ?_)
    have hS1 := w1.same.seq hS
    have ht1 := w1.at'.tp
    have ha1 := w1.at'.la
    have hr1 := w1.at'.lr
    walk_at "st"
    obtain ⟨L, sd, hL, hsd, hLl, hLf⟩ : ∃ (L : List Int) (sd : Addr), H1 sd = some (.lst (L.map V.int)) ∧ ((way % 2 = 0 ∧ sd = a1 ∧ L = x.a) ∨ (way % 2 = 1 ∧ sd = r1 ∧ L = x.r)) ∧ L.length ≤ 138 ∧ Figs b L := by
      by_cases h2 : way % 2 = 0
      · exact ⟨x.a, a1, ha1, .inl ⟨h2, rfl, rfl⟩, by omega, ho.fa⟩
      · exact ⟨x.r, r1, hr1, .inr ⟨by omega, rfl, rfl⟩, lr, ho.fr⟩
    refine ⟨fun σ H' => Same H1 H' ∧ σ = [some (.ref s), some (.int b), some (.ref p), some (.int way), some (.int far), some (.int x.w), some (.ref a1), some (.ref r1), some (.ref sd), none, none], ?_, fun σ H2 hM => ?_⟩
    · walk_at "st"
      intro D nD
      have s2 := same_upd (o := .lst [.ref a1, .ref r1]) nD
      have kD := upd_same (H := H1) (a := D) (o := .lst [.ref a1, .ref r1])
      generalize upd H1 D (.lst [.ref a1, .ref r1]) = H2 at *
      walk_at "st"
      rcases hsd with ⟨h2, rfl, rfl⟩ | ⟨h2, rfl, rfl⟩
      · refine ⟨D, _, _, _, rfl, rfl, sql kD, atI_of (j := 0) h2 rfl, ?_⟩
        exact ⟨s2, rfl⟩
      · refine ⟨D, _, _, _, rfl, rfl, sql kD, atI_of (j := 1) h2 rfl, ?_⟩
        exact ⟨s2, rfl⟩
    obtain ⟨s2, rfl⟩ := hM
    have hS2 := s2.seq hS1
    have hL2 := s2 _ _ hL
    refine ⟨fun σ H' => H2 = H' ∧ ∃ k : Nat, σ = [some (.ref s), some (.int b), some (.ref p), some (.int way), some (.int far), some (.int x.w), some (.ref a1), some (.ref r1), some (.ref sd), some (.int (k : Int)), none] ∧ k ≤ L.length, ?_, fun σ H3 hM => ?_⟩
    · walk_at "st"
      simp only [List.length_map]
      refine ⟨(cl ns 14 % ((L.length : Int) + 1)).toNat, ?_, ?_⟩
      · rw [Int.toNat_of_nonneg (Int.emod_nonneg _ (by omega))]; rfl
      · have e1 := Int.emod_lt_of_pos (cl ns 14) (show (0 : Int) < (L.length : Int) + 1 by omega)
        have e2 := Int.emod_nonneg (cl ns 14) (show (L.length : Int) + 1 ≠ 0 by omega)
        omega
    obtain ⟨rfl, k, rfl, hk⟩ := hM
    have w2 := w1.at'.same s2
    have s02 := w1.same.trans s2
    walk_at "st"
    refine iteE (fun c => ?_) (fun c0 => ?_)
    · walk_at "st"
      intro p3 n3
      have w3 := w2.same (same_upd (o := .tup [.int (-1 - far), .ref a1, .ref r1]) n3)
      exact q _ p3 a1 r1 ⟨-1 - far, x.a, x.r⟩ ⟨⟨upd_same, w3.la, w3.lr⟩, same_ups s02 n3, s02.free n3, w1.na, w1.nr, w1.ne⟩ (fun h => by have : 0 ≤ -1 - far := h.w0; omega) (.inr ⟨by omega, ho.lr, ho.fr⟩)
    walk_at "st"
    refine iteE (fun c => ?_) (fun c1 => ?_)
    · walk_at "st"
      have e12 : (10 : Int) ^ (12 : Int).toNat = 1000000000000 := by decide
      rw [e12]
      intro p3 n3
      have w3 := w2.same (same_upd (o := .tup [.int (1000000000000 + 1 + far), .ref a1, .ref r1]) n3)
      exact q _ p3 a1 r1 ⟨1000000000000 + 1 + far, x.a, x.r⟩ ⟨⟨upd_same, w3.la, w3.lr⟩, same_ups s02 n3, s02.free n3, w1.na, w1.nr, w1.ne⟩ (fun h => by have : 1000000000000 + 1 + far ≤ 1000000000000 := h.w1; omega) (.inr ⟨by omega, ho.lr, ho.fr⟩)
    have fin : ∀ (H' : Hp) (M : List Int), Same H1 H' → ¬ FgOk b M → ∃ A R : List Int, Same H (upd H' sd (.lst (M.map V.int))) ∧ upd H' sd (.lst (M.map V.int)) a1 = some (.lst (A.map V.int)) ∧ upd H' sd (.lst (M.map V.int)) r1 = some (.lst (R.map V.int)) ∧ ¬ WrOk b ⟨x.w, A, R⟩ ∧ ((way > 1 ∧ way % 2 = 1 ∧ ¬ FgOk b R) ∨ (¬ (way > 1 ∧ way % 2 = 1) ∧ FgOk b R)) := by
      intro H' M s3 nM
      rcases hsd with ⟨h2, rfl, rfl⟩ | ⟨h2, rfl, rfl⟩
      · exact ⟨M, x.r, same_new (w1.same.trans s3) w1.na, upd_same, (upd_ne (Ne.symm w1.ne)).trans (s3 _ _ hr1), fun h => nM (wrOk_iff.mp h).2.1, .inr ⟨by omega, ho.lr, ho.fr⟩⟩
      · exact ⟨x.a, M, same_new (w1.same.trans s3) w1.nr, (upd_ne w1.ne).trans (s3 _ _ ha1), upd_same, fun h => nM (wrOk_iff.mp h).2.2, .inl ⟨by omega, by omega, nM⟩⟩
    refine ⟨fun σ H' => (∃ A R : List Int, Same H H' ∧ H' a1 = some (.lst (A.map V.int)) ∧ H' r1 = some (.lst (R.map V.int)) ∧ ¬ WrOk b ⟨x.w, A, R⟩ ∧ ((way > 1 ∧ way % 2 = 1 ∧ ¬ FgOk b R) ∨ (¬ (way > 1 ∧ way % 2 = 1) ∧ FgOk b R))) ∧ σ = [some (.ref s), some (.int b), some (.ref p), some (.int way), some (.int far), some (.int x.w), some (.ref a1), some (.ref r1), some (.ref sd), some (.int (k : Int)), none], ?_, fun σ H4 hM => ?_⟩
    · walk_at "st"
      refine iteD (fun c => ?_) (fun c2 => ?_)
      · walk_at "st"
        refine ⟨.inl ⟨rfl, _, sql hL2⟩, ?_⟩
        walk_at "st"
        refine ⟨sd, _, _, _, rfl, rfl, hL2, sz100lt (by rw [List.length_map]; omega), by omega, by omega, ?_⟩
        have em : ((L.map V.int).take ((k : Int)).toNat ++ [V.int (-1 - far)] ++ (L.map V.int).drop ((k : Int)).toNat) = (L.take k ++ [-1 - far] ++ L.drop k).map V.int := by
          rw [Int.toNat_natCast, take_map, drop_map, List.map_append, List.map_append]; rfl
        have f1 := fin H2 (L.take k ++ [-1 - far] ++ L.drop k) s2 (bad_ins (.inl (by omega)))
        rw [← em] at f1
        exact ⟨f1, rfl⟩
      · walk_at "st"
        refine iteD (fun c => ?_) (fun c3 => ?_)
        · walk_at "st"
          refine ⟨.inl ⟨rfl, _, sql hL2⟩, ?_⟩
          walk_at "st"
          refine ⟨sd, _, _, _, rfl, rfl, hL2, sz100lt (by rw [List.length_map]; omega), by omega, by omega, ?_⟩
          have em : ((L.map V.int).take ((k : Int)).toNat ++ [V.int (b + far)] ++ (L.map V.int).drop ((k : Int)).toNat) = (L.take k ++ [b + far] ++ L.drop k).map V.int := by
            rw [Int.toNat_natCast, take_map, drop_map, List.map_append, List.map_append]; rfl
          have f1 := fin H2 (L.take k ++ [b + far] ++ L.drop k) s2 (bad_ins (.inr (by omega)))
          rw [← em] at f1
          exact ⟨f1, rfl⟩
        · walk_at "st"
          refine ⟨.inl ⟨rfl, _, sql hL2⟩, ?_⟩
          walk_at "st"
          refine ⟨by decide, by decide, fun D nD => ?_⟩
          refine lc_rng (n := 4001) (fun _ => V.int 1) nD (by decide) (fun _ => rfl) (fun j hj H' Q' s' q' => ?_) (fun H3 s3 hD => ?_)
          · walk_at "st"
            exact q' _ (Same.refl _)
          have em : (L.map V.int) ++ (List.range 4001).map (fun _ => V.int 1) = (L ++ (List.range 4001).map (fun _ => (1 : Int))).map V.int := by
            rw [List.map_append, List.map_map]; rfl
          refine ⟨sd, D, _, _, rfl, rfl, s3 _ _ hL2, hD, sz100 (by rw [List.length_map, List.length_map, List.length_range]; omega), ?_⟩
          rw [em]
          exact ⟨fin H3 _ (s2.trans s3) (bad_ext (by rw [List.length_map, List.length_range])), rfl⟩
    obtain ⟨⟨A, R, s4, kA, kR, nok, rng⟩, rfl⟩ := hM
    walk_at "st"
    intro p5 n5
    refine q _ p5 a1 r1 ⟨x.w, A, R⟩ ⟨⟨upd_same, (upd_ne (ne_of_none kA n5)).trans kA, (upd_ne (ne_of_none kR n5)).trans kR⟩, same_ups s4 n5, s4.free n5, w1.na, w1.nr, w1.ne⟩ nok rng
end
abbrev s_law : Stmt := topS 53
theorem sc_law : FnScope ["script", "base", "far", "fraction", "writing", "way", "due", "kind", "long", "which", "wanted", "told", "k"] ["script"] (defScope s_law) := ⟨rfl, rfl, rfl, by decide +kernel, rfl, by decide +kernel, by decide +kernel⟩
abbrev wDone : Str := Str.ofString "done"
abbrev wBase : Str := Str.ofString "base"
abbrev wFrac : Str := Str.ofString "fraction"
abbrev wWrit : Str := Str.ofString "writing"
/-- the words that are due -/
def Pr16 (z t m : Int) (x : Wr) (w0 w1 w2 w3 : Str) : Prop :=
  (BadB z ∧ w0 = wBase ∧ w1 = wBase ∧ w2 = wBase ∧ w3 = wBase) ∨
  (¬ BadB z ∧ (w0 = wDone ∧ FrOk t m ∨ w0 = wFrac ∧ ¬ FrOk t m) ∧ (w1 = wDone ∧ WrOk z x ∧ (∃ u v, LW z.toNat x u v) ∨ w1 = wWrit ∧ ¬ WrOk z x) ∧ (w2 = wDone ∧ FrOk 0 m ∨ w2 = wFrac ∧ ¬ FrOk 0 m) ∧ (w3 = wDone ∧ FgOk z x.r ∨ w3 = wWrit ∧ ¬ FgOk z x.r))
def wantW (w : Int) (w0 w1 w2 w3 : Str) : Str := if w ≤ 1 then w0 else if w ≤ 8 then w1 else if w = 9 then w2 else w3
def wantX (w : Int) (w0 w1 w2 w3 : Str) : Str := if w = 8 ∧ wantW w w0 w1 w2 w3 = wDone then Str.ofString "number" else wantW w w0 w1 w2 w3
def Okd (w : Int) (w0 w1 w2 w3 tl : Str) : Prop := tl = wantX w w0 w1 w2 w3 ∨ ((w = 6 ∨ w = 7) ∧ wantW w w0 w1 w2 w3 = wDone ∧ tl = Str.ofString "long")
/-- behind the fraction's part -/
structure M8 (H2 H' : Hp) (D p pa pr : Addr) (x : Wr) (w1 w3 : Str) (pf : Addr) : Prop where
  s : Same H2 H'
  w : WrAt H' p pa pr x
  f : ∃ (t m : Int) (w0 w2 : Str), H' pf = some (.tup [.int t, .int m]) ∧ H' D = some (.lst [.str w0, .str w1, .str w2, .str w3]) ∧ (w0 = wDone ∧ FrOk t m ∨ w0 = wFrac ∧ ¬ FrOk t m) ∧ (w2 = wDone ∧ FrOk 0 m ∨ w2 = wFrac ∧ ¬ FrOk 0 m)
theorem M8.mk' {H2 G : Hp} {D p pa pr pf : Addr} {x : Wr} {w1 w2 w3 : Str} {t m : Int} {l : List V} (nD : H2 D = none) (neA : pa ≠ D) (neR : pr ≠ D) (s : Same H2 G) (w : WrAt G p pa pr x) (hf : G pf = some (.tup [.int t, .int m])) (kD : G D = some (.lst l)) (nf : ¬ FrOk t m) (hw2 : w2 = wDone ∧ FrOk 0 m ∨ w2 = wFrac ∧ ¬ FrOk 0 m) :
    M8 H2 (upd G D (.lst [.str wFrac, .str w1, .str w2, .str w3])) D p pa pr x w1 w3 pf :=
  ⟨same_new s nD, ⟨(upd_ne (ne_of w.tp kD (fun z => by cases z))).trans w.tp, (upd_ne neA).trans w.la, (upd_ne neR).trans w.lr⟩, t, m, wFrac, w2, (upd_ne (ne_of hf kD (fun z => by cases z))).trans hf, upd_same, .inr ⟨rfl, nf⟩, hw2⟩
theorem due_none {w z : Int} {x : Wr} {j : Nat} (hw : w = 4 ∨ w = 5 ∨ w = 10) (g : ¬ BadB z) (ok : WrOk z x) : ¬ Due16 w z 1 1 x j := fun d => by
  cases d with
  | base h => exact g h
  | frac _ h _ => omega
  | frac9 _ h _ => omega
  | wr _ _ _ n => exact n ok
  | ring _ _ n => exact n ⟨ok.lr, ok.fr⟩
  | num _ h _ => omega
  | long _ h _ => omega
/-- behind all the changes -/
structure M9 (K : PySem.W.Frag) (H' : Hp) (a D p pa pr pf : Addr) (ns : List Int) (z : Int) (x : Wr) : Prop where
  hS : SqL K H' a (ns.map V.int)
  w : WrAt H' p pa pr x
  f : ∃ (t m : Int) (w0 w1 w2 w3 : Str), H' pf = some (.tup [.int t, .int m]) ∧ H' D = some (.lst [.str w0, .str w1, .str w2, .str w3]) ∧ Pr16 z t m x w0 w1 w2 w3
theorem M9.same {K : PySem.W.Frag} {H H' : Hp} {a D p pa pr pf : Addr} {ns : List Int} {z : Int} {x : Wr} (h : M9 K H a D p pa pr pf ns z x) (s : Same H H') : M9 K H' a D p pa pr pf ns z x := by
  obtain ⟨h1, h2, t, m, w0, w1, w2, w3, h3, h4, h5⟩ := h
  exact ⟨s.seq h1, h2.same s, t, m, w0, w1, w2, w3, s _ _ h3, s _ _ h4, h5⟩
theorem ne_wd : wWrit ≠ wDone := by decide +kernel
theorem ne_bd : wBase ≠ wDone := by decide +kernel
theorem okd_due {w z t m : Int} {x : Wr} {w0 w1 w2 w3 : Str} {j : Nat} (h0 : 0 ≤ w) (h10 : w ≤ 10) (p : Pr16 z t m x w0 w1 w2 w3) (d : Due16 w z t m x j) : Okd w w0 w1 w2 w3 (word j) := by
  rcases p with ⟨b, rfl, rfl, rfl, rfl⟩ | ⟨nb, p0, p1, p2, p3⟩
  · have j0 : j = 0 := by cases d <;> first | rfl | contradiction
    subst j0
    left
    unfold wantX wantW
    have e : (if w ≤ 1 then wBase else if w ≤ 8 then wBase else if w = 9 then wBase else wBase) = wBase := by
      split
      · rfl
      · split
        · rfl
        · split <;> rfl
    rw [e, if_neg (fun h => ne_bd h.2)]
    rfl
  · cases d with
    | base h => exact absurd h nb
    | frac g hw n =>
      left
      have e : wantW w w0 w1 w2 w3 = w0 := by unfold wantW; rw [if_pos (by omega)]
      have e0 : w0 = wFrac := by rcases p0 with ⟨_, h⟩ | ⟨h, _⟩; exact absurd h n; exact h
      unfold wantX
      rw [if_neg (fun h => by omega), e, e0]; rfl
    | frac9 g hw n =>
      left
      have e : wantW w w0 w1 w2 w3 = w2 := by unfold wantW; rw [if_neg (by omega), if_neg (by omega), if_pos hw]
      have e0 : w2 = wFrac := by rcases p2 with ⟨_, h⟩ | ⟨h, _⟩; exact absurd h n; exact h
      unfold wantX
      rw [if_neg (fun h => by omega), e, e0]; rfl
    | wr g h1 h2 n =>
      left
      have e : wantW w w0 w1 w2 w3 = w1 := by unfold wantW; rw [if_neg (by omega), if_pos h2]
      have e0 : w1 = wWrit := by rcases p1 with ⟨_, h, _⟩ | ⟨h, _⟩; exact absurd h n; exact h
      unfold wantX
      rw [e, e0, if_neg (fun h => ne_wd h.2)]; rfl
    | ring g hw n =>
      left
      have e : wantW w w0 w1 w2 w3 = w3 := by unfold wantW; rw [if_neg (by omega), if_neg (by omega), if_neg (by omega)]
      have e0 : w3 = wWrit := by rcases p3 with ⟨_, h⟩ | ⟨h, _⟩; exact absurd h n; exact h
      unfold wantX
      rw [if_neg (fun h => by omega), e, e0]; rfl
    | num g hw f =>
      left
      have e : wantW w w0 w1 w2 w3 = w1 := by unfold wantW; rw [if_neg (by omega), if_pos (by omega)]
      have e0 : w1 = wDone := by rcases p1 with ⟨h, _⟩ | ⟨_, h⟩; exact h; exact absurd f h
      unfold wantX
      rw [e, if_pos ⟨hw, e0⟩]; rfl
    | long g hw f =>
      right
      have e : wantW w w0 w1 w2 w3 = w1 := by unfold wantW; rw [if_neg (by omega), if_pos (by omega)]
      have e0 : w1 = wDone := by rcases p1 with ⟨h, _⟩ | ⟨_, h⟩; exact h; exact absurd f h
      exact ⟨hw, e.trans e0, rfl⟩
theorem okd_fine {w z t m : Int} {x : Wr} {w0 w1 w2 w3 : Str} (h0 : 0 ≤ w) (p : Pr16 z t m x w0 w1 w2 w3) (d : Fine16 w z t m x) : Okd w w0 w1 w2 w3 wDone := by
  rcases p with ⟨b, rfl, rfl, rfl, rfl⟩ | ⟨nb, p0, p1, p2, p3⟩
  · cases d <;> contradiction
  · left
    cases d with
    | fr g hw f =>
      have e : wantW w w0 w1 w2 w3 = w0 := by unfold wantW; rw [if_pos (by omega)]
      have e0 : w0 = wDone := by rcases p0 with ⟨h, _⟩ | ⟨_, h⟩; exact h; exact absurd f h
      unfold wantX
      rw [if_neg (fun h => by omega), e, e0]
    | wr g h1 h2 f =>
      have e : wantW w w0 w1 w2 w3 = w1 := by unfold wantW; rw [if_neg (by omega), if_pos (by omega)]
      have e0 : w1 = wDone := by rcases p1 with ⟨h, _⟩ | ⟨_, h⟩; exact h; exact absurd f h
      unfold wantX
      rw [if_neg (fun h => by omega), e, e0]
    | len g hw f =>
      have e : wantW w w0 w1 w2 w3 = w2 := by unfold wantW; rw [if_neg (by omega), if_neg (by omega), if_pos hw]
      have e0 : w2 = wDone := by rcases p2 with ⟨h, _⟩ | ⟨_, h⟩; exact h; exact absurd f h
      unfold wantX
      rw [if_neg (fun h => by omega), e, e0]
    | ring g hw f =>
      have e : wantW w w0 w1 w2 w3 = w3 := by unfold wantW; rw [if_neg (by omega), if_neg (by omega), if_neg (by omega)]
      have e0 : w3 = wDone := by rcases p3 with ⟨h, _⟩ | ⟨_, h⟩; exact h; exact absurd f h
      unfold wantX
      rw [if_neg (fun h => by omega), e, e0]
theorem go_triedall {K : PySem.W.Frag} {H : Hp} {w z t m : Int} {pf p a r : Addr} {x : Wr} {w0 w1 w2 w3 : Str} {Q : VK} {E : XK} (h0 : 0 ≤ w) (h10 : w ≤ 10) (pr : Pr16 z t m x w0 w1 w2 w3) (hf : H pf = some (.tup [.int t, .int m])) (h : WrAt H p a r x)
    (q : ∀ H' tl, Same H H' → Okd w w0 w1 w2 w3 tl → Q (.str tl) H') : sp_xlawtried K [.int w, .int z, .ref pf, .ref p] H Q E := by
  refine go_xlawtried t m h0 h10 hf h (fun _ b ez h1 h2 ok => ?_) (fun j H' d s => q _ _ s (okd_due h0 h10 pr d)) (fun f H' s => q _ _ s (okd_fine h0 pr f))
  rcases pr with ⟨bad, _⟩ | ⟨_, _, p1, _, _⟩
  · unfold BadB at bad; omega
  · rcases p1 with ⟨_, _, L⟩ | ⟨_, n⟩
    · rw [ez, Int.toNat_natCast] at L; exact L
    · exact absurd ok n
def sp_law (K : PySem.W.Frag) : Sp := fun vs H Q _ => ∃ (a : Addr) (ns : List Int), vs = [.ref a] ∧ SqL K H a (ns.map V.int) ∧ ns.length ≤ 63 ∧ ∀ H', Q (.bl true) H'
section
variable {P : Program} {w : World} {K : PySem.W.Frag} {mg : Str → Option Value} {base : Heap}
theorem ok_law {f : Addr} {fd : FuncData} (F : Fun K "law" "law" s_law f fd) (M : Md K mg) {c : Cs} (N : Me K mg c) (c_xlawcellat : Cal P w K mg base 1 "_law_cell_at" (sp_xlawcellat K) []) (c_xlawwritingby : Cal P w K mg base 3 "_law_writing_by" (sp_xlawwritingby K) []) (c_xlawtried : Cal P w K mg base 6 "_law_tried" (sp_xlawtried K) []) (c_xlawspoilt : Cal P w K mg base 2 "_law_spoilt" (sp_xlawspoilt K) []) : FnOk P w K mg base CX0 7 f fd ["script"] (sp_law K) := by
  refine F.ok sc_law (fun vs H Q E h => ?_) (fun cdv A outer s H vs Q E hr h => ?_)
  · obtain ⟨a, ns, rfl, hS, hlen, q⟩ := h
    all_goals rfl
  · have hu := hu_of hr
    obtain ⟨a, ns, rfl, hS, hlen, q⟩ := h
    obtain ⟨b, hb, hb1, hb2⟩ : ∃ b : Nat, 2 + cl ns 0 % 35 = (b : Int) ∧ 2 ≤ b ∧ b ≤ 36 := ⟨(2 + cl ns 0 % 35).toNat, by omega, by omega, by omega⟩
    have e12 : (10 : Int) ^ (12 : Int).toNat = 1000000000000 := by decide
    have nb : ¬ BadB (b : Int) := fun h => by unfold BadB at h; omega
    refine ⟨_, (Evl.pss_cut (ps_set (i := 1) sc_law.nd rfl (.inl rfl) (pe_op op_add pe_int (pe_op op_mod (pe_c c_xlawcellat hr (by decide) (by rfl) (pa_cons (pv 0) (pa_cons pe_int pa_nil))) pe_int)))
      (Evl.pss_cut (ps_set (i := 2) sc_law.nd rfl (.inl rfl) (pe_op op_mod (pe_c c_xlawcellat hr (by decide) (by rfl) (pa_cons (pv 0) (pa_cons pe_int pa_nil))) (pe_op op_pow pe_int pe_int)))
      (Evl.pss_cut (ps_set (i := 3) sc_law.nd rfl (.inl rfl) (pe_tup (pa_cons (pe_op op_mod (pe_c c_xlawcellat hr (by decide) (by rfl) (pa_cons (pv 0) (pa_cons pe_int pa_nil))) (pe_op op_add (pe_op op_pow pe_int pe_int) pe_int)) (pa_cons (pe_op op_add pe_int (pe_op op_mod (pe_c c_xlawcellat hr (by decide) (by rfl) (pa_cons (pv 0) (pa_cons pe_int pa_nil))) pe_int)) pa_nil))))
      (Evl.pss_cut (ps_set (i := 4) sc_law.nd rfl (.inl rfl) (pe_c c_xlawwritingby hr (by decide) (by rfl) (pa_cons (pv 0) (pa_cons pe_int (pa_cons (pv 1) pa_nil)))))
      (Evl.pss_cut (ps_set (i := 5) sc_law.nd rfl (.inl rfl) (pe_op op_mod (pe_c c_xlawcellat hr (by decide) (by rfl) (pa_cons (pv 0) (pa_cons pe_int pa_nil))) pe_int))
      (pss_cons (ps_set (i := 6) sc_law.nd rfl (.inl rfl) (pe_lst (pa_cons pe_str (pa_cons pe_str (pa_cons pe_str (pa_cons pe_str pa_nil))))))
      (Evl.pss_cut (ps_if (pt_cmpR op_lt (pv 5) pe_int (nomark _))
        (pss_cons (ps_set (i := 4) sc_law.nd rfl (.inl rfl) (pe_c c_xlawspoilt hr (by decide) (by rfl) (pa_cons (pv 0) (pa_cons (pv 1) (pa_cons (pv 4) (pa_cons (pv 5) (pa_cons (pv 2) pa_nil)))))))
      (pss_cons (ps_asg pe_str (pg_sub (pv 6) pe_int set_list))
      (pss_one (ps_asg (pe_ix ix_list (pe_lst (pa_cons pe_str (pa_cons pe_str pa_nil))) (pe_callTy call_int1 (by rfl) M.m_int (by decide +kernel) (pa_cons (pe_and (pe_cmpR op_gt (pv 5) pe_int (nomark _)) (pe_one (pe_cmpR op_eq (pe_op op_mod (pv 5) pe_int) pe_int (nomark _)))) pa_nil)) (fun _ _ => rfl)) (pg_sub (pv 6) pe_int set_list))))) pss_nil)
      (Evl.pss_cut (ps_set (i := 7) sc_law.nd rfl (.inl rfl) (pe_op op_mod (pe_c c_xlawcellat hr (by decide) (by rfl) (pa_cons (pv 0) (pa_cons pe_int pa_nil))) pe_int))
      (Evl.pss_cut (ps_if (pt_cmpR op_lt (pv 7) pe_int (nomark _))
        (pss_cons (ps_set (i := 3) sc_law.nd rfl (.inl rfl) (pe_ix ix_list (pe_lst (pa_cons (pe_tup (pa_cons (pe_op op_sub (pe_un un_neg pe_int) (pv 2)) (pa_cons pe_int pa_nil))) (pa_cons (pe_tup (pa_cons (pe_op op_add (pe_op op_add (pe_op op_pow pe_int pe_int) pe_int) (pv 2)) (pa_cons pe_int pa_nil))) (pa_cons (pe_tup (pa_cons pe_int (pa_cons (pe_op op_sub pe_int (pv 2)) pa_nil))) (pa_cons (pe_tup (pa_cons pe_int (pa_cons (pe_op op_add pe_int (pv 2)) pa_nil))) pa_nil))))) (pv 7) (fun _ _ => rfl)))
      (pss_cons (ps_asg pe_str (pg_sub (pv 6) pe_int set_list))
      (pss_one (ps_asg (pe_ix ix_list (pe_lst (pa_cons pe_str (pa_cons pe_str pa_nil))) (pe_op op_fdivP (pv 7) pe_int) (fun _ _ => rfl)) (pg_sub (pv 6) pe_int set_list))))) pss_nil)
      (Evl.pss_cut (ps_if (pt_cmpR op_eq (pe_op op_mod (pe_c c_xlawcellat hr (by decide) (by rfl) (pa_cons (pv 0) (pa_cons pe_int pa_nil))) pe_int) pe_int (nomark _))
        (pss_cons (ps_set (i := 1) sc_law.nd rfl (.inl rfl) (pe_ix ix_list (pe_lst (pa_cons pe_int (pa_cons pe_int (pa_cons (pe_op op_sub pe_int (pv 2)) (pa_cons (pe_op op_add pe_int (pv 2)) pa_nil))))) (pe_op op_mod (pe_op op_fdivP (pe_c c_xlawcellat hr (by decide) (by rfl) (pa_cons (pv 0) (pa_cons pe_int pa_nil))) pe_int) pe_int) (fun _ _ => rfl)))
      (pss_one (ps_set (i := 6) sc_law.nd rfl (.inl rfl) (pe_lst (pa_cons pe_str (pa_cons pe_str (pa_cons pe_str (pa_cons pe_str pa_nil)))))))) pss_nil)
      (Evl.pss_cut (ps_if (PW.pt (pw_and (pt_cmpR op_eq (pe_op op_mod (pe_c c_xlawcellat hr (by decide) (by rfl) (pa_cons (pv 0) (pa_cons pe_int pa_nil))) pe_int) pe_int (nomark _)) (pw_and1 (pt_cmpR op_ne (pe_ix ix_list (pv 6) pe_int (fun _ _ => rfl)) pe_str (nomark _)))))
        (pss_cons (ps_set (i := 8) sc_law.nd rfl (.inl rfl) (pe_tup (pa_cons (pe_op op_pow pe_int pe_int) (pa_cons (pe_lc (own := [("k", 12)]) (g := gName 12) (tt := tYes) rfl sc_law.nd (pi_range1 (by rfl) M.m_range (pa_cons pe_int pa_nil)) (blkOk_by (own := [("k", 12)]) (N := ["script", "base", "far", "fraction", "writing", "way", "due", "kind", "long", "which", "wanted", "told", "k"]) (sc := defScope s_law) (by decide +kernel)) (fun _ _ _ _ _ => (pg_name (i := 12) sc_law.nd rfl (.inl rfl))) (fun _ _ _ _ _ => pts_nil) (fun _ _ _ _ _ => pe_int)) (pa_cons (pe_op op_cat (pe_lst (pa_cons pe_int pa_nil)) (pe_lc (own := [("k", 12)]) (g := gName 12) (tt := tYes) rfl sc_law.nd (pi_range1 (by rfl) M.m_range (pa_cons pe_int pa_nil)) (blkOk_by (own := [("k", 12)]) (N := ["script", "base", "far", "fraction", "writing", "way", "due", "kind", "long", "which", "wanted", "told", "k"]) (sc := defScope s_law) (by decide +kernel)) (fun _ _ _ _ _ => (pg_name (i := 12) sc_law.nd rfl (.inl rfl))) (fun _ _ _ _ _ => pts_nil) (fun _ _ _ _ _ => pe_int))) pa_nil)))))
      (pss_one (ps_for PassesOwn.never rfl (pi_list (pe_lst (pa_cons pe_int (pa_cons pe_int (pa_cons pe_int pa_nil))))) (pg_name (i := 9) sc_law.nd rfl (.inl rfl))
        (pss_one (ps_if (pt_cmpR op_ne (pe_c c_xlawtried hr (by decide) (by rfl) (pa_cons (pv 9) (pa_cons (pv 1) (pa_cons (pe_tup (pa_cons pe_int (pa_cons pe_int pa_nil))) (pa_cons (pv 8) pa_nil))))) pe_str (nomark _))
        (pss_one (ps_ret pe_bl)) pss_nil))))) pss_nil)
      (Evl.pss_cut (ps_for PassesOwn.never rfl (pi_range1 (by rfl) M.m_range (pa_cons pe_int pa_nil)) (pg_name (i := 9) sc_law.nd rfl (.inl rfl))
        (pss_cons (ps_set (i := 10) sc_law.nd rfl (.inl rfl) (pe_ix ix_list (pe_lst (pa_cons (pe_ix ix_list (pv 6) pe_int (fun _ _ => rfl)) (pa_cons (pe_ix ix_list (pv 6) pe_int (fun _ _ => rfl)) (pa_cons (pe_ix ix_list (pv 6) pe_int (fun _ _ => rfl)) (pa_cons (pe_ix ix_list (pv 6) pe_int (fun _ _ => rfl)) (pa_cons (pe_ix ix_list (pv 6) pe_int (fun _ _ => rfl)) (pa_cons (pe_ix ix_list (pv 6) pe_int (fun _ _ => rfl)) (pa_cons (pe_ix ix_list (pv 6) pe_int (fun _ _ => rfl)) (pa_cons (pe_ix ix_list (pv 6) pe_int (fun _ _ => rfl)) (pa_cons (pe_ix ix_list (pv 6) pe_int (fun _ _ => rfl)) (pa_cons (pe_ix ix_list (pv 6) pe_int (fun _ _ => rfl)) (pa_cons (pe_ix ix_list (pv 6) pe_int (fun _ _ => rfl)) pa_nil)))))))))))) (pv 9) (fun _ _ => rfl)))
      (pss_cons (ps_set (i := 11) sc_law.nd rfl (.inl rfl) (pe_c c_xlawtried hr (by decide) (by rfl) (pa_cons (pv 9) (pa_cons (pv 1) (pa_cons (pv 3) (pa_cons (pv 4) pa_nil))))))
      (pss_cons (ps_if (PW.pt (pw_and (pt_cmpR op_eq (pv 9) pe_int (nomark _)) (pw_and1 (pt_cmpR op_eq (pv 10) pe_str (nomark _)))))
        (pss_one (ps_set (i := 10) sc_law.nd rfl (.inl rfl) pe_str)) pss_nil)
      (pss_one (ps_if (PW.pt (pw_and (pt_cmpR op_ne (pv 11) (pv 10) (nomark _)) (pw_and1 (pt_not (PW.pt (pw_and (pt_cmpR op_in_seq (pv 9) (pe_tup (pa_cons pe_int (pa_cons pe_int pa_nil))) (by rfl)) (pw_and (pt_cmpR op_eq (pv 10) pe_str (nomark _)) (pw_and1 (pt_cmpR op_eq (pv 11) pe_str (nomark _))))))))))
        (pss_one (ps_ret pe_bl)) pss_nil))))))
      (pss_one (ps_ret pe_bl)))))))))))))), ?_⟩
    refine ⟨fun σ H' => H = H' ∧ σ = [some (.ref a), some (.int (b : Int)), none, none, none, none, none, none, none, none, none, none, none], ?_, fun σ H' hM => ?_⟩
    · walk_at "st"
      rw [← hb]; rfl
    obtain ⟨rfl, rfl⟩ := hM
    refine ⟨fun σ H' => H = H' ∧ ∃ far : Int, 0 ≤ far ∧ σ = [some (.ref a), some (.int (b : Int)), some (.int far), none, none, none, none, none, none, none, none, none, none], ?_, fun σ H' hM => ?_⟩
    · walk_at "st"
      exact ⟨_, Int.emod_nonneg _ (by decide), rfl⟩
    obtain ⟨rfl, far, far0, rfl⟩ := hM
    refine ⟨fun σ H' => Same H H' ∧ ∃ (pf : Addr) (t m : Int), H' pf = some (.tup [.int t, .int m]) ∧ FrOk t m ∧ σ = [some (.ref a), some (.int (b : Int)), some (.int far), some (.ref pf), none, none, none, none, none, none, none, none, none], ?_, fun σ H1 hM => ?_⟩
    · walk_at "st"
      intro pf npf
      refine ⟨same_upd npf, pf, _, _, upd_same, ?_, rfl⟩
      rw [e12]
      unfold FrOk
      omega
    obtain ⟨s1, pf, t, m, hpf, fok, rfl⟩ := hM
    have hS1 := s1.seq hS
    refine ⟨fun σ H' => Same H1 H' ∧ ∃ (p pa pr : Addr) (x : Wr), WrAt H' p pa pr x ∧ WrOk b x ∧ x.a.length ≤ 124 ∧ x.r.length ≤ 138 ∧ σ = [some (.ref a), some (.int (b : Int)), some (.int far), some (.ref pf), some (.ref p), none, none, none, none, none, none, none, none], ?_, fun σ H2 hM => ?_⟩
    · walk_at "st"
      refine go_xlawwritingby (by decide) (by omega) (by omega) hS1 (fun H2 p1 a1 r1 x w1 ok1 la lr => ?_)
      walk_at "st"
      exact ⟨w1.same, p1, a1, r1, x, w1.at', ok1, la, lr, rfl⟩
    obtain ⟨s2, p, pa, pr, x, hx, ok, la, lr, rfl⟩ := hM
    have hS2 := s2.seq hS1
    have hpf2 := s2 _ _ hpf
    refine ⟨fun σ H' => H2 = H' ∧ ∃ way : Int, 0 ≤ way ∧ way < 16 ∧ σ = [some (.ref a), some (.int (b : Int)), some (.int far), some (.ref pf), some (.ref p), some (.int way), none, none, none, none, none, none, none], ?_, fun σ H' hM => ?_⟩
    · walk_at "st"
      exact ⟨_, Int.emod_nonneg _ (by decide), Int.emod_lt_of_pos _ (by decide), rfl⟩
    obtain ⟨rfl, way, w0, w16, rfl⟩ := hM
    walk_at "st"
    intro D nD
    have s3 := same_upd (o := .lst [.str wDone, .str wDone, .str wDone, .str wDone]) nD
    have kD := upd_same (H := H2) (a := D) (o := .lst [.str wDone, .str wDone, .str wDone, .str wDone])
    generalize upd H2 D (.lst [.str wDone, .str wDone, .str wDone, .str wDone]) = H3 at *
    have hS3 := s3.seq hS2
    have hpf3 := s3 _ _ hpf2
    have hx3 := hx.same s3
    have s23 : Same H2 H3 := s3
    refine ⟨fun σ H' => Same H2 H' ∧ ∃ (p pa pr : Addr) (x : Wr) (w1 w3 : Str), WrAt H' p pa pr x ∧ (pa ≠ D ∧ pr ≠ D) ∧ H' D = some (.lst [.str wDone, .str w1, .str wDone, .str w3]) ∧ (w1 = wDone ∧ WrOk b x ∧ (∃ u v, LW b x u v) ∨ w1 = wWrit ∧ ¬ WrOk b x) ∧ (w3 = wDone ∧ FgOk b x.r ∨ w3 = wWrit ∧ ¬ FgOk b x.r) ∧
        σ = [some (.ref a), some (.int (b : Int)), some (.int far), some (.ref pf), some (.ref p), some (.int way), some (.ref D), none, none, none, none, none, none], ?_, fun σ H4 hM => ?_⟩
    · walk_at "st"
      refine iteD (fun c => ?_) (fun c => ?_)
      · walk_at "st"
        refine go_xlawspoilt hS3 hx3 ok la lr w0 (by omega) far0 (fun H4 p4 a4 r4 y w4 nok rng => ?_)
        have kD4 := w4.same _ _ kD
        walk_at "st"
        have s5 : Same H2 (upd H4 D (.lst ([V.str wDone, .str wDone, .str wDone, .str wDone].set (Int.toNat 1) (.str wWrit)))) := same_new (s3.trans w4.same) nD
        have kD5 : upd H4 D (.lst ([V.str wDone, .str wDone, .str wDone, .str wDone].set (Int.toNat 1) (.str wWrit))) D = some (.lst [.str wDone, .str wWrit, .str wDone, .str wDone]) := upd_same
        have y5 : WrAt (upd H4 D (.lst ([V.str wDone, .str wDone, .str wDone, .str wDone].set (Int.toNat 1) (.str wWrit)))) p4 a4 r4 y := ⟨(upd_ne (Ne.symm (ne_of_none kD w4.np))).trans w4.at'.tp, (upd_ne (Ne.symm (ne_of_none kD w4.na))).trans w4.at'.la, (upd_ne (Ne.symm (ne_of_none kD w4.nr))).trans w4.at'.lr⟩
        intro E1 nE1
        have s6 := same_upd (o := .lst [V.str wDone, .str wWrit]) nE1
        have kE6 := upd_same (H := upd H4 D (.lst ([V.str wDone, .str wDone, .str wDone, .str wDone].set (Int.toNat 1) (.str wWrit)))) (a := E1) (o := .lst [V.str wDone, .str wWrit])
        have kD6 := s6 _ _ kD5
        have y6 := y5.same s6
        have s26 := s5.trans s6
        walk_at "st"
        have fin : ∀ w3 : Str, (w3 = wDone ∧ FgOk b y.r ∨ w3 = wWrit ∧ ¬ FgOk b y.r) → Same H2 (upd (upd (upd H4 D (.lst ([V.str wDone, .str wDone, .str wDone, .str wDone].set (Int.toNat 1) (.str wWrit)))) E1 (.lst [V.str wDone, .str wWrit])) D (.lst [.str wDone, .str wWrit, .str wDone, .str w3])) ∧ ∃ (p pa pr : Addr) (x : Wr) (w1 w3' : Str), WrAt (upd (upd (upd H4 D (.lst ([V.str wDone, .str wDone, .str wDone, .str wDone].set (Int.toNat 1) (.str wWrit)))) E1 (.lst [V.str wDone, .str wWrit])) D (.lst [.str wDone, .str wWrit, .str wDone, .str w3])) p pa pr x ∧ (pa ≠ D ∧ pr ≠ D) ∧ (upd (upd (upd H4 D (.lst ([V.str wDone, .str wDone, .str wDone, .str wDone].set (Int.toNat 1) (.str wWrit)))) E1 (.lst [V.str wDone, .str wWrit])) D (.lst [.str wDone, .str wWrit, .str wDone, .str w3])) D = some (.lst [.str wDone, .str w1, .str wDone, .str w3']) ∧ (w1 = wDone ∧ WrOk b x ∧ (∃ u v, LW b x u v) ∨ w1 = wWrit ∧ ¬ WrOk b x) ∧ (w3' = wDone ∧ FgOk b x.r ∨ w3' = wWrit ∧ ¬ FgOk b x.r) ∧
            [some (V.ref a), some (.int (b : Int)), some (.int far), some (.ref pf), some (.ref p4), some (.int way), some (.ref D), none, none, none, none, none, none] = [some (V.ref a), some (.int (b : Int)), some (.int far), some (.ref pf), some (.ref p), some (.int way), some (.ref D), none, none, none, none, none, none] :=
          fun w3 hw3 => ⟨same_new s26 nD, p4, a4, r4, y, wWrit, w3, ⟨(upd_ne (Ne.symm (ne_of_none kD w4.np))).trans y6.tp, (upd_ne (Ne.symm (ne_of_none kD w4.na))).trans y6.la, (upd_ne (Ne.symm (ne_of_none kD w4.nr))).trans y6.lr⟩, ⟨Ne.symm (ne_of_none kD w4.na), Ne.symm (ne_of_none kD w4.nr)⟩, upd_same, .inr ⟨rfl, nok⟩, hw3, rfl⟩
        refine iteD (fun g1 => ?_) (fun g1 => ?_)
        · walk_at "st"
          by_cases g2 : way % 2 = 1
          · rw [decide_eq_true (show V.int (way % 2) = V.int 1 from congrArg V.int g2)]
            refine .inr ⟨_, rfl, ?_⟩
            refine ⟨E1, _, _, _, rfl, rfl, sql kE6, atI_of (j := 1) rfl rfl, ?_⟩
            refine ⟨_, rfl, D, _, _, 3, rfl, rfl, kD6, ixN_of rfl (by decide), ?_⟩
            exact fin wWrit (.inr ⟨rfl, by rcases rng with h | h; exact h.2.2; exact absurd ⟨g1, g2⟩ h.1⟩)
          · rw [decide_eq_false (show ¬ V.int (way % 2) = V.int 1 from fun z => g2 (V.int.inj z))]
            refine .inr ⟨_, rfl, ?_⟩
            refine ⟨E1, _, _, _, rfl, rfl, sql kE6, atI_of (j := 0) rfl rfl, ?_⟩
            refine ⟨_, rfl, D, _, _, 3, rfl, rfl, kD6, ixN_of rfl (by decide), ?_⟩
            exact fin wDone (.inl ⟨rfl, by rcases rng with h | h; exact absurd h.2.1 g2; exact h.2⟩)
        · refine .inr ⟨_, rfl, ?_⟩
          refine ⟨E1, _, _, _, rfl, rfl, sql kE6, atI_of (j := 0) rfl rfl, ?_⟩
          refine ⟨_, rfl, D, _, _, 3, rfl, rfl, kD6, ixN_of rfl (by decide), ?_⟩
          exact fin wDone (.inl ⟨rfl, by rcases rng with h | h; exact absurd h.1 g1; exact h.2⟩)
      · obtain ⟨u, v, L⟩ := LW.drawn hb1 hb2 ok la lr
        exact ⟨s3, p, pa, pr, x, wDone, wDone, hx3, ⟨ne_of_none hx.la nD, ne_of_none hx.lr nD⟩, kD, .inl ⟨rfl, ok, u, v, L⟩, .inl ⟨rfl, ok.lr, ok.fr⟩, rfl⟩
    obtain ⟨s24, p, pa, pr, x, w1, w3, hx4, ⟨neA, neR⟩, kD4, p1, p3, rfl⟩ := hM
    clear hx3 hx kD ok la lr hpf3 hS3 s23 s3
    have hpf4 := s24 _ _ hpf2
    have hS4 := s24.seq hS2
    refine ⟨fun σ H' => H4 = H' ∧ ∃ kind : Int, 0 ≤ kind ∧ kind < 8 ∧ σ = [some (.ref a), some (.int (b : Int)), some (.int far), some (.ref pf), some (.ref p), some (.int way), some (.ref D), some (.int kind), none, none, none, none, none], ?_, fun σ H' hM => ?_⟩
    · walk_at "st"
      exact ⟨_, Int.emod_nonneg _ (by decide), Int.emod_lt_of_pos _ (by decide), rfl⟩
    obtain ⟨rfl, kind, k0, k8, rfl⟩ := hM
    refine ⟨fun σ H' => ∃ pf : Addr, M8 H2 H' D p pa pr x w1 w3 pf ∧ σ = [some (.ref a), some (.int (b : Int)), some (.int far), some (.ref pf), some (.ref p), some (.int way), some (.ref D), some (.int kind), none, none, none, none, none], ?_, fun σ H5 hM => ?_⟩
    · walk_at "st"
      refine iteD (fun c => ?_) (fun c => ?_)
      · walk_at "st"
        intro t0 n0
        have u1 := same_upd (o := .tup [.int (-1 - far), .int 7]) n0
        have c0 := upd_same (H := H4) (a := t0) (o := .tup [.int (-1 - far), .int 7])
        generalize upd H4 t0 (.tup [.int (-1 - far), .int 7]) = G1 at *
        walk_at "st"
        rw [e12]
        intro t1 n1
        have u2 := same_upd (o := .tup [.int (1000000000000 + 1 + far), .int 7]) n1
        have c1 := upd_same (H := G1) (a := t1) (o := .tup [.int (1000000000000 + 1 + far), .int 7])
        generalize upd G1 t1 (.tup [.int (1000000000000 + 1 + far), .int 7]) = G2 at *
        walk_at "st"
        intro t2 n2
        have u3 := same_upd (o := .tup [.int 5, .int (0 - far)]) n2
        have c2 := upd_same (H := G2) (a := t2) (o := .tup [.int 5, .int (0 - far)])
        generalize upd G2 t2 (.tup [.int 5, .int (0 - far)]) = G3 at *
        walk_at "st"
        intro t3 n3
        have u4 := same_upd (o := .tup [.int 5, .int (2001 + far)]) n3
        have c3 := upd_same (H := G3) (a := t3) (o := .tup [.int 5, .int (2001 + far)])
        generalize upd G3 t3 (.tup [.int 5, .int (2001 + far)]) = G4 at *
        walk_at "st"
        intro E0 nE0
        have u5 := same_upd (o := .lst [.ref t0, .ref t1, .ref t2, .ref t3]) nE0
        have kE0 := upd_same (H := G4) (a := E0) (o := .lst [.ref t0, .ref t1, .ref t2, .ref t3])
        generalize upd G4 E0 (.lst [.ref t0, .ref t1, .ref t2, .ref t3]) = G5 at *
        have u45 := (((u1.trans u2).trans u3).trans u4).trans u5
        obtain ⟨pf', t', m', hat, hpf', nf, hm⟩ : ∃ (pf' : Addr) (t' m' : Int), atI [V.ref t0, .ref t1, .ref t2, .ref t3] kind = some (.ref pf') ∧ G5 pf' = some (.tup [.int t', .int m']) ∧ ¬ FrOk t' m' ∧ ((kind / 2 = 0 ∧ FrOk 0 m') ∨ (kind / 2 = 1 ∧ ¬ FrOk 0 m')) := by
          obtain ⟨j, rfl⟩ : ∃ j : Nat, kind = j := ⟨kind.toNat, by omega⟩
          have j4 : j < 4 := by omega
          match j, j4 with
          | 0, _ => exact ⟨t0, _, _, rfl, u5 _ _ (u4 _ _ (u3 _ _ (u2 _ _ c0))), by unfold FrOk; omega, .inl ⟨by decide, by unfold FrOk; omega⟩⟩
          | 1, _ => exact ⟨t1, _, _, rfl, u5 _ _ (u4 _ _ (u3 _ _ c1)), by unfold FrOk; omega, .inl ⟨by decide, by unfold FrOk; omega⟩⟩
          | 2, _ => exact ⟨t2, _, _, rfl, u5 _ _ (u4 _ _ c2), by unfold FrOk; omega, .inr ⟨by decide, by unfold FrOk; omega⟩⟩
          | 3, _ => exact ⟨t3, _, _, rfl, u5 _ _ c3, by unfold FrOk; omega, .inr ⟨by decide, by unfold FrOk; omega⟩⟩
        have kD5 := u45 _ _ kD4
        have hx5 := hx4.same u45
        have hS5 := u45.seq hS4
        walk_at "st"
        refine ⟨E0, _, _, _, rfl, rfl, sql kE0, hat, ?_⟩
        have s25 := s24.trans u45
        have neD5 : ∀ {q : Addr} {l : List V}, G5 q = some (.tup l) → q ≠ D := fun h => ne_of h kD5 (fun z => by cases z)
        have h6 : ∀ o : HO, WrAt (upd G5 D o) p pa pr x ∧ (upd G5 D o) pf' = some (.tup [.int t', .int m']) ∧ Same H2 (upd G5 D o) := fun o => ⟨⟨(upd_ne (neD5 hx5.tp)).trans hx5.tp, (upd_ne neA).trans hx5.la, (upd_ne neR).trans hx5.lr⟩, (upd_ne (neD5 hpf')).trans hpf', same_new s25 nD⟩
        walk_at "st"
        intro E1 nE1
        obtain ⟨hx6, hpf6, s26⟩ := h6 (.lst ([V.str wDone, .str w1, .str wDone, .str w3].set (Int.toNat 0) (.str wFrac)))
        have kD6 : upd G5 D (.lst ([V.str wDone, .str w1, .str wDone, .str w3].set (Int.toNat 0) (.str wFrac))) D = some (.lst [.str wFrac, .str w1, .str wDone, .str w3]) := upd_same
        have s7 := same_upd (o := .lst [V.str wDone, .str wFrac]) nE1
        have kE7 := upd_same (H := upd G5 D (.lst ([V.str wDone, .str w1, .str wDone, .str w3].set (Int.toNat 0) (.str wFrac)))) (a := E1) (o := .lst [V.str wDone, .str wFrac])
        have hx7 := hx6.same s7
        have hpf7 := s7 _ _ hpf6
        have kD7 := s7 _ _ kD6
        have s27 := s26.trans s7
        walk_at "st"
        rcases hm with ⟨hm, hm2⟩ | ⟨hm, hm2⟩
        · refine ⟨E1, _, _, _, rfl, rfl, sql kE7, atI_of (j := 0) hm rfl, ?_⟩
          refine ⟨_, rfl, D, _, _, 2, rfl, rfl, kD7, ixN_of rfl (show 2 < 4 by decide), ?_⟩
          exact ⟨pf', M8.mk' (w2 := wDone) nD neA neR s27 hx7 hpf7 kD7 nf (.inl ⟨rfl, hm2⟩), rfl⟩
        · refine ⟨E1, _, _, _, rfl, rfl, sql kE7, atI_of (j := 1) hm rfl, ?_⟩
          refine ⟨_, rfl, D, _, _, 2, rfl, rfl, kD7, ixN_of rfl (show 2 < 4 by decide), ?_⟩
          exact ⟨pf', M8.mk' (w2 := wFrac) nD neA neR s27 hx7 hpf7 kD7 nf (.inr ⟨rfl, hm2⟩), rfl⟩
      · exact ⟨pf, ⟨s24, hx4, t, m, wDone, wDone, hpf4, kD4, .inl ⟨rfl, fok⟩, .inl ⟨rfl, by unfold FrOk at *; omega⟩⟩, rfl⟩
    obtain ⟨pf, ⟨s25, hx5, t, m, w0, w2, hpf5, kD5, p0, p2⟩, rfl⟩ := hM
    have hS5 := s25.seq hS2
    have pr5 : Pr16 (b : Int) t m x w0 w1 w2 w3 := .inr ⟨nb, p0, by rw [Int.toNat_natCast]; exact p1, p2, p3⟩
    clear s24 s25 hx4 kD4 p0 p1 p2 p3 hpf4 hS4 hS2 nD
    refine ⟨fun σ H' => ∃ (D pf : Addr) (z : Int), M9 K H' a D p pa pr pf ns z x ∧ σ = [some (.ref a), some (.int z), some (.int far), some (.ref pf), some (.ref p), some (.int way), some (.ref D), some (.int kind), none, none, none, none, none], ?_, fun σ H6 hM => ?_⟩
    · walk_at "st"
      refine iteE (fun c => ?_) (fun c => ?_)
      · walk_at "st"
        intro E1 nE1
        have s6 := same_upd (o := .lst [V.int 1, .int 37, .int (1 - far), .int (37 + far)]) nE1
        have kE1 := upd_same (H := H5) (a := E1) (o := .lst [V.int 1, .int 37, .int (1 - far), .int (37 + far)])
        generalize upd H5 E1 (.lst [V.int 1, .int 37, .int (1 - far), .int (37 + far)]) = H6 at *
        obtain ⟨z, hz, bz⟩ : ∃ z : Int, atI [V.int 1, .int 37, .int (1 - far), .int (37 + far)] (cl ns 17 / 4 % 4) = some (.int z) ∧ BadB z := by
          obtain ⟨j, hj, ej⟩ : ∃ j : Nat, j < 4 ∧ cl ns 17 / 4 % 4 = (j : Int) := ⟨(cl ns 17 / 4 % 4).toNat, by omega, by omega⟩
          rw [ej]
          match j, hj with
          | 0, _ => exact ⟨1, rfl, by unfold BadB; omega⟩
          | 1, _ => exact ⟨37, rfl, by unfold BadB; omega⟩
          | 2, _ => exact ⟨1 - far, rfl, by unfold BadB; omega⟩
          | 3, _ => exact ⟨37 + far, rfl, by unfold BadB; omega⟩
        have hS6 := s6.seq hS5
        walk_at "st"
        refine ⟨E1, _, _, _, rfl, rfl, sql kE1, hz, ?_⟩
        walk_at "st"
        intro D2 nD2
        have s7 := same_upd (o := .lst [V.str wBase, .str wBase, .str wBase, .str wBase]) nD2
        exact ⟨D2, pf, z, ⟨s7.seq hS6, (hx5.same s6).same s7, t, m, wBase, wBase, wBase, wBase, s7 _ _ (s6 _ _ hpf5), upd_same, .inl ⟨bz, rfl, rfl, rfl, rfl⟩⟩, rfl⟩
      · exact ⟨D, pf, b, ⟨hS5, hx5, t, m, w0, w1, w2, w3, hpf5, kD5, pr5⟩, rfl⟩
    clear hpf5 kD5 pr5 hx5 hS5
    obtain ⟨D, pf, z, M6, rfl⟩ := hM
    obtain ⟨hS6, hx6, t, m, w0, w1, w2, w3, hpf6, kD6, pr6⟩ := id M6
    refine ⟨fun σ H' => Same H6 H' ∧ ∃ e8 e9, σ = [some (.ref a), some (.int z), some (.int far), some (.ref pf), some (.ref p), some (.int way), some (.ref D), some (.int kind), e8, e9, none, none, none], ?_, fun σ H7 hM => ?_⟩
    · walk_at "st"
      refine iteE (fun c => ?_) (fun c => ?_)
      · walk_at "st"
        refine iteDn (fun nz => ?_) (fun _ => ⟨Same.refl _, none, none, rfl⟩)
        have gz : ¬ BadB z := by
          rcases pr6 with ⟨_, _, h, _⟩ | ⟨h, _⟩
          · exact absurd (by rw [h]) nz
          · exact h
        have iz := intB gz
        walk_at "st"
        refine ⟨by decide, by decide, fun L0 nL0 => ?_⟩
        refine lc_rng (n := 4000) (fun _ => V.int 0) nL0 (by decide) (fun _ => rfl) (fun j hj H' Q' s' q' => ?_) (fun H8 s8 hL0 => ?_)
        · walk_at "st"
          exact q' _ (Same.refl _)
        have nL0' := nL0
        walk_at "st"
        intro o1 no1
        have s9 := same_ups (o := .lst [V.int 1]) s8 no1
        have ho1 := upd_same (H := H8) (a := o1) (o := .lst [V.int 1])
        have hL0' := (upd_ne (o := .lst [V.int 1]) (ne_of_none hL0 no1)).trans hL0
        generalize upd H8 o1 (.lst [V.int 1]) = H9 at *
        walk_at "st"
        refine ⟨by decide, by decide, fun L1 nL1 => ?_⟩
        refine lc_rng (n := 3999) (fun _ => V.int 0) nL1 (by decide) (fun _ => rfl) (fun j hj H' Q' s' q' => ?_) (fun H10 s10 hL1 => ?_)
        · walk_at "st"
          exact q' _ (Same.refl _)
        refine ⟨o1, L1, _, _, rfl, rfl, s10 _ _ ho1, hL1, sz100 (by show 1 + _ ≤ _; rw [List.length_map, List.length_range]; decide), fun L2 nL2 => ?_⟩
        have hL2 := upd_same (H := H10) (a := L2) (o := .lst ([V.int 1] ++ (List.range 3999).map fun _ => V.int 0))
        have s11 := same_ups (o := .lst ([V.int 1] ++ (List.range 3999).map fun _ => V.int 0)) (s9.trans s10) nL2
        have hL0'' := (upd_ne (o := .lst ([V.int 1] ++ (List.range 3999).map fun _ => V.int 0)) (ne_of_none (s10 _ _ hL0') nL2)).trans (s10 _ _ hL0')
        generalize upd H10 L2 (.lst ([V.int 1] ++ (List.range 3999).map fun _ => V.int 0)) = H11 at *
        walk_at "st"
        intro pl npl
        have s12 := same_ups (o := .tup [.int (10 ^ (12 : Int).toNat), .ref L0, .ref L2]) s11 npl
        have hpl := upd_same (H := H11) (a := pl) (o := .tup [.int (10 ^ (12 : Int).toNat), .ref L0, .ref L2])
        have kL0 := (upd_ne (o := .tup [.int (10 ^ (12 : Int).toNat), .ref L0, .ref L2]) (ne_of_none hL0'' npl)).trans hL0''
        have kL2 := (upd_ne (o := .tup [.int (10 ^ (12 : Int).toNat), .ref L0, .ref L2]) (ne_of_none hL2 npl)).trans hL2
        generalize upd H11 pl (.tup [.int (10 ^ (12 : Int).toNat), .ref L0, .ref L2]) = H12 at *
        rw [e12] at hpl
        have lw12 : WrAt H12 pl L0 L2 ⟨1000000000000, (List.range 4000).map fun _ => 0, [1] ++ (List.range 3999).map fun _ => 0⟩ := by
          refine ⟨hpl, ?_, ?_⟩
          · rw [kL0, List.map_map]; rfl
          · rw [kL2, List.map_append, List.map_map]; rfl
        have okl : WrOk z ⟨1000000000000, (List.range 4000).map fun _ => 0, [1] ++ (List.range 3999).map fun _ => 0⟩ := by
          refine ⟨by decide, by decide, ?_, ?_, ?_, ?_⟩
          · show ((List.range 4000).map fun _ => (0 : Int)).length ≤ 4000
            rw [List.length_map, List.length_range]
            decide
          · show ([(1 : Int)] ++ (List.range 3999).map fun _ => (0 : Int)).length ≤ 4000
            rw [List.length_append, List.length_map, List.length_range]
            decide
          · intro y hy
            obtain ⟨_, _, rfl⟩ := List.mem_map.mp hy
            omega
          · intro y hy
            rcases List.mem_append.mp hy with h | h
            · rw [List.mem_singleton.mp h]; omega
            · obtain ⟨_, _, rfl⟩ := List.mem_map.mp h
              omega
        walk_at "st"
        intro E2 nE2
        have s13 := same_ups (o := .lst [V.int 4, .int 5, .int 10]) s12 nE2
        have kE2 := upd_same (H := H12) (a := E2) (o := .lst [V.int 4, .int 5, .int 10])
        have lw13 := lw12.same (same_upd (o := .lst [V.int 4, .int 5, .int 10]) nE2)
        generalize upd H12 E2 (.lst [V.int 4, .int 5, .int 10]) = H13 at *
        refine ⟨E2, rfl, ⟨_, sql kE2⟩, for_list (K := K) (a := E2) (xs := [V.int 4, .int 5, .int 10]) (fun i σ H' => Same H13 H' ∧ ∃ e9, σ = [some (.ref a), some (.int z), some (.int far), some (.ref pf), some (.ref p), some (.int way), some (.ref D), some (.int kind), some (.ref pl), e9, none, none, none])
          ⟨Same.refl _, none, rfl⟩ (fun i σ H' _ ⟨s, _⟩ => sql (s _ _ kE2)) (fun i w σ H' hi hv => ?_) (fun σ H' hv => ?_)⟩
        · obtain ⟨sm, e9, rfl⟩ := hv
          obtain ⟨wi, rfl, hwi⟩ : ∃ wi : Int, w = .int wi ∧ (wi = 4 ∨ wi = 5 ∨ wi = 10) := by
            match i, hi with
            | 0, hi => exact ⟨4, (Option.some.inj hi).symm, .inl rfl⟩
            | 1, hi => exact ⟨5, (Option.some.inj hi).symm, .inr (.inl rfl)⟩
            | 2, hi => exact ⟨10, (Option.some.inj hi).symm, .inr (.inr rfl)⟩
            | n + 3, hi => exact absurd hi (by simp)
          walk_at "st"
          intro tf ntf
          have st := same_upd (o := .tup [V.int 1, .int 1]) ntf
          walk_at "st"
          refine go_xlawtried 1 1 (by omega) (by omega) upd_same ((lw13.same sm).same st) (fun h => absurd h (by omega)) (fun j H' d s => absurd d (due_none hwi gz okl)) (fun f H14 s14 => ?_)
          walk_at "st"
          exact ⟨(sm.trans st).trans s14, _, rfl⟩
        · obtain ⟨sm, e9, rfl⟩ := hv
          exact ⟨s13.trans sm, _, _, rfl⟩
      · walk_at "st"
        exact ⟨Same.refl _, none, none, rfl⟩
    obtain ⟨s7, e8, e9, rfl⟩ := hM
    have M7 := M6.same s7
    obtain ⟨hS7, hx7, t, m, w0, w1, w2, w3, hpf7, kD7, pr7⟩ := M7
    clear M6 hS6 hx6 hpf6 kD6 pr6 s7
    refine ⟨fun σ H' => True, ?_, fun σ H8 _ => ?_⟩
    · walk_at "st"
      refine ⟨by decide, by decide, for_range (lo := 0) (n := 11) (fun i σ H' => Same H7 H' ∧ ∃ e9 e10 e11, σ = [some (.ref a), some (.int z), some (.int far), some (.ref pf), some (.ref p), some (.int way), some (.ref D), some (.int kind), e8, e9, e10, e11, none])
        ⟨Same.refl _, e9, none, none, rfl⟩ (fun i σ H' hi hv => ?_) (fun σ H' hv => trivial)⟩
      obtain ⟨sm, e9, e10, e11, rfl⟩ := hv
      have kD8 := sm _ _ kD7
      have hpf8 := sm _ _ hpf7
      have hx8 := hx7.same sm
      rw [Int.zero_add]
      obtain ⟨w, ew, hw0, hw10⟩ : ∃ w : Int, (i : Int) = w ∧ 0 ≤ w ∧ w ≤ 10 := ⟨i, rfl, by omega, by omega⟩
      rw [ew]
      have hat : atI [V.str w0, .str w0, .str w1, .str w1, .str w1, .str w1, .str w1, .str w1, .str w1, .str w2, .str w3] w = some (.str (wantW w w0 w1 w2 w3)) := by
        rw [← ew]
        match i, hi with
        | 0, _ => rfl
        | 1, _ => rfl
        | 2, _ => rfl
        | 3, _ => rfl
        | 4, _ => rfl
        | 5, _ => rfl
        | 6, _ => rfl
        | 7, _ => rfl
        | 8, _ => rfl
        | 9, _ => rfl
        | 10, _ => rfl
      walk_at "st"
      intro W nW
      have s9 := same_upd (o := .lst [V.str w0, .str w0, .str w1, .str w1, .str w1, .str w1, .str w1, .str w1, .str w1, .str w2, .str w3]) nW
      have kW := upd_same (H := H') (a := W) (o := .lst [V.str w0, .str w0, .str w1, .str w1, .str w1, .str w1, .str w1, .str w1, .str w1, .str w2, .str w3])
      generalize upd H' W (.lst [V.str w0, .str w0, .str w1, .str w1, .str w1, .str w1, .str w1, .str w1, .str w1, .str w2, .str w3]) = H9 at *
      have hpf9 := s9 _ _ hpf8
      have hx9 := hx8.same s9
      clear kD8 hpf8 hx8 kD7 hpf7 hx7
      walk_at "st"
      refine ⟨W, _, _, _, rfl, rfl, sql kW, hat, ?_⟩
      clear hat
      walk_at "st"
      refine go_triedall hw0 hw10 pr7 hpf9 hx9 (fun H10 tl s10 ok => ?_)
      have sm10 := (sm.trans s9).trans s10
      clear hpf9 hx9 kW nW s9 s10 pr7
      unfold Okd wantX at ok
      generalize wantW w w0 w1 w2 w3 = wn at *
      walk_at "st"
      refine iteE (fun c8 => ?_) (fun c8 => ?_)
      · walk_at "st"
        refine iteD (fun cd => ?_) (fun cd => ?_)
        · have cd' : wn = wDone := V.str.inj cd
          rw [if_pos ⟨c8, cd'⟩] at ok
          have e : tl = Str.ofString "number" := by
            rcases ok with e | ⟨h, _⟩
            · exact e
            · omega
          walk_at "st"
          refine iteDn (fun n => absurd (by rw [e]) n) (fun _ => ?_)
          exact ⟨sm10, _, _, _, rfl⟩
        · rw [if_neg (fun h => cd (by rw [h.2]))] at ok
          have e : tl = wn := by
            rcases ok with e | ⟨h, _⟩
            · exact e
            · omega
          walk_at "st"
          refine iteDn (fun n => absurd (by rw [e]) n) (fun _ => ?_)
          exact ⟨sm10, _, _, _, rfl⟩
      · rw [if_neg (fun h => c8 h.1)] at ok
        walk_at "st"
        rcases ok with e | ⟨hw67, ewd, etl⟩
        · refine iteDn (fun n => absurd (by rw [e]) n) (fun _ => ?_)
          exact ⟨sm10, _, _, _, rfl⟩
        · refine iteDn (fun _ => ?_) (fun _ => ?_)
          · walk_at "st"
            intro tu ntu
            have s11 := same_ups (o := .tup [V.int 6, .int 7]) sm10 ntu
            have inw : inV (.int w) [V.int 6, .int 7] = true := by
              rcases hw67 with h | h
              · rw [h]; decide
              · rw [h]; decide
            walk_at "st"
            rw [if_neg Bool.false_ne_true, inw]
            refine iteB (fun _ => ?_) (fun h => absurd h (by decide))
            walk_at "st"
            refine iteD (fun _ => ?_) (fun n => absurd (by rw [ewd]) n)
            walk_at "st"
            rw [decide_eq_true (show V.str tl = V.str (Str.ofString "long") from congrArg V.str etl)]
            first
              | exact ⟨s11, _, _, _, rfl⟩
              | (refine iteF ?_; exact ⟨s11, _, _, _, rfl⟩)
          · exact ⟨sm10, _, _, _, rfl⟩
    walk_at "st"
    exact q _
end
/-! ### the end -/
theorem all_mk {l : PySem.W.OpenLaw} {w : World} {K : PySem.W.Frag} {h : Heap} {mg : Str → Option Value} {fa : Addr} (X : K.In h) (G : h.Ns mainGlobals mg) (hfa : mg "law" = some (.ref fa))
    {f0 : Addr} {od0 an0 : Option Addr} {sl0 : Array (Option Value)} {oc0 kV0 dc0 pm0 cd0 ct0 : Value}
    (a0 : PySem.W.nsIn K mainGlobals "asked_base" = some (some (.ref f0)))
    (l0 : K.lookup f0 = some ⟨oc0, od0, .func (PySem.W.fnOf "asked_base" "asked_base" (defArgs s_askedbase) (defBody s_askedbase) (defScope s_askedbase) .none kV0 dc0 pm0 an0 cd0 ct0), sl0⟩)
    (e0 : PySem.W.codeIn K cd0 "asked_base" = true) (k0 : PySem.W.keepIn K (.ref f0) = true)
    {f1 : Addr} {od1 an1 : Option Addr} {sl1 : Array (Option Value)} {oc1 kV1 dc1 pm1 cd1 ct1 : Value}
    (a1 : PySem.W.nsIn K mainGlobals "asked_fraction" = some (some (.ref f1)))
    (l1 : K.lookup f1 = some ⟨oc1, od1, .func (PySem.W.fnOf "asked_fraction" "asked_fraction" (defArgs s_askedfraction) (defBody s_askedfraction) (defScope s_askedfraction) .none kV1 dc1 pm1 an1 cd1 ct1), sl1⟩)
    (e1 : PySem.W.codeIn K cd1 "asked_fraction" = true) (k1 : PySem.W.keepIn K (.ref f1) = true)
    {f2 : Addr} {od2 an2 : Option Addr} {sl2 : Array (Option Value)} {oc2 kV2 dc2 pm2 cd2 ct2 : Value}
    (a2 : PySem.W.nsIn K mainGlobals "asked_figures" = some (some (.ref f2)))
    (l2 : K.lookup f2 = some ⟨oc2, od2, .func (PySem.W.fnOf "asked_figures" "asked_figures" (defArgs s_askedfigures) (defBody s_askedfigures) (defScope s_askedfigures) .none kV2 dc2 pm2 an2 cd2 ct2), sl2⟩)
    (e2 : PySem.W.codeIn K cd2 "asked_figures" = true) (k2 : PySem.W.keepIn K (.ref f2) = true)
    {f3 : Addr} {od3 an3 : Option Addr} {sl3 : Array (Option Value)} {oc3 kV3 dc3 pm3 cd3 ct3 : Value}
    (a3 : PySem.W.nsIn K mainGlobals "asked_writing" = some (some (.ref f3)))
    (l3 : K.lookup f3 = some ⟨oc3, od3, .func (PySem.W.fnOf "asked_writing" "asked_writing" (defArgs s_askedwriting) (defBody s_askedwriting) (defScope s_askedwriting) .none kV3 dc3 pm3 an3 cd3 ct3), sl3⟩)
    (e3 : PySem.W.codeIn K cd3 "asked_writing" = true) (k3 : PySem.W.keepIn K (.ref f3) = true)
    {f4 : Addr} {od4 an4 : Option Addr} {sl4 : Array (Option Value)} {oc4 kV4 dc4 pm4 cd4 ct4 : Value}
    (a4 : PySem.W.nsIn K mainGlobals "common" = some (some (.ref f4)))
    (l4 : K.lookup f4 = some ⟨oc4, od4, .func (PySem.W.fnOf "common" "common" (defArgs s_common) (defBody s_common) (defScope s_common) .none kV4 dc4 pm4 an4 cd4 ct4), sl4⟩)
    (e4 : PySem.W.codeIn K cd4 "common" = true) (k4 : PySem.W.keepIn K (.ref f4) = true)
    {f5 : Addr} {od5 an5 : Option Addr} {sl5 : Array (Option Value)} {oc5 kV5 dc5 pm5 cd5 ct5 : Value}
    (a5 : PySem.W.nsIn K mainGlobals "lowest" = some (some (.ref f5)))
    (l5 : K.lookup f5 = some ⟨oc5, od5, .func (PySem.W.fnOf "lowest" "lowest" (defArgs s_lowest) (defBody s_lowest) (defScope s_lowest) .none kV5 dc5 pm5 an5 cd5 ct5), sl5⟩)
    (e5 : PySem.W.codeIn K cd5 "lowest" = true) (k5 : PySem.W.keepIn K (.ref f5) = true)
    {f6 : Addr} {od6 an6 : Option Addr} {sl6 : Array (Option Value)} {oc6 kV6 dc6 pm6 cd6 ct6 : Value}
    (a6 : PySem.W.nsIn K mainGlobals "divided" = some (some (.ref f6)))
    (l6 : K.lookup f6 = some ⟨oc6, od6, .func (PySem.W.fnOf "divided" "divided" (defArgs s_divided) (defBody s_divided) (defScope s_divided) .none kV6 dc6 pm6 an6 cd6 ct6), sl6⟩)
    (e6 : PySem.W.codeIn K cd6 "divided" = true) (k6 : PySem.W.keepIn K (.ref f6) = true)
    {f7 : Addr} {od7 an7 : Option Addr} {sl7 : Array (Option Value)} {oc7 kV7 dc7 pm7 cd7 ct7 : Value}
    (a7 : PySem.W.nsIn K mainGlobals "written" = some (some (.ref f7)))
    (l7 : K.lookup f7 = some ⟨oc7, od7, .func (PySem.W.fnOf "written" "written" (defArgs s_written) (defBody s_written) (defScope s_written) .none kV7 dc7 pm7 an7 cd7 ct7), sl7⟩)
    (e7 : PySem.W.codeIn K cd7 "written" = true) (k7 : PySem.W.keepIn K (.ref f7) = true)
    {f8 : Addr} {od8 an8 : Option Addr} {sl8 : Array (Option Value)} {oc8 kV8 dc8 pm8 cd8 ct8 : Value}
    (a8 : PySem.W.nsIn K mainGlobals "number_of" = some (some (.ref f8)))
    (l8 : K.lookup f8 = some ⟨oc8, od8, .func (PySem.W.fnOf "number_of" "number_of" (defArgs s_numberof) (defBody s_numberof) (defScope s_numberof) .none kV8 dc8 pm8 an8 cd8 ct8), sl8⟩)
    (e8 : PySem.W.codeIn K cd8 "number_of" = true) (k8 : PySem.W.keepIn K (.ref f8) = true)
    {f9 : Addr} {od9 an9 : Option Addr} {sl9 : Array (Option Value)} {oc9 kV9 dc9 pm9 cd9 ct9 : Value}
    (a9 : PySem.W.nsIn K mainGlobals "power" = some (some (.ref f9)))
    (l9 : K.lookup f9 = some ⟨oc9, od9, .func (PySem.W.fnOf "power" "power" (defArgs s_power) (defBody s_power) (defScope s_power) .none kV9 dc9 pm9 an9 cd9 ct9), sl9⟩)
    (e9 : PySem.W.codeIn K cd9 "power" = true) (k9 : PySem.W.keepIn K (.ref f9) = true)
    {f10 : Addr} {od10 an10 : Option Addr} {sl10 : Array (Option Value)} {oc10 kV10 dc10 pm10 cd10 ct10 : Value}
    (a10 : PySem.W.nsIn K mainGlobals "worth" = some (some (.ref f10)))
    (l10 : K.lookup f10 = some ⟨oc10, od10, .func (PySem.W.fnOf "worth" "worth" (defArgs s_worth) (defBody s_worth) (defScope s_worth) .none kV10 dc10 pm10 an10 cd10 ct10), sl10⟩)
    (e10 : PySem.W.codeIn K cd10 "worth" = true) (k10 : PySem.W.keepIn K (.ref f10) = true)
    {f11 : Addr} {od11 an11 : Option Addr} {sl11 : Array (Option Value)} {oc11 kV11 dc11 pm11 cd11 ct11 : Value}
    (a11 : PySem.W.nsIn K mainGlobals "shortest" = some (some (.ref f11)))
    (l11 : K.lookup f11 = some ⟨oc11, od11, .func (PySem.W.fnOf "shortest" "shortest" (defArgs s_shortest) (defBody s_shortest) (defScope s_shortest) .none kV11 dc11 pm11 an11 cd11 ct11), sl11⟩)
    (e11 : PySem.W.codeIn K cd11 "shortest" = true) (k11 : PySem.W.keepIn K (.ref f11) = true)
    {f12 : Addr} {od12 an12 : Option Addr} {sl12 : Array (Option Value)} {oc12 kV12 dc12 pm12 cd12 ct12 : Value}
    (a12 : PySem.W.nsIn K mainGlobals "one_more" = some (some (.ref f12)))
    (l12 : K.lookup f12 = some ⟨oc12, od12, .func (PySem.W.fnOf "one_more" "one_more" (defArgs s_onemore) (defBody s_onemore) (defScope s_onemore) .none kV12 dc12 pm12 an12 cd12 ct12), sl12⟩)
    (e12 : PySem.W.codeIn K cd12 "one_more" = true) (k12 : PySem.W.keepIn K (.ref f12) = true)
    {f13 : Addr} {od13 an13 : Option Addr} {sl13 : Array (Option Value)} {oc13 kV13 dc13 pm13 cd13 ct13 : Value}
    (a13 : PySem.W.nsIn K mainGlobals "made_plain" = some (some (.ref f13)))
    (l13 : K.lookup f13 = some ⟨oc13, od13, .func (PySem.W.fnOf "made_plain" "made_plain" (defArgs s_madeplain) (defBody s_madeplain) (defScope s_madeplain) .none kV13 dc13 pm13 an13 cd13 ct13), sl13⟩)
    (e13 : PySem.W.codeIn K cd13 "made_plain" = true) (k13 : PySem.W.keepIn K (.ref f13) = true)
    {f14 : Addr} {od14 an14 : Option Addr} {sl14 : Array (Option Value)} {oc14 kV14 dc14 pm14 cd14 ct14 : Value}
    (a14 : PySem.W.nsIn K mainGlobals "plain" = some (some (.ref f14)))
    (l14 : K.lookup f14 = some ⟨oc14, od14, .func (PySem.W.fnOf "plain" "plain" (defArgs s_plain) (defBody s_plain) (defScope s_plain) .none kV14 dc14 pm14 an14 cd14 ct14), sl14⟩)
    (e14 : PySem.W.codeIn K cd14 "plain" = true) (k14 : PySem.W.keepIn K (.ref f14) = true)
    {f15 : Addr} {od15 an15 : Option Addr} {sl15 : Array (Option Value)} {oc15 kV15 dc15 pm15 cd15 ct15 : Value}
    (a15 : PySem.W.nsIn K mainGlobals "is_plain" = some (some (.ref f15)))
    (l15 : K.lookup f15 = some ⟨oc15, od15, .func (PySem.W.fnOf "is_plain" "is_plain" (defArgs s_isplain) (defBody s_isplain) (defScope s_isplain) .none kV15 dc15 pm15 an15 cd15 ct15), sl15⟩)
    (e15 : PySem.W.codeIn K cd15 "is_plain" = true) (k15 : PySem.W.keepIn K (.ref f15) = true)
    {f16 : Addr} {od16 an16 : Option Addr} {sl16 : Array (Option Value)} {oc16 kV16 dc16 pm16 cd16 ct16 : Value}
    (a16 : PySem.W.nsIn K mainGlobals "lengths" = some (some (.ref f16)))
    (l16 : K.lookup f16 = some ⟨oc16, od16, .func (PySem.W.fnOf "lengths" "lengths" (defArgs s_lengths) (defBody s_lengths) (defScope s_lengths) .none kV16 dc16 pm16 an16 cd16 ct16), sl16⟩)
    (e16 : PySem.W.codeIn K cd16 "lengths" = true) (k16 : PySem.W.keepIn K (.ref f16) = true)
    {f17 : Addr} {od17 an17 : Option Addr} {sl17 : Array (Option Value)} {oc17 kV17 dc17 pm17 cd17 ct17 : Value}
    (a17 : PySem.W.nsIn K mainGlobals "rest_at" = some (some (.ref f17)))
    (l17 : K.lookup f17 = some ⟨oc17, od17, .func (PySem.W.fnOf "rest_at" "rest_at" (defArgs s_restat) (defBody s_restat) (defScope s_restat) .none kV17 dc17 pm17 an17 cd17 ct17), sl17⟩)
    (e17 : PySem.W.codeIn K cd17 "rest_at" = true) (k17 : PySem.W.keepIn K (.ref f17) = true)
    {f18 : Addr} {od18 an18 : Option Addr} {sl18 : Array (Option Value)} {oc18 kV18 dc18 pm18 cd18 ct18 : Value}
    (a18 : PySem.W.nsIn K mainGlobals "figure_at" = some (some (.ref f18)))
    (l18 : K.lookup f18 = some ⟨oc18, od18, .func (PySem.W.fnOf "figure_at" "figure_at" (defArgs s_figureat) (defBody s_figureat) (defScope s_figureat) .none kV18 dc18 pm18 an18 cd18 ct18), sl18⟩)
    (e18 : PySem.W.codeIn K cd18 "figure_at" = true) (k18 : PySem.W.keepIn K (.ref f18) = true)
    {f19 : Addr} {od19 an19 : Option Addr} {sl19 : Array (Option Value)} {oc19 kV19 dc19 pm19 cd19 ct19 : Value}
    (a19 : PySem.W.nsIn K mainGlobals "folds" = some (some (.ref f19)))
    (l19 : K.lookup f19 = some ⟨oc19, od19, .func (PySem.W.fnOf "folds" "folds" (defArgs s_folds) (defBody s_folds) (defScope s_folds) .none kV19 dc19 pm19 an19 cd19 ct19), sl19⟩)
    (e19 : PySem.W.codeIn K cd19 "folds" = true) (k19 : PySem.W.keepIn K (.ref f19) = true)
    {f20 : Addr} {od20 an20 : Option Addr} {sl20 : Array (Option Value)} {oc20 kV20 dc20 pm20 cd20 ct20 : Value}
    (a20 : PySem.W.nsIn K mainGlobals "text_of" = some (some (.ref f20)))
    (l20 : K.lookup f20 = some ⟨oc20, od20, .func (PySem.W.fnOf "text_of" "text_of" (defArgs s_textof) (defBody s_textof) (defScope s_textof) .none kV20 dc20 pm20 an20 cd20 ct20), sl20⟩)
    (e20 : PySem.W.codeIn K cd20 "text_of" = true) (k20 : PySem.W.keepIn K (.ref f20) = true)
    {f21 : Addr} {od21 an21 : Option Addr} {sl21 : Array (Option Value)} {oc21 kV21 dc21 pm21 cd21 ct21 : Value}
    (a21 : PySem.W.nsIn K mainGlobals "figures_of" = some (some (.ref f21)))
    (l21 : K.lookup f21 = some ⟨oc21, od21, .func (PySem.W.fnOf "figures_of" "figures_of" (defArgs s_figuresof) (defBody s_figuresof) (defScope s_figuresof) .none kV21 dc21 pm21 an21 cd21 ct21), sl21⟩)
    (e21 : PySem.W.codeIn K cd21 "figures_of" = true) (k21 : PySem.W.keepIn K (.ref f21) = true)
    {f22 : Addr} {od22 an22 : Option Addr} {sl22 : Array (Option Value)} {oc22 kV22 dc22 pm22 cd22 ct22 : Value}
    (a22 : PySem.W.nsIn K mainGlobals "shown" = some (some (.ref f22)))
    (l22 : K.lookup f22 = some ⟨oc22, od22, .func (PySem.W.fnOf "shown" "shown" (defArgs s_shown) (defBody s_shown) (defScope s_shown) .none kV22 dc22 pm22 an22 cd22 ct22), sl22⟩)
    (e22 : PySem.W.codeIn K cd22 "shown" = true) (k22 : PySem.W.keepIn K (.ref f22) = true)
    {f23 : Addr} {od23 an23 : Option Addr} {sl23 : Array (Option Value)} {oc23 kV23 dc23 pm23 cd23 ct23 : Value}
    (a23 : PySem.W.nsIn K mainGlobals "result_of" = some (some (.ref f23)))
    (l23 : K.lookup f23 = some ⟨oc23, od23, .func (PySem.W.fnOf "result_of" "result_of" (defArgs s_resultof) (defBody s_resultof) (defScope s_resultof) .none kV23 dc23 pm23 an23 cd23 ct23), sl23⟩)
    (e23 : PySem.W.codeIn K cd23 "result_of" = true) (k23 : PySem.W.keepIn K (.ref f23) = true)
    {f24 : Addr} {od24 an24 : Option Addr} {sl24 : Array (Option Value)} {oc24 kV24 dc24 pm24 cd24 ct24 : Value}
    (a24 : PySem.W.nsIn K mainGlobals "added" = some (some (.ref f24)))
    (l24 : K.lookup f24 = some ⟨oc24, od24, .func (PySem.W.fnOf "added" "added" (defArgs s_added) (defBody s_added) (defScope s_added) .none kV24 dc24 pm24 an24 cd24 ct24), sl24⟩)
    (e24 : PySem.W.codeIn K cd24 "added" = true) (k24 : PySem.W.keepIn K (.ref f24) = true)
    {f25 : Addr} {od25 an25 : Option Addr} {sl25 : Array (Option Value)} {oc25 kV25 dc25 pm25 cd25 ct25 : Value}
    (a25 : PySem.W.nsIn K mainGlobals "times" = some (some (.ref f25)))
    (l25 : K.lookup f25 = some ⟨oc25, od25, .func (PySem.W.fnOf "times" "times" (defArgs s_times) (defBody s_times) (defScope s_times) .none kV25 dc25 pm25 an25 cd25 ct25), sl25⟩)
    (e25 : PySem.W.codeIn K cd25 "times" = true) (k25 : PySem.W.keepIn K (.ref f25) = true)
    {f26 : Addr} {od26 an26 : Option Addr} {sl26 : Array (Option Value)} {oc26 kV26 dc26 pm26 cd26 ct26 : Value}
    (a26 : PySem.W.nsIn K mainGlobals "_law_cell_at" = some (some (.ref f26)))
    (l26 : K.lookup f26 = some ⟨oc26, od26, .func (PySem.W.fnOf "_law_cell_at" "_law_cell_at" (defArgs s_xlawcellat) (defBody s_xlawcellat) (defScope s_xlawcellat) .none kV26 dc26 pm26 an26 cd26 ct26), sl26⟩)
    (e26 : PySem.W.codeIn K cd26 "_law_cell_at" = true) (k26 : PySem.W.keepIn K (.ref f26) = true)
    {f27 : Addr} {od27 an27 : Option Addr} {sl27 : Array (Option Value)} {oc27 kV27 dc27 pm27 cd27 ct27 : Value}
    (a27 : PySem.W.nsIn K mainGlobals "_law_draw" = some (some (.ref f27)))
    (l27 : K.lookup f27 = some ⟨oc27, od27, .func (PySem.W.fnOf "_law_draw" "_law_draw" (defArgs s_xlawdraw) (defBody s_xlawdraw) (defScope s_xlawdraw) .none kV27 dc27 pm27 an27 cd27 ct27), sl27⟩)
    (e27 : PySem.W.codeIn K cd27 "_law_draw" = true) (k27 : PySem.W.keepIn K (.ref f27) = true)
    {f28 : Addr} {od28 an28 : Option Addr} {sl28 : Array (Option Value)} {oc28 kV28 dc28 pm28 cd28 ct28 : Value}
    (a28 : PySem.W.nsIn K mainGlobals "_law_figures_by" = some (some (.ref f28)))
    (l28 : K.lookup f28 = some ⟨oc28, od28, .func (PySem.W.fnOf "_law_figures_by" "_law_figures_by" (defArgs s_xlawfiguresby) (defBody s_xlawfiguresby) (defScope s_xlawfiguresby) .none kV28 dc28 pm28 an28 cd28 ct28), sl28⟩)
    (e28 : PySem.W.codeIn K cd28 "_law_figures_by" = true) (k28 : PySem.W.keepIn K (.ref f28) = true)
    {f29 : Addr} {od29 an29 : Option Addr} {sl29 : Array (Option Value)} {oc29 kV29 dc29 pm29 cd29 ct29 : Value}
    (a29 : PySem.W.nsIn K mainGlobals "_law_writing_by" = some (some (.ref f29)))
    (l29 : K.lookup f29 = some ⟨oc29, od29, .func (PySem.W.fnOf "_law_writing_by" "_law_writing_by" (defArgs s_xlawwritingby) (defBody s_xlawwritingby) (defScope s_xlawwritingby) .none kV29 dc29 pm29 an29 cd29 ct29), sl29⟩)
    (e29 : PySem.W.codeIn K cd29 "_law_writing_by" = true) (k29 : PySem.W.keepIn K (.ref f29) = true)
    {f30 : Addr} {od30 an30 : Option Addr} {sl30 : Array (Option Value)} {oc30 kV30 dc30 pm30 cd30 ct30 : Value}
    (a30 : PySem.W.nsIn K mainGlobals "_law_copy" = some (some (.ref f30)))
    (l30 : K.lookup f30 = some ⟨oc30, od30, .func (PySem.W.fnOf "_law_copy" "_law_copy" (defArgs s_xlawcopy) (defBody s_xlawcopy) (defScope s_xlawcopy) .none kV30 dc30 pm30 an30 cd30 ct30), sl30⟩)
    (e30 : PySem.W.codeIn K cd30 "_law_copy" = true) (k30 : PySem.W.keepIn K (.ref f30) = true)
    {f31 : Addr} {od31 an31 : Option Addr} {sl31 : Array (Option Value)} {oc31 kV31 dc31 pm31 cd31 ct31 : Value}
    (a31 : PySem.W.nsIn K mainGlobals "_law_word_of" = some (some (.ref f31)))
    (l31 : K.lookup f31 = some ⟨oc31, od31, .func (PySem.W.fnOf "_law_word_of" "_law_word_of" (defArgs s_xlawwordof) (defBody s_xlawwordof) (defScope s_xlawwordof) .none kV31 dc31 pm31 an31 cd31 ct31), sl31⟩)
    (e31 : PySem.W.codeIn K cd31 "_law_word_of" = true) (k31 : PySem.W.keepIn K (.ref f31) = true)
    {f32 : Addr} {od32 an32 : Option Addr} {sl32 : Array (Option Value)} {oc32 kV32 dc32 pm32 cd32 ct32 : Value}
    (a32 : PySem.W.nsIn K mainGlobals "_law_called" = some (some (.ref f32)))
    (l32 : K.lookup f32 = some ⟨oc32, od32, .func (PySem.W.fnOf "_law_called" "_law_called" (defArgs s_xlawcalled) (defBody s_xlawcalled) (defScope s_xlawcalled) .none kV32 dc32 pm32 an32 cd32 ct32), sl32⟩)
    (e32 : PySem.W.codeIn K cd32 "_law_called" = true) (k32 : PySem.W.keepIn K (.ref f32) = true)
    {f33 : Addr} {od33 an33 : Option Addr} {sl33 : Array (Option Value)} {oc33 kV33 dc33 pm33 cd33 ct33 : Value}
    (a33 : PySem.W.nsIn K mainGlobals "_law_tried" = some (some (.ref f33)))
    (l33 : K.lookup f33 = some ⟨oc33, od33, .func (PySem.W.fnOf "_law_tried" "_law_tried" (defArgs s_xlawtried) (defBody s_xlawtried) (defScope s_xlawtried) .none kV33 dc33 pm33 an33 cd33 ct33), sl33⟩)
    (e33 : PySem.W.codeIn K cd33 "_law_tried" = true) (k33 : PySem.W.keepIn K (.ref f33) = true)
    {f34 : Addr} {od34 an34 : Option Addr} {sl34 : Array (Option Value)} {oc34 kV34 dc34 pm34 cd34 ct34 : Value}
    (a34 : PySem.W.nsIn K mainGlobals "_law_spoilt" = some (some (.ref f34)))
    (l34 : K.lookup f34 = some ⟨oc34, od34, .func (PySem.W.fnOf "_law_spoilt" "_law_spoilt" (defArgs s_xlawspoilt) (defBody s_xlawspoilt) (defScope s_xlawspoilt) .none kV34 dc34 pm34 an34 cd34 ct34), sl34⟩)
    (e34 : PySem.W.codeIn K cd34 "_law_spoilt" = true) (k34 : PySem.W.keepIn K (.ref f34) = true)
    {f35 : Addr} {od35 an35 : Option Addr} {sl35 : Array (Option Value)} {oc35 kV35 dc35 pm35 cd35 ct35 : Value}
    (a35 : PySem.W.nsIn K mainGlobals "law" = some (some (.ref f35)))
    (l35 : K.lookup f35 = some ⟨oc35, od35, .func (PySem.W.fnOf "law" "law" (defArgs s_law) (defBody s_law) (defScope s_law) .none kV35 dc35 pm35 an35 cd35 ct35), sl35⟩)
    (e35 : PySem.W.codeIn K cd35 "law" = true) (k35 : PySem.W.keepIn K (.ref f35) = true)
    (z0 : PySem.W.nsIn K mainGlobals "len" = some none)
    (z1 : PySem.W.nsIn K mainGlobals "range" = some none)
    (z2 : PySem.W.nsIn K mainGlobals "list" = some none)
    (z3 : PySem.W.nsIn K mainGlobals "min" = some none)
    (z4 : PySem.W.nsIn K mainGlobals "max" = some none)
    (z5 : PySem.W.nsIn K mainGlobals "all" = some none)
    (z6 : PySem.W.nsIn K mainGlobals "zip" = some none)
    (z7 : PySem.W.nsIn K mainGlobals "reversed" = some none)
    (z8 : PySem.W.nsIn K mainGlobals "isinstance" = some none)
    (z9 : PySem.W.nsIn K mainGlobals "ValueError" = some none)
    (z10 : PySem.W.nsIn K mainGlobals "int" = some none)
    {tk0 : Tok} (y0 : PySem.W.nsIn K mainGlobals "GREATEST" = some (some (.int 1000000000000 tk0)))
    {tk1 : Tok} (y1 : PySem.W.nsIn K mainGlobals "MOST_BOTTOM" = some (some (.int 2000 tk1)))
    {tk2 : Tok} (y2 : PySem.W.nsIn K mainGlobals "MOST_FIGURES" = some (some (.int 4000 tk2)))
    {tk3 : Tok} (y3 : PySem.W.nsIn K mainGlobals "SIGNS" = some (some (.str "0123456789abcdefghijklmnopqrstuvwxyz" tk3)))
    {tk4 : Tok} (y4 : PySem.W.nsIn K mainGlobals "MOST_TIMES" = some (some (.int 1000000 tk4)))
    {kFigureError : Addr} (bFigureError : PySem.W.nsIn K mainGlobals "FigureError" = some (some (.ref kFigureError)))
    {kNoBase : Addr} (bNoBase : PySem.W.nsIn K mainGlobals "NoBase" = some (some (.ref kNoBase)))
    {kNoFraction : Addr} (bNoFraction : PySem.W.nsIn K mainGlobals "NoFraction" = some (some (.ref kNoFraction)))
    {kNoWriting : Addr} (bNoWriting : PySem.W.nsIn K mainGlobals "NoWriting" = some (some (.ref kNoWriting)))
    {kNoNumber : Addr} (bNoNumber : PySem.W.nsIn K mainGlobals "NoNumber" = some (some (.ref kNoNumber)))
    {kTooLong : Addr} (bTooLong : PySem.W.nsIn K mainGlobals "TooLong" = some (some (.ref kTooLong)))
    {kNoNote : Addr} (bNoNote : PySem.W.nsIn K mainGlobals "NoNote" = some (some (.ref kNoNote)))
    (fa_g : PySem.W.subIn K (.ref kFigureError) (.type "BaseException") = some true)
    (fb_g : PySem.W.hasDictIn K kFigureError = true)
    (fc_g : PySem.W.typeIn K (.ref kFigureError) = some (.type "type"))
    (hn_g : PySem.W.specialIn K (.builtin "object.__class__") "__get__" = some (some (.builtin "getset_descriptor.__get__")))
    (ht_g : PySem.W.takesIn K (.builtin "object.__class__") = some true)
    (xa_NoBase : PySem.W.excIn K kNoBase [.type "ValueError", .type "Exception", .type "BaseException", .type "object"] "ValueError.__new__" = true)
    (xb_NoBase : PySem.W.keepIn K (.ref kNoBase) = true)
    (xc_NoBase : PySem.W.subIn K (.ref kNoBase) (.type "BaseException") = some true)
    (xd_NoBase : PySem.W.typeIn K (.ref kNoBase) = some (.type "type"))
    (ia_NoBase : PySem.W.findIn K (.ref kNoBase) "__getattribute__" = some (some (.builtin "BaseException.__getattribute__")))
    (ib_NoBase : PySem.W.findIn K (.ref kNoBase) "__getattr__" = some none)
    (ic_NoBase : PySem.W.hasDictIn K kNoBase = true)
    (ie_NoBase : PySem.W.findIn K (.ref kNoBase) "__class__" = some (some (.builtin "object.__class__")))
    (ig_NoBase : PySem.W.mroIn K kNoBase (.type "object") = some true)
    (s_NoBase : PySem.W.subIn K (.ref kNoBase) (.ref kFigureError) = some true)
    (v_NoBase : PySem.W.subIn K (.ref kNoBase) (.type "ValueError") = some true)
    (q_NoBase_NoBase : PySem.W.subIn K (.ref kNoBase) (.ref kNoBase) = some true)
    (q_NoBase_NoFraction : PySem.W.subIn K (.ref kNoBase) (.ref kNoFraction) = some false)
    (q_NoBase_NoWriting : PySem.W.subIn K (.ref kNoBase) (.ref kNoWriting) = some false)
    (q_NoBase_NoNumber : PySem.W.subIn K (.ref kNoBase) (.ref kNoNumber) = some false)
    (q_NoBase_TooLong : PySem.W.subIn K (.ref kNoBase) (.ref kTooLong) = some false)
    (q_NoBase_NoNote : PySem.W.subIn K (.ref kNoBase) (.ref kNoNote) = some false)
    (xa_NoFraction : PySem.W.excIn K kNoFraction [.type "ValueError", .type "Exception", .type "BaseException", .type "object"] "ValueError.__new__" = true)
    (xb_NoFraction : PySem.W.keepIn K (.ref kNoFraction) = true)
    (xc_NoFraction : PySem.W.subIn K (.ref kNoFraction) (.type "BaseException") = some true)
    (xd_NoFraction : PySem.W.typeIn K (.ref kNoFraction) = some (.type "type"))
    (ia_NoFraction : PySem.W.findIn K (.ref kNoFraction) "__getattribute__" = some (some (.builtin "BaseException.__getattribute__")))
    (ib_NoFraction : PySem.W.findIn K (.ref kNoFraction) "__getattr__" = some none)
    (ic_NoFraction : PySem.W.hasDictIn K kNoFraction = true)
    (ie_NoFraction : PySem.W.findIn K (.ref kNoFraction) "__class__" = some (some (.builtin "object.__class__")))
    (ig_NoFraction : PySem.W.mroIn K kNoFraction (.type "object") = some true)
    (s_NoFraction : PySem.W.subIn K (.ref kNoFraction) (.ref kFigureError) = some true)
    (v_NoFraction : PySem.W.subIn K (.ref kNoFraction) (.type "ValueError") = some true)
    (q_NoFraction_NoBase : PySem.W.subIn K (.ref kNoFraction) (.ref kNoBase) = some false)
    (q_NoFraction_NoFraction : PySem.W.subIn K (.ref kNoFraction) (.ref kNoFraction) = some true)
    (q_NoFraction_NoWriting : PySem.W.subIn K (.ref kNoFraction) (.ref kNoWriting) = some false)
    (q_NoFraction_NoNumber : PySem.W.subIn K (.ref kNoFraction) (.ref kNoNumber) = some false)
    (q_NoFraction_TooLong : PySem.W.subIn K (.ref kNoFraction) (.ref kTooLong) = some false)
    (q_NoFraction_NoNote : PySem.W.subIn K (.ref kNoFraction) (.ref kNoNote) = some false)
    (xa_NoWriting : PySem.W.excIn K kNoWriting [.type "ValueError", .type "Exception", .type "BaseException", .type "object"] "ValueError.__new__" = true)
    (xb_NoWriting : PySem.W.keepIn K (.ref kNoWriting) = true)
    (xc_NoWriting : PySem.W.subIn K (.ref kNoWriting) (.type "BaseException") = some true)
    (xd_NoWriting : PySem.W.typeIn K (.ref kNoWriting) = some (.type "type"))
    (ia_NoWriting : PySem.W.findIn K (.ref kNoWriting) "__getattribute__" = some (some (.builtin "BaseException.__getattribute__")))
    (ib_NoWriting : PySem.W.findIn K (.ref kNoWriting) "__getattr__" = some none)
    (ic_NoWriting : PySem.W.hasDictIn K kNoWriting = true)
    (ie_NoWriting : PySem.W.findIn K (.ref kNoWriting) "__class__" = some (some (.builtin "object.__class__")))
    (ig_NoWriting : PySem.W.mroIn K kNoWriting (.type "object") = some true)
    (s_NoWriting : PySem.W.subIn K (.ref kNoWriting) (.ref kFigureError) = some true)
    (v_NoWriting : PySem.W.subIn K (.ref kNoWriting) (.type "ValueError") = some true)
    (q_NoWriting_NoBase : PySem.W.subIn K (.ref kNoWriting) (.ref kNoBase) = some false)
    (q_NoWriting_NoFraction : PySem.W.subIn K (.ref kNoWriting) (.ref kNoFraction) = some false)
    (q_NoWriting_NoWriting : PySem.W.subIn K (.ref kNoWriting) (.ref kNoWriting) = some true)
    (q_NoWriting_NoNumber : PySem.W.subIn K (.ref kNoWriting) (.ref kNoNumber) = some false)
    (q_NoWriting_TooLong : PySem.W.subIn K (.ref kNoWriting) (.ref kTooLong) = some false)
    (q_NoWriting_NoNote : PySem.W.subIn K (.ref kNoWriting) (.ref kNoNote) = some false)
    (xa_NoNumber : PySem.W.excIn K kNoNumber [.type "ValueError", .type "Exception", .type "BaseException", .type "object"] "ValueError.__new__" = true)
    (xb_NoNumber : PySem.W.keepIn K (.ref kNoNumber) = true)
    (xc_NoNumber : PySem.W.subIn K (.ref kNoNumber) (.type "BaseException") = some true)
    (xd_NoNumber : PySem.W.typeIn K (.ref kNoNumber) = some (.type "type"))
    (ia_NoNumber : PySem.W.findIn K (.ref kNoNumber) "__getattribute__" = some (some (.builtin "BaseException.__getattribute__")))
    (ib_NoNumber : PySem.W.findIn K (.ref kNoNumber) "__getattr__" = some none)
    (ic_NoNumber : PySem.W.hasDictIn K kNoNumber = true)
    (ie_NoNumber : PySem.W.findIn K (.ref kNoNumber) "__class__" = some (some (.builtin "object.__class__")))
    (ig_NoNumber : PySem.W.mroIn K kNoNumber (.type "object") = some true)
    (s_NoNumber : PySem.W.subIn K (.ref kNoNumber) (.ref kFigureError) = some true)
    (v_NoNumber : PySem.W.subIn K (.ref kNoNumber) (.type "ValueError") = some true)
    (q_NoNumber_NoBase : PySem.W.subIn K (.ref kNoNumber) (.ref kNoBase) = some false)
    (q_NoNumber_NoFraction : PySem.W.subIn K (.ref kNoNumber) (.ref kNoFraction) = some false)
    (q_NoNumber_NoWriting : PySem.W.subIn K (.ref kNoNumber) (.ref kNoWriting) = some false)
    (q_NoNumber_NoNumber : PySem.W.subIn K (.ref kNoNumber) (.ref kNoNumber) = some true)
    (q_NoNumber_TooLong : PySem.W.subIn K (.ref kNoNumber) (.ref kTooLong) = some false)
    (q_NoNumber_NoNote : PySem.W.subIn K (.ref kNoNumber) (.ref kNoNote) = some false)
    (xa_TooLong : PySem.W.excIn K kTooLong [.type "ValueError", .type "Exception", .type "BaseException", .type "object"] "ValueError.__new__" = true)
    (xb_TooLong : PySem.W.keepIn K (.ref kTooLong) = true)
    (xc_TooLong : PySem.W.subIn K (.ref kTooLong) (.type "BaseException") = some true)
    (xd_TooLong : PySem.W.typeIn K (.ref kTooLong) = some (.type "type"))
    (ia_TooLong : PySem.W.findIn K (.ref kTooLong) "__getattribute__" = some (some (.builtin "BaseException.__getattribute__")))
    (ib_TooLong : PySem.W.findIn K (.ref kTooLong) "__getattr__" = some none)
    (ic_TooLong : PySem.W.hasDictIn K kTooLong = true)
    (ie_TooLong : PySem.W.findIn K (.ref kTooLong) "__class__" = some (some (.builtin "object.__class__")))
    (ig_TooLong : PySem.W.mroIn K kTooLong (.type "object") = some true)
    (s_TooLong : PySem.W.subIn K (.ref kTooLong) (.ref kFigureError) = some true)
    (v_TooLong : PySem.W.subIn K (.ref kTooLong) (.type "ValueError") = some true)
    (q_TooLong_NoBase : PySem.W.subIn K (.ref kTooLong) (.ref kNoBase) = some false)
    (q_TooLong_NoFraction : PySem.W.subIn K (.ref kTooLong) (.ref kNoFraction) = some false)
    (q_TooLong_NoWriting : PySem.W.subIn K (.ref kTooLong) (.ref kNoWriting) = some false)
    (q_TooLong_NoNumber : PySem.W.subIn K (.ref kTooLong) (.ref kNoNumber) = some false)
    (q_TooLong_TooLong : PySem.W.subIn K (.ref kTooLong) (.ref kTooLong) = some true)
    (q_TooLong_NoNote : PySem.W.subIn K (.ref kTooLong) (.ref kNoNote) = some false)
    (j_NoBase : PySem.W.isClsIn K kNoBase = true)
    (j_NoFraction : PySem.W.isClsIn K kNoFraction = true)
    (j_NoWriting : PySem.W.isClsIn K kNoWriting = true)
    (j_NoNumber : PySem.W.isClsIn K kNoNumber = true)
    (j_TooLong : PySem.W.isClsIn K kTooLong = true)
    (j_NoNote : PySem.W.isClsIn K kNoNote = true)
    (l_NoBase : PySem.W.typeIn K (.ref kNoBase) = some (.type "type"))
    (l_NoFraction : PySem.W.typeIn K (.ref kNoFraction) = some (.type "type"))
    (l_NoWriting : PySem.W.typeIn K (.ref kNoWriting) = some (.type "type"))
    (l_NoNumber : PySem.W.typeIn K (.ref kNoNumber) = some (.type "type"))
    (l_TooLong : PySem.W.typeIn K (.ref kTooLong) = some (.type "type"))
    (l_NoNote : PySem.W.typeIn K (.ref kNoNote) = some (.type "type"))
    : ∃ fd : FuncData, (∀ (s : Shared) (v : Value), BindsTo s fd ⟨[v], []⟩ [("script", v)]) ∧ ∀ base : Heap, K.In base → base.Ns mainGlobals mg → FnOk l.prog w K mg base CX0 7 fa fd ["script"] (sp_law K) := by
  have e := hfa.symm.trans (PySem.W.mg_of X G a35)
  cases e
  have M : Md K mg := ⟨PySem.W.mg_none_of X G z0, PySem.W.mg_none_of X G z1, PySem.W.mg_none_of X G z2, PySem.W.mg_none_of X G z3, PySem.W.mg_none_of X G z4, PySem.W.mg_none_of X G z5, PySem.W.mg_none_of X G z6, PySem.W.mg_none_of X G z7, PySem.W.mg_none_of X G z8, PySem.W.mg_none_of X G z9, PySem.W.mg_none_of X G z10, ⟨_, PySem.W.mg_of X G y0, ⟨_, rfl⟩⟩, ⟨_, PySem.W.mg_of X G y1, ⟨_, rfl⟩⟩, ⟨_, PySem.W.mg_of X G y2, ⟨_, rfl⟩⟩, ⟨_, PySem.W.mg_of X G y3, ⟨_, rfl⟩⟩, ⟨_, PySem.W.mg_of X G y4, ⟨_, rfl⟩⟩⟩
  have N : Me K mg ⟨kFigureError, kNoBase, kNoFraction, kNoWriting, kNoNumber, kTooLong, kNoNote⟩ := {g_FigureError := PySem.W.mg_of X G bFigureError, g_NoBase := PySem.W.mg_of X G bNoBase, g_NoFraction := PySem.W.mg_of X G bNoFraction, g_NoWriting := PySem.W.mg_of X G bNoWriting, g_NoNumber := PySem.W.mg_of X G bNoNumber, g_TooLong := PySem.W.mg_of X G bTooLong, g_NoNote := PySem.W.mg_of X G bNoNote, x_NoBase := ⟨xa_NoBase, xb_NoBase, xc_NoBase, xd_NoBase⟩, i_NoBase := ⟨ia_NoBase, ib_NoBase, xc_NoBase, ic_NoBase, ie_NoBase, hn_g, ht_g, ig_NoBase⟩, m_NoBase := PySem.W.exm_ref fa_g fb_g fc_g s_NoBase, v_NoBase := kit_ve v_NoBase, q_NoBase_NoBase := kit_yes, q_NoBase_NoFraction := kit_no j_NoFraction l_NoFraction q_NoBase_NoBase q_NoBase_NoFraction, q_NoBase_NoWriting := kit_no j_NoWriting l_NoWriting q_NoBase_NoBase q_NoBase_NoWriting, q_NoBase_NoNumber := kit_no j_NoNumber l_NoNumber q_NoBase_NoBase q_NoBase_NoNumber, q_NoBase_TooLong := kit_no j_TooLong l_TooLong q_NoBase_NoBase q_NoBase_TooLong, q_NoBase_NoNote := kit_no j_NoNote l_NoNote q_NoBase_NoBase q_NoBase_NoNote, x_NoFraction := ⟨xa_NoFraction, xb_NoFraction, xc_NoFraction, xd_NoFraction⟩, i_NoFraction := ⟨ia_NoFraction, ib_NoFraction, xc_NoFraction, ic_NoFraction, ie_NoFraction, hn_g, ht_g, ig_NoFraction⟩, m_NoFraction := PySem.W.exm_ref fa_g fb_g fc_g s_NoFraction, v_NoFraction := kit_ve v_NoFraction, q_NoFraction_NoBase := kit_no j_NoBase l_NoBase q_NoFraction_NoFraction q_NoFraction_NoBase, q_NoFraction_NoFraction := kit_yes, q_NoFraction_NoWriting := kit_no j_NoWriting l_NoWriting q_NoFraction_NoFraction q_NoFraction_NoWriting, q_NoFraction_NoNumber := kit_no j_NoNumber l_NoNumber q_NoFraction_NoFraction q_NoFraction_NoNumber, q_NoFraction_TooLong := kit_no j_TooLong l_TooLong q_NoFraction_NoFraction q_NoFraction_TooLong, q_NoFraction_NoNote := kit_no j_NoNote l_NoNote q_NoFraction_NoFraction q_NoFraction_NoNote, x_NoWriting := ⟨xa_NoWriting, xb_NoWriting, xc_NoWriting, xd_NoWriting⟩, i_NoWriting := ⟨ia_NoWriting, ib_NoWriting, xc_NoWriting, ic_NoWriting, ie_NoWriting, hn_g, ht_g, ig_NoWriting⟩, m_NoWriting := PySem.W.exm_ref fa_g fb_g fc_g s_NoWriting, v_NoWriting := kit_ve v_NoWriting, q_NoWriting_NoBase := kit_no j_NoBase l_NoBase q_NoWriting_NoWriting q_NoWriting_NoBase, q_NoWriting_NoFraction := kit_no j_NoFraction l_NoFraction q_NoWriting_NoWriting q_NoWriting_NoFraction, q_NoWriting_NoWriting := kit_yes, q_NoWriting_NoNumber := kit_no j_NoNumber l_NoNumber q_NoWriting_NoWriting q_NoWriting_NoNumber, q_NoWriting_TooLong := kit_no j_TooLong l_TooLong q_NoWriting_NoWriting q_NoWriting_TooLong, q_NoWriting_NoNote := kit_no j_NoNote l_NoNote q_NoWriting_NoWriting q_NoWriting_NoNote, x_NoNumber := ⟨xa_NoNumber, xb_NoNumber, xc_NoNumber, xd_NoNumber⟩, i_NoNumber := ⟨ia_NoNumber, ib_NoNumber, xc_NoNumber, ic_NoNumber, ie_NoNumber, hn_g, ht_g, ig_NoNumber⟩, m_NoNumber := PySem.W.exm_ref fa_g fb_g fc_g s_NoNumber, v_NoNumber := kit_ve v_NoNumber, q_NoNumber_NoBase := kit_no j_NoBase l_NoBase q_NoNumber_NoNumber q_NoNumber_NoBase, q_NoNumber_NoFraction := kit_no j_NoFraction l_NoFraction q_NoNumber_NoNumber q_NoNumber_NoFraction, q_NoNumber_NoWriting := kit_no j_NoWriting l_NoWriting q_NoNumber_NoNumber q_NoNumber_NoWriting, q_NoNumber_NoNumber := kit_yes, q_NoNumber_TooLong := kit_no j_TooLong l_TooLong q_NoNumber_NoNumber q_NoNumber_TooLong, q_NoNumber_NoNote := kit_no j_NoNote l_NoNote q_NoNumber_NoNumber q_NoNumber_NoNote, x_TooLong := ⟨xa_TooLong, xb_TooLong, xc_TooLong, xd_TooLong⟩, i_TooLong := ⟨ia_TooLong, ib_TooLong, xc_TooLong, ic_TooLong, ie_TooLong, hn_g, ht_g, ig_TooLong⟩, m_TooLong := PySem.W.exm_ref fa_g fb_g fc_g s_TooLong, v_TooLong := kit_ve v_TooLong, q_TooLong_NoBase := kit_no j_NoBase l_NoBase q_TooLong_TooLong q_TooLong_NoBase, q_TooLong_NoFraction := kit_no j_NoFraction l_NoFraction q_TooLong_TooLong q_TooLong_NoFraction, q_TooLong_NoWriting := kit_no j_NoWriting l_NoWriting q_TooLong_TooLong q_TooLong_NoWriting, q_TooLong_NoNumber := kit_no j_NoNumber l_NoNumber q_TooLong_TooLong q_TooLong_NoNumber, q_TooLong_TooLong := kit_yes, q_TooLong_NoNote := kit_no j_NoNote l_NoNote q_TooLong_TooLong q_TooLong_NoNote }
  have F0 := fun_mk (st := s_askedbase) l0 e0 k0
  have b0 := F0.binds (ps := ["base"]) fun _ _ _ _ _ _ us hl => match us, hl with | [_], _ => rfl
  have F1 := fun_mk (st := s_askedfraction) l1 e1 k1
  have b1 := F1.binds (ps := ["base", "top", "bottom"]) fun _ _ _ _ _ _ us hl => match us, hl with | [_, _, _], _ => rfl
  have F2 := fun_mk (st := s_askedfigures) l2 e2 k2
  have b2 := F2.binds (ps := ["base", "figures"]) fun _ _ _ _ _ _ us hl => match us, hl with | [_, _], _ => rfl
  have F3 := fun_mk (st := s_askedwriting) l3 e3 k3
  have b3 := F3.binds (ps := ["base", "writing"]) fun _ _ _ _ _ _ us hl => match us, hl with | [_, _], _ => rfl
  have F4 := fun_mk (st := s_common) l4 e4 k4
  have b4 := F4.binds (ps := ["one", "other"]) fun _ _ _ _ _ _ us hl => match us, hl with | [_, _], _ => rfl
  have F5 := fun_mk (st := s_lowest) l5 e5 k5
  have b5 := F5.binds (ps := ["top", "bottom"]) fun _ _ _ _ _ _ us hl => match us, hl with | [_, _], _ => rfl
  have F6 := fun_mk (st := s_divided) l6 e6 k6
  have b6 := F6.binds (ps := ["base", "top", "bottom"]) fun _ _ _ _ _ _ us hl => match us, hl with | [_, _, _], _ => rfl
  have F7 := fun_mk (st := s_written) l7 e7 k7
  have b7 := F7.binds (ps := ["base", "top", "bottom"]) fun _ _ _ _ _ _ us hl => match us, hl with | [_, _, _], _ => rfl
  have F8 := fun_mk (st := s_numberof) l8 e8 k8
  have b8 := F8.binds (ps := ["base", "figures"]) fun _ _ _ _ _ _ us hl => match us, hl with | [_, _], _ => rfl
  have F9 := fun_mk (st := s_power) l9 e9 k9
  have b9 := F9.binds (ps := ["base", "many"]) fun _ _ _ _ _ _ us hl => match us, hl with | [_, _], _ => rfl
  have F10 := fun_mk (st := s_worth) l10 e10 k10
  have b10 := F10.binds (ps := ["base", "writing"]) fun _ _ _ _ _ _ us hl => match us, hl with | [_, _], _ => rfl
  have F11 := fun_mk (st := s_shortest) l11 e11 k11
  have b11 := F11.binds (ps := ["ring"]) fun _ _ _ _ _ _ us hl => match us, hl with | [_], _ => rfl
  have F12 := fun_mk (st := s_onemore) l12 e12 k12
  have b12 := F12.binds (ps := ["base", "whole", "ahead"]) fun _ _ _ _ _ _ us hl => match us, hl with | [_, _, _], _ => rfl
  have F13 := fun_mk (st := s_madeplain) l13 e13 k13
  have b13 := F13.binds (ps := ["base", "writing"]) fun _ _ _ _ _ _ us hl => match us, hl with | [_, _], _ => rfl
  have F14 := fun_mk (st := s_plain) l14 e14 k14
  have b14 := F14.binds (ps := ["base", "writing"]) fun _ _ _ _ _ _ us hl => match us, hl with | [_, _], _ => rfl
  have F15 := fun_mk (st := s_isplain) l15 e15 k15
  have b15 := F15.binds (ps := ["base", "writing"]) fun _ _ _ _ _ _ us hl => match us, hl with | [_, _], _ => rfl
  have F16 := fun_mk (st := s_lengths) l16 e16 k16
  have b16 := F16.binds (ps := ["base", "bottom"]) fun _ _ _ _ _ _ us hl => match us, hl with | [_, _], _ => rfl
  have F17 := fun_mk (st := s_restat) l17 e17 k17
  have b17 := F17.binds (ps := ["base", "top", "bottom", "place"]) fun _ _ _ _ _ _ us hl => match us, hl with | [_, _, _, _], _ => rfl
  have F18 := fun_mk (st := s_figureat) l18 e18 k18
  have b18 := F18.binds (ps := ["base", "top", "bottom", "place"]) fun _ _ _ _ _ _ us hl => match us, hl with | [_, _, _, _], _ => rfl
  have F19 := fun_mk (st := s_folds) l19 e19 k19
  have b19 := F19.binds (ps := ["base", "ring"]) fun _ _ _ _ _ _ us hl => match us, hl with | [_, _], _ => rfl
  have F20 := fun_mk (st := s_textof) l20 e20 k20
  have b20 := F20.binds (ps := ["figures"]) fun _ _ _ _ _ _ us hl => match us, hl with | [_], _ => rfl
  have F21 := fun_mk (st := s_figuresof) l21 e21 k21
  have b21 := F21.binds (ps := ["base", "number"]) fun _ _ _ _ _ _ us hl => match us, hl with | [_, _], _ => rfl
  have F22 := fun_mk (st := s_shown) l22 e22 k22
  have b22 := F22.binds (ps := ["base", "writing"]) fun _ _ _ _ _ _ us hl => match us, hl with | [_, _], _ => rfl
  have F23 := fun_mk (st := s_resultof) l23 e23 k23
  have b23 := F23.binds (ps := ["base", "top", "bottom"]) fun _ _ _ _ _ _ us hl => match us, hl with | [_, _, _], _ => rfl
  have F24 := fun_mk (st := s_added) l24 e24 k24
  have b24 := F24.binds (ps := ["base", "one", "other"]) fun _ _ _ _ _ _ us hl => match us, hl with | [_, _, _], _ => rfl
  have F25 := fun_mk (st := s_times) l25 e25 k25
  have b25 := F25.binds (ps := ["base", "writing", "number"]) fun _ _ _ _ _ _ us hl => match us, hl with | [_, _, _], _ => rfl
  have F26 := fun_mk (st := s_xlawcellat) l26 e26 k26
  have b26 := F26.binds (ps := ["script", "k"]) fun _ _ _ _ _ _ us hl => match us, hl with | [_, _], _ => rfl
  have F27 := fun_mk (st := s_xlawdraw) l27 e27 k27
  have b27 := F27.binds (ps := ["cell", "k", "bound"]) fun _ _ _ _ _ _ us hl => match us, hl with | [_, _, _], _ => rfl
  have F28 := fun_mk (st := s_xlawfiguresby) l28 e28 k28
  have b28 := F28.binds (ps := ["cell", "base", "many"]) fun _ _ _ _ _ _ us hl => match us, hl with | [_, _, _], _ => rfl
  have F29 := fun_mk (st := s_xlawwritingby) l29 e29 k29
  have b29 := F29.binds (ps := ["script", "first", "base"]) fun _ _ _ _ _ _ us hl => match us, hl with | [_, _, _], _ => rfl
  have F30 := fun_mk (st := s_xlawcopy) l30 e30 k30
  have b30 := F30.binds (ps := ["writing"]) fun _ _ _ _ _ _ us hl => match us, hl with | [_], _ => rfl
  have F31 := fun_mk (st := s_xlawwordof) l31 e31 k31
  have b31 := F31.binds (ps := ["e"]) fun _ _ _ _ _ _ us hl => match us, hl with | [_], _ => rfl
  have F32 := fun_mk (st := s_xlawcalled) l32 e32 k32
  have b32 := F32.binds (ps := ["which", "base", "fraction", "writing"]) fun _ _ _ _ _ _ us hl => match us, hl with | [_, _, _, _], _ => rfl
  have F33 := fun_mk (st := s_xlawtried) l33 e33 k33
  have b33 := F33.binds (ps := ["which", "base", "fraction", "writing"]) fun _ _ _ _ _ _ us hl => match us, hl with | [_, _, _, _], _ => rfl
  have F34 := fun_mk (st := s_xlawspoilt) l34 e34 k34
  have b34 := F34.binds (ps := ["script", "base", "writing", "way", "far"]) fun _ _ _ _ _ _ us hl => match us, hl with | [_, _, _, _, _], _ => rfl
  have F35 := fun_mk (st := s_law) l35 e35 k35
  refine ⟨PySem.W.fnOf "law" "law" (defArgs s_law) (defBody s_law) (defScope s_law) .none kV35 dc35 pm35 an35 cd35 ct35, fun s v => .of_eq rfl, fun base _ _ => ?_⟩
  have c_askedbase : CalX l.prog w K mg base 1 "asked_base" (sp_askedbase K _) := ⟨f0, _, _, ok_askedbase F0 M N , PySem.W.mg_of X G a0, k0, b0⟩
  have c_askedfraction : CalX l.prog w K mg base 2 "asked_fraction" (sp_askedfraction K _) := ⟨f1, _, _, ok_askedfraction F1 M N c_askedbase, PySem.W.mg_of X G a1, k1, b1⟩
  have c_askedfigures : CalX l.prog w K mg base 1 "asked_figures" (sp_askedfigures K _) := ⟨f2, _, _, ok_askedfigures F2 M N , PySem.W.mg_of X G a2, k2, b2⟩
  have c_askedwriting : CalX l.prog w K mg base 2 "asked_writing" (sp_askedwriting K _) := ⟨f3, _, _, ok_askedwriting F3 M N c_askedbase c_askedfigures, PySem.W.mg_of X G a3, k3, b3⟩
  have c_common : Cal l.prog w K mg base 1 "common" (sp_common K) [] := ⟨f4, _, _, [], ok_common F4 M N , PySem.W.mg_of X G a4, k4, b4, .nil⟩
  have c_lowest : Cal l.prog w K mg base 2 "lowest" (sp_lowest K) [] := ⟨f5, _, _, [], ok_lowest F5 M N c_common, PySem.W.mg_of X G a5, k5, b5, .nil⟩
  have c_divided : Cal l.prog w K mg base 1 "divided" (sp_divided K) [] := ⟨f6, _, _, [], ok_divided F6 M N , PySem.W.mg_of X G a6, k6, b6, .nil⟩
  have c_written : CalX l.prog w K mg base 3 "written" (sp_written K _) := ⟨f7, _, _, ok_written F7 M N c_askedfraction c_divided, PySem.W.mg_of X G a7, k7, b7⟩
  have c_numberof : Cal l.prog w K mg base 1 "number_of" (sp_numberof K) [] := ⟨f8, _, _, [], ok_numberof F8 M N , PySem.W.mg_of X G a8, k8, b8, .nil⟩
  have c_power : Cal l.prog w K mg base 1 "power" (sp_power K) [] := ⟨f9, _, _, [], ok_power F9 M N , PySem.W.mg_of X G a9, k9, b9, .nil⟩
  have c_worth : CalX l.prog w K mg base 3 "worth" (sp_worth K _) := ⟨f10, _, _, ok_worth F10 M N c_askedwriting c_lowest c_numberof c_power, PySem.W.mg_of X G a10, k10, b10⟩
  have c_shortest : Cal l.prog w K mg base 1 "shortest" (sp_shortest K) [] := ⟨f11, _, _, [], ok_shortest F11 M N , PySem.W.mg_of X G a11, k11, b11, .nil⟩
  have c_onemore : Cal l.prog w K mg base 1 "one_more" (sp_onemore K) [] := ⟨f12, _, _, [], ok_onemore F12 M N , PySem.W.mg_of X G a12, k12, b12, .nil⟩
  have c_madeplain : Cal l.prog w K mg base 2 "made_plain" (sp_madeplain K) [] := ⟨f13, _, _, [], ok_madeplain F13 M N c_shortest c_onemore, PySem.W.mg_of X G a13, k13, b13, .nil⟩
  have c_plain : CalX l.prog w K mg base 3 "plain" (sp_plain K _) := ⟨f14, _, _, ok_plain F14 M N c_askedwriting c_madeplain, PySem.W.mg_of X G a14, k14, b14⟩
  have c_isplain : CalX l.prog w K mg base 3 "is_plain" (sp_isplain K _) := ⟨f15, _, _, ok_isplain F15 M N c_askedwriting c_madeplain, PySem.W.mg_of X G a15, k15, b15⟩
  have c_lengths : CalX l.prog w K mg base 3 "lengths" (sp_lengths K _) := ⟨f16, _, _, ok_lengths F16 M N c_askedfraction c_common, PySem.W.mg_of X G a16, k16, b16⟩
  have c_restat : Cal l.prog w K mg base 1 "rest_at" (sp_restat K) [] := ⟨f17, _, _, [], ok_restat F17 M N , PySem.W.mg_of X G a17, k17, b17, .nil⟩
  have c_figureat : CalX l.prog w K mg base 3 "figure_at" (sp_figureat K _) := ⟨f18, _, _, ok_figureat F18 M N c_askedfraction c_restat, PySem.W.mg_of X G a18, k18, b18⟩
  have c_folds : CalX l.prog w K mg base 2 "folds" (sp_folds K _) := ⟨f19, _, _, ok_folds F19 M N c_askedbase c_askedfigures, PySem.W.mg_of X G a19, k19, b19⟩
  have c_textof : Cal l.prog w K mg base 1 "text_of" (sp_textof K) [] := ⟨f20, _, _, [], ok_textof F20 M N , PySem.W.mg_of X G a20, k20, b20, .nil⟩
  have c_figuresof : Cal l.prog w K mg base 1 "figures_of" (sp_figuresof K) [] := ⟨f21, _, _, [], ok_figuresof F21 M N , PySem.W.mg_of X G a21, k21, b21, .nil⟩
  have c_shown : CalX l.prog w K mg base 3 "shown" (sp_shown K _) := ⟨f22, _, _, ok_shown F22 M N c_askedwriting c_textof c_figuresof, PySem.W.mg_of X G a22, k22, b22⟩
  have c_resultof : CalX l.prog w K mg base 3 "result_of" (sp_resultof K _) := ⟨f23, _, _, ok_resultof F23 M N c_lowest c_divided, PySem.W.mg_of X G a23, k23, b23⟩
  have c_added : CalX l.prog w K mg base 4 "added" (sp_added K _) := ⟨f24, _, _, ok_added F24 M N c_askedwriting c_worth c_resultof, PySem.W.mg_of X G a24, k24, b24⟩
  have c_times : CalX l.prog w K mg base 4 "times" (sp_times K _) := ⟨f25, _, _, ok_times F25 M N c_askedwriting c_worth c_resultof, PySem.W.mg_of X G a25, k25, b25⟩
  have c_xlawcellat : Cal l.prog w K mg base 1 "_law_cell_at" (sp_xlawcellat K) [] := ⟨f26, _, _, [], ok_xlawcellat F26 M N , PySem.W.mg_of X G a26, k26, b26, .nil⟩
  have c_xlawdraw : Cal l.prog w K mg base 1 "_law_draw" (sp_xlawdraw K) [] := ⟨f27, _, _, [], ok_xlawdraw F27 M N , PySem.W.mg_of X G a27, k27, b27, .nil⟩
  have c_xlawfiguresby : Cal l.prog w K mg base 2 "_law_figures_by" (sp_xlawfiguresby K) [] := ⟨f28, _, _, [], ok_xlawfiguresby F28 M N c_xlawdraw, PySem.W.mg_of X G a28, k28, b28, .nil⟩
  have c_xlawwritingby : Cal l.prog w K mg base 3 "_law_writing_by" (sp_xlawwritingby K) [] := ⟨f29, _, _, [], ok_xlawwritingby F29 M N c_xlawcellat c_xlawfiguresby, PySem.W.mg_of X G a29, k29, b29, .nil⟩
  have c_xlawcopy : Cal l.prog w K mg base 1 "_law_copy" (sp_xlawcopy K) [] := ⟨f30, _, _, [], ok_xlawcopy F30 M N , PySem.W.mg_of X G a30, k30, b30, .nil⟩
  have c_xlawwordof : CalE l.prog w K mg base 1 "_law_word_of" (sp_xlawwordof K _) := ⟨f31, _, _, fun p cls d hz hf => ok_xlawwordof F31 M N p cls d hz hf, PySem.W.mg_of X G a31, k31, b31⟩
  have c_xlawcalled : CalX l.prog w K mg base 5 "_law_called" (sp_xlawcalled K _) := ⟨f32, _, _, ok_xlawcalled F32 M N c_written c_worth c_plain c_isplain c_lengths c_figureat c_folds c_shown c_added c_times, PySem.W.mg_of X G a32, k32, b32⟩
  have c_xlawtried : Cal l.prog w K mg base 6 "_law_tried" (sp_xlawtried K) [] := ⟨f33, _, _, [], ok_xlawtried F33 M N c_xlawcopy c_xlawwordof c_xlawcalled, PySem.W.mg_of X G a33, k33, b33, .nil⟩
  have c_xlawspoilt : Cal l.prog w K mg base 2 "_law_spoilt" (sp_xlawspoilt K) [] := ⟨f34, _, _, [], ok_xlawspoilt F34 M N c_xlawcellat c_xlawcopy, PySem.W.mg_of X G a34, k34, b34, .nil⟩
  exact ok_law F35 M N c_xlawcellat c_xlawwritingby c_xlawtried c_xlawspoilt
end Rf
open PySem PySem.W PyProof.Rows
set_option maxHeartbeats 0 in
theorem PySem.Challenge.cw_ringfigures_k16_refused_holds : PySem.Challenge.rw_ringfigures_k16_refused.Holds := by
  w_on; o_law; k_head; (case hw => w_witness2)
  k_fill
  refine L2.walk_of (l := PySem.Challenge.rw_ringfigures_k16_refused) (n := 63) (k := 7) (x := "script") (CX := fun _ => L2.CX0) (sp := fun w => Rf.sp_law _) rfl (by decide) rfl ⟨rfl, by decide, by decide⟩ (fun w h Y => PySem.W.kIn_of Y) ?F (fun _ _ a ns hl _ hS => ⟨a, ns, rfl, hS, hl, fun _ => rfl⟩) (fun _ _ _ _ _ h => h)
  case F =>
    intro w mg fa h KX G hmg
    refine' Rf.all_mk KX G hmg ?a0 ?l0 ?e0 ?k0 ?a1 ?l1 ?e1 ?k1 ?a2 ?l2 ?e2 ?k2 ?a3 ?l3 ?e3 ?k3 ?a4 ?l4 ?e4 ?k4 ?a5 ?l5 ?e5 ?k5 ?a6 ?l6 ?e6 ?k6 ?a7 ?l7 ?e7 ?k7 ?a8 ?l8 ?e8 ?k8 ?a9 ?l9 ?e9 ?k9 ?a10 ?l10 ?e10 ?k10 ?a11 ?l11 ?e11 ?k11 ?a12 ?l12 ?e12 ?k12 ?a13 ?l13 ?e13 ?k13 ?a14 ?l14 ?e14 ?k14 ?a15 ?l15 ?e15 ?k15 ?a16 ?l16 ?e16 ?k16 ?a17 ?l17 ?e17 ?k17 ?a18 ?l18 ?e18 ?k18 ?a19 ?l19 ?e19 ?k19 ?a20 ?l20 ?e20 ?k20 ?a21 ?l21 ?e21 ?k21 ?a22 ?l22 ?e22 ?k22 ?a23 ?l23 ?e23 ?k23 ?a24 ?l24 ?e24 ?k24 ?a25 ?l25 ?e25 ?k25 ?a26 ?l26 ?e26 ?k26 ?a27 ?l27 ?e27 ?k27 ?a28 ?l28 ?e28 ?k28 ?a29 ?l29 ?e29 ?k29 ?a30 ?l30 ?e30 ?k30 ?a31 ?l31 ?e31 ?k31 ?a32 ?l32 ?e32 ?k32 ?a33 ?l33 ?e33 ?k33 ?a34 ?l34 ?e34 ?k34 ?a35 ?l35 ?e35 ?k35 ?z0 ?z1 ?z2 ?z3 ?z4 ?z5 ?z6 ?z7 ?z8 ?z9 ?z10 ?y0 ?y1 ?y2 ?y3 ?y4 ?bFigureError ?bNoBase ?bNoFraction ?bNoWriting ?bNoNumber ?bTooLong ?bNoNote ?fa_g ?fb_g ?fc_g ?hn_g ?ht_g ?xa_NoBase ?xb_NoBase ?xc_NoBase ?xd_NoBase ?ia_NoBase ?ib_NoBase ?ic_NoBase ?ie_NoBase ?ig_NoBase ?s_NoBase ?v_NoBase ?q_NoBase_NoBase ?q_NoBase_NoFraction ?q_NoBase_NoWriting ?q_NoBase_NoNumber ?q_NoBase_TooLong ?q_NoBase_NoNote ?xa_NoFraction ?xb_NoFraction ?xc_NoFraction ?xd_NoFraction ?ia_NoFraction ?ib_NoFraction ?ic_NoFraction ?ie_NoFraction ?ig_NoFraction ?s_NoFraction ?v_NoFraction ?q_NoFraction_NoBase ?q_NoFraction_NoFraction ?q_NoFraction_NoWriting ?q_NoFraction_NoNumber ?q_NoFraction_TooLong ?q_NoFraction_NoNote ?xa_NoWriting ?xb_NoWriting ?xc_NoWriting ?xd_NoWriting ?ia_NoWriting ?ib_NoWriting ?ic_NoWriting ?ie_NoWriting ?ig_NoWriting ?s_NoWriting ?v_NoWriting ?q_NoWriting_NoBase ?q_NoWriting_NoFraction ?q_NoWriting_NoWriting ?q_NoWriting_NoNumber ?q_NoWriting_TooLong ?q_NoWriting_NoNote ?xa_NoNumber ?xb_NoNumber ?xc_NoNumber ?xd_NoNumber ?ia_NoNumber ?ib_NoNumber ?ic_NoNumber ?ie_NoNumber ?ig_NoNumber ?s_NoNumber ?v_NoNumber ?q_NoNumber_NoBase ?q_NoNumber_NoFraction ?q_NoNumber_NoWriting ?q_NoNumber_NoNumber ?q_NoNumber_TooLong ?q_NoNumber_NoNote ?xa_TooLong ?xb_TooLong ?xc_TooLong ?xd_TooLong ?ia_TooLong ?ib_TooLong ?ic_TooLong ?ie_TooLong ?ig_TooLong ?s_TooLong ?v_TooLong ?q_TooLong_NoBase ?q_TooLong_NoFraction ?q_TooLong_NoWriting ?q_TooLong_NoNumber ?q_TooLong_TooLong ?q_TooLong_NoNote ?j_NoBase ?j_NoFraction ?j_NoWriting ?j_NoNumber ?j_TooLong ?j_NoNote ?l_NoBase ?l_NoFraction ?l_NoWriting ?l_NoNumber ?l_TooLong ?l_NoNote
    (case a0 => k_is); (case l0 => k_is); (case e0 => k_is); (case k0 => k_is); (case a1 => k_is); (case l1 => k_is); (case e1 => k_is); (case k1 => k_is); (case a2 => k_is); (case l2 => k_is); (case e2 => k_is); (case k2 => k_is); (case a3 => k_is); (case l3 => k_is); (case e3 => k_is); (case k3 => k_is); (case a4 => k_is); (case l4 => k_is); (case e4 => k_is); (case k4 => k_is); (case a5 => k_is); (case l5 => k_is); (case e5 => k_is); (case k5 => k_is); (case a6 => k_is); (case l6 => k_is); (case e6 => k_is); (case k6 => k_is); (case a7 => k_is); (case l7 => k_is); (case e7 => k_is); (case k7 => k_is); (case a8 => k_is); (case l8 => k_is); (case e8 => k_is); (case k8 => k_is); (case a9 => k_is); (case l9 => k_is); (case e9 => k_is); (case k9 => k_is); (case a10 => k_is); (case l10 => k_is); (case e10 => k_is); (case k10 => k_is); (case a11 => k_is); (case l11 => k_is); (case e11 => k_is); (case k11 => k_is); (case a12 => k_is); (case l12 => k_is); (case e12 => k_is); (case k12 => k_is); (case a13 => k_is); (case l13 => k_is); (case e13 => k_is); (case k13 => k_is); (case a14 => k_is); (case l14 => k_is); (case e14 => k_is); (case k14 => k_is); (case a15 => k_is); (case l15 => k_is); (case e15 => k_is); (case k15 => k_is); (case a16 => k_is); (case l16 => k_is); (case e16 => k_is); (case k16 => k_is); (case a17 => k_is); (case l17 => k_is); (case e17 => k_is); (case k17 => k_is); (case a18 => k_is); (case l18 => k_is); (case e18 => k_is); (case k18 => k_is); (case a19 => k_is); (case l19 => k_is); (case e19 => k_is); (case k19 => k_is); (case a20 => k_is); (case l20 => k_is); (case e20 => k_is); (case k20 => k_is); (case a21 => k_is); (case l21 => k_is); (case e21 => k_is); (case k21 => k_is); (case a22 => k_is); (case l22 => k_is); (case e22 => k_is); (case k22 => k_is); (case a23 => k_is); (case l23 => k_is); (case e23 => k_is); (case k23 => k_is); (case a24 => k_is); (case l24 => k_is); (case e24 => k_is); (case k24 => k_is); (case a25 => k_is); (case l25 => k_is); (case e25 => k_is); (case k25 => k_is); (case a26 => k_is); (case l26 => k_is); (case e26 => k_is); (case k26 => k_is); (case a27 => k_is); (case l27 => k_is); (case e27 => k_is); (case k27 => k_is); (case a28 => k_is); (case l28 => k_is); (case e28 => k_is); (case k28 => k_is); (case a29 => k_is); (case l29 => k_is); (case e29 => k_is); (case k29 => k_is); (case a30 => k_is); (case l30 => k_is); (case e30 => k_is); (case k30 => k_is); (case a31 => k_is); (case l31 => k_is); (case e31 => k_is); (case k31 => k_is); (case a32 => k_is); (case l32 => k_is); (case e32 => k_is); (case k32 => k_is); (case a33 => k_is); (case l33 => k_is); (case e33 => k_is); (case k33 => k_is); (case a34 => k_is); (case l34 => k_is); (case e34 => k_is); (case k34 => k_is); (case a35 => k_is); (case l35 => k_is); (case e35 => k_is); (case k35 => k_is); (case z0 => k_is); (case z1 => k_is); (case z2 => k_is); (case z3 => k_is); (case z4 => k_is); (case z5 => k_is); (case z6 => k_is); (case z7 => k_is); (case z8 => k_is); (case z9 => k_is); (case z10 => k_is); (case y0 => k_is); (case y1 => k_is); (case y2 => k_is); (case y3 => k_is); (case y4 => k_is); (case bFigureError => k_is); (case bNoBase => k_is); (case bNoFraction => k_is); (case bNoWriting => k_is); (case bNoNumber => k_is); (case bTooLong => k_is); (case bNoNote => k_is); (case fa_g => k_is); (case fb_g => k_is); (case fc_g => k_is); (case hn_g => k_is); (case ht_g => k_is); (case xa_NoBase => k_exc); (case xb_NoBase => k_is); (case xc_NoBase => k_is); (case xd_NoBase => k_is); (case ia_NoBase => k_is); (case ib_NoBase => k_is); (case ic_NoBase => k_is); (case ie_NoBase => k_is); (case ig_NoBase => k_is); (case s_NoBase => k_is); (case v_NoBase => k_is); (case q_NoBase_NoBase => first | rfl | k_is); (case q_NoBase_NoFraction => first | rfl | k_is); (case q_NoBase_NoWriting => first | rfl | k_is); (case q_NoBase_NoNumber => first | rfl | k_is); (case q_NoBase_TooLong => first | rfl | k_is); (case q_NoBase_NoNote => first | rfl | k_is); (case xa_NoFraction => k_exc); (case xb_NoFraction => k_is); (case xc_NoFraction => k_is); (case xd_NoFraction => k_is); (case ia_NoFraction => k_is); (case ib_NoFraction => k_is); (case ic_NoFraction => k_is); (case ie_NoFraction => k_is); (case ig_NoFraction => k_is); (case s_NoFraction => k_is); (case v_NoFraction => k_is); (case q_NoFraction_NoBase => first | rfl | k_is); (case q_NoFraction_NoFraction => first | rfl | k_is); (case q_NoFraction_NoWriting => first | rfl | k_is); (case q_NoFraction_NoNumber => first | rfl | k_is); (case q_NoFraction_TooLong => first | rfl | k_is); (case q_NoFraction_NoNote => first | rfl | k_is); (case xa_NoWriting => k_exc); (case xb_NoWriting => k_is); (case xc_NoWriting => k_is); (case xd_NoWriting => k_is); (case ia_NoWriting => k_is); (case ib_NoWriting => k_is); (case ic_NoWriting => k_is); (case ie_NoWriting => k_is); (case ig_NoWriting => k_is); (case s_NoWriting => k_is); (case v_NoWriting => k_is); (case q_NoWriting_NoBase => first | rfl | k_is); (case q_NoWriting_NoFraction => first | rfl | k_is); (case q_NoWriting_NoWriting => first | rfl | k_is); (case q_NoWriting_NoNumber => first | rfl | k_is); (case q_NoWriting_TooLong => first | rfl | k_is); (case q_NoWriting_NoNote => first | rfl | k_is); (case xa_NoNumber => k_exc); (case xb_NoNumber => k_is); (case xc_NoNumber => k_is); (case xd_NoNumber => k_is); (case ia_NoNumber => k_is); (case ib_NoNumber => k_is); (case ic_NoNumber => k_is); (case ie_NoNumber => k_is); (case ig_NoNumber => k_is); (case s_NoNumber => k_is); (case v_NoNumber => k_is); (case q_NoNumber_NoBase => first | rfl | k_is); (case q_NoNumber_NoFraction => first | rfl | k_is); (case q_NoNumber_NoWriting => first | rfl | k_is); (case q_NoNumber_NoNumber => first | rfl | k_is); (case q_NoNumber_TooLong => first | rfl | k_is); (case q_NoNumber_NoNote => first | rfl | k_is); (case xa_TooLong => k_exc); (case xb_TooLong => k_is); (case xc_TooLong => k_is); (case xd_TooLong => k_is); (case ia_TooLong => k_is); (case ib_TooLong => k_is); (case ic_TooLong => k_is); (case ie_TooLong => k_is); (case ig_TooLong => k_is); (case s_TooLong => k_is); (case v_TooLong => k_is); (case q_TooLong_NoBase => first | rfl | k_is); (case q_TooLong_NoFraction => first | rfl | k_is); (case q_TooLong_NoWriting => first | rfl | k_is); (case q_TooLong_NoNumber => first | rfl | k_is); (case q_TooLong_TooLong => first | rfl | k_is); (case q_TooLong_NoNote => first | rfl | k_is); (case j_NoBase => k_is); (case j_NoFraction => k_is); (case j_NoWriting => k_is); (case j_NoNumber => k_is); (case j_TooLong => k_is); (case j_NoNote => k_is); (case l_NoBase => k_is); (case l_NoFraction => k_is); (case l_NoWriting => k_is); (case l_NoNumber => k_is); (case l_TooLong => k_is); (case l_NoNote => k_is)
