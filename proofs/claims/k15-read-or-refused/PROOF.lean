import PyProof.Rows.All
import Wide.All
import OpenK.AllK
import Wide.FinOn
import PySem.Challenge.RW_ringfigures_k15_read_or_refused
import HandS.ForMost
import HandS.ForExc
import HandS.Wide
import HandS.IsInst
import HandS.Codes
import HandS.Style
import HandS.Evl
import HandS.Walk
import HandS.Zip
import HandS.Conv
import HandS.Text
import HandS.Replace
import HandS.NoneIn
import HandS.HotCalls
import HandS.ExcIs
import HandS.ExcOwn
import HandS.SetFor
import HandS.Deep
import PyProof.StrOps2
import PyProof.StrBlockI
set_option Elab.async false
set_option linter.all false
set_option maxRecDepth 100000
set_option maxHeartbeats 4000000
set_option maxRecDepth 100000
set_option maxHeartbeats 4000000
namespace Rf
open PySem PySem.Spec PyProof.Rows L2
/-! ### heaps -/
theorem same_new {H H' : Hp} {p : Addr} {o : HO} (s : Same H H') (h : H p = none) : Same H (upd H' p o) := fun b u e => by
  rw [upd_ne (ne_of_none e h)]
  exact s b u e
theorem same_upd {H : Hp} {p : Addr} {o : HO} (h : H p = none) : Same H (upd H p o) := same_new (Same.refl H) h
theorem ne_new {H : Hp} {d f : Addr} {o : HO} (h : upd H d o f = none) : f ≠ d := fun e => by
  rw [e, upd_same] at h
  cases h
theorem free_upd {H : Hp} {d f : Addr} {o : HO} (h : upd H d o f = none) : H f = none := by
  rw [upd_ne (ne_new h)] at h
  exact h
theorem same_ups {H H' : Hp} {d : Addr} {o : HO} (s : Same H H') (h : H' d = none) : Same H (upd H' d o) := s.trans (same_upd h)
theorem keyne {a b : Nat} (h : a ≠ b) : ¬ ((Sum.inl (a : Int) : Key) = Sum.inl (b : Int)) := fun q => h (by have := Sum.inl.inj q; omega)
theorem sz100 {n : Nat} (h : n ≤ 1000000) : n ≤ sizeLine := Nat.le_trans h (by decide)
theorem sz100lt {n : Nat} (h : n < 1000000) : n < sizeLine := Nat.lt_of_lt_of_le h (by decide)
theorem sqt {K : PySem.W.Frag} {H : Hp} {a : Addr} {xs : List V} (h : H a = some (.tup xs)) : SqT K H a xs := .inl (.inl h)
theorem sql {K : PySem.W.Frag} {H : Hp} {a : Addr} {xs : List V} (h : H a = some (.lst xs)) : SqL K H a xs := .inl (.inl h)
/-! ### floor division by any positive number, where the quotient is not long -/
def CDivP (i j : Int) : Prop := 0 < j ∧ Builtin.divisionGoesByPylong i j = false
theorem op_fdivP {X : Cx} : OpR X (binaryOp .FloorDiv) (rI CDivP fun i j => .int (i / j)) := opI fun i j _ _ _ _ _ hc q => by
  have h1 : (0 : Int) < j := hc.1
  exact floordiv_int (by omega) (by rw [Int.fdiv_eq_ediv_of_nonneg i (by omega)]; exact q) (.inl hc.2)
theorem cdivp_small {i j : Int} (h : 0 < j) (h2 : j < 1073741824) : CDivP i j := ⟨h, PyProof.noPylong_small (by omega)⟩
/-- a divisor that is not long -/
structure Wid (m : Nat) : Prop where
  lt : m.log2 < 9000
theorem cdivp_wide {i : Int} {m : Nat} (h0 : 0 < m) (h : Wid m) : CDivP i (m : Int) := ⟨by omega, PyProof.noPylong_of_log2 (by rw [Int.natAbs_natCast]; exact h.lt)⟩
theorem wid_of {m k : Nat} (h : m < 2 ^ k) (hk : k ≤ 9000) (h0 : 0 < k) : Wid m := ⟨Nat.lt_of_lt_of_le (PySem.Flt.log2_lt_of h0 h) hk⟩
theorem wid_small {m : Nat} (h : m < 1000000) : Wid m := wid_of (k := 30) (Nat.lt_of_lt_of_le h (by decide)) (by decide) (by decide)
theorem op_mulB {X : Cx} : OpR X (binaryOp .Mult) (rI IntMulOk fun i j => .int (i * j)) := opI fun _ _ _ _ _ _ _ hc q => mul_int q hc
theorem mulB_right {i j : Int} (h1 : -(2 ^ 64) < j) (h2 : j < 2 ^ 64) : IntMulOk i j := IntMulOk.of_right (intBits_le_64 (by omega) (by omega))
theorem mulB_left {i j : Int} (h1 : -(2 ^ 64) < i) (h2 : i < 2 ^ 64) : IntMulOk i j := IntMulOk.of_left (intBits_le_64 (by omega) (by omega))
/-! ### slices -/
theorem cut_take (xs : List V) (k : Nat) : cutV xs none (some (k : Int)) = xs.take k := by
  unfold cutV
  rw [HT.sIx_none, HT.sIx_nat, List.drop_zero, Nat.sub_zero, ← List.take_take, List.take_length]
theorem cut_drop (xs : List V) (k : Nat) : cutV xs (some (k : Int)) none = xs.drop k := by
  unfold cutV
  rw [HT.sIx_none, HT.sIx_nat]
  by_cases h : k ≤ xs.length
  · rw [Nat.min_eq_left h]
    exact List.take_of_length_le (by rw [List.length_drop]; exact Nat.le_refl _)
  · rw [Nat.min_eq_right (by omega), List.drop_eq_nil_of_le (Nat.le_refl _), List.drop_eq_nil_of_le (by omega), List.take_nil]
theorem take_map (l : List Int) (k : Nat) : (l.map V.int).take k = (l.take k).map V.int := (List.map_take).symm
theorem drop_map (l : List Int) (k : Nat) : (l.map V.int).drop k = (l.drop k).map V.int := (List.map_drop).symm
/-! ### ints as data -/
def dI (ns : List Int) : PyData := .list (ns.map PyData.int)
theorem eqv_ints : ∀ a b : List Int, PyData.eqvAll (a.map PyData.int) (b.map PyData.int) = decide (a = b)
  | [], [] => rfl
  | [], _ :: _ => rfl
  | _ :: _, [] => rfl
  | x :: a, y :: b => by
    show (PyData.eqv (.int x) (.int y) && PyData.eqvAll (a.map PyData.int) (b.map PyData.int)) = _
    rw [eqv_ints a b]
    show ((x == y) && decide (a = b)) = _
    by_cases h : x = y <;> by_cases h2 : a = b <;> simp [h, h2]
theorem eqv_dI (a b : List Int) : PyData.eqv (dI a) (dI b) = decide (a = b) := by
  unfold dI
  rw [PyData.eqv]
  exact eqv_ints a b
theorem canLay_ints : ∀ a : List Int, PyData.canLayAll0 (a.map PyData.int) = true
  | [] => rfl
  | x :: a => by
    show (PyData.canLay0 (.int x) && PyData.canLayAll0 (a.map PyData.int)) = true
    rw [canLay_ints a]
    rfl
theorem depth_ints : ∀ a : List Int, PyData.depthAll (a.map PyData.int) = 0
  | [] => rfl
  | x :: a => by
    show max (PyData.depth (.int x)) (PyData.depthAll (a.map PyData.int)) = 0
    rw [depth_ints a]
    rfl
theorem shaped_dI (a : List Int) : SeqAt.shaped (dI a) = true := by
  unfold SeqAt.shaped dI
  rw [show PyData.canLay0 (.list (a.map PyData.int)) = PyData.canLayAll0 (a.map PyData.int) from rfl, canLay_ints]
  rw [show PyData.depth (.list (a.map PyData.int)) = PyData.depthAll (a.map PyData.int) + 1 from rfl, depth_ints]
  rfl
theorem dpAll_ints {K : PySem.W.Frag} {H : Hp} : ∀ a : List Int, DpAll K H (a.map V.int) (a.map PyData.int)
  | [] => .nil
  | x :: a => .cons (.int x) (dpAll_ints a)
theorem dp_dI {K : PySem.W.Frag} {H : Hp} {p : Addr} {a : List Int} (h : SqL K H p (a.map V.int)) : Dp K H (.ref p) (dI a) := .lst h (dpAll_ints a)
/-! ### writings -/
/-- a whole number, figures ahead, a ring -/
structure Wr where
  w : Int
  a : List Int
  r : List Int
  deriving DecidableEq
def dW (x : Wr) : PyData := .tuple [.int x.w, dI x.a, dI x.r]
theorem eqv_dW (x y : Wr) : PyData.eqv (dW x) (dW y) = decide (x = y) := by
  unfold dW
  rw [PyData.eqv]
  show (PyData.eqv (.int x.w) (.int y.w) && (PyData.eqv (dI x.a) (dI y.a) && (PyData.eqv (dI x.r) (dI y.r) && true))) = _
  rw [eqv_dI, eqv_dI]
  show ((x.w == y.w) && _) = _
  obtain ⟨w1, a1, r1⟩ := x
  obtain ⟨w2, a2, r2⟩ := y
  by_cases h1 : w1 = w2 <;> by_cases h2 : a1 = a2 <;> by_cases h3 : r1 = r2 <;> simp [h1, h2, h3]
theorem shaped_dW (x : Wr) : SeqAt.shaped (dW x) = true := by
  unfold SeqAt.shaped dW dI
  show (PyData.canLay0 (.int x.w) && (PyData.canLayAll0 (x.a.map PyData.int) && (PyData.canLayAll0 (x.r.map PyData.int) && true)) && decide (max 0 (max (PyData.depthAll (x.a.map PyData.int) + 1) (max (PyData.depthAll (x.r.map PyData.int) + 1) 0)) + 1 ≤ 64)) = true
  rw [canLay_ints, canLay_ints, depth_ints, depth_ints]
  rfl
/-- the writing x stands at p, its lists at a and r -/
structure WrAt (H : Hp) (p a r : Addr) (x : Wr) : Prop where
  tp : H p = some (.tup [.int x.w, .ref a, .ref r])
  la : H a = some (.lst (x.a.map V.int))
  lr : H r = some (.lst (x.r.map V.int))
theorem WrAt.dp {K : PySem.W.Frag} {H : Hp} {p a r : Addr} {x : Wr} (h : WrAt H p a r x) : Dp K H (.ref p) (dW x) :=
  .tup (sqt h.tp) (.cons (.int x.w) (.cons (dp_dI (sql h.la)) (.cons (dp_dI (sql h.lr)) .nil)))
theorem WrAt.same {H H' : Hp} {p a r : Addr} {x : Wr} (h : WrAt H p a r x) (s : Same H H') : WrAt H' p a r x := ⟨s _ _ h.tp, s _ _ h.la, s _ _ h.lr⟩
/-- a new writing x at p: all that was stands, its objects are new and its lists are two -/
structure WrNew (H H' : Hp) (p a r : Addr) (x : Wr) : Prop where
  at' : WrAt H' p a r x
  same : Same H H'
  np : H p = none
  na : H a = none
  nr : H r = none
  ne : a ≠ r
/-! ### tests -/
theorem iteD {c : Prop} [Decidable c] {A B : Prop} (h1 : c → A) (h2 : ¬ c → B) : if decide c = true then A else B := by
  by_cases h : c
  · rw [if_pos (decide_eq_true h)]; exact h1 h
  · rw [if_neg (by rw [decide_eq_false h]; exact Bool.false_ne_true)]; exact h2 h
theorem iteDn {c : Prop} [Decidable c] {A B : Prop} (h1 : ¬ c → A) (h2 : c → B) : if (!decide c) = true then A else B := by
  by_cases h : c
  · rw [if_neg (by rw [decide_eq_true h]; exact Bool.false_ne_true)]; exact h2 h
  · rw [if_pos (by rw [decide_eq_false h]; rfl)]; exact h1 h
theorem iteE {i j : Int} {A B : Prop} (h1 : i = j → A) (h2 : i ≠ j → B) : if decide (V.int i = V.int j) = true then A else B := iteD (fun e => h1 (V.int.inj e)) (fun e => h2 fun q => e (by rw [q]))
theorem iteEn {i j : Int} {A B : Prop} (h1 : i ≠ j → A) (h2 : i = j → B) : if (!decide (V.int i = V.int j)) = true then A else B := iteDn (fun e => h1 fun q => e (by rw [q])) (fun e => h2 (V.int.inj e))
theorem iteB {b : Bool} {A B : Prop} (h1 : b = true → A) (h2 : b = false → B) : if b = true then A else B := by
  cases b with
  | true => rw [if_pos rfl]; exact h1 rfl
  | false => rw [if_neg Bool.false_ne_true]; exact h2 rfl
theorem atI_of {xs : List V} {z : Int} {j : Nat} {v : V} (e : z = (j : Int)) (h : xs[j]? = some v) : atI xs z = some v := by
  rw [e]
  exact atI_nat h
theorem map_get {ns : List Int} {k : Nat} {x : Int} (h : ns[k]? = some x) : (ns.map V.int)[k]? = some (.int x) := by
  rw [List.getElem?_map, h]; rfl
/-! ### where a value's kind is asked -/
theorem kit_int_int {K : PySem.W.Frag} : PySem.W.kitOne K (.type "int") (.type "int") = some true := kit_ty (by decide +kernel)
theorem kit_int_bool {K : PySem.W.Frag} : PySem.W.kitOne K (.type "int") (.type "bool") = some false := kit_ty (by decide +kernel)
theorem kit_tup {K : PySem.W.Frag} : PySem.W.kitOne K (.type "tuple") (.type "tuple") = some true := kit_ty (by decide +kernel)
theorem kit_lst {K : PySem.W.Frag} : PySem.W.kitOne K (.type "list") (.type "list") = some true := kit_ty (by decide +kernel)
theorem kit_bool {K : PySem.W.Frag} : PySem.W.kitOne K (.type "bool") (.type "bool") = some true := kit_ty (by decide +kernel)
theorem kit_str {K : PySem.W.Frag} : PySem.W.kitOne K (.type "str") (.type "str") = some true := kit_ty (by decide +kernel)
theorem kit_self {K : PySem.W.Frag} {n : String} : PySem.W.kitOne K (.type n) (.type n) = some true := kit_ty (by unfold kitB; rw [if_pos (by simp)])
end Rf

set_option maxHeartbeats 1000000
namespace Rf
/-! ### the rests of a division, and where they come again -/
/-- the rest behind k figures -/
def rs (b m r k : Nat) : Nat := r * b ^ k % m
/-- the k-th figure -/
def dg (b m r k : Nat) : Nat := rs b m r k * b / m
/-- n figures from the i-th on -/
def dgs (b m r i n : Nat) : List Int := (List.range n).map fun k => ((dg b m r (i + k) : Nat) : Int)
theorem rs_zero {b m r : Nat} (h : r < m) : rs b m r 0 = r := by
  unfold rs
  rw [Nat.pow_zero, Nat.mul_one, Nat.mod_eq_of_lt h]
theorem rs_lt {b m r k : Nat} (h : 0 < m) : rs b m r k < m := Nat.mod_lt _ h
theorem rs_succ (b m r k : Nat) : rs b m r (k + 1) = rs b m r k * b % m := by
  unfold rs
  rw [Nat.pow_succ, ← Nat.mul_assoc, Nat.mul_mod (r * b ^ k) b m, Nat.mul_mod (r * b ^ k % m) b m, Nat.mod_mod]
theorem dgs_len (b m r i n : Nat) : (dgs b m r i n).length = n := by
  unfold dgs
  rw [List.length_map, List.length_range]
theorem dgs_succ (b m r i n : Nat) : dgs b m r i (n + 1) = dgs b m r i n ++ [((dg b m r (i + n) : Nat) : Int)] := by
  unfold dgs
  rw [List.range_succ, List.map_append]
  rfl
theorem dgs_take (b m r n k : Nat) (h : k ≤ n) : (dgs b m r 0 n).take k = dgs b m r 0 k := by
  unfold dgs
  rw [← List.map_take, List.take_range, Nat.min_eq_left h]
theorem dgs_get (b m r i n k : Nat) (h : k < n) : (dgs b m r i n)[k]? = some ((dg b m r (i + k) : Nat) : Int) := by
  unfold dgs
  rw [List.getElem?_map, List.getElem?_range h]
  rfl
theorem dgs_drop (b m r n k : Nat) (h : k ≤ n) : (dgs b m r 0 n).drop k = dgs b m r k (n - k) := by
  apply List.ext_getElem?
  intro j
  rw [List.getElem?_drop]
  by_cases hj : j < n - k
  · rw [dgs_get _ _ _ _ _ _ hj, dgs_get _ _ _ _ _ _ (show k + j < n by omega), Nat.zero_add]
  · rw [List.getElem?_eq_none (by rw [dgs_len]; omega), List.getElem?_eq_none (by rw [dgs_len]; omega)]
/-- division of r by m in base b: s figures ahead, then a ring of l (none: l = 0) -/
structure DivAt (b m r s l : Nat) : Prop where
  pos : ∀ k, k < s + l → rs b m r k ≠ 0
  new : ∀ j k, j < k → k < s + l → rs b m r j ≠ rs b m r k
  fin : l = 0 → rs b m r s = 0
  rep : 0 < l → rs b m r (s + l) = rs b m r s
/-- the first n at which the division stops -/
def Stp (b m r n : Nat) : Prop := rs b m r n = 0 ∨ ∃ j, j < n ∧ rs b m r j = rs b m r n
theorem DivAt.stp {b m r s l : Nat} (h : DivAt b m r s l) : Stp b m r (s + l) := by
  by_cases hl : l = 0
  · subst hl; exact .inl (h.fin rfl)
  · exact .inr ⟨s, by omega, (h.rep (by omega)).symm⟩
theorem DivAt.not_stp {b m r s l n : Nat} (h : DivAt b m r s l) (hn : n < s + l) : ¬ Stp b m r n := fun q => by
  rcases q with q | ⟨j, hj, e⟩
  · exact h.pos n hn q
  · exact h.new j n hj hn e
theorem DivAt.unique {b m r s l s' l' : Nat} (h : DivAt b m r s l) (h' : DivAt b m r s' l') : s = s' ∧ l = l' := by
  have e : s + l = s' + l' := by
    rcases Nat.lt_trichotomy (s + l) (s' + l') with q | q | q
    · exact absurd h.stp (h'.not_stp q)
    · exact q
    · exact absurd h'.stp (h.not_stp q)
  by_cases hl : l = 0
  · by_cases hl' : l' = 0
    · omega
    · have h1 := h.fin hl
      have h2 := h'.rep (by omega)
      have h3 : s = s' + l' := by omega
      rw [← h3, h1] at h2
      exact absurd h2.symm (h'.pos s' (by omega))
  · by_cases hl' : l' = 0
    · have h1 := h'.fin hl'
      have h2 := h.rep (by omega)
      have h3 : s' = s + l := by omega
      rw [← h3, h1] at h2
      exact absurd h2.symm (h.pos s (by omega))
    · have h1 := h.rep (by omega)
      have h2 := h'.rep (by omega)
      rw [e] at h1
      have h3 : rs b m r s = rs b m r s' := h1.symm.trans h2
      rcases Nat.lt_trichotomy s s' with q | q | q
      · exact absurd h3 (h.new s s' q (by omega))
      · omega
      · exact absurd h3.symm (h'.new s' s q (by omega))
theorem exists_least (P : Nat → Prop) : ∀ n, P n → ∃ k, k ≤ n ∧ P k ∧ ∀ j, j < k → ¬ P j := fun n => by
  induction n using Nat.strongRecOn with
  | _ n ih =>
    intro h
    by_cases q : ∃ j, j < n ∧ P j
    · obtain ⟨j, hj, pj⟩ := q
      obtain ⟨k, hk, pk, lk⟩ := ih j hj pj
      exact ⟨k, by omega, pk, lk⟩
    · exact ⟨n, Nat.le_refl _, h, fun j hj pj => q ⟨j, hj, pj⟩⟩
/-- an injection of the numbers below n into those below m -/
theorem pigeon : ∀ (m n : Nat) (f : Nat → Nat), (∀ k, k < n → f k < m) → (∀ j k, j < k → k < n → f j ≠ f k) → n ≤ m
  | 0, n, f, h, _ => by
    cases n with
    | zero => exact Nat.le_refl _
    | succ n => exact absurd (h 0 (by omega)) (by omega)
  | m + 1, n, f, h, inj => by
    by_cases q : ∃ i, i < n ∧ f i = m
    · obtain ⟨i, hi, ei⟩ := q
      have key : n - 1 ≤ m := pigeon m (n - 1) (fun k => if k < i then f k else f (k + 1)) (fun k hk => by
          split
          · rename_i c
            have h1 := h k (by omega)
            have h2 := inj k i c hi
            omega
          · rename_i c
            have h1 := h (k + 1) (by omega)
            have h2 := inj i (k + 1) (by omega) (by omega)
            omega) (fun j k hjk hk => by
          split
          · split
            · exact inj j k hjk (by omega)
            · exact inj j (k + 1) (by omega) (by omega)
          · split
            · omega
            · exact inj (j + 1) (k + 1) (by omega) (by omega))
      omega
    · have key : n ≤ m := pigeon m n f (fun k hk => by
          have h1 := h k hk
          have h2 : f k ≠ m := fun e => q ⟨k, hk, e⟩
          omega) inj
      omega
theorem stp_exists {b m r : Nat} (hm : 0 < m) : ∃ n, n ≤ m ∧ Stp b m r n := by
  by_cases q : ∃ n, n ≤ m ∧ Stp b m r n
  · exact q
  · have h1 : m + 1 ≤ m := pigeon m (m + 1) (rs b m r) (fun k _ => rs_lt hm) (fun j k hjk hk e => q ⟨k, by omega, .inr ⟨j, hjk, e⟩⟩)
    omega
theorem divAt_of_stp {b m r n : Nat} (h : Stp b m r n) (hl : ∀ j, j < n → ¬ Stp b m r j) : ∃ s l, s + l = n ∧ DivAt b m r s l := by
  have hp : ∀ k, k < n → rs b m r k ≠ 0 := fun k hk e => hl k hk (.inl e)
  have hn : ∀ j k, j < k → k < n → rs b m r j ≠ rs b m r k := fun j k hjk hk e => hl k hk (.inr ⟨j, hjk, e⟩)
  by_cases h0 : rs b m r n = 0
  · exact ⟨n, 0, by omega, ⟨hp, hn, fun _ => h0, fun q => absurd q (by omega)⟩⟩
  · rcases h with h | ⟨j, hj, e⟩
    · exact absurd h h0
    · refine ⟨j, n - j, by omega, ⟨fun k hk => hp k (by omega), fun i k hik hk => hn i k hik (by omega), fun q => by omega, fun _ => ?_⟩⟩
      rw [show j + (n - j) = n by omega]
      exact e.symm
theorem divAt_exists {b m r : Nat} (hm : 0 < m) : ∃ s l, s + l ≤ m ∧ DivAt b m r s l := by
  obtain ⟨n, hn, h⟩ := stp_exists (b := b) (r := r) hm
  obtain ⟨k, hk, pk, lk⟩ := exists_least (Stp b m r) n h
  obtain ⟨s, l, e, d⟩ := divAt_of_stp pk lk
  exact ⟨s, l, by omega, d⟩
end Rf

set_option maxRecDepth 100000
set_option maxHeartbeats 4000000
namespace Rf
open PySem PySem.Spec PyProof.Rows L2
/-! ### comprehensions of values that are read off -/
theorem take_snoc {α : Type} {l : List α} {i : Nat} {x : α} (h : l[i]? = some x) : l.take (i + 1) = l.take i ++ [x] := by
  rw [List.take_add_one, h]; rfl
/-- over a list -/
theorem lc_vals {K : PySem.W.Frag} {a D : Addr} {xs : List V} {te : TE} {vs : List Nat} {σ : L2.St} {i : Nat} {H : Hp} {Qd : Hp → Prop} (g : V → V) (hS : SqL K H a xs) (nD : H D = none) (hlen : xs.length < 1000000)
    (hw : ∀ x, wipe ((wipe σ vs).set i (some x)) vs = wipe σ vs)
    (he : ∀ x, x ∈ xs → ∀ H' (Q : VK), Same H H' → (∀ H2, Same H' H2 → Q (g x) H2) → te ((wipe σ vs).set i (some x)) H' Q) (hd : ∀ H', Same H H' → H' D = some (.lst (xs.map g)) → Qd H') :
    ∃ W : Nat → Nat → Hp → Prop, (∃ m, W 0 m (upd H D (.lst []))) ∧ ∀ j m H, W j m H →
      ((Itl K a).stop j H ∧ Qd H) ∨ ((Itl K a).go j H ∧ ∃ Nx : Hp → Prop, (∀ H', Nx H' → ∃ m', m' < m ∧ W (j + 1) m' H') ∧ ∀ x H', (Itl K a).yld j H x H' → gName i x (wipe σ vs) H' fun σ2 H2 => wipe σ2 vs = wipe σ vs ∧ tYes σ2 H2 fun b H3 =>
        if b = true then te σ2 H3 fun y H4 => ∃ acc, H4 D = some (.lst acc) ∧ acc.length < sizeLine ∧ Nx (upd H4 D (.lst (acc ++ [y]))) else Nx H3) := by
  refine lc_list (K := K) (a := a) (xs := xs) (fun j H' => Same H H' ∧ H' D = some (.lst ((xs.take j).map g))) ⟨same_upd nD, upd_same⟩ (fun j H' _ ⟨s, _⟩ => s.seq hS) (fun j x H' hx ⟨s, hD⟩ => ?_) (fun H' ⟨s, hD⟩ => ?_)
  · refine ⟨hw x, ?_⟩
    show te ((wipe σ vs).set i (some x)) H' _
    refine he x (List.mem_of_getElem? hx) H' _ s fun H2 s2 => ⟨_, s2 _ _ hD, ?_, same_new (s.trans s2) nD, ?_⟩
    · rw [List.length_map, List.length_take]
      exact sz100lt (by omega)
    · rw [upd_same, take_snoc hx, List.map_append]
      rfl
  · rw [List.take_length] at hD
    exact hd H' s hD
/-- over range(n) -/
theorem lc_rng {D : Addr} {n : Nat} {te : TE} {vs : List Nat} {σ : L2.St} {i : Nat} {H : Hp} {Qd : Hp → Prop} (g : Nat → V) (nD : H D = none) (hlen : n < 1000000)
    (hw : ∀ x, wipe ((wipe σ vs).set i (some x)) vs = wipe σ vs)
    (he : ∀ k, k < n → ∀ H' (Q : VK), Same H H' → (∀ H2, Same H' H2 → Q (g k) H2) → te ((wipe σ vs).set i (some (.int (k : Int)))) H' Q) (hd : ∀ H', Same H H' → H' D = some (.lst ((List.range n).map g)) → Qd H') :
    ∃ W : Nat → Nat → Hp → Prop, (∃ m, W 0 m (upd H D (.lst []))) ∧ ∀ j m H, W j m H →
      ((Itr 0 n).stop j H ∧ Qd H) ∨ ((Itr 0 n).go j H ∧ ∃ Nx : Hp → Prop, (∀ H', Nx H' → ∃ m', m' < m ∧ W (j + 1) m' H') ∧ ∀ x H', (Itr 0 n).yld j H x H' → gName i x (wipe σ vs) H' fun σ2 H2 => wipe σ2 vs = wipe σ vs ∧ tYes σ2 H2 fun b H3 =>
        if b = true then te σ2 H3 fun y H4 => ∃ acc, H4 D = some (.lst acc) ∧ acc.length < sizeLine ∧ Nx (upd H4 D (.lst (acc ++ [y]))) else Nx H3) := by
  refine lc_range (lo := 0) (n := n) (fun j H' => Same H H' ∧ H' D = some (.lst ((List.range j).map g))) ⟨same_upd nD, upd_same⟩ (fun j H' hj ⟨s, hD⟩ => ?_) (fun H' ⟨s, hD⟩ => hd H' s hD)
  rw [Int.zero_add]
  refine ⟨hw _, ?_⟩
  show te ((wipe σ vs).set i (some (.int (j : Int)))) H' _
  refine he j hj H' _ s fun H2 s2 => ⟨_, s2 _ _ hD, ?_, same_new (s.trans s2) nD, ?_⟩
  · rw [List.length_map, List.length_range]
    exact sz100lt (by omega)
  · rw [upd_same, List.range_succ, List.map_append]
    rfl
/-- over zip of two lists of ints, the two names in the slots i and j -/
theorem lc_zips {K : PySem.W.Frag} {a b D : Addr} {xs ys : List Int} {te : TE} {vs : List Nat} {σ : L2.St} {i j : Nat} {H : Hp} {Qd : Hp → Prop} (g : Int → Int → V) (hS : SqL K H a (xs.map V.int)) (hT : SqL K H b (ys.map V.int)) (hl : xs.length = ys.length) (nD : H D = none) (hlen : xs.length < 1000000)
    (hw : ∀ x y, wipe (((wipe σ vs).set i (some x)).set j (some y)) vs = wipe σ vs)
    (he : ∀ x y, ∀ H' (Q : VK), Q (g x y) H' → te (((wipe σ vs).set i (some (.int x))).set j (some (.int y))) H' Q) (hd : ∀ H', Same H H' → H' D = some (.lst (List.zipWith g xs ys)) → Qd H') :
    ∃ W : Nat → Nat → Hp → Prop, (∃ m, W 0 m (upd H D (.lst []))) ∧ ∀ n m H, W n m H →
      ((Itz K a b).stop n H ∧ Qd H) ∨ ((Itz K a b).go n H ∧ ∃ Nx : Hp → Prop, (∀ H', Nx H' → ∃ m', m' < m ∧ W (n + 1) m' H') ∧ ∀ x H', (Itz K a b).yld n H x H' → gTup K 2 (gCons (gName i) (gCons (gName j) gNil)) x (wipe σ vs) H' fun σ2 H2 => wipe σ2 vs = wipe σ vs ∧ tYes σ2 H2 fun b H3 =>
        if b = true then te σ2 H3 fun y H4 => ∃ acc, H4 D = some (.lst acc) ∧ acc.length < sizeLine ∧ Nx (upd H4 D (.lst (acc ++ [y]))) else Nx H3) := by
  have W := walk_zip (K := K) (a := a) (b := b) (xs := xs.map V.int) (ys := ys.map V.int) (n := xs.length) (by rw [List.length_map, List.length_map, ← hl, Nat.min_self])
  refine lc_it W (fun n H' => Same H H' ∧ H' D = some (.lst (List.zipWith g (xs.take n) (ys.take n)))) ⟨same_upd nD, upd_same⟩ (fun n H' _ ⟨s, _⟩ => ⟨s.seq hS, s.seq hT⟩) (fun n v H1 H' hn ⟨s, hD⟩ hy => ?_) (fun H' ⟨s, hD⟩ => ?_)
  · obtain ⟨T, x, y, rfl, nT, rfl, hx, hy⟩ := hy
    dsimp only at hx hy
    rw [List.getElem?_map] at hx hy
    have hx' : xs[n]? = some xs[n] := List.getElem?_eq_getElem hn
    have hn2 : n < ys.length := by omega
    have hy' : ys[n]? = some ys[n] := List.getElem?_eq_getElem hn2
    rw [hx'] at hx
    rw [hy'] at hy
    have ex : V.int xs[n] = x := Option.some.inj hx
    have ey : V.int ys[n] = y := Option.some.inj hy
    subst ex ey
    refine ⟨T, _, rfl, sqt upd_same, rfl, _, _, rfl, _, _, rfl, rfl, hw _ _, ?_⟩
    show te (((wipe σ vs).set i (some (.int xs[n]))).set j (some (.int ys[n]))) _ _
    have nTD : D ≠ T := ne_of_none hD nT
    refine he _ _ _ _ ⟨_, (upd_ne nTD).trans hD, ?_, same_new (same_new s (s.free nT)) nD, ?_⟩
    · rw [List.length_zipWith, List.length_take, List.length_take]
      exact sz100lt (by omega)
    · rw [upd_same, take_snoc hx', take_snoc hy', List.zipWith_append (by rw [List.length_take, List.length_take]; omega)]
      rfl
  · rw [List.take_length, hl, List.take_length] at hD
    exact hd H' s hD
theorem mem_ints {ns : List Int} {x : V} (h : x ∈ ns.map V.int) : ∃ z, z ∈ ns ∧ x = .int z := by
  obtain ⟨z, hz, e⟩ := List.mem_map.mp h
  exact ⟨z, hz, e.symm⟩
theorem ixN_of {n j : Nat} {z : Int} (e : z = (j : Int)) (h : j < n) : ixN n z = some j := by
  unfold ixN
  rw [e, if_pos (by omega), if_pos (by omega), Int.toNat_natCast]
theorem map_setI (ns : List Int) (j : Nat) (v : Int) : (ns.map V.int).set j (.int v) = (ns.set j v).map V.int := (List.map_set).symm
theorem mem_set {ns : List Int} {j : Nat} {v x : Int} (h : x ∈ ns.set j v) : x = v ∨ x ∈ ns := by
  rcases List.mem_or_eq_of_mem_set h with h | h
  · exact .inr h
  · exact .inl h
/-- figures of a base -/
def Figs (b : Int) (ns : List Int) : Prop := ∀ x, x ∈ ns → 0 ≤ x ∧ x < b
theorem figs_nil {b : Int} : Figs b [] := fun x hx => by cases hx
theorem figs_take {b : Int} {ns : List Int} (h : Figs b ns) (k : Nat) : Figs b (ns.take k) := fun x hx => h x (List.mem_of_mem_take hx)
theorem figs_drop {b : Int} {ns : List Int} (h : Figs b ns) (k : Nat) : Figs b (ns.drop k) := fun x hx => h x (List.mem_of_mem_drop hx)
theorem figs_app {b : Int} {ns ms : List Int} (h : Figs b ns) (h2 : Figs b ms) : Figs b (ns ++ ms) := fun x hx => (List.mem_append.mp hx).elim (h x) (h2 x)
theorem figs_comp {b : Int} {ns : List Int} (h : Figs b ns) : Figs b (ns.map fun x => b - 1 - x) := fun x hx => by
  obtain ⟨z, hz, rfl⟩ := List.mem_map.mp hx
  have := h z hz
  omega
theorem figs_set {b : Int} {ns : List Int} {j : Nat} {v : Int} (h : Figs b ns) (hv : 0 ≤ v ∧ v < b) : Figs b (ns.set j v) := fun x hx => by
  rcases mem_set hx with e | e
  · rw [e]; exact hv
  · exact h x e
theorem figs_const {b v : Int} {ns : List Int} (hv : 0 ≤ v ∧ v < b) : Figs b (ns.map fun _ => v) := fun x hx => by
  obtain ⟨z, _, rfl⟩ := List.mem_map.mp hx
  exact hv
theorem figs_one {b v : Int} (hv : 0 ≤ v ∧ v < b) : Figs b [v] := fun x hx => by rw [List.mem_singleton.mp hx]; exact hv
theorem cut_lit (ns : List Int) (k : Nat) (z : Int) (e : z = (k : Int)) : cutV (ns.map V.int) none (some z) = (ns.take k).map V.int := by rw [e, cut_take, take_map]
theorem cut_litd (ns : List Int) (k : Nat) (z : Int) (e : z = (k : Int)) : cutV (ns.map V.int) (some z) none = (ns.drop k).map V.int := by rw [e, cut_drop, drop_map]
/-- a value's int -/
def iof : V → Int
  | .int z => z
  | _ => 0
theorem map_ints (f : Int → Int) (ns : List Int) : (ns.map V.int).map (fun v => V.int (f (iof v))) = (ns.map f).map V.int := by
  rw [List.map_map, List.map_map]
  rfl
theorem map_same (ns : List Int) : (ns.map V.int).map (fun v => v) = ns.map V.int := List.map_id' _
theorem rep_len {α : Type} (l : List α) : ∀ n : Nat, ((List.replicate n l).flatten).length = n * l.length
  | 0 => by rw [Nat.zero_mul]; rfl
  | n + 1 => by
    rw [List.replicate_succ, List.flatten_cons, List.length_append, rep_len l n, Nat.succ_mul, Nat.add_comm]
theorem figs_rep {b : Int} {ns : List Int} (h : Figs b ns) (n : Nat) : Figs b (List.replicate n ns).flatten := fun x hx => by
  obtain ⟨l, hl, hx⟩ := List.mem_flatten.mp hx
  rw [(List.mem_replicate.mp hl).2] at hx
  exact h x hx
theorem rep_map (ns : List Int) (n : Nat) : (List.replicate n (ns.map V.int)).flatten = ((List.replicate n ns).flatten).map V.int := by
  rw [List.map_flatten, List.map_replicate]
/-- a writing that may be handed in -/
structure WrOk (b : Int) (x : Wr) : Prop where
  w0 : 0 ≤ x.w
  w1 : x.w ≤ 1000000000000
  la : x.a.length ≤ 4000
  lr : x.r.length ≤ 4000
  fa : Figs b x.a
  fr : Figs b x.r
/-! ### pairs of ints as data -/
def dP (x y : Int) : PyData := .tuple [.int x, .int y]
theorem eqv_dP (x y x' y' : Int) : PyData.eqv (dP x y) (dP x' y') = decide (x = x' ∧ y = y') := by
  unfold dP
  rw [PyData.eqv]
  show ((x == x') && ((y == y') && true)) = _
  by_cases h1 : x = x' <;> by_cases h2 : y = y' <;> simp [h1, h2]
theorem shaped_dP (x y : Int) : SeqAt.shaped (dP x y) = true := rfl
theorem dp_dP {K : PySem.W.Frag} {H : Hp} {p : Addr} {x y : Int} (h : H p = some (.tup [.int x, .int y])) : Dp K H (.ref p) (dP x y) := .tup (sqt h) (.cons (.int x) (.cons (.int y) .nil))
theorem tyx_tup {K : PySem.W.Frag} {H : Hp} {p : Addr} {xs : List V} (h : H p = some (.tup xs)) : TyX K H (.ref p) (.type "tuple") := .base (.tup h)
theorem tyx_lst {K : PySem.W.Frag} {H : Hp} {p : Addr} {xs : List V} (h : H p = some (.lst xs)) : TyX K H (.ref p) (.type "list") := .base (.lst h)
end Rf

set_option maxHeartbeats 1000000
namespace Rf
/-! ### what figures tell -/
def numI (b : Int) (ns : List Int) : Int := ns.foldl (fun t f => t * b + f) 0
theorem num_from (b : Int) : ∀ (ns : List Int) (t : Int), ns.foldl (fun t f => t * b + f) t = t * b ^ ns.length + numI b ns
  | [], t => by
    show t = t * b ^ 0 + 0
    rw [Int.pow_zero]; omega
  | f :: ns, t => by
    have h1 := num_from b ns (t * b + f)
    have h2 := num_from b ns (0 * b + f)
    show ns.foldl (fun t f => t * b + f) (t * b + f) = t * b ^ (ns.length + 1) + ns.foldl (fun t f => t * b + f) (0 * b + f)
    rw [h1, h2, Int.pow_succ, Int.add_mul, Int.zero_mul, Int.zero_add, Int.mul_assoc, Int.mul_comm b (b ^ ns.length)]
    omega
theorem num_nil (b : Int) : numI b [] = 0 := rfl
theorem num_snoc (b : Int) (ns : List Int) (f : Int) : numI b (ns ++ [f]) = numI b ns * b + f := by
  unfold numI
  rw [List.foldl_append]
  rfl
theorem num_app (b : Int) (ns ms : List Int) : numI b (ns ++ ms) = numI b ns * b ^ ms.length + numI b ms := by
  have e : numI b (ns ++ ms) = ms.foldl (fun t f => t * b + f) (numI b ns) := by
    unfold numI
    rw [List.foldl_append]
  rw [e, num_from]
theorem num_cons (b f : Int) (ns : List Int) : numI b (f :: ns) = f * b ^ ns.length + numI b ns := by
  have e := num_app b [f] ns
  have e2 : numI b [f] = f := by
    show 0 * b + f = f
    omega
  rw [e2] at e
  exact e
theorem pow_posI {b : Int} (h : 0 < b) (n : Nat) : 0 < b ^ n := Int.pow_pos h
theorem num_ok {b : Int} (hb : 0 < b) : ∀ ns : List Int, (∀ x, x ∈ ns → 0 ≤ x ∧ x < b) → 0 ≤ numI b ns ∧ numI b ns < b ^ ns.length
  | [], _ => by
    show (0 : Int) ≤ 0 ∧ (0 : Int) < b ^ 0
    rw [Int.pow_zero]
    exact ⟨by decide, by decide⟩
  | f :: ns, h => by
    have ih := num_ok hb ns fun x hx => h x (List.mem_cons_of_mem _ hx)
    have hf := h f List.mem_cons_self
    have hp := pow_posI hb ns.length
    rw [num_cons, List.length_cons, Int.pow_succ]
    have h1 : 0 ≤ f * b ^ ns.length := Int.mul_nonneg hf.1 (Int.le_of_lt hp)
    have h2 : f * b ^ ns.length ≤ (b - 1) * b ^ ns.length := Int.mul_le_mul_of_nonneg_right (by omega) (Int.le_of_lt hp)
    have h3 : (b - 1) * b ^ ns.length = b ^ ns.length * b - b ^ ns.length := by rw [Int.sub_mul, Int.mul_comm, Int.one_mul]
    omega
theorem pow_ge1 {b : Int} (hb : 0 < b) (n : Nat) : 1 ≤ b ^ n := by
  have := pow_posI hb n
  omega
theorem pow_ge2 {b : Int} (hb : 2 ≤ b) {n : Nat} (hn : 0 < n) : 2 ≤ b ^ n := by
  obtain ⟨k, rfl⟩ : ∃ k, n = k + 1 := ⟨n - 1, by omega⟩
  rw [Int.pow_succ]
  have h1 := pow_ge1 (b := b) (by omega) k
  have h2 : 1 * b ≤ b ^ k * b := Int.mul_le_mul_of_nonneg_right h1 (by omega)
  omega
/-- a power of a base is below a power of two -/
theorem pow_lt2 {b : Int} (h0 : 0 ≤ b) (hb : b ≤ 64) (n : Nat) : b ^ n ≤ 2 ^ (6 * n) := by
  induction n with
  | zero => rw [Int.pow_zero, Nat.mul_zero, Int.pow_zero]; exact Int.le_refl _
  | succ n ih =>
    rw [Int.pow_succ, Nat.mul_succ, Int.pow_add]
    have h1 : (0 : Int) ≤ 2 ^ (6 * n) := Int.le_of_lt (Int.pow_pos (by decide))
    exact Int.mul_le_mul ih (by exact hb) h0 h1
/-! ### worths -/
def low (x y : Int) : Int × Int := (x / ((Nat.gcd x.toNat y.toNat : Nat) : Int), y / ((Nat.gcd x.toNat y.toNat : Nat) : Int))
/-- top and bottom of a writing -/
def wT (b w : Int) (a r : List Int) : Int := if r = [] then w * b ^ a.length + numI b a else (w * b ^ a.length + numI b a) * (b ^ r.length - 1) + numI b r
def wB (b : Int) (a r : List Int) : Int := if r = [] then b ^ a.length else b ^ a.length * (b ^ r.length - 1)
theorem wT_nn {b w : Int} {a r : List Int} (hb : 2 ≤ b) (hw : 0 ≤ w) (ha : ∀ x, x ∈ a → 0 ≤ x ∧ x < b) (hr : ∀ x, x ∈ r → 0 ≤ x ∧ x < b) : 0 ≤ wT b w a r := by
  have h1 := (num_ok (by omega) a ha).1
  have h2 := (num_ok (by omega) r hr).1
  have h3 : 0 ≤ w * b ^ a.length := Int.mul_nonneg hw (Int.le_of_lt (pow_posI (by omega) _))
  unfold wT
  split
  · omega
  · have h4 : 0 ≤ (w * b ^ a.length + numI b a) * (b ^ r.length - 1) := Int.mul_nonneg (by omega) (by have := pow_ge1 (b := b) (by omega) r.length; omega)
    omega
theorem wB_pos {b : Int} {a r : List Int} (hb : 2 ≤ b) : 0 < wB b a r := by
  unfold wB
  have h1 := pow_posI (b := b) (by omega) a.length
  split
  · exact h1
  · rename_i h
    have h2 := pow_ge2 hb (n := r.length) (List.length_pos_iff.mpr h)
    exact Int.mul_pos h1 (by omega)
end Rf

open PySem PySem.Spec PyProof.Rows L2
namespace Rf
/-! ### signs -/
def sg (x : Int) : Nat := if x < 10 then 48 + x.toNat else 87 + x.toNat
def sgs (ns : List Int) : Str := ⟨(ns.map sg).toArray⟩
def SIG : Str := Str.ofString "0123456789abcdefghijklmnopqrstuvwxyz"
theorem sig_cps : SIG.cps.toList = (List.range 36).map fun k : Nat => sg (k : Int) := by decide +kernel
theorem sig_get {x : Int} (h0 : 0 ≤ x) (h : x < 36) : SIG.cps.toList[x.toNat]? = some (sg x) := by
  rw [sig_cps, List.getElem?_map, List.getElem?_range (by omega)]
  show some (sg ((x.toNat : Nat) : Int)) = some _
  rw [Int.toNat_of_nonneg h0]
theorem sig_at {x : Int} (h0 : 0 ≤ x) (h : x < 36) : atI SIG.cps.toList x = some (sg x) := by
  have := atI_nat (sig_get h0 h)
  rw [Int.toNat_of_nonneg h0] at this
  exact this
theorem fold_signs (xs : List Int) : ∀ A : Array Nat, List.foldl (fun (acc : Array Nat) (p : Str) => acc ++ (Str.ofString "").cps ++ p.cps) A (xs.map fun x => (⟨#[sg x]⟩ : Str)) = A ++ (xs.map sg).toArray := by
  induction xs with
  | nil => intro A; simp
  | cons x xs ih =>
    intro A
    rw [List.map_cons, List.foldl_cons, ih]
    have e : (Str.ofString "").cps = #[] := by decide +kernel
    rw [e, List.map_cons]
    apply Array.ext'
    simp
theorem join_signs (ns : List Int) : Txt.join (Str.ofString "") (ns.map fun x => (⟨#[sg x]⟩ : Str)) = sgs ns := by
  unfold Txt.join Builtin.Str.glued sgs
  cases ns with
  | nil => rfl
  | cons x xs =>
    congr 1
    rw [List.map_cons, List.headD_cons, List.drop_one, List.tail_cons]
    refine (fold_signs xs _).trans ?_
    apply Array.ext'
    simp
theorem sum_signs (ns : List Int) : ((ns.map fun x => (⟨#[sg x]⟩ : Str)).map fun x => x.length).sum = ns.length := by
  induction ns with
  | nil => rfl
  | cons x xs ih =>
    rw [List.map_cons, List.map_cons, List.sum_cons, ih, List.length_cons]
    show 1 + _ = _
    omega
/-! ### the figures of a whole number -/
def dgN (b n : Nat) : List Int := if h : b < 2 ∨ n < b then [(n : Int)] else dgN b (n / b) ++ [((n % b : Nat) : Int)]
termination_by n
decreasing_by exact Nat.div_lt_self (by omega) (by omega)
theorem dgN_small {b n : Nat} (h : n < b) : dgN b n = [(n : Int)] := by
  rw [dgN, dif_pos (.inr h)]
theorem dgN_big {b n : Nat} (hb : 2 ≤ b) (h : b ≤ n) : dgN b n = dgN b (n / b) ++ [((n % b : Nat) : Int)] := by
  rw [dgN, dif_neg (by omega)]
theorem dgN_ok {b : Nat} (hb : 2 ≤ b) : ∀ n : Nat, ∀ x, x ∈ dgN b n → 0 ≤ x ∧ x < (b : Int) := fun n => by
  induction n using Nat.strongRecOn with
  | _ n ih =>
    intro x hx
    by_cases h : n < b
    · rw [dgN_small h] at hx
      rw [List.mem_singleton.mp hx]
      omega
    · rw [dgN_big hb (by omega)] at hx
      rcases List.mem_append.mp hx with q | q
      · exact ih (n / b) (Nat.div_lt_self (by omega) (by omega)) x q
      · rw [List.mem_singleton.mp q]
        have := Nat.mod_lt n (show 0 < b by omega)
        omega
theorem dgN_num {b : Nat} (hb : 2 ≤ b) : ∀ n : Nat, (dgN b n).foldl (fun t f => t * (b : Int) + f) 0 = (n : Int) := fun n => by
  induction n using Nat.strongRecOn with
  | _ n ih =>
    by_cases h : n < b
    · rw [dgN_small h]
      show 0 * (b : Int) + (n : Int) = n
      rw [Int.zero_mul, Int.zero_add]
    · rw [dgN_big hb (by omega), List.foldl_append, ih (n / b) (Nat.div_lt_self (by omega) (by omega))]
      show ((n / b : Nat) : Int) * b + ((n % b : Nat) : Int) = n
      have := Nat.div_add_mod n b
      rw [Nat.mul_comm] at this
      exact_mod_cast this
theorem dgN_len {b : Nat} (hb : 2 ≤ b) : ∀ n k : Nat, n < 2 ^ k → (dgN b n).length ≤ k + 1 := fun n => by
  induction n using Nat.strongRecOn with
  | _ n ih =>
    intro k hk
    by_cases h : n < b
    · rw [dgN_small h]; simp
    · rw [dgN_big hb (by omega), List.length_append]
      obtain ⟨j, rfl⟩ : ∃ j, k = j + 1 := ⟨k - 1, by
        rcases Nat.eq_zero_or_pos k with z | z
        · rw [z] at hk; simp at hk; omega
        · omega⟩
      have h1 : n / b < 2 ^ j := by
        rw [Nat.div_lt_iff_lt_mul (by omega)]
        rw [Nat.pow_succ] at hk
        exact Nat.lt_of_lt_of_le hk (Nat.mul_le_mul_left _ hb)
      have := ih (n / b) (Nat.div_lt_self (by omega) (by omega)) j h1
      show _ + 1 ≤ _
      omega
/-- no nought ahead but in nought itself -/
theorem dgN_head {b : Nat} (hb : 2 ≤ b) : ∀ n : Nat, ∃ x xs, dgN b n = x :: xs ∧ (x = 0 → xs = []) := fun n => by
  induction n using Nat.strongRecOn with
  | _ n ih =>
    by_cases h : n < b
    · exact ⟨n, [], dgN_small h, fun _ => rfl⟩
    · obtain ⟨x, xs, e, hx⟩ := ih (n / b) (Nat.div_lt_self (by omega) (by omega))
      refine ⟨x, xs ++ [((n % b : Nat) : Int)], by rw [dgN_big hb (by omega), e]; rfl, fun z => ?_⟩
      exfalso
      have hxs := hx z
      subst z hxs
      have hn := dgN_num hb (n / b)
      rw [e] at hn
      have h1 : 0 < n / b := Nat.div_pos (by omega) (by omega)
      simp at hn
      omega
theorem sgs_app (xs ys : List Int) : sgs xs ++ sgs ys = sgs (xs ++ ys) := by
  show (⟨(xs.map sg).toArray ++ (ys.map sg).toArray⟩ : Str) = ⟨((xs ++ ys).map sg).toArray⟩
  congr 1
  apply Array.ext'
  simp
theorem sgs_one (x : Int) : (⟨#[sg x]⟩ : Str) = sgs [x] := rfl
theorem sgs_len (xs : List Int) : (sgs xs).length = xs.length := by
  show ((xs.map sg).toArray).size = _
  simp
/-- a text by its code points -/
def tx (l : List Nat) : Str := ⟨l.toArray⟩
theorem tx_app (l l' : List Nat) : tx l ++ tx l' = tx (l ++ l') := by
  show (⟨l.toArray ++ l'.toArray⟩ : Str) = ⟨(l ++ l').toArray⟩
  congr 1
  apply Array.ext'
  simp
theorem sgs_tx (ns : List Int) : sgs ns = tx (ns.map sg) := rfl
theorem tx_len (l : List Nat) : (tx l).length = l.length := by
  show (l.toArray).size = _
  simp
theorem tx_dot : Str.ofString "." = tx [46] := by decide +kernel
theorem tx_open : Str.ofString "(" = tx [40] := by decide +kernel
theorem tx_close : Str.ofString ")" = tx [41] := by decide +kernel
/-! ### texts of writings -/
theorem tx_S (l : List Nat) : tx l = SX.S l := rfl
/-- the signs of a writing -/
def txN (b : Nat) (x : Wr) : List Nat := (dgN b x.w.toNat).map sg ++ (if x.a = [] ∧ x.r = [] then [] else 46 :: x.a.map sg) ++ (if x.r = [] then [] else 40 :: x.r.map sg ++ [41])
def txS (b : Nat) (x : Wr) : Str := tx (txN b x)
theorem sg_lo {x : Int} (h : 0 ≤ x) : 48 ≤ sg x := by
  unfold sg
  split <;> omega
theorem sg_inj {x y : Int} (h1 : 0 ≤ x) (h2 : 0 ≤ y) (h : sg x = sg y) : x = y := by
  unfold sg at h
  split at h <;> split at h <;> omega
theorem sg_not {ns : List Int} {b : Int} {c : Nat} (h : Figs b ns) (hc : c < 48) : c ∉ ns.map sg := fun hm => by
  obtain ⟨x, hx, e⟩ := List.mem_map.mp hm
  have := sg_lo (h x hx).1
  omega
theorem sig_take (b : Nat) (hb : b ≤ 36) : SIG.cps.toList.take b = (List.range b).map fun k : Nat => sg (k : Int) := by
  rw [sig_cps, ← List.map_take, List.take_range, Nat.min_eq_left hb]
theorem mem_sig {b c : Nat} (hb : b ≤ 36) : c ∈ SIG.cps.toList.take b ↔ ∃ x : Int, 0 ≤ x ∧ x < (b : Int) ∧ c = sg x := by
  rw [sig_take b hb]
  constructor
  · intro h
    obtain ⟨k, hk, e⟩ := List.mem_map.mp h
    have := List.mem_range.mp hk
    exact ⟨(k : Int), by omega, by omega, e.symm⟩
  · rintro ⟨x, h0, h1, rfl⟩
    refine List.mem_map.mpr ⟨x.toNat, List.mem_range.mpr (by omega), ?_⟩
    show sg ((x.toNat : Nat) : Int) = sg x
    rw [Int.toNat_of_nonneg h0]
theorem sig_slice {b : Nat} : Txt.slice SIG none (some (b : Int)) = tx (SIG.cps.toList.take b) := by
  have e : SIG = SX.S SIG.cps.toList := (SX.S_tl SIG).symm
  have h := SX.slice_to (a := SIG.cps.toList) (i := (b : Int)) (by omega)
  rw [← e, Int.toNat_natCast] at h
  exact h
theorem sig_occ_all : (List.range 36).all (fun k : Nat => (Builtin.Str.occurrences SIG ⟨#[sg (k : Int)]⟩ 0 SIG.length 1).head? == some k) = true := by decide +kernel
theorem sig_occ {x : Int} (h0 : 0 ≤ x) (h : x < 36) : ∃ rest, Builtin.Str.occurrences SIG ⟨#[sg x]⟩ 0 SIG.length 1 = x.toNat :: rest := by
  have e := List.all_eq_true.mp sig_occ_all x.toNat (List.mem_range.mpr (by omega))
  have e := eq_of_beq e
  rw [Int.toNat_of_nonneg h0] at e
  exact List.head?_eq_some_iff.mp e
/-- a loop over the signs of a text -/
theorem for_tx {l : List Nat} {g : TG} {tb : TS} {D : Ends} {σ : L2.St} {H : Hp} (Pv : Nat → L2.St → Hp → Prop) (h0 : Pv 0 σ H)
    (hs : ∀ i c σ H, l[i]? = some c → Pv i σ H → g (.str ⟨#[c]⟩) σ H fun σ2 H2 => tb { D with nx := Pv (i + 1), ct := Pv (i + 1), bk := D.nx } σ2 H2) (hd : ∀ σ H, Pv l.length σ H → D.nx σ H) :
    ∃ W : Nat → Nat → L2.St → Hp → Prop, (∃ m, W 0 m σ H) ∧ ∀ i m σ H, W i m σ H →
      ((Its (tx l)).stop i H ∧ D.nx σ H) ∨ ((Its (tx l)).go i H ∧ ∃ N : L2.St → Hp → Prop, (∀ σ' H', N σ' H' → ∃ m', m' < m ∧ W (i + 1) m' σ' H') ∧ ∀ v H', (Its (tx l)).yld i H v H' → g v σ H' fun σ2 H2 => tb { D with nx := N, ct := N, bk := D.nx } σ2 H2) := by
  have sz : (tx l).cps.size = l.length := List.size_toArray
  refine ⟨fun i m σ H => m = l.length - i ∧ i ≤ l.length ∧ Pv i σ H, ⟨_, rfl, Nat.zero_le _, h0⟩, ?_⟩
  rintro i m σ H ⟨rfl, hi, p⟩
  by_cases hlt : i < l.length
  · refine .inr ⟨by show i < (tx l).cps.size; omega, Pv (i + 1), fun σ' H' p' => ⟨l.length - (i + 1), by omega, rfl, hlt, p'⟩, fun v H' y => ?_⟩
    obtain ⟨rfl, c, hc, rfl⟩ := y
    refine hs i c σ _ ?_ p
    have : (l.toArray)[i]? = some c := hc
    rw [List.getElem?_toArray] at this
    exact this
  · have e : i = l.length := by omega
    subst e
    exact .inl ⟨by show (tx l).cps.size ≤ _; omega, hd σ H p⟩
/-! ### a text cut at a sign -/
theorem cut_at {c : Nat} {p : List Nat} (q : List Nat) (hc : c < 256) (h : c ∉ p) : Txt.split (tx (p ++ c :: q)) (tx [c]) = tx p :: Txt.split (tx q) (tx [c]) := by
  have hk : [c].all (· < 256) = true := by simp [hc]
  show Txt.split (SX.S (p ++ c :: q)) (SX.S [c]) = SX.S p :: Txt.split (SX.S q) (SX.S [c])
  rw [SX.split_S (by simp) hk, SX.split_S (by simp) hk]
  have e := TL.spl_part1 (s := c) (S := []) (p := p) (rest := q) (acc := []) h
  rw [List.nil_append] at e
  rw [show p ++ c :: q = p ++ ([c] ++ q) from rfl, e]
  rfl
theorem cut_none {c : Nat} {p : List Nat} (hc : c < 256) (h : c ∉ p) : Txt.split (tx p) (tx [c]) = [tx p] := by
  have hk : [c].all (· < 256) = true := by simp [hc]
  show Txt.split (SX.S p) (SX.S [c]) = _
  rw [SX.split_S (by simp) hk, TL.spl_last1 h]
  rfl
/-- what stands behind the point -/
def txB (x : Wr) : List Nat := x.a.map sg ++ (if x.r = [] then [] else 40 :: (x.r.map sg ++ [41]))
theorem txN_none {b : Nat} {x : Wr} (h : x.a = [] ∧ x.r = []) : txN b x = (dgN b x.w.toNat).map sg := by
  unfold txN
  rw [if_pos h, if_pos h.2, List.append_nil, List.append_nil]
theorem txN_some {b : Nat} {x : Wr} (h : ¬ (x.a = [] ∧ x.r = [])) : txN b x = (dgN b x.w.toNat).map sg ++ 46 :: txB x := by
  unfold txN txB
  rw [if_neg h]
  simp only [List.append_assoc, List.cons_append]
theorem not_dg {b c : Nat} (hb : 2 ≤ b) (n : Nat) (hc : c < 48) : c ∉ (dgN b n).map sg := sg_not (b := (b : Int)) (dgN_ok hb n) hc
theorem split_none {b : Nat} {x : Wr} (hb : 2 ≤ b) (h : x.a = [] ∧ x.r = []) : Txt.split (txS b x) (tx [46]) = [tx ((dgN b x.w.toNat).map sg)] := by
  unfold txS
  rw [txN_none h]
  exact cut_none (by decide) (not_dg hb _ (by decide))
theorem split_some {b : Nat} {x : Wr} (hb : 2 ≤ b) (fa : Figs b x.a) (fr : Figs b x.r) (h : ¬ (x.a = [] ∧ x.r = [])) : Txt.split (txS b x) (tx [46]) = [tx ((dgN b x.w.toNat).map sg), tx (txB x)] := by
  unfold txS
  rw [txN_some h, cut_at _ (by decide) (not_dg hb _ (by decide)), cut_none (by decide)]
  unfold txB
  intro hm
  rcases List.mem_append.mp hm with q | q
  · exact sg_not fa (by decide) q
  · split at q
    · cases q
    · rcases List.mem_cons.mp q with q | q
      · exact absurd q (by decide)
      · rcases List.mem_append.mp q with q | q
        · exact sg_not fr (by decide) q
        · exact absurd (List.mem_singleton.mp q) (by decide)
theorem behind_none {b : Nat} {x : Wr} (fa : Figs b x.a) (h : x.r = []) : Txt.split (tx (txB x)) (tx [40]) = [tx (x.a.map sg)] := by
  unfold txB
  rw [if_pos h, List.append_nil]
  exact cut_none (by decide) (sg_not fa (by decide))
theorem behind_some {b : Nat} {x : Wr} (fa : Figs b x.a) (fr : Figs b x.r) (h : x.r ≠ []) : Txt.split (tx (txB x)) (tx [40]) = [tx (x.a.map sg), tx (x.r.map sg ++ [41])] := by
  unfold txB
  rw [if_neg h, cut_at _ (by decide) (sg_not fa (by decide)), cut_none (by decide)]
  intro hm
  rcases List.mem_append.mp hm with q | q
  · exact sg_not fr (by decide) q
  · exact absurd (List.mem_singleton.mp q) (by decide)
theorem txS_len {b : Nat} {x : Wr} (hb : 2 ≤ b) (ho : WrOk b x) : (txS b x).length ≤ 9000 := by
  have h40 : (2 : Nat) ^ 40 = 1099511627776 := by decide
  have hw := ho.w1
  have := dgN_len hb x.w.toNat 40 (by omega)
  have := ho.la
  have := ho.lr
  unfold txS txN
  rw [tx_len, List.length_append, List.length_append, List.length_map]
  have e1 : (if x.a = [] ∧ x.r = [] then ([] : List Nat) else 46 :: x.a.map sg).length ≤ 4001 := by
    split
    · exact Nat.zero_le _
    · rw [List.length_cons, List.length_map]; omega
  have e2 : (if x.r = [] then ([] : List Nat) else 40 :: x.r.map sg ++ [41]).length ≤ 4002 := by
    split
    · exact Nat.zero_le _
    · rw [List.length_append, List.length_cons, List.length_map]; show _ + 1 ≤ _; omega
  omega
theorem last_ring (r : List Int) : Txt.slice (tx (r.map sg ++ [41])) (some (-1)) none = tx [41] := SX.last_snoc _ _
theorem but_ring (r : List Int) : Txt.slice (tx (r.map sg ++ [41])) none (some (-1)) = tx (r.map sg) := SX.butlast_snoc _ _
end Rf

open PySem PySem.Spec PyProof.Rows L2
namespace Rf
/-! ### rules inside a comprehension, their K named -/
theorem call_len_K {X : Cx} {K : PySem.W.Frag} (h : X.K = K) : CallR X (.builtin "len") (fun xs H Q => ∃ (p : Addr) (ys : List V), xs = [V.ref p] ∧ (SqL K H p ys ∨ SqT K H p ys) ∧ Q (V.int (ys.length : Int)) H) := by
  subst h
  exact call_len_seq
theorem ix_list_K {X : Cx} {K : PySem.W.Frag} (h : X.K = K) : IxR X (rIxL K) := by
  subst h
  exact ix_list
end Rf

set_option maxRecDepth 100000
set_option maxHeartbeats 4000000
open PySem PySem.Spec PyProof.Rows L2
namespace Rf
/-! ### a def that is called in an except suite, the exception in hand at p -/
structure FnE (P : Program) (w : World) (K : PySem.W.Frag) (mg : Str → Option Value) (base : Heap) (p : Addr × Obj) (k : Nat) (f : Addr) (fd : FuncData) (ps : List Str) (sp : Sp) : Prop where
  arity : ∀ vs H Q E, sp vs H Q E → vs.length = ps.length
  goes : ∀ (A : Around) (outer : List Env) (s : Shared) (H : Hp) (args : Args) (us : List Value) (vs : List V) (Q : VK) (E : XK),
    L2H.RoomH k A → L2H.PinOk outer H s p → Env0 P w K mg base A outer s H → BindsTo s fd args (ps.zip us) → Vals vs us → sp vs H Q E →
      codeAny (model P w) A (.call (.ref f) args) (CR CX0 outer P w H s Q E) s
section
variable {P : Program} {w : World} {K : PySem.W.Frag} {mg : Str → Option Value} {base : Heap} {p : Addr × Obj}
theorem Fun.okE {x qual : Str} {st : Stmt} {f : Addr} {fd : FuncData} {N ps : List Str} {k : Nat} {sp : Sp} (F : Fun K x qual st f fd) (S : FnScope N ps (defScope st))
    (len : ∀ vs H Q E, sp vs H Q E → vs.length = ps.length)
    (body : ∀ (cdv : Value) (A : Around) (outer : List Env) (s : Shared) (H : Hp) (vs : List V) (Q : VK) (E : XK),
      L2H.RoomH k (A.deeper (envOfC qual (defScope st) s.heap.objs.size f cdv)) → sp vs H Q E →
      ∃ t, PSs (L2H.cxH CX0 P w K mg base N qual (defScope st) f cdv A outer s H E p) (defBody st) t ∧ t { nx := fun _ H' => Q .non H', rt := Q } (L2.start N vs) H) :
    FnE P w K mg base p (k + 1) f fd ps sp := by
  obtain ⟨oc, od, kV, doc, pm, an, cdv, ct, osl, rfl, lk, code⟩ := F.ex
  refine ⟨len, ?_⟩
  intro A outer s H args us vs Q E room pin env bnd r wish
  have KIn : K.In s.heap := env.mod.kin.keeps fun b o z => (env.bs b o z).1
  have NoL : s.heap.NoLimit := env.mod.nolimit.keeps fun b o z => (env.bs b o z).1
  have kinds : ∀ y ∈ ps.zip us, (defScope st).names.lookup y.1 = some .local ∨ ((defScope st).names.lookup y.1 = some .cell ∧ ((cellsFrom (s.heap.objs.size + 1) (defScope st).names []).lookup y.1).isSome = true) := by
    rintro ⟨n, v⟩ hy
    rcases S.par n (List.of_mem_zip hy).1 with q | q
    · exact Or.inl q
    · exact Or.inr ⟨q, PySem.W.cellsFrom_some _ _ _ (Or.inl q)⟩
  refine codeAny_call_function room.depth (KIn _ _ lk) rfl S.co S.gen rfl (PySem.W.codeRec_of KIn code) (bnd _ _ _ _ ?_)
  refine wpAny_newFunctionEnv_cells S.kind kinds ?_
  rintro env' rfl s1 call
  refine ⟨NoL.keeps call.toInCall.keep, codeAny_func ?_⟩
  obtain ⟨t, der, read⟩ := body cdv A outer s H vs Q E (room.deeper _) wish
  have I0 := L2H.inv_startH (CX := CX0) (P := P) (w := w) (E := E) (cd := cdv) S pin env (len _ _ _ _ wish) r call
  refine wpAny_mono (der.run [] s1 (L2.start N vs) H _ I0 read) ?_ (fun e s' z => z)
  intro fl s' z
  cases fl with
  | brk => obtain ⟨_, _, _, z⟩ := z; exact z.elim
  | cont => obtain ⟨_, _, _, z⟩ := z; exact z.elim
  | next =>
    obtain ⟨σ', H', J, z⟩ := z
    exact ⟨V.non, H', J.os, J.bare, J.base, J.hok, rfl, z⟩
  | ret u =>
    obtain ⟨v, σ', H', J, rv, z⟩ := z
    exact ⟨v, H', J.os, J.bare, J.base, J.hok, rv, z⟩
end
section
variable {X : Cx} {k : Nat} {f : Addr} {fd : FuncData} {ps : List Str} {sp : Sp} {x : Str} {q pos : Pos} {e : Expr} {es : List Expr} {t : TA}
/-- such a call, in the suite of the exception at p -/
theorem pe_callE {p : Addr × Obj} (F : FnE X.prog X.w X.K X.mg X.base p k f fd ps sp) (room : L2H.RoomH k X.A) (mem : p ∈ X.pn) (hg : Gl X x) (hm : X.mg x = some (.ref f)) (kp : PySem.W.keepIn X.K (.ref f) = true) (bnd : Binds X.K fd ps [])
    (ha : PA X (e :: es) t) (dbg : (x == ("__debug__" : Str)) = false := by decide)
    (st1 : starEach (e :: es) X.env = (false, eval e X.env) :: starEach es X.env := by rfl) (st2 : (backTo pos (starEach es X.env)).any (·.1) = false := by rfl) :
    PE X (.Call (.Name x q) (e :: es) [] pos) (tCallS sp (fun _ => E0) t) := by
  refine ⟨?_⟩
  intro pins s σ H Q I h
  refine wpAny_Call_Name_kw (ld_glob I hg hm ?_ dbg)
  refine PySem.W.callWith_K (h₀ := X.base) I.ok.mod.kin kp (thn (ha.run pos pins s σ H _ I h) ?_) st1 st2
  rintro us s1 ⟨vs, H1, I1, r, z⟩
  refine ⟨I1.kIn, ?_⟩
  have n1 : us.length = ps.length := (r.length).symm.trans (F.arity _ _ _ _ z)
  have b := bnd s1 us I1.kIn (by rw [List.append_nil]; exact n1)
  rw [List.append_nil] at b
  have at1 := I1.pin p (List.mem_append_left _ mem)
  have pin : L2H.PinOk X.stack H1 s1 p := by
    refine ⟨at1.1, at1.2.1, fun m => ?_, at1.2.2.2.2⟩
    rcases List.mem_cons.mp (I1.stkSub p.1 m) with y | y
    · exact at1.2.2.1 y
    · exact at1.2.2.2.1 y
  refine wpAny_call (codeAny_mono (F.goes X.A X.stack s1 H1 ⟨us, []⟩ us vs Q E0 room pin I1.env0 b r z) ?_)
  intro res s2 out
  cases res with
  | error _ => exact False.elim out
  | ok fl =>
    cases fl with
    | ret u => exact I1.after out
    | next => exact out.elim
    | brk => exact out.elim
    | cont => exact out.elim
/-- isinstance(e, c) of the exception in hand -/
theorem call_isP {D : Addr} {p : Addr × Obj} (mem : p ∈ X.pn) (C : ExcC X.K D) (hz : Zc (.ref D) none p.2) (hf : ∃ vs, p.2.data = .fields vs) : CallR X (.builtin "isinstance") (rIsE X.K D p.1) := by
  intro pins s σ H xs us Q I r h
  obtain ⟨c, cv, b, rfl, one, kit, z⟩ := h
  obtain ⟨u1, u2, rfl, r1, r2⟩ := vals2 r
  cases r1
  have e2 := one _ r2
  subst e2
  have at1 := (I.pin p (List.mem_append_left _ mem)).1
  obtain ⟨vs, hv⟩ := hf
  obtain ⟨pa, oc, od, dat, osl⟩ := p
  obtain ⟨h1, h2⟩ := hz
  dsimp only at h1 h2 hv at1
  subst h1 h2 hv
  have J : PySem.W.InstAt s.heap pa { cls := .ref D, dict := none, data := .fields vs, slots := osl } D none := ⟨at1, rfl, rfl, trivial⟩
  refine PySem.W.kia_one (PySem.W.handS_kitx_exc C.hg C.hk C.hs C.hd C.ha C.hn C.ht C.hm) I.kIn J kit (fun y => nomatch y) ?_
  intro tk
  exact ⟨.bl b, H, I.kept (t' := tk) fun _ _ y => y, rfl, z⟩
end
/-! ### truth values counted -/
theorem vals_bls : ∀ {bs : List Bool} {us : List Value}, Vals (bs.map V.bl) us → us = bs.map Value.bool
  | [], _, .nil => rfl
  | b :: bs, _, .cons r rs => by
    have e : _ = Value.bool b := r
    rw [e, vals_bls rs]
    rfl
def eqb (k : Bool) (v : Value) : Bool := match v with
  | .bool b => b == k
  | _ => false
theorem eqb_count (k : Bool) : ∀ bs : List Bool, (bs.map Value.bool).countP (eqb k) = bs.count k
  | [] => rfl
  | b :: bs => by
    rw [List.map_cons, List.countP_cons, List.count_cons, eqb_count k bs]
    rfl
def rCntB (K : PySem.W.Frag) : V → List V → Hp → VK → Prop := fun x xs H Q => ∃ (a : Addr) (bs : List Bool) (k : Bool), x = .ref a ∧ xs = [.bl k] ∧ SqL K H a (bs.map V.bl) ∧ Q (.int (bs.count k : Nat)) H
theorem mt_bcount {X : Cx} : MtR X "list.count" (rCntB X.K) := by
  intro pins s σ H x xs v us Q I rx rxs h
  obtain ⟨a, bs, k, rfl, rfl, sq, z⟩ := h
  cases rx
  obtain ⟨u, rfl, ru⟩ := rxs.one
  cases ru
  obtain ⟨its, rv, ⟨⟨cls, dd, dat, sl⟩, n, at1, hc, hdn, hd⟩, hlen⟩ := I.list sq
  dsimp only at hc hd
  subst hc hd
  have es := vals_bls rv
  subst es
  refine call_meets PySem.F.slot_list_count ⟨_, at1, rfl⟩ PySem.F.entry_list_count (PySem.F.args_list_count_2 _ _)
    (SeqAt.list_countAt a _ n dd sl (.bool k) (eqb k)) ⟨at1, fun y hy => ?_, ?_⟩
  · obtain ⟨b, _, rfl⟩ := List.mem_map.mp (show y ∈ bs.map Value.bool by simpa using hy)
    exact SeqAt.EqAt.bool_bool b k
  · refine ⟨.int (bs.count k : Nat), H, I.tok _, ⟨s.toks, ?_⟩, z⟩
    show Value.int (((bs.map Value.bool).toArray.toList.countP (eqb k) : Nat) : Int) s.toks = _
    rw [← eqb_count k bs]
/-! ### defs that raise, by their names -/
structure CalX (P : Program) (w : World) (K : PySem.W.Frag) (mg : Str → Option Value) (base : Heap) (k : Nat) (x : Str) (sp : Sp) : Prop where
  ex : ∃ (f : Addr) (fd : FuncData) (ps : List Str), FnOk P w K mg base (L2.CX P w) k f fd ps sp ∧ mg x = some (.ref f) ∧ PySem.W.keepIn K (.ref f) = true ∧ Binds K fd ps []
structure CalE (P : Program) (w : World) (K : PySem.W.Frag) (mg : Str → Option Value) (base : Heap) (k : Nat) (x : Str) (sp : Addr → Value → Option Addr → Sp) : Prop where
  ex : ∃ (f : Addr) (fd : FuncData) (ps : List Str), (∀ (p : Addr × Obj) (cls : Value) (d : Option Addr), Zc cls d p.2 → (∃ vs, p.2.data = .fields vs) → FnE P w K mg base p k f fd ps (sp p.1 cls d)) ∧
    mg x = some (.ref f) ∧ PySem.W.keepIn K (.ref f) = true ∧ Binds K fd ps []
section
variable {X : Cx} {j k : Nat} {x : Str} {q pos : Pos} {e : Expr} {es : List Expr} {t : TA}
theorem pe_x {sp : Sp} {W : WX} (c : CalX X.prog X.w X.K X.mg X.base k x sp) (hr : Room j X.A) (hk : k ≤ j) (hg : Gl X x) (tk : Takes X W) (ha : PA X (e :: es) t)
    (dbg : (x == ("__debug__" : Str)) = false := by decide)
    (st1 : starEach (e :: es) X.env = (false, eval e X.env) :: starEach es X.env := by rfl) (st2 : (backTo pos (starEach es X.env)).any (·.1) = false := by rfl) :
    PE X (.Call (.Name x q) (e :: es) [] pos) (tCallS sp (WE W) t) := by
  obtain ⟨f, fd, ps, F, hm, kp, b⟩ := c.ex
  exact pe_callS F (hr.mono hk) hg hm kp b (fun σ => passAt tk σ) ha dbg st1 st2
theorem pe_e {sp : Addr → Value → Option Addr → Sp} {a : Addr} {oe : Obj} {cls : Value} {d : Option Addr} {pn : List (Addr × Obj)} (c : CalE X.prog X.w X.K X.mg X.base k x sp) (hr : Room j X.A) (hk : k ≤ j) (hg : Gl (X.suite a ((a, oe) :: pn)) x)
    (hz : Zc cls d oe) (hf : ∃ vs, oe.data = .fields vs) (ha : PA (X.suite a ((a, oe) :: pn)) (e :: es) t)
    (dbg : (x == ("__debug__" : Str)) = false := by decide)
    (st1 : starEach (e :: es) X.env = (false, eval e X.env) :: starEach es X.env := by rfl) (st2 : (backTo pos (starEach es X.env)).any (·.1) = false := by rfl) :
    PE (X.suite a ((a, oe) :: pn)) (.Call (.Name x q) (e :: es) [] pos) (tCallS (sp a cls d) (fun _ => E0) t) := by
  obtain ⟨f, fd, ps, F, hm, kp, b⟩ := c.ex
  have r := L2H.roomH_of (hr.mono hk)
  exact pe_callE (p := (a, oe)) (F (a, oe) cls d hz hf) ⟨r.dp, r.un⟩ List.mem_cons_self hg hm kp b ha dbg st1 st2
end
/-- what raising an own class asks -/
structure ExK (K : PySem.W.Frag) (C : Addr) : Prop where
  x : PySem.W.excIn K C [.type "ValueError", .type "Exception", .type "BaseException", .type "object"] "ValueError.__new__" = true
  k : PySem.W.keepIn K (.ref C) = true
  b : PySem.W.subIn K (.ref C) (.type "BaseException") = some true
  t : PySem.W.typeIn K (.ref C) = some (.type "type")
/-! ### isinstance of classes, by what the written part tells -/
theorem kit_yes {K : PySem.W.Frag} {D : Addr} : PySem.W.kitOne K (.ref D) (.ref D) = some true := by
  unfold PySem.W.kitOne
  exact if_pos (beq_self_eq_true _)
theorem kit_no {K : PySem.W.Frag} {C D : Addr} (j : PySem.W.isClsIn K C = true) (t : PySem.W.typeIn K (.ref C) = some (.type "type")) (s : PySem.W.subIn K (.ref D) (.ref D) = some true) (n : PySem.W.subIn K (.ref D) (.ref C) = some false) : PySem.W.kitOne K (.ref D) (.ref C) = some false := by
  have ne : D ≠ C := fun e => by
    rw [← e, s] at n
    cases n
  have j2 : (PySem.W.clsIn K C).isSome = true := j
  unfold PySem.W.kitOne
  rw [if_neg (fun e => ne (Value.ref.inj (eq_of_beq e)))]
  show (if ((PySem.W.clsIn K C).isSome && PySem.W.typeIn K (.ref C) == some (.type "type")) = true then PySem.W.subIn K (.ref D) (.ref C) else none) = some false
  rw [if_pos (by rw [j2, t]; rfl), n]
theorem kit_ve {K : PySem.W.Frag} {D : Addr} (s : PySem.W.subIn K (.ref D) (.type "ValueError") = some true) : PySem.W.kitOne K (.ref D) (.type "ValueError") = some true := by
  unfold PySem.W.kitOne
  rw [if_neg (fun e => by cases eq_of_beq e)]
  show (if PySem.W.kitMeta "ValueError" = true then PySem.W.subIn K (.ref D) (.type "ValueError") else none) = some true
  rw [if_pos (by decide +kernel), s]
end Rf

open PySem PySem.Spec PyProof.Rows L2
namespace Rf
/-! ### texts that write a writing -/
theorem cons_inj {c : Nat} : ∀ {p q p' q' : List Nat}, p ++ c :: q = p' ++ c :: q' → c ∉ p → c ∉ p' → p = p' ∧ q = q'
  | [], q, [], q', h, _, _ => ⟨rfl, (List.cons.inj h).2⟩
  | [], q, d :: p', q', h, _, h2 => absurd (List.mem_cons.mpr (.inl (List.cons.inj h).1)) h2
  | d :: p, q, [], q', h, h1, _ => absurd (List.mem_cons.mpr (.inl (List.cons.inj h).1.symm)) h1
  | d :: p, q, d' :: p', q', h, h1, h2 => by
    obtain ⟨e1, e2⟩ := List.cons.inj h
    obtain ⟨e3, e4⟩ := cons_inj e2 (fun m => h1 (List.mem_cons_of_mem _ m)) (fun m => h2 (List.mem_cons_of_mem _ m))
    exact ⟨by rw [e1, e3], e4⟩
theorem at_sign (c : Nat) : ∀ l : List Nat, c ∉ l ∨ ∃ p q, l = p ++ c :: q ∧ c ∉ p
  | [] => .inl (by simp)
  | d :: l => by
    by_cases h : d = c
    · exact .inr ⟨[], l, by rw [h]; rfl, by simp⟩
    · rcases at_sign c l with n | ⟨p, q, e, n⟩
      · exact .inl fun m => (List.mem_cons.mp m).elim (fun e => h e.symm) n
      · exact .inr ⟨d :: p, q, by rw [e]; rfl, fun m => (List.mem_cons.mp m).elim (fun e => h e.symm) n⟩
/-- figures of a whole number that is not too great -/
structure WOk (b : Int) (W : List Int) : Prop where
  f : Figs b W
  ne : W ≠ []
  hd : W.head? = some 0 → W.length ≤ 1
  nb : numI b W ≤ 1000000000000
theorem WOk.len {b : Nat} {W : List Int} (hb : 2 ≤ b) (h : WOk (b : Int) W) : W.length ≤ 41 := by
  obtain ⟨f, ne, hd, nb⟩ := h
  cases W with
  | nil => exact absurd rfl ne
  | cons y ys =>
    by_cases hy : y = 0
    · have := hd (by rw [hy]; rfl)
      omega
    · have y1 := f y List.mem_cons_self
      have n1 := num_ok (b := (b : Int)) (by omega) ys (fun x hx => f x (List.mem_cons_of_mem _ hx))
      rw [num_cons] at nb
      have p1 : (1 : Int) * (b : Int) ^ ys.length ≤ y * (b : Int) ^ ys.length := Int.mul_le_mul_of_nonneg_right (by omega) (Int.le_of_lt (Int.pow_pos (by omega)))
      have p2 : (2 : Nat) ^ ys.length ≤ b ^ ys.length := Nat.pow_le_pow_left hb _
      have e3 : ((b ^ ys.length : Nat) : Int) = (b : Int) ^ ys.length := by rw [Int.natCast_pow]
      have e40 : (2 : Nat) ^ 40 = 1099511627776 := by decide
      have p4 : (2 : Nat) ^ ys.length < 2 ^ 40 := by omega
      have p5 := (Nat.pow_lt_pow_iff_right (by decide)).mp p4
      rw [List.length_cons]
      omega
/-- the text of these signs writes x -/
def Parse (b : Int) (l : List Nat) (x : Wr) : Prop := ∃ W, WOk b W ∧ x.w = numI b W ∧ Figs b x.a ∧ Figs b x.r ∧ l = W.map sg ++ (if x.a = [] ∧ x.r = [] then [] else 46 :: txB x)
theorem map_sg_inj {b : Int} : ∀ {xs ys : List Int}, Figs b xs → Figs b ys → xs.map sg = ys.map sg → xs = ys
  | [], [], _, _, _ => rfl
  | [], _ :: _, _, _, h => by cases h
  | _ :: _, [], _, _, h => by cases h
  | x :: xs, y :: ys, hx, hy, h => by
    obtain ⟨e1, e2⟩ := List.cons.inj h
    have e3 := sg_inj (hx x List.mem_cons_self).1 (hy y List.mem_cons_self).1 e1
    have e4 := map_sg_inj (fun z hz => hx z (List.mem_cons_of_mem _ hz)) (fun z hz => hy z (List.mem_cons_of_mem _ hz)) e2
    rw [e3, e4]
/-- no point -/
theorem parse_none {b : Int} {l : List Nat} {x : Wr} (h : 46 ∉ l) (p : Parse b l x) : ∃ W, WOk b W ∧ l = W.map sg ∧ x = ⟨numI b W, [], []⟩ := by
  obtain ⟨W, ok, ew, fa, fr, e⟩ := p
  by_cases c : x.a = [] ∧ x.r = []
  · rw [if_pos c, List.append_nil] at e
    refine ⟨W, ok, e, ?_⟩
    obtain ⟨w, a, r⟩ := x
    obtain ⟨rfl, rfl⟩ := c
    dsimp only at ew
    rw [ew]
  · rw [if_neg c] at e
    exact absurd (by rw [e]; simp) h
theorem parse_of_none {b : Int} {W : List Int} (ok : WOk b W) : Parse b (W.map sg) ⟨numI b W, [], []⟩ :=
  ⟨W, ok, rfl, figs_nil, figs_nil, by rw [if_pos ⟨rfl, rfl⟩, List.append_nil]⟩
/-- a point -/
theorem parse_some {b : Int} {p q : List Nat} {x : Wr} (h : 46 ∉ p) (pr : Parse b (p ++ 46 :: q) x) : ∃ W, WOk b W ∧ p = W.map sg ∧ x.w = numI b W ∧ Figs b x.a ∧ Figs b x.r ∧ ¬ (x.a = [] ∧ x.r = []) ∧ q = txB x := by
  obtain ⟨W, ok, ew, fa, fr, e⟩ := pr
  have nW : 46 ∉ W.map sg := sg_not ok.f (by decide)
  by_cases c : x.a = [] ∧ x.r = []
  · rw [if_pos c, List.append_nil] at e
    exact absurd (by rw [← e]; simp) nW
  · rw [if_neg c] at e
    obtain ⟨e1, e2⟩ := cons_inj e h nW
    exact ⟨W, ok, e1, ew, fa, fr, c, e2⟩
theorem parse_of_some {b : Int} {W : List Int} {x : Wr} (ok : WOk b W) (ew : x.w = numI b W) (fa : Figs b x.a) (fr : Figs b x.r) (c : ¬ (x.a = [] ∧ x.r = [])) : Parse b (W.map sg ++ 46 :: txB x) x :=
  ⟨W, ok, ew, fa, fr, by rw [if_neg c]⟩
theorem txB_no46 {b : Int} {x : Wr} (fa : Figs b x.a) (fr : Figs b x.r) : 46 ∉ txB x := by
  unfold txB
  intro hm
  rcases List.mem_append.mp hm with q | q
  · exact sg_not fa (by decide) q
  · split at q
    · cases q
    · rcases List.mem_cons.mp q with q | q
      · exact absurd q (by decide)
      · rcases List.mem_append.mp q with q | q
        · exact sg_not fr (by decide) q
        · exact absurd (List.mem_singleton.mp q) (by decide)
/-- no ring -/
theorem txB_none {b : Int} {q : List Nat} {x : Wr} (fa : Figs b x.a) (h : 40 ∉ q) (e : q = txB x) : x.r = [] ∧ q = x.a.map sg := by
  unfold txB at e
  by_cases c : x.r = []
  · rw [if_pos c, List.append_nil] at e
    exact ⟨c, e⟩
  · rw [if_neg c] at e
    exact absurd (by rw [e]; simp) h
/-- a ring -/
theorem txB_some {b : Int} {s t : List Nat} {x : Wr} (fa : Figs b x.a) (h : 40 ∉ s) (e : s ++ 40 :: t = txB x) : x.r ≠ [] ∧ s = x.a.map sg ∧ t = x.r.map sg ++ [41] := by
  unfold txB at e
  have na : 40 ∉ x.a.map sg := sg_not fa (by decide)
  by_cases c : x.r = []
  · rw [if_pos c, List.append_nil] at e
    exact absurd (by rw [← e]; simp) na
  · rw [if_neg c] at e
    obtain ⟨e1, e2⟩ := cons_inj e h na
    exact ⟨c, e1, e2⟩
/-- a text cut at a sign: no such sign, one, or more -/
theorem cut_cases {c : Nat} (hc : c < 256) (l : List Nat) {n : Nat} (hl : l.length ≤ n) : ∃ (p0 : List Nat) (ps : List Str), Txt.split (tx l) (tx [c]) = tx p0 :: ps ∧ c ∉ p0 ∧ p0.length ≤ n ∧
    ((l = p0 ∧ ps = []) ∨ (∃ q, l = p0 ++ c :: q ∧ c ∉ q ∧ ps = [tx q] ∧ q.length ≤ n) ∨ (∃ q1 q2, l = p0 ++ c :: (q1 ++ c :: q2) ∧ 2 ≤ ps.length)) := by
  rcases at_sign c l with h | ⟨p, q, e, h⟩
  · exact ⟨l, [], cut_none hc h, h, hl, .inl ⟨rfl, rfl⟩⟩
  · have hlen := congrArg List.length e
    rw [List.length_append, List.length_cons] at hlen
    rcases at_sign c q with h' | ⟨q1, q2, e', h'⟩
    · exact ⟨p, [tx q], by rw [e, cut_at _ hc h, cut_none hc h'], h, by omega, .inr (.inl ⟨q, e, h', rfl, by omega⟩)⟩
    · refine ⟨p, Txt.split (tx q) (tx [c]), by rw [e, cut_at _ hc h], h, by omega, .inr (.inr ⟨q1, q2, by rw [e, e'], ?_⟩)⟩
      have h1 : 1 ≤ (Txt.split (tx q2) (tx [c])).length := by
        rcases at_sign c q2 with n3 | ⟨q3, q4, e3, n3⟩
        · rw [cut_none hc n3]; exact Nat.le_refl _
        · rw [e3, cut_at _ hc n3, List.length_cons]; omega
      rw [e', cut_at _ hc h', List.length_cons]
      omega
theorem slice_nil : Txt.slice (tx []) (some (-1)) none = tx [] := by decide +kernel
theorem snoc_or (t : List Nat) : t = [] ∨ ∃ t' d, t = t' ++ [d] := by
  rcases List.eq_nil_or_concat t with h | ⟨t', d, h⟩
  · exact .inl h
  · exact .inr ⟨t', d, h.trans (List.concat_eq_append ..)⟩
theorem tx_inj {l m : List Nat} (h : tx l = tx m) : l = m := SX.S_inj h
theorem last_of {t' : List Nat} {d : Nat} : Txt.slice (tx (t' ++ [d])) (some (-1)) none = tx [d] := SX.last_snoc t' d
theorem init_of {t' : List Nat} {d : Nat} : Txt.slice (tx (t' ++ [d])) none (some (-1)) = tx t' := SX.butlast_snoc t' d
theorem snoc_inj {a b : List Nat} {x y : Nat} (h : a ++ [x] = b ++ [y]) : a = b ∧ x = y := by
  have := List.append_inj' h rfl
  exact ⟨this.1, (List.cons.inj this.2).1⟩
end Rf

open PySem PySem.Spec PyProof.Rows L2
namespace Rf
theorem units65 {k : Nat} {A : Around} (r : Room k A) : A.units + 65 < cLine := by have := r.un; omega
/-! ### a sign looked for in a text -/
theorem occ_at {c : Nat} {p : List Nat} (q : List Nat) (h : c ∉ p) : ∃ rest, Builtin.Str.occurrences (tx (p ++ c :: q)) (tx [c]) 0 (tx (p ++ c :: q)).length 1 = p.length :: rest := by
  have hp := SX.partition_some (a := p ++ c :: q) (b := [c]) (p := p) (q := q) (by simp) (SX.par_head q h)
  have hp : Txt.partition (tx (p ++ c :: q)) (tx [c]) = (tx p, tx [c], tx q) := hp
  unfold Txt.partition at hp
  cases e : Builtin.Str.occurrences (tx (p ++ c :: q)) (tx [c]) 0 (tx (p ++ c :: q)).length 1 with
  | nil =>
    rw [e] at hp
    have h2 : Str.empty = tx [c] := congrArg (fun z : Str × Str × Str => z.2.1) hp
    have h3 : tx [] = tx [c] := h2
    cases tx_inj h3
  | cons i rest =>
    rw [e] at hp
    have h1 : Builtin.Str.strSub (tx (p ++ c :: q)) 0 i = tx p := congrArg (fun z : Str × Str × Str => z.1) hp
    have h2 := (StrLaws.occ_spec _ _ _ _ _ i (by rw [e]; exact List.mem_cons_self)).1
    have h3 := congrArg (fun z : Str => z.cps.toList.length) h1
    have h4 : (Builtin.Str.strSub (tx (p ++ c :: q)) 0 i).cps.toList = ((p ++ c :: q).drop 0).take (i - 0) := TL.tl_strSub (tx (p ++ c :: q)) 0 i
    have h3 : (Builtin.Str.strSub (tx (p ++ c :: q)) 0 i).cps.toList.length = (tx p).cps.toList.length := h3
    rw [h4, List.drop_zero, List.length_take, Nat.sub_zero] at h3
    have h5 : (tx p).cps.toList.length = p.length := rfl
    have h6 : (tx [c]).length = 1 := rfl
    rw [h6, tx_len] at h2
    rw [h5] at h3
    exact ⟨rest, by rw [show i = p.length by omega]⟩
theorem occ_no {c : Nat} {l : List Nat} (h : c ∉ l) : Builtin.Str.occurrences (tx l) (tx [c]) 0 (tx l).length 1 = [] := by
  have e := SX.in_one l c
  rw [decide_eq_false h] at e
  have e2 : (Builtin.Str.occurrences (tx l) (tx [c]) 0 (tx l).length 1).isEmpty = true := by
    have : (!(Builtin.Str.occurrences (tx l) (tx [c]) 0 (tx l).length 1).isEmpty) = false := e
    simpa using this
  exact List.isEmpty_iff.mp e2
theorem find_at {c : Nat} {p : List Nat} (q : List Nat) (h : c ∉ p) : Txt.find (tx (p ++ c :: q)) (tx [c]) = (p.length : Int) := by
  obtain ⟨rest, e⟩ := occ_at q h
  unfold Txt.find
  rw [e]
theorem find_no {c : Nat} {l : List Nat} (h : c ∉ l) : Txt.find (tx l) (tx [c]) = -1 := by
  unfold Txt.find
  rw [occ_no h]
theorem count_zero {c : Nat} {l : List Nat} : Txt.count (tx l) (tx [c]) = 0 ↔ c ∉ l := by
  unfold Txt.count
  constructor
  · intro h hm
    have h0 : Builtin.Str.occurrences (tx l) (tx [c]) 0 (tx l).length ((tx l).length + 1) = [] := List.eq_nil_of_length_eq_zero (by omega)
    rcases StrLaws.occ_head (tx l) (tx [c]) ((tx l).length + 1) (by omega) with ⟨_, hn⟩ | ⟨i, r, e, _⟩
    · have hi := (StrLaws.found_iff (tx l) (tx [c])).mp (by
        have e := SX.in_one l c
        rw [decide_eq_true hm] at e
        exact e)
      obtain ⟨i, h1, h2⟩ := hi
      exact hn i ⟨h1, h2⟩
    · rw [h0] at e; cases e
  · intro h
    have key : Builtin.Str.occurrences (tx l) (tx [c]) 0 (tx l).length ((tx l).length + 1) = [] := by
      rcases StrLaws.occ_head (tx l) (tx [c]) ((tx l).length + 1) (by omega) with ⟨e, _⟩ | ⟨i, r, e, ha, _⟩
      · exact e
      · have := (StrLaws.found_iff (tx l) (tx [c])).mpr ⟨i, ha.1, ha.2⟩
        rw [occ_no h] at this
        cases this
    rw [key]
    rfl
/-! ### texts of bounded length -/
theorem len_app (a b : Str) : (a ++ b).length = a.length + b.length := by
  show (a.cps ++ b.cps).size = a.cps.size + b.cps.size
  exact Array.size_append
theorem str_tx (s : Str) : s = tx s.cps.toList := rfl
theorem rep_size (c : Array Nat) : ∀ (k : Nat) (A : Array Nat), ((List.replicate k c).foldl (· ++ ·) A).size = A.size + c.size * k
  | 0, A => (Nat.add_zero _).symm
  | k + 1, A => by
    show ((List.replicate k c).foldl (· ++ ·) (A ++ c)).size = _
    rw [rep_size c k, Array.size_append, Nat.mul_succ]
    omega
/-- a text with a sign at least, twice or more behind itself -/
theorem op_repS {X : Cx} : OpR X (binaryOp .Mult) (fun x y H Q => ∃ (i : Str) (k : Int), x = .str i ∧ y = .int k ∧ 2 ≤ k ∧ 1 ≤ i.length ∧ i.length * k.toNat ≤ 1000000 ∧ ∀ z : Str, z.length = i.length * k.toNat → Q (.str z) H) := by
  intro pins s σ H x y v u Q I rx ry h
  obtain ⟨i, k, rfl, rfl, k2, i1, hz, q⟩ := h
  obtain ⟨t, rfl⟩ := rx
  obtain ⟨t', rfl⟩ := ry
  have hle : k.toNat ≤ i.length * k.toNat := Nat.le_mul_of_pos_left _ i1
  have kb : k ≤ 1000000 := by omega
  have hi : i.length ≤ i.length * k.toNat := Nat.le_mul_of_pos_right _ (by omega)
  have ib : i.length ≤ 1000000 := by omega
  have e1 : ¬ k < 1 := by omega
  have e2 : (k == 1 || i.length == 0) = false := by
    have a : (k == 1) = false := beq_eq_false_iff_ne.mpr (by omega)
    have b : (i.length == 0) = false := beq_eq_false_iff_ne.mpr (by omega)
    rw [a, b]; rfl
  refine PySem.P.mul_str ?_ (fun _ _ => ?_) (fun _ _ => ?_) ?_
  · have a : ¬ k < -(2 ^ 63 : Int) := by omega
    have b : ¬ k ≥ 2 ^ 63 := by omega
    rw [decide_eq_false a, decide_eq_false b]; rfl
  · have hd : (1000000 : Int) ≤ (2 ^ 63 - 1) / k := by
      rw [Int.le_ediv_iff_mul_le (by omega)]
      omega
    omega
  · exact decide_eq_false (Nat.not_lt.mpr (sz100 hz))
  · rw [if_neg e1, if_neg (by rw [e2]; exact Bool.false_ne_true)]
    refine ⟨?_, ⟨.str _, H, I.tok _, ⟨_, rfl⟩, q _ ?_⟩⟩
    · show ((List.replicate k.toNat i.cps).foldl (· ++ ·) #[]).size ≤ sizeLine
      rw [rep_size]
      exact sz100 (Nat.le_trans (Nat.le_of_eq (Nat.zero_add _)) hz)
    · exact (rep_size i.cps k.toNat #[]).trans (Nat.zero_add _)
/-- one of a list of texts -/
theorem pick {xs : List V} {i : Int} {N : Nat} (h0 : 0 ≤ i) (h1 : i < xs.length) (all : ∀ x ∈ xs, ∃ s : Str, x = .str s ∧ s.length ≤ N) : ∃ s : Str, atI xs i = some (.str s) ∧ s.length ≤ N := by
  obtain ⟨k, rfl⟩ : ∃ k : Nat, i = k := ⟨i.toNat, by omega⟩
  have hk : k < xs.length := by omega
  obtain ⟨s, e, l⟩ := all xs[k] (List.getElem_mem hk)
  exact ⟨s, atI_nat (by rw [List.getElem?_eq_getElem hk, e]), l⟩
/-- so many texts, each short -/
def Txs (N n : Nat) (xs : List V) : Prop := xs.length = n ∧ ∀ x ∈ xs, ∃ s : Str, x = .str s ∧ s.length ≤ N
theorem txs_nil {N : Nat} : Txs N 0 [] := ⟨rfl, fun x h => by cases h⟩
theorem txs_cons {N n : Nat} {s : Str} {xs : List V} (h : s.length ≤ N) (t : Txs N n xs) : Txs N (n + 1) (V.str s :: xs) :=
  ⟨congrArg (· + 1) t.1, fun x hx => (List.mem_cons.mp hx).elim (fun e => ⟨s, e, h⟩) (t.2 x)⟩
theorem txs_app {N n m : Nat} {xs ys : List V} (t : Txs N n xs) (u : Txs N m ys) : Txs N (n + m) (xs ++ ys) :=
  ⟨by rw [List.length_append, t.1, u.1], fun x hx => (List.mem_append.mp hx).elim (t.2 x) (u.2 x)⟩
theorem Txs.pick {N n : Nat} {xs : List V} (t : Txs N n xs) {i : Int} (h0 : 0 ≤ i) (h1 : i < n) : ∃ s : Str, atI xs i = some (.str s) ∧ s.length ≤ N := Rf.pick h0 (by rw [t.1]; exact h1) t.2
theorem abs_name {i : Nat} {x : V} {σ : L2.St} {H' : Hp} {D : L2.St → Hp → Prop} (P : Hp → Prop) (h : P H') (k : ∀ G, P G → gName i x σ G D) : gName i x σ H' D := k H' h
theorem txs_three {N : Nat} {ys : List V} (t : Txs N 3 ys) : ∃ a b c : Str, ys = [.str a, .str b, .str c] ∧ a.length ≤ N ∧ b.length ≤ N ∧ c.length ≤ N := by
  obtain ⟨l, h⟩ := t
  match ys, l, h with
  | [x, y, z], _, h =>
    obtain ⟨a, rfl, la⟩ := h x (by simp)
    obtain ⟨b, rfl, lb⟩ := h y (by simp)
    obtain ⟨c, rfl, lc⟩ := h z (by simp)
    exact ⟨a, b, c, rfl, la, lb, lc⟩
/-- a text writes one writing at most -/
theorem parse_unique {b : Int} {l : List Nat} {x y : Wr} (hx : Parse b l x) (hy : Parse b l y) : x = y := by
  rcases at_sign 46 l with n | ⟨p, q, rfl, n⟩
  · obtain ⟨W, ok, e, rfl⟩ := parse_none n hx
    obtain ⟨V, ok2, e2, rfl⟩ := parse_none n hy
    rw [e] at e2
    rw [map_sg_inj ok.f ok2.f e2]
  · obtain ⟨W, ok, e, ew, fa, fr, nc, et⟩ := parse_some n hx
    obtain ⟨V, ok2, e2, ew2, fa2, fr2, nc2, et2⟩ := parse_some n hy
    rw [e] at e2
    have eW := map_sg_inj ok.f ok2.f e2
    subst eW
    obtain ⟨xw, xa, xr⟩ := x
    obtain ⟨yw, ya, yr⟩ := y
    have e1 : xw = yw := by
      have h1 : xw = numI b W := ew
      have h2 : yw = numI b W := ew2
      rw [h1, h2]
    subst e1
    rcases at_sign 40 q with no | ⟨s, t, rfl, no⟩
    · obtain ⟨h1, h2⟩ := txB_none fa no et
      obtain ⟨h3, h4⟩ := txB_none fa2 no et2
      rw [h2] at h4
      have h5 := map_sg_inj fa fa2 h4
      have h1' : xr = [] := h1
      have h3' : yr = [] := h3
      have h5' : xa = ya := h5
      rw [h1', h3', h5']
    · obtain ⟨h1, h2, h3⟩ := txB_some fa no et
      obtain ⟨h4, h5, h6⟩ := txB_some fa2 no et2
      rw [h2] at h5
      rw [h3] at h6
      have h7 : xa = ya := map_sg_inj fa fa2 h5
      have h8 : xr = yr := map_sg_inj fr fr2 (List.append_cancel_right h6)
      rw [h7, h8]
end Rf

namespace Rf
open PySem PySem.Spec PyProof.Rows L2
open C8 (Cal pe_c pe_gc)
local macro_rules | `(tactic| walk_at "side") => `(tactic| first
  | ((with_reducible show IntMulOk _ _); first | assumption | exact (show ∀ i : Int, IntMulOk i _ from by assumption) _ | (refine mulB_right ?_ ?_ <;> omega) | (refine mulB_left ?_ ?_ <;> omega))
  | ((with_reducible show CDivP _ _); first | assumption | exact (show ∀ i : Int, CDivP i _ from by assumption) _ | (refine cdivp_small ?_ ?_ <;> omega))
  | ((with_reducible show (_ : Int) < _); first | assumption | omega | decide)
  | ((with_reducible show scal _ _ = true); rfl)
  | ((with_reducible show _ ≤ sizeLine); first | exact sz100 (Nat.le_of_ble_eq_true rfl) | exact sz100 (by omega))
  | ((with_reducible show CPow _ _); dsimp only [CPow]; decide))
local macro_rules | `(tactic| walk_at "sq") => `(tactic| first | assumption | exact sql (by assumption) | exact sqt (by assumption) | exact sqt upd_same | exact sql upd_same)
local macro_rules | `(tactic| walk_at "call") => `(tactic| fail)
local macro_rules | `(tactic| walk_at "st1") => `(tactic| first
  | refine ⟨_, rfl, ?_⟩
  | refine ⟨_, _, rfl, rfl, ?_⟩
  | refine And.intro (by walk_at "side") ?_
  | refine ⟨_, _, rfl, .inl (by walk_at "sq"), ?_⟩
  | refine ⟨_, _, rfl, .inr (by walk_at "sq"), ?_⟩
  | refine And.intro rfl ?_
  | refine ⟨_, _, _, _, rfl, rfl, (by walk_at "sq"), rfl, ?_⟩
  | refine ⟨_, _, rfl, (by walk_at "sq"), rfl, ?_⟩
  | refine ⟨_, _, _, _, _, rfl, .ty _, (by first | exact tyx_tup (by assumption) | exact tyx_lst (by assumption)), (by first | exact kit_tup | exact kit_lst), ?_⟩
  | refine ⟨_, _, rfl, ?_⟩
  | walk_at "call")
local macro_rules | `(tactic| walk_at "st") => `(tactic| repeat walk_at "st1")
def topS (i : Nat) : Stmt := PySem.Challenge.pw_ringfigures_k15_read_or_refused.main.body.getD i (.Pass ⟨0, 0, 0, 0⟩)
/-- what the module's names hold -/
structure Md (K : PySem.W.Frag) (mg : Str → Option Value) : Prop where
  m_len : mg "len" = none
  m_isinstance : mg "isinstance" = none
  m_int : mg "int" = none
  m_bool : mg "bool" = none
  m_tuple : mg "tuple" = none
  m_list : mg "list" = none
  m_ValueError : mg "ValueError" = none
  m_range : mg "range" = none
  g_GREATEST : ∃ u, mg "GREATEST" = some u ∧ RelV (.int 1000000000000) u
  g_MOST_FIGURES : ∃ u, mg "MOST_FIGURES" = some u ∧ RelV (.int 4000) u
  g_SIGNS : ∃ u, mg "SIGNS" = some u ∧ RelV (.str "0123456789abcdefghijklmnopqrstuvwxyz") u
/-- where the classes stand -/
structure Cs where
  FigureError : Addr
  NoBase : Addr
  NoFraction : Addr
  NoWriting : Addr
  NoNumber : Addr
  TooLong : Addr
  NoNote : Addr
/-- what the written part says of them -/
structure Me (K : PySem.W.Frag) (mg : Str → Option Value) (c : Cs) : Prop where
  g_FigureError : mg "FigureError" = some (.ref c.FigureError)
  g_NoBase : mg "NoBase" = some (.ref c.NoBase)
  g_NoFraction : mg "NoFraction" = some (.ref c.NoFraction)
  g_NoWriting : mg "NoWriting" = some (.ref c.NoWriting)
  g_NoNumber : mg "NoNumber" = some (.ref c.NoNumber)
  g_TooLong : mg "TooLong" = some (.ref c.TooLong)
  g_NoNote : mg "NoNote" = some (.ref c.NoNote)
  x_NoBase : ExK K c.NoBase
  i_NoBase : ExcC K c.NoBase
  m_NoBase : PySem.W.exmOne K (.ref c.NoBase) (.ref c.FigureError) = some true
  v_NoBase : PySem.W.kitOne K (.ref c.NoBase) (.type "ValueError") = some true
  x_NoNote : ExK K c.NoNote
  i_NoNote : ExcC K c.NoNote
  m_NoNote : PySem.W.exmOne K (.ref c.NoNote) (.ref c.FigureError) = some true
  v_NoNote : PySem.W.kitOne K (.ref c.NoNote) (.type "ValueError") = some true
  q_NoBase_NoBase : PySem.W.kitOne K (.ref c.NoBase) (.ref c.NoBase) = some true
  q_NoBase_NoFraction : PySem.W.kitOne K (.ref c.NoBase) (.ref c.NoFraction) = some false
  q_NoBase_NoWriting : PySem.W.kitOne K (.ref c.NoBase) (.ref c.NoWriting) = some false
  q_NoBase_NoNumber : PySem.W.kitOne K (.ref c.NoBase) (.ref c.NoNumber) = some false
  q_NoBase_TooLong : PySem.W.kitOne K (.ref c.NoBase) (.ref c.TooLong) = some false
  q_NoBase_NoNote : PySem.W.kitOne K (.ref c.NoBase) (.ref c.NoNote) = some false
  q_NoNote_NoBase : PySem.W.kitOne K (.ref c.NoNote) (.ref c.NoBase) = some false
  q_NoNote_NoFraction : PySem.W.kitOne K (.ref c.NoNote) (.ref c.NoFraction) = some false
  q_NoNote_NoWriting : PySem.W.kitOne K (.ref c.NoNote) (.ref c.NoWriting) = some false
  q_NoNote_NoNumber : PySem.W.kitOne K (.ref c.NoNote) (.ref c.NoNumber) = some false
  q_NoNote_TooLong : PySem.W.kitOne K (.ref c.NoNote) (.ref c.TooLong) = some false
  q_NoNote_NoNote : PySem.W.kitOne K (.ref c.NoNote) (.ref c.NoNote) = some true
/-- what isinstance tells of an exception of the class at D, the j-th of the six -/
structure WordAt (K : PySem.W.Frag) (c : Cs) (D : Addr) (j : Nat) : Prop where
  j6 : j < 6
  i : ExcC K D
  q0 : PySem.W.kitOne K (.ref D) (.ref c.NoBase) = some (j == 0)
  q1 : PySem.W.kitOne K (.ref D) (.ref c.NoFraction) = some (j == 1)
  q2 : PySem.W.kitOne K (.ref D) (.ref c.NoWriting) = some (j == 2)
  q3 : PySem.W.kitOne K (.ref D) (.ref c.NoNumber) = some (j == 3)
  q4 : PySem.W.kitOne K (.ref D) (.ref c.TooLong) = some (j == 4)
  q5 : PySem.W.kitOne K (.ref D) (.ref c.NoNote) = some (j == 5)
  v : PySem.W.kitOne K (.ref D) (.type "ValueError") = some true
  m : PySem.W.exmOne K (.ref D) (.ref c.FigureError) = some true
theorem Me.w_NoBase {K : PySem.W.Frag} {mg : Str → Option Value} {c : Cs} (N : Me K mg c) : WordAt K c c.NoBase 0 := ⟨by decide, N.i_NoBase, N.q_NoBase_NoBase, N.q_NoBase_NoFraction, N.q_NoBase_NoWriting, N.q_NoBase_NoNumber, N.q_NoBase_TooLong, N.q_NoBase_NoNote, N.v_NoBase, N.m_NoBase⟩
theorem Me.w_NoNote {K : PySem.W.Frag} {mg : Str → Option Value} {c : Cs} (N : Me K mg c) : WordAt K c c.NoNote 5 := ⟨by decide, N.i_NoNote, N.q_NoNote_NoBase, N.q_NoNote_NoFraction, N.q_NoNote_NoWriting, N.q_NoNote_NoNumber, N.q_NoNote_TooLong, N.q_NoNote_NoNote, N.v_NoNote, N.m_NoNote⟩
abbrev s_askedbase : Stmt := topS 11
theorem sc_askedbase : FnScope ["base"] ["base"] (defScope s_askedbase) := ⟨rfl, rfl, rfl, by decide +kernel, rfl, by decide +kernel, by decide +kernel⟩
@[irreducible] def sp_askedbase (K : PySem.W.Frag) (c : Cs) : Sp := fun vs H Q E => ∃ (x : Int), vs = [.int x] ∧ (2 ≤ x → x ≤ 36 → Q .non H) ∧ (x < 2 ∨ 36 < x → E (.ref c.NoBase) none H)
theorem go_askedbase {K : PySem.W.Frag} {c : Cs} {H : Hp} {x : Int} {Q : VK} {E : XK} (q : 2 ≤ x → x ≤ 36 → Q .non H) (e : x < 2 ∨ 36 < x → E (.ref c.NoBase) none H) : sp_askedbase K c [.int x] H Q E := by
  unfold sp_askedbase; exact ⟨x, rfl, q, e⟩
section
variable {P : Program} {w : World} {K : PySem.W.Frag} {mg : Str → Option Value} {base : Heap}
theorem ok_askedbase {f : Addr} {fd : FuncData} (F : Fun K "asked_base" "asked_base" s_askedbase f fd) (M : Md K mg) {c : Cs} (N : Me K mg c) : FnOk P w K mg base (L2.CX P w) 1 f fd ["base"] (sp_askedbase K c) := by
  refine F.okX sc_askedbase (fun vs H Q E h => ?_) (fun cdv A outer s H vs Q E hr h => ?_)
  · unfold sp_askedbase at h; obtain ⟨x, rfl, q, qe⟩ := h
    all_goals rfl
  · have hu := hu_of hr
    unfold sp_askedbase at h; obtain ⟨x, rfl, q, qe⟩ := h
    refine ⟨_, (pss_one (ps_if (PW.pt (pw_or (pt_cmpR op_lt (pv 0) pe_int (nomark _)) (pw_or1 (pt_cmpR op_gt (pv 0) pe_int (nomark _)))))
        (pss_one (ps_raise rfl (takes_of rfl rfl rfl rfl) (pmk_own PySem.F.excBase_ValueError N.x_NoBase.x N.g_NoBase N.x_NoBase.k (raises_own N.x_NoBase.b N.x_NoBase.t) rfl))) pss_nil)), ?_⟩
    walk_at "st"
    refine iteD (fun e => ?_) (fun e1 => ?_)
    · walk_at "st"
      exact qe (.inl e)
    walk_at "st"
    refine iteD (fun e => ?_) (fun e2 => ?_)
    · walk_at "st"
      exact qe (.inr e)
    exact q (by omega) (by omega)
end
abbrev s_numberof : Stmt := topS 12
theorem sc_numberof : FnScope ["base", "figures", "total", "figure"] ["base", "figures"] (defScope s_numberof) := ⟨rfl, rfl, rfl, by decide +kernel, rfl, by decide +kernel, by decide +kernel⟩
@[irreducible] def sp_numberof (K : PySem.W.Frag) : Sp := fun vs H Q _ => ∃ (b : Int) (a : Addr) (ns : List Int), vs = [.int b, .ref a] ∧ 0 ≤ b ∧ b ≤ 100 ∧ SqL K H a (ns.map V.int) ∧ Q (.int (numI b ns)) H
theorem go_numberof {K : PySem.W.Frag} {H : Hp} {b : Int} {a : Addr} {ns : List Int} {Q : VK} {E : XK} (h1 : 0 ≤ b) (h2 : b ≤ 100) (hS : SqL K H a (ns.map V.int)) (q : Q (.int (numI b ns)) H) : sp_numberof K [.int b, .ref a] H Q E := by
  unfold sp_numberof; exact ⟨b, a, ns, rfl, h1, h2, hS, q⟩
section
variable {P : Program} {w : World} {K : PySem.W.Frag} {mg : Str → Option Value} {base : Heap}
theorem ok_numberof {f : Addr} {fd : FuncData} (F : Fun K "number_of" "number_of" s_numberof f fd) (M : Md K mg) {c : Cs} (N : Me K mg c) : FnOk P w K mg base CX0 1 f fd ["base", "figures"] (sp_numberof K) := by
  refine F.ok sc_numberof (fun vs H Q E h => ?_) (fun cdv A outer s H vs Q E hr h => ?_)
  · unfold sp_numberof at h; obtain ⟨b, a, ns, rfl, h1, h2, hS, q⟩ := h
    all_goals rfl
  · have hu := hu_of hr
    unfold sp_numberof at h; obtain ⟨b, a, ns, rfl, h1, h2, hS, q⟩ := h
    refine ⟨_, (pss_cons (ps_set (i := 2) sc_numberof.nd rfl (.inl rfl) pe_int)
      (pss_cons (ps_for PassesOwn.never rfl (pi_list (pv 1)) (pg_name (i := 3) sc_numberof.nd rfl (.inl rfl))
        (pss_one (ps_set (i := 2) sc_numberof.nd rfl (.inl rfl) (pe_op op_add (pe_op op_mulB (pv 2) (pv 0)) (pv 3)))))
      (pss_one (ps_ret (pv 2))))), ?_⟩
    walk_at "st"
    refine ⟨⟨_, hS⟩, for_list (K := K) (a := a) (xs := ns.map V.int) (fun i σ H' => H = H' ∧ ∃ y, σ = [some (.int b), some (.ref a), some (.int (numI b (ns.take i))), y]) ⟨rfl, none, rfl⟩ (fun i σ H' _ ⟨e, _⟩ => e ▸ hS) (fun i x σ H' hi hv => ?_) (fun σ H' hv => ?_)⟩
    · obtain ⟨rfl, y, rfl⟩ := hv
      rw [List.getElem?_map] at hi
      cases e : ns[i]? with
      | none => rw [e] at hi; cases hi
      | some u =>
        rw [e] at hi
        have e2 : V.int u = x := Option.some.inj hi
        subst e2
        rw [take_snoc e, num_snoc]
        walk_at "st"
        exact ⟨_, rfl⟩
    · obtain ⟨rfl, y, rfl⟩ := hv
      rw [List.length_map, List.take_length]
      walk_at "st"
      exact q
end
abbrev s_readfigures : Stmt := topS 15
theorem sc_readfigures : FnScope ["base", "text", "found", "sign"] ["base", "text"] (defScope s_readfigures) := ⟨rfl, rfl, rfl, by decide +kernel, rfl, by decide +kernel, by decide +kernel⟩
@[irreducible] def sp_readfigures (K : PySem.W.Frag) (c : Cs) : Sp := fun vs H Q E => ∃ (x : Int) (b : Nat) (l : List Nat), vs = [.int x, .str (tx l)] ∧ x = b ∧ b ≤ 36 ∧ l.length ≤ 10000 ∧
  (∀ ns, l = ns.map sg → Figs b ns → ns.length ≤ 4000 → ∀ H' p, Same H H' → H p = none → H' p = some (.lst (ns.map V.int)) → Q (.ref p) H') ∧ ((∀ ns, l = ns.map sg → Figs b ns → 4000 < ns.length) → ∀ H', Same H H' → E (.ref c.NoNote) none H')
theorem go_readfigures {K : PySem.W.Frag} {c : Cs} {H : Hp} {x : Int} {s : Str} {Q : VK} {E : XK} (b : Nat) (l : List Nat) (hs : s = tx l) (hx : x = b) (h2 : b ≤ 36) (hl : l.length ≤ 10000)
    (q : ∀ ns, l = ns.map sg → Figs b ns → ns.length ≤ 4000 → ∀ H' p, Same H H' → H p = none → H' p = some (.lst (ns.map V.int)) → Q (.ref p) H') (e : (∀ ns, l = ns.map sg → Figs b ns → 4000 < ns.length) → ∀ H', Same H H' → E (.ref c.NoNote) none H') : sp_readfigures K c [.int x, .str s] H Q E := by
  unfold sp_readfigures; subst hs; exact ⟨x, b, l, rfl, hx, h2, hl, q, e⟩
section
variable {P : Program} {w : World} {K : PySem.W.Frag} {mg : Str → Option Value} {base : Heap}
theorem ok_readfigures {f : Addr} {fd : FuncData} (F : Fun K "read_figures" "read_figures" s_readfigures f fd) (M : Md K mg) {c : Cs} (N : Me K mg c) : FnOk P w K mg base (L2.CX P w) 1 f fd ["base", "text"] (sp_readfigures K c) := by
  refine F.okX sc_readfigures (fun vs H Q E h => ?_) (fun cdv A outer s H vs Q E hr h => ?_)
  · unfold sp_readfigures at h; obtain ⟨x, b, l, rfl, rfl, h2, hl, q, qe⟩ := h
    all_goals rfl
  · have hu := hu_of hr
    unfold sp_readfigures at h; obtain ⟨x, b, l, rfl, rfl, h2, hl, q, qe⟩ := h
    have szS : SIG.length ≤ sizeLine := by decide +kernel
    refine ⟨_, (pss_cons (ps_set (i := 2) sc_readfigures.nd rfl (.inl rfl) (pe_lst pa_nil))
      (pss_cons (ps_for (passes_of rfl) rfl (pi_str (pv 1)) (pg_name (i := 3) sc_readfigures.nd rfl (.inl rfl))
        (pss_cons (ps_if (pt_cmpR op_notIn_sign (pv 3) (pe_slice C8.sl_txt (pe_gc (by rfl) M.g_SIGNS) po_none (po_some (pv 0))) (by rfl))
        (pss_one (ps_raise rfl (takes_of rfl rfl rfl rfl) (pmk_own PySem.F.excBase_ValueError N.x_NoNote.x N.g_NoNote N.x_NoNote.k (raises_own N.x_NoNote.b N.x_NoNote.t) rfl))) pss_nil)
      (pss_one (ps_expr (pe_bm PySem.F.plainAttrs_list PySem.F.slot_list_append PySem.F.type_list_append mt_append (pv 2) (pa_cons (pe_m1 PySem.F.slot_str_index PySem.F.type_str_index mt_sindex (pe_gc (by rfl) M.g_SIGNS) (pv 3)) pa_nil))))))
      (pss_cons (ps_if (pt_cmpR op_gt (pe_callB call_len_seq (by rfl) M.m_len PySem.boot_len (pa_cons (pv 2) pa_nil)) (pe_gc (by rfl) M.g_MOST_FIGURES) (nomark _))
        (pss_one (ps_raise rfl (takes_of rfl rfl rfl rfl) (pmk_own PySem.F.excBase_ValueError N.x_NoNote.x N.g_NoNote N.x_NoNote.k (raises_own N.x_NoNote.b N.x_NoNote.t) rfl))) pss_nil)
      (pss_one (ps_ret (pv 2)))))), ?_⟩
    walk_at "st"
    intro f nf
    walk_at "st"
    refine for_tx (l := l) (fun i σ H' => ∃ y ns, σ = [some (.int (b : Int)), some (.str (tx l)), some (.ref f), y] ∧ Same H H' ∧ l.take i = ns.map sg ∧ Figs b ns ∧ H' f = some (.lst (ns.map V.int))) ⟨none, [], rfl, same_upd nf, by rw [List.take_zero]; rfl, figs_nil, upd_same⟩ (fun i c σ H' hi hv => ?_) (fun σ H' hv => ?_)
    · obtain ⟨y, ns, rfl, sm, ht, hf, hF⟩ := hv
      have hlen : ns.length ≤ 10000 := by
        have := congrArg List.length ht
        rw [List.length_take, List.length_map] at this
        omega
      walk_at "st"
      refine iteDn (fun nm => ?_) (fun hm => ?_)
      · walk_at "st"
        refine qe (fun ms e1 e2 => absurd ?_ nm) _ sm
        have hm : c ∈ ms.map sg := by rw [← e1]; exact List.mem_of_getElem? hi
        obtain ⟨z, hz, rfl⟩ := List.mem_map.mp hm
        show sg z ∈ (Txt.slice SIG none (some (b : Int))).cps.toList
        rw [sig_slice]
        exact (mem_sig h2).mpr ⟨z, (e2 z hz).1, (e2 z hz).2, rfl⟩
      · have hm2 : c ∈ (Txt.slice SIG none (some (b : Int))).cps.toList := hm
        rw [sig_slice] at hm2
        obtain ⟨u, u0, u1, rfl⟩ := (mem_sig h2).mp hm2
        obtain ⟨rest, hocc⟩ := sig_occ u0 (by omega)
        walk_at "st"
        refine ⟨.inl ⟨rfl, _, sql hF⟩, ?_⟩
        walk_at "st"
        refine ⟨⟨_, rfl⟩, _, rfl, SIG, _, u.toNat, rest, rfl, rfl, hocc, ?_⟩
        refine ⟨f, _, _, rfl, rfl, hF, sz100lt (by rw [List.length_map]; omega), ?_⟩
        rw [Int.toNat_of_nonneg u0]
        refine ⟨_, ns ++ [u], rfl, same_new sm nf, ?_, figs_app hf (figs_one ⟨u0, u1⟩), by rw [upd_same, List.map_append]; rfl⟩
        rw [take_snoc hi, ht, List.map_append]
        rfl
    · obtain ⟨y, ns, rfl, sm, ht, hf, hF⟩ := hv
      rw [List.take_length] at ht
      walk_at "st"
      rw [List.length_map]
      refine iteD (fun c => ?_) (fun c => ?_)
      · walk_at "st"
        refine qe (fun ms e1 e2 => ?_) _ sm
        have : ms = ns := map_sg_inj e2 hf (e1.symm.trans ht)
        rw [this]; omega
      walk_at "st"
      exact q ns ht hf (by omega) _ f sm nf hF
end
abbrev s_read : Stmt := topS 16
theorem sc_read : FnScope ["base", "text", "parts", "whole", "number", "behind", "ahead", "ring"] ["base", "text"] (defScope s_read) := ⟨rfl, rfl, rfl, by decide +kernel, rfl, by decide +kernel, by decide +kernel⟩
@[irreducible] def sp_read (K : PySem.W.Frag) (c : Cs) : Sp := fun vs H Q E => ∃ (z : Int) (l : List Nat), vs = [.int z, .str (tx l)] ∧ l.length ≤ 10000 ∧ (z < 2 ∨ 36 < z → E (.ref c.NoBase) none H) ∧
  (∀ b : Nat, z = b → 2 ≤ b → b ≤ 36 → (∀ x, Parse b l x → x.a.length ≤ 4000 → x.r.length ≤ 4000 → ∀ H' p a r, WrNew H H' p a r x → Q (.ref p) H') ∧ ((∀ x, Parse b l x → 4000 < x.a.length ∨ 4000 < x.r.length) → ∀ H', Same H H' → E (.ref c.NoNote) none H'))
theorem go_read {K : PySem.W.Frag} {c : Cs} {H : Hp} {z : Int} {Q : VK} {E : XK} (l : List Nat) (hl : l.length ≤ 10000) (e0 : z < 2 ∨ 36 < z → E (.ref c.NoBase) none H)
    (q : ∀ b : Nat, z = b → 2 ≤ b → b ≤ 36 → (∀ x, Parse b l x → x.a.length ≤ 4000 → x.r.length ≤ 4000 → ∀ H' p a r, WrNew H H' p a r x → Q (.ref p) H') ∧ ((∀ x, Parse b l x → 4000 < x.a.length ∨ 4000 < x.r.length) → ∀ H', Same H H' → E (.ref c.NoNote) none H')) : sp_read K c [.int z, .str (tx l)] H Q E := by
  unfold sp_read; exact ⟨z, l, rfl, hl, e0, q⟩
section
variable {P : Program} {w : World} {K : PySem.W.Frag} {mg : Str → Option Value} {base : Heap}
theorem ok_read {f : Addr} {fd : FuncData} (F : Fun K "read" "read" s_read f fd) (M : Md K mg) {c : Cs} (N : Me K mg c) (c_askedbase : CalX P w K mg base 1 "asked_base" (sp_askedbase K c)) (c_numberof : Cal P w K mg base 1 "number_of" (sp_numberof K) []) (c_readfigures : CalX P w K mg base 1 "read_figures" (sp_readfigures K c)) : FnOk P w K mg base (L2.CX P w) 2 f fd ["base", "text"] (sp_read K c) := by
  refine F.okX sc_read (fun vs H Q E h => ?_) (fun cdv A outer s H vs Q E hr h => ?_)
  · unfold sp_read at h; obtain ⟨z, l, rfl, hl, e0, qz⟩ := h
    all_goals rfl
  · have hu := hu_of hr
    unfold sp_read at h; obtain ⟨z, l, rfl, hl, e0, qz⟩ := h
    refine ⟨_, (pss_cons (ps_expr (pe_x c_askedbase hr (by decide) (by rfl) (takes_of rfl rfl rfl rfl) (pa_cons (pv 0) pa_nil)))
      (pss_cons (ps_set (i := 2) sc_read.nd rfl (.inl rfl) (pe_split (pv 1) pe_str))
      (pss_cons (ps_set (i := 3) sc_read.nd rfl (.inl rfl) (pe_x c_readfigures hr (by decide) (by rfl) (takes_of rfl rfl rfl rfl) (pa_cons (pv 0) (pa_cons (pe_ix ix_list (pv 2) pe_int (fun _ _ => rfl)) pa_nil))))
      (Evl.pss_cut (ps_if (PW.pt (pw_or (pt_cmpR op_eq (pe_callB call_len_seq (by rfl) M.m_len PySem.boot_len (pa_cons (pv 3) pa_nil)) pe_int (nomark _)) (pw_or (PW.pt (pw_and (pt_cmpR op_eq (pe_ix ix_list (pv 3) pe_int (fun _ _ => rfl)) pe_int (nomark _)) (pw_and1 (pt_cmpR op_gt (pe_callB call_len_seq (by rfl) M.m_len PySem.boot_len (pa_cons (pv 3) pa_nil)) pe_int (nomark _))))) (pw_or1 (pt_cmpR op_gt (pe_callB call_len_seq (by rfl) M.m_len PySem.boot_len (pa_cons (pv 2) pa_nil)) pe_int (nomark _))))))
        (pss_one (ps_raise rfl (takes_of rfl rfl rfl rfl) (pmk_own PySem.F.excBase_ValueError N.x_NoNote.x N.g_NoNote N.x_NoNote.k (raises_own N.x_NoNote.b N.x_NoNote.t) rfl))) pss_nil)
      (pss_cons (ps_set (i := 4) sc_read.nd rfl (.inl rfl) (pe_c c_numberof hr (by decide) (by rfl) (pa_cons (pv 0) (pa_cons (pv 3) pa_nil))))
      (pss_cons (ps_if (pt_cmpR op_gt (pv 4) (pe_gc (by rfl) M.g_GREATEST) (nomark _))
        (pss_one (ps_raise rfl (takes_of rfl rfl rfl rfl) (pmk_own PySem.F.excBase_ValueError N.x_NoNote.x N.g_NoNote N.x_NoNote.k (raises_own N.x_NoNote.b N.x_NoNote.t) rfl))) pss_nil)
      (pss_cons (ps_if (pt_cmpR op_eq (pe_callB call_len_seq (by rfl) M.m_len PySem.boot_len (pa_cons (pv 2) pa_nil)) pe_int (nomark _))
        (pss_one (ps_ret (pe_tup (pa_cons (pv 4) (pa_cons (pe_lst pa_nil) (pa_cons (pe_lst pa_nil) pa_nil)))))) pss_nil)
      (pss_cons (ps_set (i := 5) sc_read.nd rfl (.inl rfl) (pe_split (pe_ix ix_list (pv 2) pe_int (fun _ _ => rfl)) pe_str))
      (pss_cons (ps_set (i := 6) sc_read.nd rfl (.inl rfl) (pe_x c_readfigures hr (by decide) (by rfl) (takes_of rfl rfl rfl rfl) (pa_cons (pv 0) (pa_cons (pe_ix ix_list (pv 5) pe_int (fun _ _ => rfl)) pa_nil))))
      (pss_cons (ps_if (PW.pt (pw_and (pt_cmpR op_eq (pe_callB call_len_seq (by rfl) M.m_len PySem.boot_len (pa_cons (pv 5) pa_nil)) pe_int (nomark _)) (pw_and1 (pt_cmpR op_gt (pe_callB call_len_seq (by rfl) M.m_len PySem.boot_len (pa_cons (pv 6) pa_nil)) pe_int (nomark _)))))
        (pss_one (ps_ret (pe_tup (pa_cons (pv 4) (pa_cons (pv 6) (pa_cons (pe_lst pa_nil) pa_nil)))))) pss_nil)
      (pss_cons (ps_if (PW.pt (pw_or (pt_cmpR op_ne (pe_callB call_len_seq (by rfl) M.m_len PySem.boot_len (pa_cons (pv 5) pa_nil)) pe_int (nomark _)) (pw_or1 (pt_cmpR op_ne (pe_slice C8.sl_txt (pe_ix ix_list (pv 5) pe_int (fun _ _ => rfl)) (po_some (pe_un un_neg pe_int)) po_none) pe_str (nomark _)))))
        (pss_one (ps_raise rfl (takes_of rfl rfl rfl rfl) (pmk_own PySem.F.excBase_ValueError N.x_NoNote.x N.g_NoNote N.x_NoNote.k (raises_own N.x_NoNote.b N.x_NoNote.t) rfl))) pss_nil)
      (pss_cons (ps_set (i := 7) sc_read.nd rfl (.inl rfl) (pe_x c_readfigures hr (by decide) (by rfl) (takes_of rfl rfl rfl rfl) (pa_cons (pv 0) (pa_cons (pe_slice C8.sl_txt (pe_ix ix_list (pv 5) pe_int (fun _ _ => rfl)) po_none (po_some (pe_un un_neg pe_int))) pa_nil))))
      (pss_cons (ps_if (pt_cmpR op_eq (pe_callB call_len_seq (by rfl) M.m_len PySem.boot_len (pa_cons (pv 7) pa_nil)) pe_int (nomark _))
        (pss_one (ps_raise rfl (takes_of rfl rfl rfl rfl) (pmk_own PySem.F.excBase_ValueError N.x_NoNote.x N.g_NoNote N.x_NoNote.k (raises_own N.x_NoNote.b N.x_NoNote.t) rfl))) pss_nil)
      (pss_one (ps_ret (pe_tup (pa_cons (pv 4) (pa_cons (pv 6) (pa_cons (pv 7) pa_nil))))))))))))))))))), ?_⟩
    walk_at "st"
    refine go_askedbase (fun h1' h2' => ?_) (fun h => e0 h)
    obtain ⟨b, rfl⟩ : ∃ b : Nat, z = b := ⟨z.toNat, by omega⟩
    have h1 : 2 ≤ b := by omega
    have h2 : b ≤ 36 := by omega
    obtain ⟨q, qe⟩ := qz b rfl h1 h2
    obtain ⟨p0, ps, hps, n0, hl0, hcase⟩ := cut_cases (c := 46) (by decide) l hl
    have hW : ∀ x, Parse b l x → ∃ W, WOk b W ∧ p0 = W.map sg := fun x pr => by
      rcases hcase with ⟨e, _⟩ | ⟨q, e, _⟩ | ⟨q1, q2, e, _⟩
      · rw [e] at pr
        obtain ⟨W, ok, e2, _⟩ := parse_none n0 pr
        exact ⟨W, ok, e2⟩
      · rw [e] at pr
        obtain ⟨W, ok, e2, _⟩ := parse_some n0 pr
        exact ⟨W, ok, e2⟩
      · rw [e] at pr
        obtain ⟨W, ok, e2, _⟩ := parse_some n0 pr
        exact ⟨W, ok, e2⟩
    walk_at "st"
    refine ⟨⟨_, rfl⟩, _, _, rfl, rfl, by decide +kernel, sz100 (by rw [tx_len]; omega), fun p1 np1 => ?_⟩
    rw [tx_dot, hps]
    have s1 := same_upd (o := .lst ((tx p0 :: ps).map V.str)) np1
    have k1 := upd_same (H := H) (a := p1) (o := .lst ((tx p0 :: ps).map V.str))
    generalize upd H p1 (.lst ((tx p0 :: ps).map V.str)) = H1 at *
    walk_at "st"
    refine ⟨p1, _, _, _, rfl, rfl, sql k1, atI_nat (j := 0) rfl, ?_⟩
    refine go_readfigures b p0 rfl rfl h2 hl0 (fun W eW fW lW H2 p2 s2 n2 k2 => ?_) (fun bad H2 s2 => qe (fun x pr => by
      obtain ⟨W, ok, e2⟩ := hW x pr
      have := bad W e2 ok.f
      have := ok.len h1
      omega) _ (s1.trans s2))
    have hW2 : ∀ x, Parse b l x → WOk b W := fun x pr => by
      obtain ⟨W', ok, e2⟩ := hW x pr
      have : W' = W := map_sg_inj ok.f fW (e2.symm.trans eW)
      rw [← this]
      exact ok
    have s12 := s1.trans s2
    have k1' := s2 _ _ k1
    walk_at "st"
    refine ⟨fun σ H' => H2 = H' ∧ W ≠ [] ∧ (W.head? = some 0 → W.length ≤ 1) ∧ ps.length ≤ 1 ∧ σ = [some (.int (b : Int)), some (.str (tx l)), some (.ref p1), some (.ref p2), none, none, none, none], ?_, fun σ H' hM => ?_⟩
    · walk_at "st"
      rw [List.length_map]
      refine iteE (fun c => ?_) (fun c0 => ?_)
      · have hW0 : W = [] := List.eq_nil_of_length_eq_zero (by omega)
        walk_at "st"
        exact qe (fun x pr => absurd hW0 (hW2 x pr).ne) _ s12
      obtain ⟨y, ys, hy⟩ : ∃ y ys, W = y :: ys := by
        cases W with
        | nil => exact absurd rfl c0
        | cons y ys => exact ⟨y, ys, rfl⟩
      have hne : W ≠ [] := by rw [hy]; simp
      walk_at "st"
      refine ⟨p2, _, _, _, rfl, rfl, sql k2, atI_nat (j := 0) (by rw [hy]; rfl), ?_⟩
      walk_at "st"
      have three : ps.length ≤ 1 ∨ ∀ x, ¬ Parse b l x := by
        rcases hcase with ⟨e, e2⟩ | ⟨q, e, _, e2, _⟩ | ⟨q1, q2, e, _⟩
        · left; rw [e2]; exact Nat.zero_le _
        · left; rw [e2]; exact Nat.le_refl _
        · right
          intro x pr
          rw [e] at pr
          obtain ⟨W', ok, e2, ew, fa, fr, nc, e3⟩ := parse_some n0 pr
          exact txB_no46 fa fr (by rw [← e3]; simp)
      refine iteE (fun cy => ?_) (fun cy => ?_)
      · walk_at "st"
        rw [List.length_map]
        refine iteD (fun c2 => ?_) (fun c2 => ?_)
        · walk_at "st"
          refine qe (fun x pr => absurd ((hW2 x pr).hd (by rw [hy, cy]; rfl)) (by omega)) _ s12
        walk_at "st"
        rw [List.length_map, List.length_cons]
        refine iteD (fun c3 => ?_) (fun c3 => ?_)
        · walk_at "st"
          refine qe (fun x pr => ?_) _ s12
          rcases three with h | h
          · omega
          · exact absurd pr (h x)
        · walk_at "st"
          exact ⟨hne, fun _ => by omega, by omega, rfl⟩
      · walk_at "st"
        rw [List.length_map, List.length_cons]
        refine iteD (fun c3 => ?_) (fun c3 => ?_)
        · walk_at "st"
          refine qe (fun x pr => ?_) _ s12
          rcases three with h | h
          · omega
          · exact absurd pr (h x)
        · walk_at "st"
          exact ⟨hne, fun h => by rw [hy] at h; exact absurd (Option.some.inj h) cy, by omega, rfl⟩
    obtain ⟨rfl, hne, hhd, hp1, rfl⟩ := hM
    walk_at "st"
    refine go_numberof (by omega) (by omega) (sql k2) ?_
    walk_at "st"
    refine iteD (fun cg => ?_) (fun cg => ?_)
    · walk_at "st"
      exact qe (fun x pr => absurd (hW2 x pr).nb (by omega)) _ s12
    have okW : WOk b W := ⟨fW, hne, hhd, by omega⟩
    walk_at "st"
    rw [List.length_map, List.length_cons]
    rcases hcase with ⟨e, rfl⟩ | ⟨q', e, nq, rfl, lq⟩ | ⟨q1, q2, e, h⟩
    · refine iteE (fun _ => ?_) (fun c => absurd rfl c)
      walk_at "st"
      intro a na
      walk_at "st"
      intro r nr
      walk_at "st"
      intro p np
      have np2 := free_upd np
      refine q ⟨numI b W, [], []⟩ (by rw [e, eW]; exact parse_of_none okW) (Nat.zero_le _) (Nat.zero_le _) _ p a r ⟨⟨upd_same, ?_, ?_⟩, same_ups (same_ups (same_ups s12 na) nr) np, s12.free (free_upd np2), s12.free na, s12.free (free_upd nr), Ne.symm (ne_new nr)⟩
      · rw [upd_ne (Ne.symm (ne_new np2)), upd_ne (Ne.symm (ne_new nr)), upd_same]; rfl
      · rw [upd_ne (Ne.symm (ne_new np)), upd_same]; rfl
    · have pB : ∀ x, Parse b l x → ¬ (x.a = [] ∧ x.r = []) ∧ q' = txB x ∧ Figs b x.a ∧ Figs b x.r := fun x pr => by
        rw [e] at pr
        obtain ⟨W', ok, e2, ew, fa, fr, nc, e3⟩ := parse_some n0 pr
        exact ⟨nc, e3, fa, fr⟩
      have mk : ∀ A R : List Int, Figs b A → Figs b R → ¬ (A = [] ∧ R = []) → q' = A.map sg ++ (if R = [] then [] else 40 :: (R.map sg ++ [41])) → Parse b l ⟨numI b W, A, R⟩ := fun A R fA fR nc eq => by
        rw [e, eW, eq]
        exact parse_of_some (x := ⟨numI b W, A, R⟩) okW rfl fA fR nc
      refine iteE (fun c => absurd c (show ¬ (((2 : Nat) : Int) = 1) by decide)) (fun _ => ?_)
      walk_at "st"
      refine ⟨⟨_, rfl⟩, _, _, rfl, rfl, by decide +kernel, sz100 (by rw [tx_len]; omega), fun p3 np3 => ?_⟩
      obtain ⟨s0, qs, hqs, ns0, ls0, hc2⟩ := cut_cases (c := 40) (by decide) q' lq
      rw [tx_open, hqs]
      have s3 := same_ups (o := .lst ((tx s0 :: qs).map V.str)) s12 np3
      have k3 := upd_same (H := H2) (a := p3) (o := .lst ((tx s0 :: qs).map V.str))
      generalize upd H2 p3 (.lst ((tx s0 :: qs).map V.str)) = H3 at *
      have hA : ∀ x, Parse b l x → s0 = x.a.map sg := fun x pr => by
        obtain ⟨nc, eq, fa, fr⟩ := pB x pr
        rcases hc2 with ⟨e1, _⟩ | ⟨t, e1, _⟩ | ⟨t1, t2, e1, _⟩
        · rw [← e1]; exact (txB_none fa (by rw [e1]; exact ns0) eq).2
        · rw [e1] at eq; exact (txB_some fa ns0 eq).2.1
        · rw [e1] at eq; exact (txB_some fa ns0 eq).2.1
      walk_at "st"
      refine ⟨p3, _, _, _, rfl, rfl, sql k3, atI_nat (j := 0) rfl, ?_⟩
      refine go_readfigures b s0 rfl rfl h2 ls0 (fun A eA fA lA H4 p4 s4 n4 k4 => ?_) (fun bad H4 s4 => qe (fun x pr => .inl (bad x.a (hA x pr) (pB x pr).2.2.1)) _ (s3.trans s4))
      have k3' := s4 _ _ k3
      have s14 := s3.trans s4
      have n4' := s3.free n4
      have hA2 : ∀ x, Parse b l x → x.a = A := fun x pr => map_sg_inj (pB x pr).2.2.1 fA ((hA x pr).symm.trans eA)
      walk_at "st"
      rw [List.length_map, List.length_cons]
      rcases hc2 with ⟨e1, rfl⟩ | ⟨t, e1, nt, rfl, lt⟩ | ⟨t1, t2, e1, hq2⟩
      · refine iteE (fun _ => ?_) (fun c => absurd rfl c)
        walk_at "st"
        rw [List.length_map]
        refine iteD (fun ca => ?_) (fun ca => ?_)
        · have hane : A ≠ [] := fun z => by rw [z] at ca; exact absurd ca (by decide)
          walk_at "st"
          intro r nr
          walk_at "st"
          intro p np
          have hne : p4 ≠ r := ne_of_none k4 nr
          refine q ⟨numI b W, A, []⟩ (mk A [] fA figs_nil (fun z => hane z.1) (by rw [if_pos rfl, List.append_nil, e1, eA])) lA (Nat.zero_le _) _ p p4 r ⟨⟨upd_same, ?_, ?_⟩, same_ups (same_ups s14 nr) np, s14.free (free_upd np), n4', s14.free nr, hne⟩
          · rw [upd_ne (ne_of_none k4 (free_upd np)), upd_ne hne]; exact k4
          · rw [upd_ne (Ne.symm (ne_new np)), upd_same]; rfl
        · have ha0 : A = [] := List.eq_nil_of_length_eq_zero (by omega)
          walk_at "st"
          refine qe (fun x pr => absurd ⟨(hA2 x pr).trans ha0, ?_⟩ (pB x pr).1) _ s14
          exact (txB_none (pB x pr).2.2.1 (by rw [e1]; exact ns0) (pB x pr).2.1).1
      · refine iteE (fun c => absurd c (show ¬ (((2 : Nat) : Int) = 1) by decide)) (fun _ => ?_)
        have hT : ∀ x, Parse b l x → x.r ≠ [] ∧ t = x.r.map sg ++ [41] := fun x pr => by
          have eq := (pB x pr).2.1
          rw [e1] at eq
          have h := txB_some (pB x pr).2.2.1 ns0 eq
          exact ⟨h.1, h.2.2⟩
        walk_at "st"
        refine ⟨sz100 (by rw [tx_len]; omega), ?_⟩
        rcases snoc_or t with rfl | ⟨t', d, rfl⟩
        · rw [slice_nil]
          walk_at "st"
          refine iteDn (fun _ => ?_) (fun h => absurd (V.str.inj h) (by rw [tx_close]; intro z; exact absurd (tx_inj z) (by simp)))
          walk_at "st"
          exact qe (fun x pr => absurd (hT x pr).2 (by simp)) _ s14
        · rw [last_of]
          walk_at "st"
          rw [tx_close]
          refine iteDn (fun nd => ?_) (fun hd => ?_)
          · walk_at "st"
            exact qe (fun x pr => absurd (by rw [(snoc_inj (hT x pr).2).2]) nd) _ s14
          have hd41 : d = 41 := (List.cons.inj (tx_inj (V.str.inj hd))).1
          subst hd41
          walk_at "st"
          refine ⟨sz100 (by rw [tx_len]; omega), ?_⟩
          rw [init_of]
          have hR : ∀ x, Parse b l x → t' = x.r.map sg := fun x pr => (snoc_inj (hT x pr).2).1
          have lt2 : t'.length ≤ 10000 := by rw [List.length_append] at lt; omega
          refine go_readfigures b t' rfl rfl h2 lt2 (fun R eR fR lR H5 p5 s5 n5 k5 => ?_) (fun bad H5 s5 => qe (fun x pr => .inr (bad x.r (hR x pr) (pB x pr).2.2.2)) _ (s14.trans s5))
          have k4' := s5 _ _ k4
          have s15 := s14.trans s5
          walk_at "st"
          rw [List.length_map]
          refine iteE (fun c => ?_) (fun c => ?_)
          · walk_at "st"
            have hR0 : R = [] := List.eq_nil_of_length_eq_zero (by omega)
            refine qe (fun x pr => absurd ?_ (hT x pr).1) _ s15
            have e3 := (hR x pr).symm.trans eR
            rw [hR0] at e3
            exact List.map_eq_nil_iff.mp e3
          have hRne : R ≠ [] := fun z => c (by rw [z]; rfl)
          walk_at "st"
          intro p np
          have hne : p4 ≠ p5 := ne_of_none k4 n5
          refine q ⟨numI b W, A, R⟩ (mk A R fA fR (fun z => hRne z.2) (by rw [if_neg hRne, e1, eA, eR])) lA lR _ p p4 p5 ⟨⟨upd_same, ?_, ?_⟩, same_ups s15 np, s15.free np, n4', s14.free n5, hne⟩
          · rw [upd_ne (ne_of_none k4' np)]; exact k4'
          · rw [upd_ne (ne_of_none k5 np)]; exact k5
      · refine iteE (fun c => absurd c (by omega)) (fun _ => ?_)
        walk_at "st"
        rw [List.length_map, List.length_cons]
        refine iteEn (fun _ => ?_) (fun h => absurd h (by omega))
        walk_at "st"
        refine qe (fun x pr => ?_) _ s14
        exfalso
        have eq := (pB x pr).2.1
        rw [e1] at eq
        have h := (txB_some (pB x pr).2.2.1 ns0 eq).2.2
        have h40 : 40 ∈ x.r.map sg ++ [41] := by rw [← h]; simp
        rcases List.mem_append.mp h40 with q5 | q5
        · exact sg_not (pB x pr).2.2.2 (by decide) q5
        · exact absurd (List.mem_singleton.mp q5) (by decide)
    · exfalso
      omega
end
abbrev s_xlawcellat : Stmt := topS 18
theorem sc_xlawcellat : FnScope ["script", "k"] ["script", "k"] (defScope s_xlawcellat) := ⟨rfl, rfl, rfl, by decide +kernel, rfl, by decide +kernel, by decide +kernel⟩
/-- the k-th of the script's numbers, or 0 -/
def cl (ns : List Int) (k : Nat) : Int := ns.getD k 0
@[irreducible] def sp_xlawcellat (K : PySem.W.Frag) : Sp := fun vs H Q _ => ∃ (a : Addr) (ns : List Int) (x : Int), vs = [.ref a, .int x] ∧ 0 ≤ x ∧ SqL K H a (ns.map V.int) ∧ Q (.int (cl ns x.toNat)) H
theorem go_cell {K : PySem.W.Frag} {H : Hp} {a : Addr} {ns : List Int} {x : Int} {Q : VK} {E : XK} (hx : 0 ≤ x) (hS : SqL K H a (ns.map V.int)) (q : Q (.int (cl ns x.toNat)) H) : sp_xlawcellat K [.ref a, .int x] H Q E := by
  unfold sp_xlawcellat; exact ⟨a, ns, x, rfl, hx, hS, q⟩
local macro_rules | `(tactic| walk_at "call") => `(tactic| refine go_cell (by omega) (by walk_at "sq") ?_)
theorem cl_in {ns : List Int} {k : Nat} (h : k < ns.length) : cl ns k = ns[k] := by
  unfold cl; rw [List.getD_eq_getElem?_getD, List.getElem?_eq_getElem h]; rfl
theorem cl_out {ns : List Int} {k : Nat} (h : ns.length ≤ k) : cl ns k = 0 := by
  unfold cl; rw [List.getD_eq_getElem?_getD, List.getElem?_eq_none h]; rfl
section
variable {P : Program} {w : World} {K : PySem.W.Frag} {mg : Str → Option Value} {base : Heap}
theorem ok_xlawcellat {f : Addr} {fd : FuncData} (F : Fun K "_law_cell_at" "_law_cell_at" s_xlawcellat f fd) (M : Md K mg) {c : Cs} (N : Me K mg c) : FnOk P w K mg base CX0 1 f fd ["script", "k"] (sp_xlawcellat K) := by
  refine F.ok sc_xlawcellat (fun vs H Q E h => ?_) (fun cdv A outer s H vs Q E hr h => ?_)
  · unfold sp_xlawcellat at h; obtain ⟨a, ns, x, rfl, hx, hS, q⟩ := h
    all_goals rfl
  · have hu := hu_of hr
    unfold sp_xlawcellat at h; obtain ⟨a, ns, x, rfl, hx, hS, q⟩ := h
    obtain ⟨k, rfl⟩ : ∃ k : Nat, x = (k : Int) := ⟨x.toNat, by omega⟩
    rw [Int.toNat_natCast] at q
    refine ⟨_, (pss_cons (ps_if (pt_cmpR op_lt (pv 1) (pe_callB call_len_seq (by rfl) M.m_len PySem.boot_len (pa_cons (pv 0) pa_nil)) (nomark _))
        (pss_one (ps_ret (pe_ix ix_list (pv 0) (pv 1) (fun _ _ => rfl)))) pss_nil)
      (pss_one (ps_ret pe_int))), ?_⟩
    walk_at "st"
    rw [List.length_map]
    refine iteD (fun e => ?_) (fun e => ?_)
    · have hk : k < ns.length := by omega
      walk_at "st"
      refine ⟨a, _, _, _, rfl, rfl, hS, atI_nat (map_get (List.getElem?_eq_getElem hk)), ?_⟩
      rw [← cl_in hk]
      exact q
    · rw [cl_out (by omega)] at q
      exact q
end
abbrev s_xlawdraw : Stmt := topS 19
theorem sc_xlawdraw : FnScope ["cell", "k", "bound", "stir"] ["cell", "k", "bound"] (defScope s_xlawdraw) := ⟨rfl, rfl, rfl, by decide +kernel, rfl, by decide +kernel, by decide +kernel⟩
def drA (c k : Int) : Int := (c % 2147483647 + 977 * k + 1) * 48271 % 2147483647
def drB (c k : Int) : Int := drA c k * drA c k % 2147483629
def drC (c k : Int) : Int := (drB c k + 40692 * (k + 3)) * 69621 % 2147483647
/-- a drawn number below b -/
def drw (c k b : Int) : Int := drC c k / 8 % b
theorem drw_ok (c k : Int) {b : Int} (h : 0 < b) : 0 ≤ drw c k b ∧ drw c k b < b := ⟨Int.emod_nonneg _ (by omega), Int.emod_lt_of_pos _ h⟩
@[irreducible] def sp_xlawdraw (K : PySem.W.Frag) : Sp := fun vs H Q _ => ∃ (c k b : Int), vs = [.int c, .int k, .int b] ∧ 0 ≤ k ∧ k < 1000000000 ∧ 0 < b ∧ Q (.int (drw c k b)) H
theorem go_xlawdraw {K : PySem.W.Frag} {H : Hp} {c k b : Int} {Q : VK} {E : XK} (h1 : 0 ≤ k) (h2 : k < 1000000000) (h3 : 0 < b) (q : Q (.int (drw c k b)) H) : sp_xlawdraw K [.int c, .int k, .int b] H Q E := by
  unfold sp_xlawdraw; exact ⟨c, k, b, rfl, h1, h2, h3, q⟩
section
variable {P : Program} {w : World} {K : PySem.W.Frag} {mg : Str → Option Value} {base : Heap}
theorem ok_xlawdraw {f : Addr} {fd : FuncData} (F : Fun K "_law_draw" "_law_draw" s_xlawdraw f fd) (M : Md K mg) {c : Cs} (N : Me K mg c) : FnOk P w K mg base CX0 1 f fd ["cell", "k", "bound"] (sp_xlawdraw K) := by
  refine F.ok sc_xlawdraw (fun vs H Q E h => ?_) (fun cdv A outer s H vs Q E hr h => ?_)
  · unfold sp_xlawdraw at h; obtain ⟨c, k, b, rfl, h1, h2, h3, q⟩ := h
    all_goals rfl
  · have hu := hu_of hr
    unfold sp_xlawdraw at h; obtain ⟨c, k, b, rfl, h1, h2, h3, q⟩ := h
    have hA : 0 ≤ drA c k ∧ drA c k < 2147483647 := ⟨Int.emod_nonneg _ (by decide), Int.emod_lt_of_pos _ (by decide)⟩
    have m1 : IntMulOk (977 : Int) k := mulB_left (by decide) (by decide)
    have m3 : IntMulOk (drA c k) (drA c k) := mulB_right (by omega) (by omega)
    refine ⟨_, (Evl.pss_cut (ps_set (i := 3) sc_xlawdraw.nd rfl (.inl rfl) (pe_op op_mod (pe_op op_mulB (pe_op op_add (pe_op op_add (pe_op op_mod (pv 0) pe_int) (pe_op op_mulB pe_int (pv 1))) pe_int) pe_int) pe_int))
      (Evl.pss_cut (ps_set (i := 3) sc_xlawdraw.nd rfl (.inl rfl) (pe_op op_mod (pe_op op_mulB (pv 3) (pv 3)) pe_int))
      (Evl.pss_cut (ps_set (i := 3) sc_xlawdraw.nd rfl (.inl rfl) (pe_op op_mod (pe_op op_mulB (pe_op op_add (pv 3) (pe_op op_mulB pe_int (pe_op op_add (pv 1) pe_int))) pe_int) pe_int))
      (pss_one (ps_ret (pe_op op_mod (pe_op op_fdivP (pv 3) pe_int) (pv 2))))))), ?_⟩
    refine ⟨fun σ H' => H = H' ∧ σ = [some (.int c), some (.int k), some (.int b), some (.int (drA c k))], ?_, fun σ H' hM => ?_⟩
    · refine ⟨_, rfl, _, _, rfl, rfl, (show (0 : Int) < 2147483647 by decide), _, rfl, _, _, rfl, rfl, m1, _, _, rfl, rfl, _, _, rfl, rfl, _, _, rfl, rfl, mulB_right (by decide) (by decide), _, _, rfl, rfl, (show (0 : Int) < 2147483647 by decide), ?_⟩
      exact ⟨rfl, rfl⟩
    obtain ⟨rfl, rfl⟩ := hM
    refine ⟨fun σ H' => H = H' ∧ σ = [some (.int c), some (.int k), some (.int b), some (.int (drB c k))], ?_, fun σ H' hM => ?_⟩
    · refine ⟨_, rfl, _, rfl, _, _, rfl, rfl, m3, _, _, rfl, rfl, (show (0 : Int) < 2147483629 by decide), ?_⟩
      exact ⟨rfl, rfl⟩
    obtain ⟨rfl, rfl⟩ := hM
    refine ⟨fun σ H' => H = H' ∧ σ = [some (.int c), some (.int k), some (.int b), some (.int (drC c k))], ?_, fun σ H' hM => ?_⟩
    · refine ⟨_, rfl, _, rfl, _, _, rfl, rfl, _, _, rfl, rfl, mulB_left (by decide) (by decide), _, _, rfl, rfl, _, _, rfl, rfl, mulB_right (by decide) (by decide), _, _, rfl, rfl, (show (0 : Int) < 2147483647 by decide), ?_⟩
      exact ⟨rfl, rfl⟩
    obtain ⟨rfl, rfl⟩ := hM
    refine ⟨_, rfl, _, _, rfl, rfl, cdivp_small (by decide) (by decide), _, rfl, _, _, rfl, rfl, h3, ?_⟩
    exact q
end
abbrev s_xlawwhole : Stmt := topS 20
theorem sc_xlawwhole : FnScope ["found"] ["found"] (defScope s_xlawwhole) := ⟨rfl, rfl, rfl, by decide +kernel, rfl, by decide +kernel, by decide +kernel⟩
@[irreducible] def sp_xlawwhole (K : PySem.W.Frag) : Sp := fun vs H Q _ => ∃ i : Int, vs = [.int i] ∧ Q (.bl true) H
theorem go_whole {K : PySem.W.Frag} {H : Hp} {i : Int} {Q : VK} {E : XK} (q : Q (.bl true) H) : sp_xlawwhole K [.int i] H Q E := by
  unfold sp_xlawwhole; exact ⟨i, rfl, q⟩
local macro_rules | `(tactic| walk_at "call") => `(tactic| refine go_whole ?_)
section
variable {P : Program} {w : World} {K : PySem.W.Frag} {mg : Str → Option Value} {base : Heap}
theorem ok_xlawwhole {f : Addr} {fd : FuncData} (F : Fun K "_law_whole" "_law_whole" s_xlawwhole f fd) (M : Md K mg) {c : Cs} (N : Me K mg c) : FnOk P w K mg base CX0 1 f fd ["found"] (sp_xlawwhole K) := by
  refine F.ok sc_xlawwhole (fun vs H Q E h => ?_) (fun cdv A outer s H vs Q E hr h => ?_)
  · unfold sp_xlawwhole at h; obtain ⟨i, rfl, q⟩ := h
    all_goals rfl
  · have hu := hu_of hr
    unfold sp_xlawwhole at h; obtain ⟨i, rfl, q⟩ := h
    refine ⟨_, (pss_one (ps_ret (pe_and (pe_callB call_isi (by rfl) M.m_isinstance (by decide +kernel) (pa_cons (pv 0) (pa_cons (pe_bltn (v := .ty "int") (by rfl) M.m_int (by decide +kernel) rfl) pa_nil))) (pe_one (pe_not (pe_callB call_isi (by rfl) M.m_isinstance (by decide +kernel) (pa_cons (pv 0) (pa_cons (pe_bltn (v := .ty "bool") (by rfl) M.m_bool (by decide +kernel) rfl) pa_nil)))))))), ?_⟩
    walk_at "st"
    refine ⟨_, _, _, _, _, rfl, .ty _, .base (.int i), kit_int_int, ?_⟩
    walk_at "st"
    refine ⟨_, _, _, _, _, rfl, .ty _, .base (.int i), kit_int_bool, ?_⟩
    walk_at "st"
    exact q
end
abbrev s_xlawiswriting : Stmt := topS 21
theorem sc_xlawiswriting : FnScope ["found", "due", "side", "figure"] ["found", "due"] (defScope s_xlawiswriting) := ⟨rfl, rfl, rfl, by decide +kernel, rfl, by decide +kernel, by decide +kernel⟩
@[irreducible] def sp_xlawiswriting (K : PySem.W.Frag) : Sp := fun vs H Q _ => ∃ (p a r p' a' r' : Addr) (x y : Wr), vs = [.ref p, .ref p'] ∧ WrAt H p a r x ∧ WrAt H p' a' r' y ∧ ∀ H', Same H H' → Q (.bl (decide (x = y))) H'
theorem go_xlawiswriting {K : PySem.W.Frag} {H : Hp} {p a r p' a' r' : Addr} {x y : Wr} {Q : VK} {E : XK} (h : WrAt H p a r x) (h' : WrAt H p' a' r' y) (q : ∀ H', Same H H' → Q (.bl (decide (x = y))) H') : sp_xlawiswriting K [.ref p, .ref p'] H Q E := by
  unfold sp_xlawiswriting; exact ⟨p, a, r, p', a', r', x, y, rfl, h, h', q⟩
theorem go_xlawiswriting_eq {K : PySem.W.Frag} {H : Hp} {p a r p' a' r' : Addr} {x y : Wr} {Q : VK} {E : XK} (h : WrAt H p a r x) (h' : WrAt H p' a' r' y) (e : x = y) (q : ∀ H', Same H H' → Q (.bl true) H') : sp_xlawiswriting K [.ref p, .ref p'] H Q E :=
  go_xlawiswriting h h' fun H' s => by rw [decide_eq_true e]; exact q H' s
section
variable {P : Program} {w : World} {K : PySem.W.Frag} {mg : Str → Option Value} {base : Heap}
theorem ok_xlawiswriting {f : Addr} {fd : FuncData} (F : Fun K "_law_is_writing" "_law_is_writing" s_xlawiswriting f fd) (M : Md K mg) {c : Cs} (N : Me K mg c) (c_xlawwhole : Cal P w K mg base 1 "_law_whole" (sp_xlawwhole K) []) : FnOk P w K mg base CX0 2 f fd ["found", "due"] (sp_xlawiswriting K) := by
  refine F.ok sc_xlawiswriting (fun vs H Q E h => ?_) (fun cdv A outer s H vs Q E hr h => ?_)
  · unfold sp_xlawiswriting at h; obtain ⟨p, a, r, p', a', r', x, y, rfl, hp, hp', q⟩ := h
    all_goals rfl
  · have hu := hu_of hr
    unfold sp_xlawiswriting at h; obtain ⟨p, a, r, p', a', r', x, y, rfl, hp, hp', q⟩ := h
    refine ⟨_, (pss_cons (ps_if (PW.pt (pw_or (pt_not (pt_val (pe_callB call_isi (by rfl) M.m_isinstance (by decide +kernel) (pa_cons (pv 0) (pa_cons (pe_bltn (v := .ty "tuple") (by rfl) M.m_tuple (by decide +kernel) rfl) pa_nil))))) (pw_or (pt_cmpR op_ne (pe_callB call_len_seq (by rfl) M.m_len PySem.boot_len (pa_cons (pv 0) pa_nil)) pe_int (nomark _)) (pw_or1 (pt_not (pt_val (pe_c c_xlawwhole hr (by decide) (by rfl) (pa_cons (pe_ix ix_tup (pv 0) pe_int (fun _ _ => rfl)) pa_nil))))))))
        (pss_one (ps_ret pe_bl)) pss_nil)
      (pss_cons (ps_for PassesOwn.never rfl (pi_tup (pe_tup (pa_cons pe_int (pa_cons pe_int pa_nil)))) (pg_name (i := 2) sc_xlawiswriting.nd rfl (.inl rfl))
        (pss_cons (ps_if (pt_not (pt_val (pe_callB call_isi (by rfl) M.m_isinstance (by decide +kernel) (pa_cons (pe_ix ix_tup (pv 0) (pv 2) (fun _ _ => rfl)) (pa_cons (pe_bltn (v := .ty "list") (by rfl) M.m_list (by decide +kernel) rfl) pa_nil)))))
        (pss_one (ps_ret pe_bl)) pss_nil)
      (pss_one (ps_for PassesOwn.never rfl (pi_list (pe_ix ix_tup (pv 0) (pv 2) (fun _ _ => rfl))) (pg_name (i := 3) sc_xlawiswriting.nd rfl (.inl rfl))
        (pss_one (ps_if (pt_not (pt_val (pe_c c_xlawwhole hr (by decide) (by rfl) (pa_cons (pv 3) pa_nil))))
        (pss_one (ps_ret pe_bl)) pss_nil))))))
      (pss_one (ps_ret (pe_cmpR (op_eqD hr.units) (pv 0) (pv 1) (nomark _)))))), ?_⟩
    walk_at "st"
    refine ⟨_, _, _, _, _, rfl, .ty _, tyx_tup hp.tp, kit_tup, ?_⟩
    walk_at "st"
    refine ⟨_, _, rfl, .inr (sqt hp.tp), ?_⟩
    walk_at "st"
    refine ⟨p, _, _, _, rfl, rfl, sqt hp.tp, atI_nat (j := 0) rfl, ?_⟩
    walk_at "st"
    intro tp ntp
    walk_at "st"
    refine ⟨⟨_, sqt upd_same⟩, for_tup (K := K) (xs := [.int 1, .int 2]) (fun i σ H' => ∃ y2 y3, σ = [some (.ref p), some (.ref p'), y2, y3] ∧ Same H H' ∧ H' tp = some (.tup [.int 1, .int 2]))
      ⟨none, none, rfl, same_upd ntp, upd_same⟩ (fun i σ H' _ ⟨_, _, _, _, h⟩ => sqt h) (fun i v σ H' hi hv => ?_) (fun σ H' hv => ?_)⟩
    · obtain ⟨y2, y3, rfl, sm, ht⟩ := hv
      have key : ∃ (z : Int) (c : Addr) (ns : List Int), v = .int z ∧ atI [V.int x.w, V.ref a, V.ref r] z = some (.ref c) ∧ H c = some (.lst (ns.map V.int)) := by
        match i, hi with
        | 0, hi => exact ⟨1, a, x.a, (Option.some.inj hi).symm, atI_nat (j := 1) rfl, hp.la⟩
        | 1, hi => exact ⟨2, r, x.r, (Option.some.inj hi).symm, atI_nat (j := 2) rfl, hp.lr⟩
        | n + 2, hi => exact absurd hi (by simp)
      obtain ⟨z, c, ns, rfl, hz, hc⟩ := key
      walk_at "st"
      refine ⟨p, _, _, _, rfl, rfl, sqt (sm _ _ hp.tp), hz, ?_⟩
      walk_at "st"
      refine ⟨_, _, _, _, _, rfl, .ty _, tyx_lst (sm _ _ hc), kit_lst, ?_⟩
      walk_at "st"
      refine ⟨p, _, _, _, rfl, rfl, sqt (sm _ _ hp.tp), hz, ?_⟩
      refine ⟨c, rfl, ⟨_, sql (sm _ _ hc)⟩, for_list (K := K) (a := c) (xs := ns.map V.int) (fun j σ H2 => ∃ y3, σ = [some (.ref p), some (.ref p'), some (.int z), y3] ∧ Same H H2 ∧ H2 tp = some (.tup [.int 1, .int 2]))
        ⟨y3, rfl, sm, ht⟩ (fun j σ H2 _ ⟨_, _, s2, _⟩ => sql (s2 _ _ hc)) (fun j v σ H2 hj hv => ?_) (fun σ H2 hv => ?_)⟩
      · obtain ⟨y3, rfl, s2, ht2⟩ := hv
        obtain ⟨u, hu2, rfl⟩ : ∃ u, ns[j]? = some u ∧ v = V.int u := by
          rw [List.getElem?_map] at hj
          cases e : ns[j]? with
          | none => rw [e] at hj; cases hj
          | some u => rw [e] at hj; exact ⟨u, rfl, (Option.some.inj hj).symm⟩
        walk_at "st"
        exact ⟨s2, ht2⟩
      · obtain ⟨y3, rfl, s2, ht2⟩ := hv
        exact ⟨_, _, rfl, s2, ht2⟩
    · obtain ⟨y2, y3, rfl, sm, ht⟩ := hv
      refine ⟨_, rfl, _, rfl, dW x, dW y, (hp.same sm).dp, (hp'.same sm).dp, shaped_dW x, shaped_dW y, ?_⟩
      rw [eqv_dW]
      exact q H' sm
end
abbrev s_xlawwordof : Stmt := topS 22
theorem sc_xlawwordof : FnScope ["e", "kinds"] ["e"] (defScope s_xlawwordof) := ⟨rfl, rfl, rfl, by decide +kernel, rfl, by decide +kernel, by decide +kernel⟩
def wordL : List Str := [Str.ofString "base", Str.ofString "fraction", Str.ofString "writing", Str.ofString "number", Str.ofString "long", Str.ofString "note"]
/-- the word of the j-th class -/
def word (j : Nat) : Str := wordL.getD j (Str.ofString "other")
@[irreducible] def sp_xlawwordof (K : PySem.W.Frag) (c : Cs) (a : Addr) (cls : Value) (d : Option Addr) : Sp := fun vs H Q _ => ∃ (D : Addr) (j : Nat), cls = .ref D ∧ d = none ∧ WordAt K c D j ∧ vs = [.ref a] ∧ ∀ H', Same H H' → Q (.str (word j)) H'
theorem go_xlawwordof {K : PySem.W.Frag} {c : Cs} {a : Addr} {D : Addr} {H : Hp} {Q : VK} {E : XK} (j : Nat) (hw : WordAt K c D j) (q : ∀ H', Same H H' → Q (.str (word j)) H') : sp_xlawwordof K c a (.ref D) none [.ref a] H Q E := by
  unfold sp_xlawwordof; exact ⟨D, j, rfl, rfl, hw, rfl, q⟩
theorem wd6 : ∀ {j : Nat}, j < 6 → (wordL.map V.str)[j]? = some (.str (word j)) := fun {j} h =>
  match j, h with
  | 0, _ => rfl
  | 1, _ => rfl
  | 2, _ => rfl
  | 3, _ => rfl
  | 4, _ => rfl
  | 5, _ => rfl
  | j + 6, h => absurd h (by omega)
theorem cnt6 : ∀ {j : Nat}, j < 6 → [j == 0, j == 1, j == 2, j == 3, j == 4, j == 5].count true = 1 := by decide
theorem ix6 : ∀ {j : Nat}, j < 6 → [V.bl (j == 0), .bl (j == 1), .bl (j == 2), .bl (j == 3), .bl (j == 4), .bl (j == 5)][j]? = some (.bl true) := by decide
theorem no6 : ∀ {j : Nat}, j < 6 → ∀ m : Nat, m < j → ∀ z, [V.bl (j == 0), .bl (j == 1), .bl (j == 2), .bl (j == 3), .bl (j == 4), .bl (j == 5)][m]? = some z → eqV z (.bl true) = false := by
  intro j h m hm z hz
  have key : ∀ {j : Nat}, j < 6 → ∀ m : Nat, m < j → [V.bl (j == 0), .bl (j == 1), .bl (j == 2), .bl (j == 3), .bl (j == 4), .bl (j == 5)][m]? = some (.bl false) := by decide
  rw [key h m hm] at hz
  rw [← Option.some.inj hz]
  decide
section
variable {P : Program} {w : World} {K : PySem.W.Frag} {mg : Str → Option Value} {base : Heap}
theorem ok_xlawwordof {f : Addr} {fd : FuncData} (F : Fun K "_law_word_of" "_law_word_of" s_xlawwordof f fd) (M : Md K mg) {c : Cs} (N : Me K mg c) (p : Addr × Obj) (cls : Value) (d : Option Addr) (hz : Zc cls d p.2) (hf : ∃ vs, p.2.data = .fields vs) : FnE P w K mg base p 1 f fd ["e"] (sp_xlawwordof K c p.1 cls d) := by
  refine Fun.okE F sc_xlawwordof (fun vs H Q E h => ?_) (fun cdv A outer s H vs Q E hr h => ?_)
  · unfold sp_xlawwordof at h; obtain ⟨D, j, rfl, rfl, hw, rfl, q⟩ := h
    all_goals rfl
  · unfold sp_xlawwordof at h; obtain ⟨D, j, rfl, rfl, hw, rfl, q⟩ := h
    have q0 := hw.q0
    have q1 := hw.q1
    have q2 := hw.q2
    have q3 := hw.q3
    have q4 := hw.q4
    have q5 := hw.q5
    have qv := hw.v
    have j6 := hw.j6
    refine ⟨_, (pss_cons (ps_set (i := 1) sc_xlawwordof.nd rfl (.inl rfl) (pe_lst (pa_cons (pe_callB (call_isP (p := p) (List.mem_singleton.mpr rfl) hw.i hz hf) (by rfl) M.m_isinstance (by decide +kernel) (pa_cons (pv 0) (pa_cons (pe_gc (v := .ref c.NoBase) (by rfl) ⟨_, N.g_NoBase, rfl⟩) pa_nil))) (pa_cons (pe_callB (call_isP (p := p) (List.mem_singleton.mpr rfl) hw.i hz hf) (by rfl) M.m_isinstance (by decide +kernel) (pa_cons (pv 0) (pa_cons (pe_gc (v := .ref c.NoFraction) (by rfl) ⟨_, N.g_NoFraction, rfl⟩) pa_nil))) (pa_cons (pe_callB (call_isP (p := p) (List.mem_singleton.mpr rfl) hw.i hz hf) (by rfl) M.m_isinstance (by decide +kernel) (pa_cons (pv 0) (pa_cons (pe_gc (v := .ref c.NoWriting) (by rfl) ⟨_, N.g_NoWriting, rfl⟩) pa_nil))) pa_nil)))))
      (pss_cons (ps_set (i := 1) sc_xlawwordof.nd rfl (.inl rfl) (pe_op op_cat (pv 1) (pe_lst (pa_cons (pe_callB (call_isP (p := p) (List.mem_singleton.mpr rfl) hw.i hz hf) (by rfl) M.m_isinstance (by decide +kernel) (pa_cons (pv 0) (pa_cons (pe_gc (v := .ref c.NoNumber) (by rfl) ⟨_, N.g_NoNumber, rfl⟩) pa_nil))) (pa_cons (pe_callB (call_isP (p := p) (List.mem_singleton.mpr rfl) hw.i hz hf) (by rfl) M.m_isinstance (by decide +kernel) (pa_cons (pv 0) (pa_cons (pe_gc (v := .ref c.TooLong) (by rfl) ⟨_, N.g_TooLong, rfl⟩) pa_nil))) (pa_cons (pe_callB (call_isP (p := p) (List.mem_singleton.mpr rfl) hw.i hz hf) (by rfl) M.m_isinstance (by decide +kernel) (pa_cons (pv 0) (pa_cons (pe_gc (v := .ref c.NoNote) (by rfl) ⟨_, N.g_NoNote, rfl⟩) pa_nil))) pa_nil))))))
      (pss_cons (ps_if (PW.pt (pw_or (pt_cmpR op_ne (pe_bm PySem.F.plainAttrs_list PySem.F.slot_list_count PySem.F.type_list_count mt_bcount (pv 1) (pa_cons pe_bl pa_nil)) pe_int (nomark _)) (pw_or1 (pt_not (pt_val (pe_callB (call_isP (p := p) (List.mem_singleton.mpr rfl) hw.i hz hf) (by rfl) M.m_isinstance (by decide +kernel) (pa_cons (pv 0) (pa_cons (pe_bltn (v := .ty "ValueError") (by rfl) M.m_ValueError (by decide +kernel) rfl) pa_nil))))))))
        (pss_one (ps_ret pe_str)) pss_nil)
      (pss_one (ps_ret (pe_ix ix_list (pe_lst (pa_cons pe_str (pa_cons pe_str (pa_cons pe_str (pa_cons pe_str (pa_cons pe_str (pa_cons pe_str pa_nil))))))) (pe_bm PySem.F.plainAttrs_list PySem.F.slot_list_index PySem.F.type_list_index mt_index (pv 1) (pa_cons pe_bl pa_nil)) (fun _ _ => rfl))))))), ?_⟩
    walk_at "st"
    refine ⟨_, _, _, rfl, fun _ r => r, q0, ?_⟩
    walk_at "st"
    refine ⟨_, _, _, rfl, fun _ r => r, q1, ?_⟩
    walk_at "st"
    refine ⟨_, _, _, rfl, fun _ r => r, q2, ?_⟩
    walk_at "st"
    intro l1 n1
    have s1 := same_upd (o := .lst [.bl (j == 0), .bl (j == 1), .bl (j == 2)]) n1
    have k1 := upd_same (H := H) (a := l1) (o := .lst [.bl (j == 0), .bl (j == 1), .bl (j == 2)])
    generalize upd H l1 (.lst [.bl (j == 0), .bl (j == 1), .bl (j == 2)]) = H1 at *
    walk_at "st"
    refine ⟨_, _, _, rfl, fun _ r => r, q3, ?_⟩
    walk_at "st"
    refine ⟨_, _, _, rfl, fun _ r => r, q4, ?_⟩
    walk_at "st"
    refine ⟨_, _, _, rfl, fun _ r => r, q5, ?_⟩
    walk_at "st"
    intro l2 n2
    have s2 := same_ups (o := .lst [.bl (j == 3), .bl (j == 4), .bl (j == 5)]) s1 n2
    have k2 := upd_same (H := H1) (a := l2) (o := .lst [.bl (j == 3), .bl (j == 4), .bl (j == 5)])
    have k1' := (upd_ne (o := .lst [.bl (j == 3), .bl (j == 4), .bl (j == 5)]) (ne_of_none k1 n2)).trans k1
    generalize upd H1 l2 (.lst [.bl (j == 3), .bl (j == 4), .bl (j == 5)]) = H2 at *
    refine ⟨l1, l2, _, _, rfl, rfl, k1', k2, sz100 (by show 3 + 3 ≤ _; decide), fun l3 n3 => ?_⟩
    have s3 := same_ups (o := .lst [.bl (j == 0), .bl (j == 1), .bl (j == 2), .bl (j == 3), .bl (j == 4), .bl (j == 5)]) s2 n3
    have k3 := upd_same (H := H2) (a := l3) (o := .lst [.bl (j == 0), .bl (j == 1), .bl (j == 2), .bl (j == 3), .bl (j == 4), .bl (j == 5)])
    have e3 : ([V.bl (j == 0), .bl (j == 1), .bl (j == 2)] ++ [.bl (j == 3), .bl (j == 4), .bl (j == 5)] : List V) = [.bl (j == 0), .bl (j == 1), .bl (j == 2), .bl (j == 3), .bl (j == 4), .bl (j == 5)] := rfl
    rw [e3]
    generalize upd H2 l3 (.lst [.bl (j == 0), .bl (j == 1), .bl (j == 2), .bl (j == 3), .bl (j == 4), .bl (j == 5)]) = H3 at *
    have k3' : SqL K H3 l3 ([j == 0, j == 1, j == 2, j == 3, j == 4, j == 5].map V.bl) := sql k3
    have cnt := cnt6 j6
    walk_at "st"
    refine ⟨.inl ⟨rfl, _, sql k3⟩, ?_⟩
    walk_at "st"
    refine ⟨l3, _, true, rfl, rfl, k3', ?_⟩
    rw [cnt]
    walk_at "st"
    refine ⟨_, _, _, rfl, fun _ r => r, qv, ?_⟩
    walk_at "st"
    intro l4 n4
    have k4 : upd H3 l4 (.lst (wordL.map V.str)) l4 = some (.lst (wordL.map V.str)) := upd_same
    have k3'' := (upd_ne (o := .lst (wordL.map V.str)) (ne_of_none k3 n4)).trans k3
    have s4 := same_ups (o := .lst (wordL.map V.str)) s3 n4
    show tBM _ _ _ _ _ _ (upd H3 l4 (.lst (wordL.map V.str))) _
    generalize upd H3 l4 (.lst (wordL.map V.str)) = H4 at *
    walk_at "st"
    refine ⟨.inl ⟨rfl, _, sql k3''⟩, ?_⟩
    walk_at "st"
    refine ⟨l3, _, .bl true, j, .bl true, rfl, rfl, sql k3'', rfl, rfl, ix6 j6, by decide, fun m z hm hz => no6 j6 m hm z hz, ?_⟩
    refine ⟨l4, _, _, _, rfl, rfl, sql k4, atI_nat (wd6 j6), ?_⟩
    exact q _ s4
end
abbrev s_xlawnumber : Stmt := topS 23
theorem sc_xlawnumber : FnScope ["base", "figures", "number", "figure"] ["base", "figures"] (defScope s_xlawnumber) := ⟨rfl, rfl, rfl, by decide +kernel, rfl, by decide +kernel, by decide +kernel⟩
@[irreducible] def sp_xlawnumber (K : PySem.W.Frag) : Sp := fun vs H Q _ => ∃ (b : Int) (a : Addr) (ns : List Int), vs = [.int b, .ref a] ∧ 0 ≤ b ∧ b ≤ 100 ∧ SqL K H a (ns.map V.int) ∧ Q (.int (numI b ns)) H
theorem go_xlawnumber {K : PySem.W.Frag} {H : Hp} {b : Int} {a : Addr} {ns : List Int} {Q : VK} {E : XK} (h1 : 0 ≤ b) (h2 : b ≤ 100) (hS : SqL K H a (ns.map V.int)) (q : Q (.int (numI b ns)) H) : sp_xlawnumber K [.int b, .ref a] H Q E := by
  unfold sp_xlawnumber; exact ⟨b, a, ns, rfl, h1, h2, hS, q⟩
section
variable {P : Program} {w : World} {K : PySem.W.Frag} {mg : Str → Option Value} {base : Heap}
theorem ok_xlawnumber {f : Addr} {fd : FuncData} (F : Fun K "_law_number" "_law_number" s_xlawnumber f fd) (M : Md K mg) {c : Cs} (N : Me K mg c) : FnOk P w K mg base CX0 1 f fd ["base", "figures"] (sp_xlawnumber K) := by
  refine F.ok sc_xlawnumber (fun vs H Q E h => ?_) (fun cdv A outer s H vs Q E hr h => ?_)
  · unfold sp_xlawnumber at h; obtain ⟨b, a, ns, rfl, h1, h2, hS, q⟩ := h
    all_goals rfl
  · have hu := hu_of hr
    unfold sp_xlawnumber at h; obtain ⟨b, a, ns, rfl, h1, h2, hS, q⟩ := h
    refine ⟨_, (pss_cons (ps_set (i := 2) sc_xlawnumber.nd rfl (.inl rfl) pe_int)
      (pss_cons (ps_for PassesOwn.never rfl (pi_list (pv 1)) (pg_name (i := 3) sc_xlawnumber.nd rfl (.inl rfl))
        (pss_one (ps_set (i := 2) sc_xlawnumber.nd rfl (.inl rfl) (pe_op op_add (pe_op op_mulB (pv 2) (pv 0)) (pv 3)))))
      (pss_one (ps_ret (pv 2))))), ?_⟩
    walk_at "st"
    refine ⟨⟨_, hS⟩, for_list (K := K) (a := a) (xs := ns.map V.int) (fun i σ H' => H = H' ∧ ∃ y, σ = [some (.int b), some (.ref a), some (.int (numI b (ns.take i))), y]) ⟨rfl, none, rfl⟩ (fun i σ H' _ ⟨e, _⟩ => e ▸ hS) (fun i x σ H' hi hv => ?_) (fun σ H' hv => ?_)⟩
    · obtain ⟨rfl, y, rfl⟩ := hv
      rw [List.getElem?_map] at hi
      cases e : ns[i]? with
      | none => rw [e] at hi; cases hi
      | some u =>
        rw [e] at hi
        have e2 : V.int u = x := Option.some.inj hi
        subst e2
        rw [take_snoc e, num_snoc]
        walk_at "st"
        exact ⟨_, rfl⟩
    · obtain ⟨rfl, y, rfl⟩ := hv
      rw [List.length_map, List.take_length]
      walk_at "st"
      exact q
end
abbrev s_xlawplaces : Stmt := topS 24
theorem sc_xlawplaces : FnScope ["base", "text", "found", "sign", "place"] ["base", "text"] (defScope s_xlawplaces) := ⟨rfl, rfl, rfl, by decide +kernel, rfl, by decide +kernel, by decide +kernel⟩
theorem find_sig (c : Nat) : (∃ x : Int, 0 ≤ x ∧ x < 36 ∧ c = sg x ∧ Txt.find SIG ⟨#[c]⟩ = x) ∨ ((∀ x : Int, 0 ≤ x → x < 36 → c ≠ sg x) ∧ Txt.find SIG ⟨#[c]⟩ = -1) := by
  by_cases h : c ∈ SIG.cps.toList.take 36
  · obtain ⟨x, h0, h1, e⟩ := (mem_sig (b := 36) (Nat.le_refl _)).mp h
    obtain ⟨rest, ho⟩ := sig_occ h0 h1
    refine .inl ⟨x, h0, h1, e, ?_⟩
    unfold Txt.find
    rw [e, ho]
    exact Int.toNat_of_nonneg h0
  · refine .inr ⟨fun x h0 h1 e => h ((mem_sig (b := 36) (Nat.le_refl _)).mpr ⟨x, h0, h1, e⟩), ?_⟩
    have e : SIG.cps.toList.take 36 = SIG.cps.toList := List.take_of_length_le (by rw [sig_cps, List.length_map, List.length_range]; exact Nat.le_refl _)
    rw [e] at h
    have := find_no h
    exact this
@[irreducible] def sp_xlawplaces (K : PySem.W.Frag) : Sp := fun vs H Q _ => ∃ (z : Int) (b : Nat) (l : List Nat), vs = [.int z, .str (tx l)] ∧ z = b ∧ b ≤ 36 ∧ l.length ≤ 10000 ∧
  (∀ ns, l = ns.map sg → Figs b ns → ∀ H' p, Same H H' → H p = none → H' p = some (.lst (ns.map V.int)) → Q (.ref p) H') ∧ ((∀ ns, l = ns.map sg → ¬ Figs b ns) → ∀ H', Same H H' → Q .non H')
theorem go_xlawplaces {K : PySem.W.Frag} {H : Hp} {z : Int} {s : Str} {Q : VK} {E : XK} (b : Nat) (l : List Nat) (hs : s = tx l) (hz : z = b) (h2 : b ≤ 36) (hl : l.length ≤ 10000)
    (q : ∀ ns, l = ns.map sg → Figs b ns → ∀ H' p, Same H H' → H p = none → H' p = some (.lst (ns.map V.int)) → Q (.ref p) H') (n : (∀ ns, l = ns.map sg → ¬ Figs b ns) → ∀ H', Same H H' → Q .non H') : sp_xlawplaces K [.int z, .str s] H Q E := by
  unfold sp_xlawplaces; subst hs; exact ⟨z, b, l, rfl, hz, h2, hl, q, n⟩
section
variable {P : Program} {w : World} {K : PySem.W.Frag} {mg : Str → Option Value} {base : Heap}
theorem ok_xlawplaces {f : Addr} {fd : FuncData} (F : Fun K "_law_places" "_law_places" s_xlawplaces f fd) (M : Md K mg) {c : Cs} (N : Me K mg c) : FnOk P w K mg base CX0 1 f fd ["base", "text"] (sp_xlawplaces K) := by
  refine F.ok sc_xlawplaces (fun vs H Q E h => ?_) (fun cdv A outer s H vs Q E hr h => ?_)
  · unfold sp_xlawplaces at h; obtain ⟨z, b, l, rfl, rfl, h2, hl, q, qn⟩ := h
    all_goals rfl
  · have hu := hu_of hr
    unfold sp_xlawplaces at h; obtain ⟨z, b, l, rfl, rfl, h2, hl, q, qn⟩ := h
    refine ⟨_, (pss_cons (ps_set (i := 2) sc_xlawplaces.nd rfl (.inl rfl) (pe_lst pa_nil))
      (pss_cons (ps_for PassesOwn.never rfl (pi_str (pv 1)) (pg_name (i := 3) sc_xlawplaces.nd rfl (.inl rfl))
        (pss_cons (ps_set (i := 4) sc_xlawplaces.nd rfl (.inl rfl) (pe_m1 PySem.F.slot_str_find PySem.F.type_str_find mt_find pe_str (pv 3)))
      (pss_cons (ps_if (PW.pt (pw_or (pt_cmpR op_lt (pv 4) pe_int (nomark _)) (pw_or1 (pt_cmpR op_ge (pv 4) (pv 0) (nomark _)))))
        (pss_one (ps_ret pe_non)) pss_nil)
      (pss_one (ps_expr (pe_bm PySem.F.plainAttrs_list PySem.F.slot_list_append PySem.F.type_list_append mt_append (pv 2) (pa_cons (pv 4) pa_nil)))))))
      (pss_one (ps_ret (pv 2))))), ?_⟩
    walk_at "st"
    intro f nf
    walk_at "st"
    refine for_tx (l := l) (fun i σ H' => ∃ y3 y4 ns, σ = [some (.int (b : Int)), some (.str (tx l)), some (.ref f), y3, y4] ∧ Same H H' ∧ l.take i = ns.map sg ∧ Figs b ns ∧ H' f = some (.lst (ns.map V.int))) ⟨none, none, [], rfl, same_upd nf, by rw [List.take_zero]; rfl, figs_nil, upd_same⟩ (fun i c σ H' hi hv => ?_) (fun σ H' hv => ?_)
    · obtain ⟨y3, y4, ns, rfl, sm, ht, hf, hF⟩ := hv
      have hlen : ns.length ≤ 10000 := by
        have := congrArg List.length ht
        rw [List.length_take, List.length_map] at this
        omega
      have bad : (∀ x : Int, 0 ≤ x → x < b → c ≠ sg x) → ∀ ns, l = ns.map sg → ¬ Figs b ns := fun nx ms e1 e2 => by
        have hm : c ∈ ms.map sg := by rw [← e1]; exact List.mem_of_getElem? hi
        obtain ⟨z, hz, e3⟩ := List.mem_map.mp hm
        exact nx z (e2 z hz).1 (e2 z hz).2 e3.symm
      walk_at "st"
      refine ⟨⟨_, rfl⟩, _, rfl, SIG, _, rfl, rfl, ?_⟩
      rcases find_sig c with ⟨x, x0, x36, rfl, ef⟩ | ⟨nx, ef⟩
      · rw [ef]
        walk_at "st"
        refine iteD (fun e => absurd e (by omega)) (fun _ => ?_)
        walk_at "st"
        refine iteD (fun e => ?_) (fun e => ?_)
        · walk_at "st"
          refine qn (bad fun y y0 yb ey => ?_) _ sm
          have := sg_inj x0 y0 ey
          omega
        walk_at "st"
        refine ⟨.inl ⟨rfl, _, sql hF⟩, ?_⟩
        walk_at "st"
        refine ⟨f, _, _, rfl, rfl, hF, sz100lt (by rw [List.length_map]; omega), ?_⟩
        refine ⟨_, _, ns ++ [x], rfl, same_new sm nf, ?_, figs_app hf (figs_one ⟨x0, by omega⟩), by rw [upd_same, List.map_append]; rfl⟩
        rw [take_snoc hi, ht, List.map_append]
        rfl
      · rw [ef]
        walk_at "st"
        exact qn (bad fun y y0 yb ey => nx y y0 (by omega) ey) _ sm
    · obtain ⟨y3, y4, ns, rfl, sm, ht, hf, hF⟩ := hv
      rw [List.take_length] at ht
      walk_at "st"
      exact q ns ht hf _ f sm nf hF
end
abbrev s_xlawparted : Stmt := topS 25
theorem sc_xlawparted : FnScope ["text", "at", "behind", "start"] ["text"] (defScope s_xlawparted) := ⟨rfl, rfl, rfl, by decide +kernel, rfl, by decide +kernel, by decide +kernel⟩
/-- the three parts of a text -/
structure Parted (l p a r : List Nat) : Prop where
  of : ∀ (b : Int) (x : Wr), Parse b l x → (∃ W, WOk b W ∧ x.w = numI b W ∧ p = W.map sg) ∧ a = x.a.map sg ∧ r = x.r.map sg ∧ Figs b x.a ∧ Figs b x.r
  back : ∀ (b : Int) (W A R : List Int), WOk b W → Figs b A → Figs b R → p = W.map sg → a = A.map sg → r = R.map sg → Parse b l ⟨numI b W, A, R⟩
@[irreducible] def sp_xlawparted (K : PySem.W.Frag) : Sp := fun vs H Q _ => ∃ (l : List Nat), vs = [.str (tx l)] ∧ l.length ≤ 10000 ∧
  (∀ p a r, Parted l p a r → p.length ≤ 10000 → a.length ≤ 10000 → r.length ≤ 10000 → ∀ D, H D = none → Q (.ref D) (upd H D (.lst [.str (tx p), .str (tx a), .str (tx r)]))) ∧ ((∀ b x, ¬ Parse b l x) → Q .non H)
theorem go_xlawparted {K : PySem.W.Frag} {H : Hp} {s : Str} {Q : VK} {E : XK} (l : List Nat) (hs : s = tx l) (hl : l.length ≤ 10000)
    (q : ∀ p a r, Parted l p a r → p.length ≤ 10000 → a.length ≤ 10000 → r.length ≤ 10000 → ∀ D, H D = none → Q (.ref D) (upd H D (.lst [.str (tx p), .str (tx a), .str (tx r)]))) (n : (∀ b x, ¬ Parse b l x) → Q .non H) : sp_xlawparted K [.str s] H Q E := by
  unfold sp_xlawparted; subst hs; exact ⟨l, rfl, hl, q, n⟩
theorem slice_mid (s t : List Nat) : Txt.slice (tx (s ++ 40 :: (t ++ [41]))) (some ((s.length : Int) + 1)) (some (-1)) = tx t := by
  rw [← C8.cutS_slice]
  unfold cutS
  have hl : (tx (s ++ 40 :: (t ++ [41]))).length = s.length + (t.length + 2) := by
    rw [tx_len, List.length_append, List.length_cons, List.length_append]; rfl
  rw [hl]
  have e1 : HT.sIx (s.length + (t.length + 2)) 0 (some ((s.length : Int) + 1)) = s.length + 1 := by
    unfold HT.sIx
    dsimp only
    rw [if_neg (by omega)]
    omega
  have e2 : HT.sIx (s.length + (t.length + 2)) (s.length + (t.length + 2)) (some (-1)) = s.length + (t.length + 1) := by
    unfold HT.sIx
    dsimp only
    rw [if_pos (by decide)]
    omega
  rw [e1, e2]
  have e3 : (tx (s ++ 40 :: (t ++ [41]))).cps.toList = (s ++ [40]) ++ (t ++ [41]) := by
    show s ++ 40 :: (t ++ [41]) = _
    rw [List.append_assoc]; rfl
  have e4 : (s ++ [40]).length = s.length + 1 := by rw [List.length_append]; rfl
  have e5 : s.length + (t.length + 1) - (s.length + 1) = t.length := by omega
  rw [e3, e5, ← e4, List.drop_left, List.take_left]
  rfl
theorem tx_nil : Str.ofString "" = tx [] := by decide +kernel
theorem slice_behind (p q : List Nat) : Txt.slice (tx (p ++ 46 :: q)) (some ((p.length : Int) + 1)) none = tx q := by
  have h := SX.slice_from (a := p ++ 46 :: q) (i := (p.length : Int) + 1) (by omega)
  have e : (p ++ 46 :: q).drop ((p.length : Int) + 1).toNat = q := by
    rw [show ((p.length : Int) + 1).toNat = p.length + 1 by omega, show p ++ 46 :: q = (p ++ [46]) ++ q by rw [List.append_assoc]; rfl, show p.length + 1 = (p ++ [46]).length by rw [List.length_append]; rfl, List.drop_left]
  rw [e] at h
  exact h
theorem slice_ahead (p q : List Nat) : Txt.slice (tx (p ++ q)) none (some (p.length : Int)) = tx p := SX.to_app p q rfl
theorem parted_none {l : List Nat} (n : 46 ∉ l) : Parted l l [] [] := by
  refine ⟨fun b x pr => ?_, fun b W A R ok fA fR e1 e2 e3 => ?_⟩
  · obtain ⟨W, ok, e, rfl⟩ := parse_none n pr
    exact ⟨⟨W, ok, rfl, e⟩, rfl, rfl, figs_nil, figs_nil⟩
  · have hA := List.map_eq_nil_iff.mp e2.symm
    have hR := List.map_eq_nil_iff.mp e3.symm
    subst hA hR e1
    exact parse_of_none ok
theorem parted_plain {p t : List Nat} {d : Nat} (n : 46 ∉ p) (hd : d ≠ 41) : Parted (p ++ 46 :: (t ++ [d])) p (t ++ [d]) [] := by
  refine ⟨fun b x pr => ?_, fun b W A R ok fA fR e1 e2 e3 => ?_⟩
  · obtain ⟨W, ok, e2, ew, fa, fr, nc, e3⟩ := parse_some n pr
    unfold txB at e3
    by_cases c : x.r = []
    · rw [if_pos c, List.append_nil] at e3
      exact ⟨⟨W, ok, ew, e2⟩, e3, by rw [c]; rfl, fa, fr⟩
    · rw [if_neg c] at e3
      have e4 : t ++ [d] = (x.a.map sg ++ 40 :: x.r.map sg) ++ [41] := by
        rw [e3, List.append_assoc]; rfl
      exact absurd (snoc_inj e4).2 hd
  · have hR := List.map_eq_nil_iff.mp e3.symm
    subst hR e1
    have := parse_of_some (x := ⟨numI b W, A, []⟩) ok rfl fA fR (fun z => by
      have hA : A = [] := z.1
      rw [hA] at e2
      cases t <;> cases e2)
    unfold txB at this
    rw [if_pos rfl, List.append_nil] at this
    rw [e2]
    exact this
theorem parted_ring {p s t : List Nat} (n : 46 ∉ p) (ns : 40 ∉ s) (ht : t ≠ []) : Parted (p ++ 46 :: (s ++ 40 :: (t ++ [41]))) p s t := by
  refine ⟨fun b x pr => ?_, fun b W A R ok fA fR e1 e2 e3 => ?_⟩
  · obtain ⟨W, ok, e2, ew, fa, fr, nc, e3⟩ := parse_some n pr
    obtain ⟨h1, h2, h3⟩ := txB_some fa ns e3
    exact ⟨⟨W, ok, ew, e2⟩, h2, (snoc_inj h3).1, fa, fr⟩
  · have hR : R ≠ [] := fun z => ht (by rw [e3, z]; rfl)
    subst e1
    have := parse_of_some (x := ⟨numI b W, A, R⟩) ok rfl fA fR (fun z => hR z.2)
    unfold txB at this
    rw [if_neg hR] at this
    rw [e2, e3]
    exact this
/-- what ends in ) but has no ( , or nothing between -/
theorem no_parse_open {p t : List Nat} (n : 46 ∉ p) (h : 40 ∉ t ++ [41]) (b : Int) (x : Wr) : ¬ Parse b (p ++ 46 :: (t ++ [41])) x := fun pr => by
  obtain ⟨W, ok, e2, ew, fa, fr, nc, e3⟩ := parse_some n pr
  obtain ⟨h1, h2⟩ := txB_none fa h e3
  have : 41 ∈ x.a.map sg := by rw [← h2]; simp
  exact sg_not fa (by decide) this
theorem no_parse_empty {p s : List Nat} (n : 46 ∉ p) (ns : 40 ∉ s) (b : Int) (x : Wr) : ¬ Parse b (p ++ 46 :: (s ++ 40 :: [41])) x := fun pr => by
  obtain ⟨W, ok, e2, ew, fa, fr, nc, e3⟩ := parse_some n pr
  obtain ⟨h1, h2, h3⟩ := txB_some fa ns e3
  have e4 : ([] : List Nat) ++ [41] = x.r.map sg ++ [41] := h3
  exact h1 (List.map_eq_nil_iff.mp (snoc_inj e4).1.symm)
theorem no_parse_nil {p : List Nat} (n : 46 ∉ p) (b : Int) (x : Wr) : ¬ Parse b (p ++ [46]) x := fun pr => by
  obtain ⟨W, ok, e2, ew, fa, fr, nc, e3⟩ := parse_some n (q := []) pr
  unfold txB at e3
  have h := congrArg List.length e3
  rw [List.length_append, List.length_map] at h
  refine nc ⟨List.eq_nil_of_length_eq_zero (by have : ([] : List Nat).length = 0 := rfl; omega), ?_⟩
  by_cases c : x.r = []
  · exact c
  · rw [if_neg c, List.length_cons] at h
    have : ([] : List Nat).length = 0 := rfl
    omega
section
variable {P : Program} {w : World} {K : PySem.W.Frag} {mg : Str → Option Value} {base : Heap}
theorem ok_xlawparted {f : Addr} {fd : FuncData} (F : Fun K "_law_parted" "_law_parted" s_xlawparted f fd) (M : Md K mg) {c : Cs} (N : Me K mg c) : FnOk P w K mg base CX0 1 f fd ["text"] (sp_xlawparted K) := by
  refine F.ok sc_xlawparted (fun vs H Q E h => ?_) (fun cdv A outer s H vs Q E hr h => ?_)
  · unfold sp_xlawparted at h; obtain ⟨l, rfl, hl, q, qn⟩ := h
    all_goals rfl
  · have hu := hu_of hr
    unfold sp_xlawparted at h; obtain ⟨l, rfl, hl, q, qn⟩ := h
    refine ⟨_, (pss_cons (ps_if (pt_cmpR op_eq (pe_m1 PySem.F.slot_str_count PySem.F.type_str_count mt_count (pv 0) pe_str) pe_int (nomark _))
        (pss_one (ps_ret (pe_lst (pa_cons (pv 0) (pa_cons pe_str (pa_cons pe_str pa_nil)))))) pss_nil)
      (pss_cons (ps_set (i := 1) sc_xlawparted.nd rfl (.inl rfl) (pe_m1 PySem.F.slot_str_find PySem.F.type_str_find mt_find (pv 0) pe_str))
      (pss_cons (ps_set (i := 2) sc_xlawparted.nd rfl (.inl rfl) (pe_slice C8.sl_txt (pv 0) (po_some (pe_op op_add (pv 1) pe_int)) po_none))
      (pss_cons (ps_if (pt_cmpR op_eq (pv 2) pe_str (nomark _))
        (pss_one (ps_ret pe_non)) pss_nil)
      (pss_cons (ps_if (pt_cmpR op_ne (pe_ix ix_str (pv 2) (pe_un un_neg pe_int) (fun _ _ => rfl)) pe_str (nomark _))
        (pss_one (ps_ret (pe_lst (pa_cons (pe_slice C8.sl_txt (pv 0) po_none (po_some (pv 1))) (pa_cons (pv 2) (pa_cons pe_str pa_nil)))))) pss_nil)
      (pss_cons (ps_set (i := 3) sc_xlawparted.nd rfl (.inl rfl) (pe_m1 PySem.F.slot_str_find PySem.F.type_str_find mt_find (pv 2) pe_str))
      (pss_cons (ps_if (PW.pt (pw_or (pt_cmpR op_lt (pv 3) pe_int (nomark _)) (pw_or1 (pt_cmpR op_eq (pv 3) (pe_op op_sub (pe_callB call_len_str (by rfl) M.m_len PySem.boot_len (pa_cons (pv 2) pa_nil)) pe_int) (nomark _)))))
        (pss_one (ps_ret pe_non)) pss_nil)
      (pss_one (ps_ret (pe_lst (pa_cons (pe_slice C8.sl_txt (pv 0) po_none (po_some (pv 1))) (pa_cons (pe_slice C8.sl_txt (pv 2) po_none (po_some (pv 3))) (pa_cons (pe_slice C8.sl_txt (pv 2) (po_some (pe_op op_add (pv 3) pe_int)) (po_some (pe_un un_neg pe_int))) pa_nil))))))))))))), ?_⟩
    walk_at "st"
    refine ⟨⟨_, rfl⟩, _, _, rfl, rfl, ?_⟩
    rw [tx_dot]
    walk_at "st"
    rcases at_sign 46 l with n | ⟨p, q', e, n⟩
    · refine iteE (fun _ => ?_) (fun h => absurd (count_zero.mpr n) h)
      walk_at "st"
      intro D nD
      have h := q l [] [] (parted_none n) hl (Nat.zero_le _) (Nat.zero_le _) D nD
      rw [← tx_nil] at h
      exact h
    have lens := congrArg List.length e
    rw [List.length_append, List.length_cons] at lens
    have b1 : p.length ≤ 10000 := by omega
    have b2 : q'.length + 1 ≤ 10000 := by omega
    clear lens
    refine iteE (fun h => absurd (by rw [e]; simp) (count_zero.mp h)) (fun _ => ?_)
    subst e
    walk_at "st"
    refine ⟨⟨_, rfl⟩, _, _, rfl, rfl, ?_⟩
    rw [find_at q' n]
    walk_at "st"
    refine ⟨sz100 (by rw [tx_len]; omega), ?_⟩
    rw [slice_behind]
    walk_at "st"
    rw [tx_nil]
    rcases snoc_or q' with rfl | ⟨t, d, rfl⟩
    · refine iteD (fun _ => ?_) (fun h => absurd rfl h)
      walk_at "st"
      exact qn (fun b x => no_parse_nil n b x)
    refine iteD (fun h => absurd (tx_inj (V.str.inj h)) (by simp)) (fun _ => ?_)
    walk_at "st"
    have b3 : t.length + 2 ≤ 10000 := by
      rw [List.length_append, List.length_singleton] at b2
      exact b2
    have lt : (tx (t ++ [d])).length ≤ sizeLine := sz100 (by rw [tx_len]; omega)
    refine ⟨tx (t ++ [d]), _, d, rfl, rfl, lt, atI_last t d, ?_⟩
    walk_at "st"
    rw [show (⟨#[d]⟩ : Str) = tx [d] from rfl, tx_close]
    have l1 : [d].length = 1 := rfl
    refine iteDn (fun hd => ?_) (fun hd => ?_)
    · walk_at "st"
      refine ⟨sz100 (by rw [tx_len]; omega), ?_⟩
      rw [slice_ahead]
      walk_at "st"
      intro D nD
      exact q p (t ++ [d]) [] (parted_plain n (fun z => hd (by rw [z]))) (by omega) (by omega) (Nat.zero_le _) D nD
    have hd41 : d = 41 := (List.cons.inj (tx_inj (V.str.inj hd))).1
    subst hd41
    walk_at "st"
    refine ⟨⟨_, rfl⟩, _, _, rfl, rfl, ?_⟩
    rw [tx_open]
    rcases at_sign 40 (t ++ [41]) with no | ⟨s, u, eu, ns⟩
    · rw [find_no no]
      walk_at "st"
      exact qn (no_parse_open n no)
    obtain ⟨t', rfl⟩ : ∃ t', t = s ++ 40 :: t' := by
      rcases snoc_or u with rfl | ⟨t', e, rfl⟩
      · have e1 : t ++ [41] = s ++ [40] := eu
        exact absurd (snoc_inj e1).2 (by decide)
      · have e1 : t ++ [41] = (s ++ 40 :: t') ++ [e] := by rw [eu, List.append_assoc]; rfl
        exact ⟨t', (snoc_inj e1).1⟩
    have ea : (s ++ 40 :: t') ++ [41] = s ++ 40 :: (t' ++ [41]) := by rw [List.append_assoc]; rfl
    rw [ea] at lt hl q qn ⊢
    rw [find_at _ ns]
    rw [List.length_append, List.length_cons] at b3
    walk_at "st"
    refine ⟨lt, ?_⟩
    walk_at "st"
    have el : (tx (s ++ 40 :: (t' ++ [41]))).length = s.length + (t'.length + 2) := by
      rw [tx_len, List.length_append, List.length_cons, List.length_append]; rfl
    rw [el]
    refine iteE (fun h => ?_) (fun h => ?_)
    · have ht' : t' = [] := List.eq_nil_of_length_eq_zero (by omega)
      subst ht'
      walk_at "st"
      exact qn (no_parse_empty n ns)
    have ht' : t' ≠ [] := fun z => h (by rw [z]; show (s.length : Int) = ((s.length + (0 + 2) : Nat) : Int) - 2; omega)
    walk_at "st"
    refine ⟨sz100 (by rw [tx_len]; omega), ?_⟩
    rw [slice_ahead]
    walk_at "st"
    rw [slice_ahead, slice_mid]
    intro D nD
    exact q p s t' (parted_ring n ns ht') (by omega) (by omega) (by omega) D nD
end
abbrev s_xlawread : Stmt := topS 26
theorem sc_xlawread : FnScope ["base", "text", "parts", "rows", "part"] ["base", "text"] (defScope s_xlawread) := ⟨rfl, rfl, rfl, by decide +kernel, rfl, by decide +kernel, by decide +kernel⟩
def RowNew (H0 H : Hp) (b : Nat) (l : List Nat) (y : V) : Prop := (y = .non ∧ ∀ ns, l = ns.map sg → ¬ Figs b ns) ∨ ∃ p ns, y = .ref p ∧ l = ns.map sg ∧ Figs b ns ∧ H p = some (.lst (ns.map V.int)) ∧ H0 p = none
def RowOf (H : Hp) (D : Addr) (b : Nat) (l : List Nat) (y : V) : Prop := (y = .non ∧ ∀ ns, l = ns.map sg → ¬ Figs b ns) ∨ ∃ p ns, y = .ref p ∧ l = ns.map sg ∧ Figs b ns ∧ H p = some (.lst (ns.map V.int)) ∧ p ≠ D
def Rows (H : Hp) (D : Addr) (b : Nat) : List (List Nat) → List V → Prop
  | [], [] => True
  | l :: ls, y :: ys => RowOf H D b l y ∧ Rows H D b ls ys
  | _, _ => False
theorem RowNew.of {H0 H : Hp} {b : Nat} {l : List Nat} {y : V} {D : Addr} {o : HO} (h : RowNew H0 H b l y) (hD : H0 D = some o) : RowOf H D b l y := by
  rcases h with h | ⟨p, ns, e1, e2, f, k, n⟩
  · exact .inl h
  · exact .inr ⟨p, ns, e1, e2, f, k, fun e => by rw [e, hD] at n; cases n⟩
theorem RowOf.same {H H' : Hp} {D : Addr} {b : Nat} {l : List Nat} {y : V} (h : RowOf H D b l y) (s : Same H H') : RowOf H' D b l y := by
  rcases h with h | ⟨p, ns, e1, e2, f, k, n⟩
  · exact .inl h
  · exact .inr ⟨p, ns, e1, e2, f, s _ _ k, n⟩
theorem RowOf.put {H : Hp} {D : Addr} {b : Nat} {l : List Nat} {y : V} {o : HO} (h : RowOf H D b l y) : RowOf (upd H D o) D b l y := by
  rcases h with h | ⟨p, ns, e1, e2, f, k, n⟩
  · exact .inl h
  · exact .inr ⟨p, ns, e1, e2, f, (upd_ne n).trans k, n⟩
theorem rows_map {H H' : Hp} {D : Addr} {b : Nat} (f : ∀ l y, RowOf H D b l y → RowOf H' D b l y) : ∀ {ls : List (List Nat)} {ys : List V}, Rows H D b ls ys → Rows H' D b ls ys
  | [], [], _ => trivial
  | _ :: _, _ :: _, h => ⟨f _ _ h.1, rows_map f h.2⟩
  | [], _ :: _, h => h
  | _ :: _, [], h => h
theorem rows_snoc {H : Hp} {D : Addr} {b : Nat} {l : List Nat} {y : V} (h2 : RowOf H D b l y) : ∀ {ls : List (List Nat)} {ys : List V}, Rows H D b ls ys → Rows H D b (ls ++ [l]) (ys ++ [y])
  | [], [], _ => ⟨h2, trivial⟩
  | _ :: _, _ :: _, h => ⟨h.1, rows_snoc h2 h.2⟩
  | [], _ :: _, h => h.elim
  | _ :: _, [], h => h.elim
theorem rows_len {H : Hp} {D : Addr} {b : Nat} : ∀ {ls : List (List Nat)} {ys : List V}, Rows H D b ls ys → ys.length = ls.length
  | [], [], _ => rfl
  | _ :: _, _ :: _, h => congrArg (· + 1) (rows_len h.2)
  | [], _ :: _, h => h.elim
  | _ :: _, [], h => h.elim
/-- over a list of texts: each gives a row -/
theorem lc_rows {K : PySem.W.Frag} {a D : Addr} {b : Nat} {ls : List (List Nat)} {te : TE} {vs : List Nat} {σ : L2.St} {i : Nat} {H : Hp} {Qd : Hp → Prop} (hS : SqL K H a (ls.map fun l => V.str (tx l))) (nD : H D = none) (hlen : ls.length < 1000000)
    (hw : ∀ x, wipe ((wipe σ vs).set i (some x)) vs = wipe σ vs)
    (he : ∀ l, l ∈ ls → ∀ H' (Q : VK), Same H H' → (∀ H2 y, Same H' H2 → RowNew H' H2 b l y → Q y H2) → te ((wipe σ vs).set i (some (.str (tx l)))) H' Q) (hd : ∀ H' ys, Same H H' → H' D = some (.lst ys) → Rows H' D b ls ys → Qd H') :
    ∃ W : Nat → Nat → Hp → Prop, (∃ m, W 0 m (upd H D (.lst []))) ∧ ∀ j m H, W j m H →
      ((Itl K a).stop j H ∧ Qd H) ∨ ((Itl K a).go j H ∧ ∃ Nx : Hp → Prop, (∀ H', Nx H' → ∃ m', m' < m ∧ W (j + 1) m' H') ∧ ∀ x H', (Itl K a).yld j H x H' → gName i x (wipe σ vs) H' fun σ2 H2 => wipe σ2 vs = wipe σ vs ∧ tYes σ2 H2 fun b H3 =>
        if b = true then te σ2 H3 fun y H4 => ∃ acc, H4 D = some (.lst acc) ∧ acc.length < sizeLine ∧ Nx (upd H4 D (.lst (acc ++ [y]))) else Nx H3) := by
  refine lc_list (K := K) (a := a) (xs := ls.map fun l => V.str (tx l)) (fun j H' => Same H H' ∧ ∃ ys, H' D = some (.lst ys) ∧ Rows H' D b (ls.take j) ys) ⟨same_upd nD, [], upd_same, by rw [List.take_zero]; trivial⟩ (fun j H' _ ⟨s, _⟩ => s.seq hS) (fun j x H' hx ⟨s, ys, hD, hR⟩ => ?_) (fun H' ⟨s, ys, hD, hR⟩ => ?_)
  · refine ⟨hw x, ?_⟩
    rw [List.getElem?_map] at hx
    cases e : ls[j]? with
    | none => rw [e] at hx; cases hx
    | some l =>
      rw [e] at hx
      have e2 : V.str (tx l) = x := Option.some.inj hx
      subst e2
      show te ((wipe σ vs).set i (some (.str (tx l)))) H' _
      refine he l (List.mem_of_getElem? e) H' _ s fun H2 y s2 r2 => ⟨ys, s2 _ _ hD, ?_, same_new (s.trans s2) nD, ys ++ [y], upd_same, ?_⟩
      · rw [rows_len hR, List.length_take]
        exact sz100lt (by omega)
      · rw [take_snoc e]
        exact rows_snoc (r2.of hD).put (rows_map (fun _ _ h => (h.same s2).put) hR)
  · rw [List.length_map, List.take_length] at hR
    exact hd H' ys s hD hR
/-- a row as data -/
theorem RowOf.dp {K : PySem.W.Frag} {H : Hp} {D : Addr} {b : Nat} {l : List Nat} {y : V} (h : RowOf H D b l y) : ∃ d, Dp K H y d ∧ PyData.canLay0 d = true ∧ PyData.depth d ≤ 1 ∧
    ((PyData.eqv d .none = true ∧ ∀ ns, l = ns.map sg → ¬ Figs b ns) ∨ (PyData.eqv d .none = false ∧ ∃ p ns, y = .ref p ∧ l = ns.map sg ∧ Figs b ns ∧ H p = some (.lst (ns.map V.int)) ∧ p ≠ D)) := by
  rcases h with ⟨rfl, h⟩ | ⟨p, ns, rfl, e2, f, k, n⟩
  · exact ⟨.none, .non, rfl, by decide, .inl ⟨by decide +kernel, h⟩⟩
  · refine ⟨dI ns, dp_dI (sql k), canLay_ints ns, ?_, .inr ⟨?_, p, ns, rfl, e2, f, k, n⟩⟩
    · show PyData.depthAll (ns.map PyData.int) + 1 ≤ 1
      rw [depth_ints]; exact Nat.le_refl _
    · unfold dI
      rw [PyData.eqv]
theorem shaped_three {d e f : PyData} (h1 : PyData.canLay0 d = true) (h2 : PyData.canLay0 e = true) (h3 : PyData.canLay0 f = true) (g1 : PyData.depth d ≤ 1) (g2 : PyData.depth e ≤ 1) (g3 : PyData.depth f ≤ 1) : SeqAt.shaped (.list [d, e, f]) = true := by
  unfold SeqAt.shaped
  show ((PyData.canLay0 d && (PyData.canLay0 e && (PyData.canLay0 f && true))) && decide (max (PyData.depth d) (max (PyData.depth e) (max (PyData.depth f) 0)) + 1 ≤ 64)) = true
  rw [h1, h2, h3]
  exact decide_eq_true (by omega)
@[irreducible] def sp_xlawread (K : PySem.W.Frag) : Sp := fun vs H Q _ => ∃ (z : Int) (b : Nat) (l : List Nat), vs = [.int z, .str (tx l)] ∧ z = b ∧ 2 ≤ b ∧ b ≤ 36 ∧ l.length ≤ 10000 ∧
  (∀ x, Parse b l x → ∀ H' p a r, Same H H' → WrAt H' p a r x → Q (.ref p) H') ∧ ((∀ x, ¬ Parse b l x) → ∀ H', Same H H' → Q .non H')
theorem go_xlawread {K : PySem.W.Frag} {H : Hp} {z : Int} {Q : VK} {E : XK} (b : Nat) (l : List Nat) (hz : z = b) (h1 : 2 ≤ b) (h2 : b ≤ 36) (hl : l.length ≤ 10000)
    (q : ∀ x, Parse b l x → ∀ H' p a r, Same H H' → WrAt H' p a r x → Q (.ref p) H') (n : (∀ x, ¬ Parse b l x) → ∀ H', Same H H' → Q .non H') : sp_xlawread K [.int z, .str (tx l)] H Q E := by
  unfold sp_xlawread; exact ⟨z, b, l, rfl, hz, h1, h2, hl, q, n⟩
section
variable {P : Program} {w : World} {K : PySem.W.Frag} {mg : Str → Option Value} {base : Heap}
theorem ok_xlawread {f : Addr} {fd : FuncData} (F : Fun K "_law_read" "_law_read" s_xlawread f fd) (M : Md K mg) {c : Cs} (N : Me K mg c) (c_xlawnumber : Cal P w K mg base 1 "_law_number" (sp_xlawnumber K) []) (c_xlawplaces : Cal P w K mg base 1 "_law_places" (sp_xlawplaces K) []) (c_xlawparted : Cal P w K mg base 1 "_law_parted" (sp_xlawparted K) []) : FnOk P w K mg base CX0 2 f fd ["base", "text"] (sp_xlawread K) := by
  refine F.ok sc_xlawread (fun vs H Q E h => ?_) (fun cdv A outer s H vs Q E hr h => ?_)
  · unfold sp_xlawread at h; obtain ⟨z, b, l, rfl, rfl, h1, h2, hl, q, qn⟩ := h
    all_goals rfl
  · have hu := hu_of hr
    unfold sp_xlawread at h; obtain ⟨z, b, l, rfl, rfl, h1, h2, hl, q, qn⟩ := h
    refine ⟨_, (pss_cons (ps_set (i := 2) sc_xlawread.nd rfl (.inl rfl) (pe_c c_xlawparted hr (by decide) (by rfl) (pa_cons (pv 1) pa_nil)))
      (pss_cons (ps_if (pt_cmpR op_isN (pv 2) pe_non (nomark _))
        (pss_one (ps_ret pe_non)) pss_nil)
      (pss_cons (ps_setLc (i := 3) (own := [("part", 4)]) (g := gName 4) (tt := tYes) rfl sc_xlawread.nd rfl rfl (sw_true rfl rfl rfl (by decide +kernel)) (pi_list (pv 2)) (blkOk_by (own := [("part", 4)]) (N := ["base", "text", "parts", "rows", "part"]) (sc := defScope s_xlawread) (by decide +kernel)) (fun _ _ _ _ _ => (pg_name (i := 4) sc_xlawread.nd rfl (.inl rfl))) (fun _ _ _ _ _ => pts_nil) (fun _ _ _ _ _ => (pe_c c_xlawplaces hr (by decide) (by rfl) (pa_cons (pv 0) (pa_cons (pv 4) pa_nil)))))
      (Evl.pss_cut (ps_if (PW.pt (pw_or (pt_cmpR (op_inD (units65 hr)) pe_non (pv 3) (by rfl)) (pw_or (pt_cmpR (op_eqD hr.units) (pe_ix ix_list (pv 3) pe_int (fun _ _ => rfl)) (pe_lst pa_nil) (nomark _)) (pw_or1 (PW.pt (pw_and (pt_cmpR op_gt (pe_callB call_len_seq (by rfl) M.m_len PySem.boot_len (pa_cons (pe_ix ix_list (pv 3) pe_int (fun _ _ => rfl)) pa_nil)) pe_int (nomark _)) (pw_and1 (pt_cmpR op_eq (pe_ix ix_list (pe_ix ix_list (pv 3) pe_int (fun _ _ => rfl)) pe_int (fun _ _ => rfl)) pe_int (nomark _)))))))))
        (pss_one (ps_ret pe_non)) pss_nil)
      (pss_cons (ps_if (pt_cmpR op_gt (pe_c c_xlawnumber hr (by decide) (by rfl) (pa_cons (pv 0) (pa_cons (pe_ix ix_list (pv 3) pe_int (fun _ _ => rfl)) pa_nil))) (pe_op op_pow pe_int pe_int) (nomark _))
        (pss_one (ps_ret pe_non)) pss_nil)
      (pss_one (ps_ret (pe_tup (pa_cons (pe_c c_xlawnumber hr (by decide) (by rfl) (pa_cons (pv 0) (pa_cons (pe_ix ix_list (pv 3) pe_int (fun _ _ => rfl)) pa_nil))) (pa_cons (pe_ix ix_list (pv 3) pe_int (fun _ _ => rfl)) (pa_cons (pe_ix ix_list (pv 3) pe_int (fun _ _ => rfl)) pa_nil))))))))))), ?_⟩
    walk_at "st"
    refine go_xlawparted l rfl hl (fun p a r pt lp la lr D nD => ?_) (fun n => ?_)
    rotate_left
    · walk_at "st"
      exact qn (n b) _ (fun _ _ h => h)
    have s1 := same_upd (o := .lst [.str (tx p), .str (tx a), .str (tx r)]) nD
    have k1 := upd_same (H := H) (a := D) (o := .lst [.str (tx p), .str (tx a), .str (tx r)])
    generalize upd H D (.lst [.str (tx p), .str (tx a), .str (tx r)]) = H1 at *
    have hS : SqL K H1 D ([p, a, r].map fun l => V.str (tx l)) := sql k1
    walk_at "st"
    refine ⟨⟨_, hS⟩, fun R nR => ?_⟩
    refine lc_rows (K := K) (ls := [p, a, r]) (b := b) hS nR (show 3 < 1000000 by decide) (fun _ => rfl) (fun m hm H2 Q2 s2 q2 => ?_) (fun H2 ys s2 kR hR => ?_)
    · walk_at "st"
      have hml : m.length ≤ 10000 := by
        rcases List.mem_cons.mp hm with rfl | hm
        · exact lp
        rcases List.mem_cons.mp hm with rfl | hm
        · exact la
        rcases List.mem_cons.mp hm with rfl | hm
        · exact lr
        cases hm
      refine go_xlawplaces b m rfl rfl h2 hml (fun ns e f H3 t s3 n3 k3 => ?_) (fun nf H3 s3 => ?_)
      · exact q2 _ _ s3 (.inr ⟨t, ns, rfl, e, f, k3, n3⟩)
      · exact q2 _ _ s3 (.inl ⟨rfl, nf⟩)
    obtain ⟨y0, y1, y2, rfl, r0, r1, r2⟩ : ∃ y0 y1 y2, ys = [y0, y1, y2] ∧ RowOf H2 R b p y0 ∧ RowOf H2 R b a y1 ∧ RowOf H2 R b r y2 := by
      cases ys with
      | nil => exact hR.elim
      | cons y0 ys =>
        cases ys with
        | nil => exact hR.2.elim
        | cons y1 ys =>
          cases ys with
          | nil => exact hR.2.2.elim
          | cons y2 ys =>
            cases ys with
            | nil => exact ⟨y0, y1, y2, rfl, hR.1, hR.2.1, hR.2.2.1⟩
            | cons => exact hR.2.2.2.elim
    have s12 := s1.trans s2
    obtain ⟨d0, p0, c0, g0, o0⟩ := r0.dp (K := K)
    obtain ⟨d1, p1, c1, g1, o1⟩ := r1.dp (K := K)
    obtain ⟨d2, p2, c2, g2, o2⟩ := r2.dp (K := K)
    walk_at "st"
    refine ⟨fun σ H' => ∃ (q0 q1 q2 R : Addr) (W A1 B1 : List Int), Same H H' ∧ H' R = some (.lst [.ref q0, .ref q1, .ref q2]) ∧ H' q0 = some (.lst (W.map V.int)) ∧ H' q1 = some (.lst (A1.map V.int)) ∧ H' q2 = some (.lst (B1.map V.int)) ∧
      p = W.map sg ∧ a = A1.map sg ∧ r = B1.map sg ∧ Figs b W ∧ Figs b A1 ∧ Figs b B1 ∧ W ≠ [] ∧ (W.head? = some 0 → W.length ≤ 1) ∧ σ = [some (.int (b : Int)), some (.str (tx l)), some (.ref D), some (.ref R), none], ?_, fun σ H' hM => ?_⟩
    rotate_left
    · obtain ⟨q0, q1, q2, R, W, A1, B1, sm, kR, kW, kA, kB, eW, eA, eB, fW, fA, fB, ne, hd, rfl⟩ := hM
      walk_at "st"
      refine go_xlawnumber (by omega) (by omega) (sql kW) ?_
      walk_at "st"
      have e12 : (10 : Int) ^ (Int.toNat 12) = 1000000000000 := by decide
      rw [e12]
      refine iteD (fun c => ?_) (fun c => ?_)
      · walk_at "st"
        refine qn (fun x pr => ?_) _ sm
        obtain ⟨⟨V, ok, _, e9⟩, _, _, _, _⟩ := pt.of b x pr
        rw [eW] at e9
        have e8 := map_sg_inj fW ok.f e9
        subst e8
        have := ok.nb
        omega
      walk_at "st"
      refine go_xlawnumber (by omega) (by omega) (sql kW) ?_
      walk_at "st"
      intro T nT
      refine q ⟨numI b W, A1, B1⟩ (pt.back b W A1 B1 ⟨fW, ne, hd, by omega⟩ fA fB eW eA eB) _ T q1 q2 (same_ups sm nT) ⟨upd_same, (upd_ne (ne_of_none kA nT)).trans kA, (upd_ne (ne_of_none kB nT)).trans kB⟩
    walk_at "st"
    refine ⟨.none, [d0, d1, d2], .non, .lst (sql kR) (.cons p0 (.cons p1 (.cons p2 .nil))), by decide, shaped_three c0 c1 c2 g0 g1 g2, ?_⟩
    have eany : ([d0, d1, d2].any fun z => PyData.eqv z .none) = (PyData.eqv d0 .none || (PyData.eqv d1 .none || (PyData.eqv d2 .none || false))) := rfl
    rw [eany]
    have bad : ∀ {c : Bool}, c = true → c = true := fun h => h
    rcases o0 with ⟨e0, n0⟩ | ⟨e0, q0, W, rfl, hW, fW, kW, neW⟩
    · rw [e0]
      walk_at "st"
      refine qn (fun x pr => ?_) _ s12
      obtain ⟨⟨W, ok, _, e⟩, _, _, _, _⟩ := pt.of b x pr
      exact n0 W e ok.f
    rcases o1 with ⟨e1, n1⟩ | ⟨e1, q1, A1, rfl, hA, fA, kA, neA⟩
    · rw [e0, e1]
      walk_at "st"
      refine qn (fun x pr => ?_) _ s12
      obtain ⟨_, e, _, f, _⟩ := pt.of b x pr
      exact n1 _ e f
    rcases o2 with ⟨e2, n2⟩ | ⟨e2, q2, B1, rfl, hB, fB, kB, neB⟩
    · rw [e0, e1, e2]
      walk_at "st"
      refine qn (fun x pr => ?_) _ s12
      obtain ⟨_, _, e, _, f⟩ := pt.of b x pr
      exact n2 _ e f
    rw [e0, e1, e2]
    walk_at "st"
    intro X nX
    have s13 := same_ups (o := .lst []) s12 nX
    have kR' := (upd_ne (o := HO.lst []) (ne_of_none kR nX)).trans kR
    have kW' := (upd_ne (o := HO.lst []) (ne_of_none kW nX)).trans kW
    have kA' := (upd_ne (o := HO.lst []) (ne_of_none kA nX)).trans kA
    have kB' := (upd_ne (o := HO.lst []) (ne_of_none kB nX)).trans kB
    have kX' := upd_same (H := H2) (a := X) (o := HO.lst [])
    generalize upd H2 X (.lst []) = H3 at *
    walk_at "st"
    refine ⟨dI W, dI [], dp_dI (sql kW'), dp_dI (sql kX'), shaped_dI _, shaped_dI _, ?_⟩
    rw [eqv_dI]
    by_cases e : W = []
    · rw [decide_eq_true e]
      walk_at "st"
      refine qn (fun x pr => ?_) _ s13
      obtain ⟨⟨V, ok, _, e9⟩, _, _, _, _⟩ := pt.of b x pr
      rw [hW, e] at e9
      exact ok.ne (List.map_eq_nil_iff.mp e9.symm)
    rw [decide_eq_false e]
    walk_at "st"
    refine iteD (fun c => ?_) (fun c => ?_)
    · obtain ⟨y, ys, rfl⟩ : ∃ y ys, W = y :: ys := by
        cases W with
        | nil => exact absurd rfl e
        | cons y ys => exact ⟨y, ys, rfl⟩
      walk_at "st"
      refine ⟨q0, _, _, _, rfl, rfl, sql kW', atI_nat (j := 0) rfl, ?_⟩
      walk_at "st"
      refine iteE (fun c0 => ?_) (fun c0 => ?_)
      · walk_at "st"
        refine qn (fun x pr => ?_) _ s13
        obtain ⟨⟨V, ok, _, e9⟩, _, _, _, _⟩ := pt.of b x pr
        rw [hW] at e9
        have e8 := map_sg_inj fW ok.f e9
        subst e8
        have := ok.hd (by rw [c0]; rfl)
        rw [List.length_map] at c
        omega
      · exact ⟨q0, q1, q2, R, _, A1, B1, s13, kR', kW', kA', kB', hW, hA, hB, fW, fA, fB, e, fun z => absurd (Option.some.inj z) c0, rfl⟩
    · rw [List.length_map] at c
      exact ⟨q0, q1, q2, R, W, A1, B1, s13, kR', kW', kA', kB', hW, hA, hB, fW, fA, fB, e, fun _ => by omega, rfl⟩
end
abbrev s_xlawtold : Stmt := topS 27
theorem sc_xlawtold : FnScope ["base", "text", "e"] ["base", "text"] (defScope s_xlawtold) := ⟨rfl, rfl, rfl, by decide +kernel, rfl, by decide +kernel, by decide +kernel⟩
@[irreducible] def sp_xlawtold (K : PySem.W.Frag) (c : Cs) : Sp := fun vs H Q _ => ∃ (z : Int) (l : List Nat), vs = [.int z, .str (tx l)] ∧ l.length ≤ 10000 ∧ (z < 2 ∨ 36 < z → ∀ H', Same H H' → Q (.str (Str.ofString "base")) H') ∧
  (∀ b : Nat, z = b → 2 ≤ b → b ≤ 36 → (∀ x, Parse b l x → x.a.length ≤ 4000 → x.r.length ≤ 4000 → ∀ H' p a r, WrNew H H' p a r x → Q (.ref p) H') ∧ ((∀ x, Parse b l x → 4000 < x.a.length ∨ 4000 < x.r.length) → ∀ H', Same H H' → Q (.str (Str.ofString "note")) H'))
theorem go_xlawtold {K : PySem.W.Frag} {c : Cs} {H : Hp} {z : Int} {Q : VK} {E : XK} (l : List Nat) (hl : l.length ≤ 10000) (e0 : z < 2 ∨ 36 < z → ∀ H', Same H H' → Q (.str (Str.ofString "base")) H')
    (q : ∀ b : Nat, z = b → 2 ≤ b → b ≤ 36 → (∀ x, Parse b l x → x.a.length ≤ 4000 → x.r.length ≤ 4000 → ∀ H' p a r, WrNew H H' p a r x → Q (.ref p) H') ∧ ((∀ x, Parse b l x → 4000 < x.a.length ∨ 4000 < x.r.length) → ∀ H', Same H H' → Q (.str (Str.ofString "note")) H')) : sp_xlawtold K c [.int z, .str (tx l)] H Q E := by
  unfold sp_xlawtold; exact ⟨z, l, rfl, hl, e0, q⟩
section
variable {P : Program} {w : World} {K : PySem.W.Frag} {mg : Str → Option Value} {base : Heap}
theorem ok_xlawtold {f : Addr} {fd : FuncData} (F : Fun K "_law_told" "_law_told" s_xlawtold f fd) (M : Md K mg) {c : Cs} (N : Me K mg c) (c_read : CalX P w K mg base 2 "read" (sp_read K c)) (c_xlawwordof : CalE P w K mg base 1 "_law_word_of" (sp_xlawwordof K c)) : FnOk P w K mg base CX0 3 f fd ["base", "text"] (sp_xlawtold K c) := by
  refine F.ok sc_xlawtold (fun vs H Q E h => ?_) (fun cdv A outer s H vs Q E hr h => ?_)
  · unfold sp_xlawtold at h; obtain ⟨z, l, rfl, hl, e0, qz⟩ := h
    all_goals rfl
  · have hu := hu_of hr
    unfold sp_xlawtold at h; obtain ⟨z, l, rfl, hl, e0, qz⟩ := h
    refine ⟨_, (pss_one (ps_try_as (i := 2) rfl rfl sc_xlawtold.nd rfl rfl ⟨rfl, by decide, .inl N.g_FigureError⟩ takes0
      (fun W pn xe tk _ => (pss_one (ps_ret (pe_x c_read hr (by decide) (by rfl) tk (pa_cons (pv 0) (pa_cons (pv 1) pa_nil))))))
      (fun a oe cls d pn hz hf => (pss_one (ps_ret (pe_e c_xlawwordof hr (by decide) (by rfl) hz hf (pa_cons (pv 2) pa_nil))))))), ?_⟩
    walk_at "st"
    refine go_read l hl (fun bad => ?_) (fun b hz h1 h2 => ⟨fun x pr la lr H' p a r w => (qz b hz h1 h2).1 x pr la lr H' p a r w, fun n H1 s1 => ?_⟩)
    · refine ⟨true, N.w_NoBase.m, fun _ a0 na0 => ?_, fun z => nomatch z⟩
      walk_at "st"
      refine go_xlawwordof 0 N.w_NoBase (fun H6 s6 => ?_)
      exact e0 bad _ s6
    · refine ⟨true, N.w_NoNote.m, fun _ a0 na0 => ?_, fun z => nomatch z⟩
      walk_at "st"
      refine go_xlawwordof 5 N.w_NoNote (fun H6 s6 => ?_)
      exact (qz b hz h1 h2).2 n _ (s1.trans s6)
end
abbrev s_xlawdrawn : Stmt := topS 28
theorem sc_xlawdrawn : FnScope ["script", "base", "signs", "parts", "k", "cell", "way", "whole", "some", "j"] ["script", "base"] (defScope s_xlawdrawn) := ⟨rfl, rfl, rfl, by decide +kernel, rfl, by decide +kernel, by decide +kernel⟩
theorem join_drawn (f : Nat → Int) (n : Nat) : ∃ ms : List Int, ms.length = n ∧ (List.range n).map (fun k => V.str (⟨#[sg (f k)]⟩ : Str)) = (ms.map fun x => (⟨#[sg x]⟩ : Str)).map V.str :=
  ⟨(List.range n).map f, by rw [List.length_map, List.length_range], by rw [List.map_map, List.map_map]; rfl⟩
@[irreducible] def sp_xlawdrawn (K : PySem.W.Frag) : Sp := fun vs H Q _ => ∃ (a : Addr) (ns : List Int) (z : Int) (b : Nat), vs = [.ref a, .int z] ∧ SqL K H a (ns.map V.int) ∧ ns.length ≤ 63 ∧ z = b ∧ 2 ≤ b ∧ b ≤ 36 ∧ ∀ (s : Str) H', s.length ≤ 100 → Same H H' → Q (.str s) H'
theorem go_xlawdrawn {K : PySem.W.Frag} {H : Hp} {a : Addr} {ns : List Int} {z : Int} {Q : VK} {E : XK} (b : Nat) (hz : z = b) (h1 : 2 ≤ b) (h2 : b ≤ 36) (hS : SqL K H a (ns.map V.int)) (hl : ns.length ≤ 63) (q : ∀ (s : Str) H', s.length ≤ 100 → Same H H' → Q (.str s) H') : sp_xlawdrawn K [.ref a, .int z] H Q E := by
  unfold sp_xlawdrawn; exact ⟨a, ns, z, b, rfl, hS, hl, hz, h1, h2, q⟩
section
variable {P : Program} {w : World} {K : PySem.W.Frag} {mg : Str → Option Value} {base : Heap}
theorem ok_xlawdrawn {f : Addr} {fd : FuncData} (F : Fun K "_law_drawn" "_law_drawn" s_xlawdrawn f fd) (M : Md K mg) {c : Cs} (N : Me K mg c) (c_xlawcellat : Cal P w K mg base 1 "_law_cell_at" (sp_xlawcellat K) []) (c_xlawdraw : Cal P w K mg base 1 "_law_draw" (sp_xlawdraw K) []) : FnOk P w K mg base CX0 2 f fd ["script", "base"] (sp_xlawdrawn K) := by
  refine F.ok sc_xlawdrawn (fun vs H Q E h => ?_) (fun cdv A outer s H vs Q E hr h => ?_)
  · unfold sp_xlawdrawn at h; obtain ⟨a, ns, z, b, rfl, hS, hlen, rfl, h1, h2, q⟩ := h
    all_goals rfl
  · have hu := hu_of hr
    unfold sp_xlawdrawn at h; obtain ⟨a, ns, z, b, rfl, hS, hlen, rfl, h1, h2, q⟩ := h
    refine ⟨_, (pss_cons (ps_set (i := 2) sc_xlawdrawn.nd rfl (.inr rfl) pe_str)
      (pss_cons (ps_set (i := 3) sc_xlawdrawn.nd rfl (.inl rfl) (pe_lst pa_nil))
      (Evl.pss_cut (ps_for PassesOwn.never rfl (pi_range1 (by rfl) M.m_range (pa_cons pe_int pa_nil)) (pg_name (i := 4) sc_xlawdrawn.nd rfl (.inl rfl))
        (pss_cons (ps_set (i := 5) sc_xlawdrawn.nd rfl (.inr rfl) (pe_c c_xlawcellat hr (by decide) (by rfl) (pa_cons (pv 0) (pa_cons (pe_op op_add pe_int (pv 4)) pa_nil))))
      (pss_one (ps_expr (pe_bm PySem.F.plainAttrs_list PySem.F.slot_list_append PySem.F.type_list_append mt_append (pv 3) (pa_cons (pe_join pe_str (pe_lc (own := [("j", 9)]) (g := gName 9) (tt := tYes) rfl sc_xlawdrawn.nd (pi_range1 (by rfl) M.m_range (pa_cons (pe_op op_add pe_int (pe_op op_mod (pv 5) pe_int)) pa_nil)) (blkOk_by (own := [("j", 9)]) (N := ["script", "base", "signs", "parts", "k", "cell", "way", "whole", "some", "j"]) (sc := defScope s_xlawdrawn) (by decide +kernel)) (fun _ _ _ _ _ => (pg_name (i := 9) sc_xlawdrawn.nd rfl (.inl rfl))) (fun _ _ _ _ _ => pts_nil) (fun _ _ _ _ _ => (pe_ix ix_str (pv 2) (pe_c c_xlawdraw hr (by decide) (by rfl) (pa_cons (pv 5) (pa_cons (pv 9) (pa_cons (pv 1) pa_nil)))) (fun _ _ => rfl))))) pa_nil))))))
      (pss_cons (ps_set (i := 6) sc_xlawdrawn.nd rfl (.inl rfl) (pe_op op_mod (pe_c c_xlawcellat hr (by decide) (by rfl) (pa_cons (pv 0) (pa_cons pe_int pa_nil))) pe_int))
      (pss_cons (ps_set (i := 7) sc_xlawdrawn.nd rfl (.inl rfl) (pe_ix ix_list (pv 3) pe_int (fun _ _ => rfl)))
      (Evl.pss_cut (ps_while PassesOwn.never (PW.pt (pw_and (pt_cmpR op_gt (pe_callB call_len_str (by rfl) M.m_len PySem.boot_len (pa_cons (pv 7) pa_nil)) pe_int (nomark _)) (pw_and1 (pt_cmpR op_eq (pe_ix ix_str (pv 7) pe_int (fun _ _ => rfl)) pe_str (nomark _)))))
        (pss_one (ps_set (i := 7) sc_xlawdrawn.nd rfl (.inl rfl) (pe_slice C8.sl_txt (pv 7) (po_some pe_int) po_none))))
      (pss_cons (ps_set (i := 8) sc_xlawdrawn.nd rfl (.inl rfl) (pe_lst (pa_cons (pv 7) (pa_cons (pe_op op_add_str (pe_op op_add_str (pv 7) pe_str) (pe_ix ix_list (pv 3) pe_int (fun _ _ => rfl))) (pa_cons (pe_op op_add_str (pe_op op_add_str (pe_op op_add_str (pe_op op_add_str (pe_op op_add_str (pv 7) pe_str) (pe_ix ix_list (pv 3) pe_int (fun _ _ => rfl))) pe_str) (pe_ix ix_list (pv 3) pe_int (fun _ _ => rfl))) pe_str) pa_nil)))))
      (pss_cons (ps_set (i := 8) sc_xlawdrawn.nd rfl (.inl rfl) (pe_op op_cat (pv 8) (pe_lst (pa_cons (pe_op op_add_str (pe_op op_add_str (pe_op op_add_str (pv 7) pe_str) (pe_ix ix_list (pv 3) pe_int (fun _ _ => rfl))) pe_str) (pa_cons (pe_op op_add_str (pe_op op_add_str (pe_ix ix_list (pv 3) pe_int (fun _ _ => rfl)) pe_str) (pe_ix ix_list (pv 3) pe_int (fun _ _ => rfl))) pa_nil)))))
      (pss_one (ps_ret (pe_ix ix_list (pv 8) (pv 6) (fun _ _ => rfl)))))))))))), ?_⟩
    have szS : SIG.length ≤ sizeLine := by decide +kernel
    walk_at "st"
    intro p1 np1
    refine abs_name (fun G => Same H G ∧ ∃ ys, G p1 = some (.lst ys) ∧ Txs 5 0 ys) ⟨same_upd np1, _, upd_same, txs_nil⟩ (fun H1 ⟨s1, L1, k1, t1⟩ => ?_)
    walk_at "st"
    have szS : SIG.length ≤ sizeLine := by decide +kernel
    refine ⟨fun σ H' => ∃ (ys : List V) (y4 y5 : Option V), Same H H' ∧ H' p1 = some (.lst ys) ∧ Txs 5 3 ys ∧ σ = [some (.ref a), some (.int (b : Int)), some (.str SIG), some (.ref p1), y4, y5, none, none, none, none], ?_, fun σ H' hM => ?_⟩
    · walk_at "st"
      refine ⟨by decide, by decide, for_range (lo := 0) (n := 3) (fun i σ H' => ∃ (ys : List V) (y4 y5 : Option V), Same H H' ∧ H' p1 = some (.lst ys) ∧ Txs 5 i ys ∧ σ = [some (.ref a), some (.int (b : Int)), some (.str SIG), some (.ref p1), y4, y5, none, none, none, none]) ⟨L1, none, none, s1, k1, t1, rfl⟩ (fun i σ H' hi hv => ?_) (fun σ H' hv => hv)⟩
      obtain ⟨ys, y4, y5, sm, kp, ty, rfl⟩ := hv
      have hSm := sm.seq hS
      walk_at "st"
      refine ⟨.inl ⟨rfl, _, sql kp⟩, ?_⟩
      generalize cl ns _ = c
      have u1 : 0 ≤ c % 5 := Int.emod_nonneg _ (by decide)
      have u2 : c % 5 < 5 := Int.emod_lt_of_pos _ (by decide)
      obtain ⟨n, hn⟩ : ∃ n : Nat, 1 + c % 5 = n := ⟨(1 + c % 5).toNat, by omega⟩
      refine ⟨⟨_, rfl⟩, ?_⟩
      walk_at "st"
      rw [hn]
      refine ⟨by omega, by omega, fun D nD => ?_⟩
      refine lc_rng (fun k => V.str (⟨#[sg (drw c ((k : Nat) : Int) b)]⟩ : Str)) nD (by omega) (fun _ => rfl) (fun k hk H2 Q' s2 q' => ?_) (fun H2 s2 hD => ?_)
      · walk_at "st"
        refine go_xlawdraw (by omega) (by omega) (by omega) ?_
        have dk := drw_ok c ((k : Nat) : Int) (b := (b : Int)) (by omega)
        refine ⟨SIG, _, _, rfl, rfl, szS, sig_at dk.1 (by omega), ?_⟩
        exact q' _ (Same.refl _)
      · obtain ⟨ms, lm, em⟩ := join_drawn (fun k => drw c ((k : Nat) : Int) b) n
        have en : (n : Int).toNat = n := Int.toNat_natCast n
        rw [en, em] at hD
        refine ⟨_, D, _, rfl, rfl, .inl (sql hD), ?_, ?_⟩
        · rw [sum_signs, List.length_map]
          have e0 : (Str.ofString "").length = 0 := by decide +kernel
          rw [e0]
          exact sz100 (by omega)
        · rw [join_signs]
          have kp2 := s2 _ _ kp
          refine ⟨p1, _, _, rfl, rfl, kp2, sz100lt (by rw [ty.1]; omega), ?_⟩
          exact ⟨_, _, _, same_new (sm.trans s2) np1, upd_same, txs_app ty (txs_cons (by rw [sgs_len]; omega) txs_nil), rfl⟩
    obtain ⟨ys, y4, y5, sm, kp, ty, rfl⟩ := hM
    have hSm := sm.seq hS
    walk_at "st"
    obtain ⟨a0, a1, a2, rfl, n0, n1, n2⟩ := txs_three ty
    walk_at "st"
    refine ⟨fun σ H2 => H' = H2 ∧ ∃ w : Str, w.length ≤ 5 ∧ σ = [some (.ref a), some (.int (b : Int)), some (.str SIG), some (.ref p1), y4, y5, some (.int (cl ns 4 % 5)), some (.str w), none, none], ?_, fun σ H2 hM => ?_⟩
    · walk_at "st"
      refine ⟨fun μ σ H2 => H' = H2 ∧ ∃ l : List Nat, l.length ≤ 5 ∧ μ = l.length ∧ σ = [some (.ref a), some (.int (b : Int)), some (.str SIG), some (.ref p1), y4, y5, some (.int (cl ns 4 % 5)), some (.str (tx l)), none, none], ⟨_, rfl, a0.cps.toList, n0, rfl, rfl⟩, fun μ σ H2 hW => ?_⟩
      obtain ⟨rfl, l, hl, rfl, rfl⟩ := hW
      walk_at "st"
      have szl : (tx l).length ≤ sizeLine := sz100 (by rw [tx_len]; omega)
      refine ⟨szl, ?_⟩
      rw [tx_len]
      walk_at "st"
      refine iteD (fun c => ?_) (fun c => ?_)
      · obtain ⟨d, l', rfl⟩ : ∃ d l', l = d :: l' := by
          cases l with
          | nil => exact absurd c (by decide)
          | cons d l' => exact ⟨d, l', rfl⟩
        have hl' : l'.length + 1 ≤ 5 := hl
        walk_at "st"
        refine ⟨tx (d :: l'), _, d, rfl, rfl, szl, atI_nat (j := 0) rfl, ?_⟩
        walk_at "st"
        refine iteD (fun c2 => ?_) (fun c2 => ?_)
        · refine ⟨fun σ2 H2 => H' = H2 ∧ σ2 = [some (.ref a), some (.int (b : Int)), some (.str SIG), some (.ref p1), y4, y5, some (.int (cl ns 4 % 5)), some (.str (tx l')), none, none], fun σ2 H2 ⟨e1, e2⟩ => ⟨l'.length, Nat.lt_succ_self _, e1, l', by omega, rfl, e2⟩, ?_⟩
          walk_at "st"
          have es : Txt.slice (tx (d :: l')) (some 1) none = tx l' := SX.slice_from (a := d :: l') (i := 1) (by decide)
          rw [es]
          refine ⟨szl, ?_⟩
          exact ⟨rfl, rfl⟩
        · exact ⟨rfl, _, by rw [tx_len]; exact hl, rfl⟩
      · exact ⟨rfl, _, by rw [tx_len]; exact hl, rfl⟩
    obtain ⟨rfl, w, hw, rfl⟩ := hM
    have c1 : (Str.ofString ".").length = 1 := by decide +kernel
    have c2 : (Str.ofString "(").length = 1 := by decide +kernel
    have c3 : (Str.ofString ")").length = 1 := by decide +kernel
    have c4 : (Str.ofString ".(").length = 2 := by decide +kernel
    have f1 : (w ++ Str.ofString ".").length ≤ 6 := by rw [len_app]; omega
    have f2 : (w ++ Str.ofString "." ++ a1).length ≤ 11 := by rw [len_app]; omega
    have f3 : (w ++ Str.ofString "." ++ a1 ++ Str.ofString "(").length ≤ 12 := by rw [len_app]; omega
    have f4 : (w ++ Str.ofString "." ++ a1 ++ Str.ofString "(" ++ a2).length ≤ 17 := by rw [len_app]; omega
    have f5 : (w ++ Str.ofString "." ++ a1 ++ Str.ofString "(" ++ a2 ++ Str.ofString ")").length ≤ 18 := by rw [len_app]; omega
    have f6 : (w ++ Str.ofString ".(").length ≤ 7 := by rw [len_app]; omega
    have f7 : (w ++ Str.ofString ".(" ++ a2).length ≤ 12 := by rw [len_app]; omega
    have f8 : (w ++ Str.ofString ".(" ++ a2 ++ Str.ofString ")").length ≤ 13 := by rw [len_app]; omega
    have f9 : (a0 ++ Str.ofString ".").length ≤ 6 := by rw [len_app]; omega
    have g1 : (a0 ++ Str.ofString "." ++ a1).length ≤ 11 := by rw [len_app]; omega
    walk_at "st"
    intro p2 np2
    refine abs_name (fun G => Same H G ∧ G p1 = some (.lst [.str a0, .str a1, .str a2]) ∧ ∃ ys, G p2 = some (.lst ys) ∧ Txs 100 3 ys) ⟨same_ups sm np2, (upd_ne (ne_of_none kp np2)).trans kp, _, upd_same, txs_cons (by omega) (txs_cons (by omega) (txs_cons (by omega) txs_nil))⟩ (fun H2 ⟨s2, kp2, L2, k2, t2⟩ => ?_)
    clear np2 hSm sm kp
    walk_at "st"
    intro p3 np3
    walk_at "st"
    refine ⟨p2, p3, _, _, rfl, rfl, (upd_ne (ne_of_none k2 np3)).trans k2, upd_same, sz100 (by rw [t2.1]; show 3 + 2 ≤ 1000000; decide), fun p4 np4 => ?_⟩
    refine abs_name (fun G => Same H G ∧ ∃ ys, G p4 = some (.lst ys) ∧ Txs 100 (3 + 2) ys) ⟨same_ups (same_ups s2 np3) np4, _, upd_same, txs_app t2 (txs_cons (by omega) (txs_cons (by omega) txs_nil))⟩ (fun H4 ⟨s4, L4, k4, t4⟩ => ?_)
    walk_at "st"
    have w1 : 0 ≤ cl ns 4 % 5 := Int.emod_nonneg _ (by decide)
    have w2 : cl ns 4 % 5 < 5 := Int.emod_lt_of_pos _ (by decide)
    obtain ⟨o, eo, lo⟩ := t4.pick w1 w2
    refine ⟨p4, _, _, _, rfl, rfl, sql k4, eo, ?_⟩
    exact q _ _ lo s4
end
abbrev s_xlawshown : Stmt := topS 29
theorem sc_xlawshown : FnScope ["base", "number", "text"] ["base", "number"] (defScope s_xlawshown) := ⟨rfl, rfl, rfl, by decide +kernel, rfl, by decide +kernel, by decide +kernel⟩
@[irreducible] def sp_xlawshown (K : PySem.W.Frag) : Sp := fun vs H Q _ => ∃ (z y : Int) (b n : Nat), vs = [.int z, .int y] ∧ z = b ∧ y = n ∧ 2 ≤ b ∧ b ≤ 36 ∧ n ≤ 2 ^ 41 ∧ ∀ s : Str, s.length ≤ 42 → Q (.str s) H
theorem go_xlawshown {K : PySem.W.Frag} {H : Hp} {z y : Int} {Q : VK} {E : XK} (b n : Nat) (hz : z = b) (hy : y = n) (h1 : 2 ≤ b) (h2 : b ≤ 36) (hn : n ≤ 2 ^ 41) (q : ∀ s : Str, s.length ≤ 42 → Q (.str s) H) : sp_xlawshown K [.int z, .int y] H Q E := by
  unfold sp_xlawshown; exact ⟨z, y, b, n, rfl, hz, hy, h1, h2, hn, q⟩
section
variable {P : Program} {w : World} {K : PySem.W.Frag} {mg : Str → Option Value} {base : Heap}
theorem ok_xlawshown {f : Addr} {fd : FuncData} (F : Fun K "_law_shown" "_law_shown" s_xlawshown f fd) (M : Md K mg) {c : Cs} (N : Me K mg c) : FnOk P w K mg base CX0 1 f fd ["base", "number"] (sp_xlawshown K) := by
  refine F.ok sc_xlawshown (fun vs H Q E h => ?_) (fun cdv A outer s H vs Q E hr h => ?_)
  · unfold sp_xlawshown at h; obtain ⟨z, y, b, n, rfl, rfl, rfl, h1, h2, hn, q⟩ := h
    all_goals rfl
  · have hu := hu_of hr
    unfold sp_xlawshown at h; obtain ⟨z, y, b, n, rfl, rfl, rfl, h1, h2, hn, q⟩ := h
    have sat : ∀ k : Nat, atI SIG.cps.toList ((k : Int) % (b : Int)) = some (sg ((k % b : Nat) : Int)) := fun k => by
      have h3 := Int.emod_nonneg (k : Int) (show (b : Int) ≠ 0 by omega)
      have h4 := Int.emod_lt_of_pos (k : Int) (show (0 : Int) < b by omega)
      exact sig_at h3 (by omega)
    have szS : SIG.length ≤ sizeLine := by decide +kernel
    refine ⟨_, (pss_cons (ps_set (i := 2) sc_xlawshown.nd rfl (.inl rfl) pe_str)
      (pss_cons (ps_while PassesOwn.never (pt_cmpR op_gt (pv 1) pe_int (nomark _))
        (pss_cons (ps_set (i := 2) sc_xlawshown.nd rfl (.inl rfl) (pe_op op_add_str (pe_ix ix_str pe_str (pe_op op_mod (pv 1) (pv 0)) (fun _ _ => rfl)) (pv 2)))
      (pss_one (ps_set (i := 1) sc_xlawshown.nd rfl (.inl rfl) (pe_op op_fdivP (pv 1) (pv 0))))))
      (pss_one (ps_ret (pv 2))))), ?_⟩
    walk_at "st"
    refine ⟨fun μ σ H' => ∃ (m : Nat) (l : Str), μ = m ∧ m * 2 ^ l.length ≤ 2 ^ 41 ∧ l.length ≤ 42 ∧ H = H' ∧ σ = [some (.int (b : Int)), some (.int (m : Int)), some (.str l)], ⟨n, n, Str.ofString "", rfl, ?_, ?_, rfl, ?_⟩, fun μ σ H' hW => ?_⟩
    · rw [show (Str.ofString "").length = 0 by decide +kernel, Nat.pow_zero, Nat.mul_one]; exact hn
    · decide +kernel
    · rfl
    obtain ⟨m, l, rfl, hm, hl, rfl, rfl⟩ := hW
    walk_at "st"
    refine iteD (fun c => ?_) (fun c => ?_)
    · have hlt : μ / b < μ := Nat.div_lt_self (by omega) (by omega)
      have p1 : 2 ^ l.length ≤ μ * 2 ^ l.length := Nat.le_mul_of_pos_left _ (by omega)
      have p2 : l.length ≤ 41 := (Nat.pow_le_pow_iff_right (by decide : 1 < 2)).mp (Nat.le_trans p1 hm)
      have p3 : μ / b * 2 ≤ μ := Nat.le_trans (Nat.mul_le_mul_left _ h1) (Nat.div_mul_le_self μ b)
      have p4 : μ / b * 2 ^ (1 + l.length) ≤ 2 ^ 41 := by
        rw [Nat.pow_add, Nat.pow_one, ← Nat.mul_assoc]
        exact Nat.le_trans (Nat.mul_le_mul_right _ p3) hm
      have el : ((⟨#[sg ((μ % b : Nat) : Int)]⟩ : Str) ++ l).length = 1 + l.length := len_app _ _
      refine ⟨fun σ2 H2 => H = H2 ∧ σ2 = [some (.int (b : Int)), some (.int ((μ / b : Nat) : Int)), some (.str ((⟨#[sg ((μ % b : Nat) : Int)]⟩ : Str) ++ l))], fun σ2 H2 ⟨e1, e2⟩ => ⟨μ / b, hlt, μ / b, _, rfl, by rw [el]; exact p4, by rw [el]; omega, e1, e2⟩, ?_⟩
      walk_at "st"
      refine ⟨SIG, _, _, rfl, rfl, szS, sat μ, ?_⟩
      walk_at "st"
      refine ⟨sz100 (by show 1 + l.length ≤ _; omega), ?_⟩
      walk_at "st"
      rfl
    · walk_at "st"
      exact q l hl
end
abbrev s_xlawodd : Stmt := topS 30
theorem sc_xlawodd : FnScope ["script", "base", "text", "signs", "some", "sign", "at", "way", "odd"] ["script", "base", "text"] (defScope s_xlawodd) := ⟨rfl, rfl, rfl, by decide +kernel, rfl, by decide +kernel, by decide +kernel⟩
local macro_rules | `(tactic| walk_at "txs") => `(tactic| repeat' first | exact txs_nil | refine txs_cons (by first | decide +kernel | assumption | exact Nat.le_refl 1 | omega) ?_)
@[irreducible] def sp_xlawodd (K : PySem.W.Frag) : Sp := fun vs H Q _ => ∃ (a : Addr) (ns : List Int) (z : Int) (b : Nat) (t : Str), vs = [.ref a, .int z, .str t] ∧ SqL K H a (ns.map V.int) ∧ ns.length ≤ 63 ∧ z = b ∧ 2 ≤ b ∧ b ≤ 36 ∧ t.length ≤ 100 ∧ ∀ (s : Str) H', s.length ≤ 9000 → Same H H' → Q (.str s) H'
theorem go_xlawodd {K : PySem.W.Frag} {H : Hp} {a : Addr} {ns : List Int} {z : Int} {t : Str} {Q : VK} {E : XK} (b : Nat) (hz : z = b) (h1 : 2 ≤ b) (h2 : b ≤ 36) (hS : SqL K H a (ns.map V.int)) (hl : ns.length ≤ 63) (ht : t.length ≤ 100) (q : ∀ (s : Str) H', s.length ≤ 9000 → Same H H' → Q (.str s) H') : sp_xlawodd K [.ref a, .int z, .str t] H Q E := by
  unfold sp_xlawodd; exact ⟨a, ns, z, b, t, rfl, hS, hl, hz, h1, h2, ht, q⟩
section
variable {P : Program} {w : World} {K : PySem.W.Frag} {mg : Str → Option Value} {base : Heap}
theorem ok_xlawodd {f : Addr} {fd : FuncData} (F : Fun K "_law_odd" "_law_odd" s_xlawodd f fd) (M : Md K mg) {c : Cs} (N : Me K mg c) (c_xlawcellat : Cal P w K mg base 1 "_law_cell_at" (sp_xlawcellat K) []) (c_xlawshown : Cal P w K mg base 1 "_law_shown" (sp_xlawshown K) []) : FnOk P w K mg base CX0 2 f fd ["script", "base", "text"] (sp_xlawodd K) := by
  refine F.ok sc_xlawodd (fun vs H Q E h => ?_) (fun cdv A outer s H vs Q E hr h => ?_)
  · unfold sp_xlawodd at h; obtain ⟨a, ns, z, b, t, rfl, hS, hlen, rfl, h1, h2, ht, q⟩ := h
    all_goals rfl
  · have hu := hu_of hr
    unfold sp_xlawodd at h; obtain ⟨a, ns, z, b, t, rfl, hS, hlen, rfl, h1, h2, ht, q⟩ := h
    have szS : SIG.length ≤ sizeLine := by decide +kernel
    have sat : ∀ k : Int, 0 ≤ k → k < 36 → atI SIG.cps.toList k = some (sg k) := fun k h3 h4 => sig_at h3 h4
    refine ⟨_, (pss_cons (ps_set (i := 3) sc_xlawodd.nd rfl (.inl rfl) pe_str)
      (pss_cons (ps_set (i := 4) sc_xlawodd.nd rfl (.inl rfl) (pe_lst (pa_cons pe_str (pa_cons pe_str (pa_cons pe_str (pa_cons pe_str (pa_cons pe_str (pa_cons pe_str (pa_cons pe_str (pa_cons pe_str (pa_cons pe_str (pa_cons pe_str (pa_cons pe_str pa_nil)))))))))))))
      (pss_cons (ps_set (i := 4) sc_xlawodd.nd rfl (.inl rfl) (pe_op op_cat (pv 4) (pe_lst (pa_cons pe_str (pa_cons pe_str (pa_cons (pe_ix ix_str (pv 3) (pe_op op_mod (pv 1) pe_int) (fun _ _ => rfl)) (pa_cons (pe_ix ix_str (pv 3) (pe_op op_sub (pv 1) pe_int) (fun _ _ => rfl)) (pa_cons pe_str pa_nil))))))))
      (pss_cons (ps_set (i := 5) sc_xlawodd.nd rfl (.inl rfl) (pe_ix ix_list (pv 4) (pe_op op_mod (pe_c c_xlawcellat hr (by decide) (by rfl) (pa_cons (pv 0) (pa_cons pe_int pa_nil))) pe_int) (fun _ _ => rfl)))
      (pss_cons (ps_set (i := 6) sc_xlawodd.nd rfl (.inl rfl) (pe_op op_mod (pe_c c_xlawcellat hr (by decide) (by rfl) (pa_cons (pv 0) (pa_cons pe_int pa_nil))) (pe_op op_add (pe_callB call_len_str (by rfl) M.m_len PySem.boot_len (pa_cons (pv 2) pa_nil)) pe_int)))
      (pss_cons (ps_set (i := 7) sc_xlawodd.nd rfl (.inl rfl) (pe_op op_mod (pe_c c_xlawcellat hr (by decide) (by rfl) (pa_cons (pv 0) (pa_cons pe_int pa_nil))) pe_int))
      (pss_cons (ps_if (pt_cmpR op_eq (pv 7) pe_int (nomark _))
        (pss_one (ps_ret (pe_op op_add_str (pe_op op_add_str (pe_slice C8.sl_txt (pv 2) po_none (po_some (pv 6))) (pv 5)) (pe_slice C8.sl_txt (pv 2) (po_some (pv 6)) po_none)))) pss_nil)
      (pss_cons (ps_if (pt_cmpR op_eq (pv 7) pe_int (nomark _))
        (pss_one (ps_ret (pe_op op_add_str (pe_slice C8.sl_txt (pv 2) po_none (po_some (pv 6))) (pe_slice C8.sl_txt (pv 2) (po_some (pe_op op_add (pv 6) pe_int)) po_none)))) pss_nil)
      (pss_cons (ps_if (pt_cmpR op_eq (pv 7) pe_int (nomark _))
        (pss_one (ps_ret (pe_op op_add_str (pe_op op_add_str (pe_slice C8.sl_txt (pv 2) po_none (po_some (pv 6))) (pv 5)) (pe_slice C8.sl_txt (pv 2) (po_some (pe_op op_add (pv 6) pe_int)) po_none)))) pss_nil)
      (pss_cons (ps_set (i := 8) sc_xlawodd.nd rfl (.inl rfl) (pe_lst (pa_cons pe_str (pa_cons pe_str (pa_cons pe_str (pa_cons pe_str (pa_cons pe_str (pa_cons pe_str (pa_cons pe_str (pa_cons pe_str (pa_cons pe_str (pa_cons pe_str (pa_cons pe_str (pa_cons pe_str pa_nil))))))))))))))
      (pss_cons (ps_set (i := 8) sc_xlawodd.nd rfl (.inl rfl) (pe_op op_cat (pv 8) (pe_lst (pa_cons pe_str (pa_cons pe_str (pa_cons pe_str (pa_cons pe_str pa_nil)))))))
      (pss_cons (ps_set (i := 8) sc_xlawodd.nd rfl (.inl rfl) (pe_op op_cat (pv 8) (pe_lst (pa_cons (pe_op op_repS pe_str pe_int) (pa_cons pe_str (pa_cons pe_str (pa_cons pe_str (pa_cons pe_str (pa_cons pe_str (pa_cons (pe_op op_add_str pe_str (pe_op op_repS pe_str pe_int)) (pa_cons (pe_op op_add_str (pe_op op_add_str pe_str (pe_op op_repS pe_str pe_int)) pe_str) pa_nil)))))))))))
      (pss_cons (ps_set (i := 8) sc_xlawodd.nd rfl (.inl rfl) (pe_op op_cat (pv 8) (pe_lst (pa_cons (pe_op op_add_str pe_str (pe_op op_repS pe_str pe_int)) (pa_cons (pe_op op_add_str (pe_op op_add_str (pe_op op_add_str (pe_op op_add_str pe_str (pe_op op_repS pe_str pe_int)) pe_str) (pe_op op_repS pe_str pe_int)) pe_str) pa_nil)))))
      (pss_cons (ps_set (i := 8) sc_xlawodd.nd rfl (.inl rfl) (pe_op op_cat (pv 8) (pe_lst (pa_cons (pe_c c_xlawshown hr (by decide) (by rfl) (pa_cons (pv 1) (pa_cons (pe_op op_pow pe_int pe_int) pa_nil))) (pa_cons (pe_op op_add_str (pe_c c_xlawshown hr (by decide) (by rfl) (pa_cons (pv 1) (pa_cons (pe_op op_add (pe_op op_pow pe_int pe_int) pe_int) pa_nil))) pe_str) pa_nil)))))
      (pss_one (ps_ret (pe_ix ix_list (pv 8) (pe_op op_mod (pe_c c_xlawcellat hr (by decide) (by rfl) (pa_cons (pv 0) (pa_cons pe_int pa_nil))) pe_int) (fun _ _ => rfl)))))))))))))))))), ?_⟩
    walk_at "st"
    intro p1 np1
    refine abs_name (fun G => Same H G ∧ ∃ ys, G p1 = some (.lst ys) ∧ Txs 1 11 ys) ⟨same_upd np1, _, upd_same, by walk_at "txs"⟩ (fun H1 ⟨s1, L1, k1, t1⟩ => ?_)
    walk_at "st"
    have r1 : 0 ≤ (b : Int) % 36 := Int.emod_nonneg _ (by decide)
    have r2 : (b : Int) % 36 < 36 := Int.emod_lt_of_pos _ (by decide)
    refine ⟨SIG, _, _, rfl, rfl, szS, sat _ r1 r2, ?_⟩
    walk_at "st"
    refine ⟨SIG, _, _, rfl, rfl, szS, sat _ (by omega) (by omega), ?_⟩
    walk_at "st"
    intro p2 np2
    walk_at "st"
    refine ⟨p1, p2, _, _, rfl, rfl, (upd_ne (ne_of_none k1 np2)).trans k1, upd_same, sz100 (by rw [t1.1]; show 11 + 5 ≤ 1000000; decide), fun p3 np3 => ?_⟩
    refine abs_name (fun G => Same H G ∧ ∃ ys, G p3 = some (.lst ys) ∧ Txs 1 (11 + 5) ys) ⟨same_ups (same_ups s1 np2) np3, _, upd_same, txs_app t1 (by walk_at "txs")⟩ (fun H3 ⟨s3, L3, k3, t3⟩ => ?_)
    clear t1 k1 s1 np2 np3 np1
    have hS3 := s3.seq hS
    walk_at "st"
    have u1 : 0 ≤ cl ns 6 % 16 := Int.emod_nonneg _ (by decide)
    have u2 : cl ns 6 % 16 < 16 := Int.emod_lt_of_pos _ (by decide)
    obtain ⟨sgn, esgn, lsgn⟩ := t3.pick u1 u2
    refine ⟨p3, _, _, _, rfl, rfl, sql k3, esgn, ?_⟩
    clear u1 u2 esgn t3 k3
    walk_at "st"
    have v1 : 0 ≤ cl ns 7 % ((t.length : Int) + 1) := Int.emod_nonneg _ (by omega)
    have v2 : cl ns 7 % ((t.length : Int) + 1) < (t.length : Int) + 1 := Int.emod_lt_of_pos _ (by omega)
    have szT : t.length ≤ sizeLine := sz100 (by omega)
    have le : ∀ a b : Option Int, (Txt.slice t a b).length ≤ t.length := fun a b => Txt.slice_le t a b
    refine iteE (fun _ => ?_) (fun _ => ?_)
    · walk_at "st"
      refine ⟨sz100 (Nat.le_trans (Nat.add_le_add (le _ _) lsgn) (by omega)), ?_⟩
      walk_at "st"
      refine ⟨sz100 (by rw [len_app]; exact Nat.le_trans (Nat.add_le_add (Nat.add_le_add (le _ _) lsgn) (le _ _)) (by omega)), ?_⟩
      exact q _ _ (by rw [len_app, len_app]; exact Nat.le_trans (Nat.add_le_add (Nat.add_le_add (le _ _) lsgn) (le _ _)) (by omega)) s3
    walk_at "st"
    refine iteE (fun _ => ?_) (fun _ => ?_)
    · walk_at "st"
      refine ⟨sz100 (Nat.le_trans (Nat.add_le_add (le _ _) (le _ _)) (by omega)), ?_⟩
      exact q _ _ (by rw [len_app]; exact Nat.le_trans (Nat.add_le_add (le _ _) (le _ _)) (by omega)) s3
    walk_at "st"
    refine iteE (fun _ => ?_) (fun _ => ?_)
    · walk_at "st"
      refine ⟨sz100 (Nat.le_trans (Nat.add_le_add (le _ _) lsgn) (by omega)), ?_⟩
      walk_at "st"
      refine ⟨sz100 (by rw [len_app]; exact Nat.le_trans (Nat.add_le_add (Nat.add_le_add (le _ _) lsgn) (le _ _)) (by omega)), ?_⟩
      exact q _ _ (by rw [len_app, len_app]; exact Nat.le_trans (Nat.add_le_add (Nat.add_le_add (le _ _) lsgn) (le _ _)) (by omega)) s3
    clear lsgn v1 v2 le szT
    walk_at "st"
    intro p4 np4
    refine abs_name (fun G => Same H G ∧ ∃ ys, G p4 = some (.lst ys) ∧ Txs 9000 12 ys) ⟨same_ups s3 np4, _, upd_same, by walk_at "txs"⟩ (fun H4 ⟨s4, L4, k4, t4⟩ => ?_)
    clear np4 hS3 s3
    walk_at "st"
    intro p5 np5
    walk_at "st"
    refine ⟨p4, p5, _, _, rfl, rfl, (upd_ne (ne_of_none k4 np5)).trans k4, upd_same, sz100 (by rw [t4.1]; show 12 + 4 ≤ 1000000; decide), fun p6 np6 => ?_⟩
    refine abs_name (fun G => Same H G ∧ ∃ ys, G p6 = some (.lst ys) ∧ Txs 9000 (12 + 4) ys) ⟨same_ups (same_ups s4 np5) np6, _, upd_same, txs_app t4 (by walk_at "txs")⟩ (fun H6 ⟨s6, L6, k6, t6⟩ => ?_)
    clear np5 np6 s4 k4 t4
    walk_at "st"
    have c1 : (Str.ofString "1").length = 1 := by decide +kernel
    have c2 : (Str.ofString "1.").length = 2 := by decide +kernel
    have c3 : (Str.ofString "1.(").length = 3 := by decide +kernel
    have c4 : (Str.ofString ")").length = 1 := by decide +kernel
    have c5 : (Str.ofString "(").length = 1 := by decide +kernel
    have c6 : (Str.ofString ".1").length = 2 := by decide +kernel
    have i1 : 1 ≤ (Str.ofString "1").length := by decide +kernel
    have i2 : (Str.ofString "1").length * Int.toNat 60 ≤ 1000000 := by decide +kernel
    have i3 : (Str.ofString "1").length * Int.toNat 4001 ≤ 1000000 := by decide +kernel
    have i4 : (Str.ofString "1").length * Int.toNat 4000 ≤ 1000000 := by decide +kernel
    have j2 : (Str.ofString "1").length * Int.toNat 60 = 60 := by decide +kernel
    have j3 : (Str.ofString "1").length * Int.toNat 4001 = 4001 := by decide +kernel
    have j4 : (Str.ofString "1").length * Int.toNat 4000 = 4000 := by decide +kernel
    refine ⟨by decide, i1, i2, fun z1 l1 => ?_⟩
    have m1 : z1.length ≤ 9000 := by omega
    clear l1
    walk_at "st"
    refine ⟨by decide, i1, i3, fun z2 l2 => ?_⟩
    have y2 : (Str.ofString "1." ++ z2).length = 4003 := by rw [len_app]; omega
    have m2 : (Str.ofString "1." ++ z2).length ≤ 9000 := by omega
    walk_at "st"
    try refine ⟨sz100 (by omega), ?_⟩
    clear l2 y2
    walk_at "st"
    refine ⟨by decide, i1, i3, fun z3 l3 => ?_⟩
    have y3 : (Str.ofString "1.(" ++ z3).length = 4004 := by rw [len_app]; omega
    have m3 : (Str.ofString "1.(" ++ z3 ++ Str.ofString ")").length ≤ 9000 := by rw [len_app]; omega
    walk_at "st"
    try refine ⟨sz100 (by omega), ?_⟩
    walk_at "st"
    try refine ⟨sz100 (by omega), ?_⟩
    clear l3 y3
    walk_at "st"
    intro p7 np7
    walk_at "st"
    refine ⟨p6, p7, _, _, rfl, rfl, (upd_ne (ne_of_none k6 np7)).trans k6, upd_same, sz100 (by rw [t6.1]; show 16 + 8 ≤ 1000000; decide), fun p8 np8 => ?_⟩
    refine abs_name (fun G => Same H G ∧ ∃ ys, G p8 = some (.lst ys) ∧ Txs 9000 (16 + 8) ys) ⟨same_ups (same_ups s6 np7) np8, _, upd_same, txs_app t6 (by walk_at "txs")⟩ (fun H8 ⟨s8, L8, k8, t8⟩ => ?_)
    clear np7 np8 s6 k6 t6 m1 m2 m3
    walk_at "st"
    refine ⟨by decide, i1, i4, fun z4 l4 => ?_⟩
    have y4 : (Str.ofString "1." ++ z4).length = 4002 := by rw [len_app]; omega
    have m4 : (Str.ofString "1." ++ z4).length ≤ 9000 := by omega
    walk_at "st"
    try refine ⟨sz100 (by omega), ?_⟩
    clear l4 y4
    walk_at "st"
    refine ⟨by decide, i1, i4, fun z5 l5 => ?_⟩
    have y5 : (Str.ofString "1." ++ z5).length = 4002 := by rw [len_app]; omega
    have y6 : (Str.ofString "1." ++ z5 ++ Str.ofString "(").length = 4003 := by rw [len_app]; omega
    walk_at "st"
    try refine ⟨sz100 (by omega), ?_⟩
    walk_at "st"
    try refine ⟨sz100 (by omega), ?_⟩
    walk_at "st"
    refine ⟨by decide, i1, i4, fun z6 l6 => ?_⟩
    have y7 : (Str.ofString "1." ++ z5 ++ Str.ofString "(" ++ z6).length = 8003 := by rw [len_app]; omega
    have m5 : (Str.ofString "1." ++ z5 ++ Str.ofString "(" ++ z6 ++ Str.ofString ")").length ≤ 9000 := by rw [len_app]; omega
    walk_at "st"
    try refine ⟨sz100 (by omega), ?_⟩
    walk_at "st"
    try refine ⟨sz100 (by omega), ?_⟩
    clear l5 y5 y6 y7 l6
    walk_at "st"
    intro p9 np9
    walk_at "st"
    refine ⟨p8, p9, _, _, rfl, rfl, (upd_ne (ne_of_none k8 np9)).trans k8, upd_same, sz100 (by rw [t8.1]; show 24 + 2 ≤ 1000000; decide), fun p10 np10 => ?_⟩
    refine abs_name (fun G => Same H G ∧ ∃ ys, G p10 = some (.lst ys) ∧ Txs 9000 (24 + 2) ys) ⟨same_ups (same_ups s8 np9) np10, _, upd_same, txs_app t8 (by walk_at "txs")⟩ (fun H10 ⟨s10, L10, k10, t10⟩ => ?_)
    clear np9 np10 s8 k8 t8 m4 m5 i1 i2 i3 i4 j2 j3 j4
    walk_at "st"
    have e12 : (10 : Int) ^ (Int.toNat 12) = ((1000000000000 : Nat) : Int) := by decide
    have e13 : (10 : Int) ^ (Int.toNat 12) + 1 = ((1000000000001 : Nat) : Int) := by decide
    refine go_xlawshown b 1000000000000 rfl e12 h1 h2 (by decide) (fun x1 lx1 => ?_)
    walk_at "st"
    refine go_xlawshown b 1000000000001 rfl e13 h1 h2 (by decide) (fun x2 lx2 => ?_)
    have m6 : x1.length ≤ 9000 := by omega
    have m7 : (x2 ++ Str.ofString ".1").length ≤ 9000 := by rw [len_app]; omega
    walk_at "st"
    try refine ⟨sz100 (by omega), ?_⟩
    walk_at "st"
    intro p11 np11
    walk_at "st"
    refine ⟨p10, p11, _, _, rfl, rfl, (upd_ne (ne_of_none k10 np11)).trans k10, upd_same, sz100 (by rw [t10.1]; show 26 + 2 ≤ 1000000; decide), fun p12 np12 => ?_⟩
    refine abs_name (fun G => Same H G ∧ ∃ ys, G p12 = some (.lst ys) ∧ Txs 9000 (26 + 2) ys) ⟨same_ups (same_ups s10 np11) np12, _, upd_same, txs_app t10 (by walk_at "txs")⟩ (fun H12 ⟨s12, L12, k12, t12⟩ => ?_)
    clear np11 np12 s10 k10 t10 m6 m7 lx1 lx2
    have hS12 := s12.seq hS
    walk_at "st"
    have w1 : 0 ≤ cl ns 7 % 28 := Int.emod_nonneg _ (by decide)
    have w2 : cl ns 7 % 28 < 28 := Int.emod_lt_of_pos _ (by decide)
    obtain ⟨o, eo, lo⟩ := t12.pick w1 w2
    refine ⟨p12, _, _, _, rfl, rfl, sql k12, eo, ?_⟩
    exact q _ _ lo s12
end
abbrev s_law : Stmt := topS 31
theorem sc_law : FnScope ["script", "base", "text", "far", "due", "found"] ["script"] (defScope s_law) := ⟨rfl, rfl, rfl, by decide +kernel, rfl, by decide +kernel, by decide +kernel⟩
theorem eqv_txt (s : Str) : PyData.eqv (.str s) (.str s) = true := by
  rw [PyData.eqv]; first | exact beq_self_eq_true _ | exact decide_eq_true rfl | simp
theorem four_bases {f k : Int} (hf : 0 ≤ f) (h0 : 0 ≤ k) (h1 : k < 4) : ∃ z : Int, atI [V.int 1, V.int 37, V.int (1 - f), V.int (37 + f)] k = some (.int z) ∧ (z < 2 ∨ 36 < z) := by
  rcases (show k = 0 ∨ k = 1 ∨ k = 2 ∨ k = 3 by omega) with rfl | rfl | rfl | rfl
  · exact ⟨1, rfl, .inl (by decide)⟩
  · exact ⟨37, rfl, .inr (by decide)⟩
  · exact ⟨1 - f, rfl, .inl (by omega)⟩
  · exact ⟨37 + f, rfl, .inr (by omega)⟩
def sp_law (K : PySem.W.Frag) : Sp := fun vs H Q _ => ∃ (a : Addr) (ns : List Int), vs = [.ref a] ∧ SqL K H a (ns.map V.int) ∧ ns.length ≤ 63 ∧ ∀ H', Q (.bl true) H'
section
variable {P : Program} {w : World} {K : PySem.W.Frag} {mg : Str → Option Value} {base : Heap}
theorem ok_law {f : Addr} {fd : FuncData} (F : Fun K "law" "law" s_law f fd) (M : Md K mg) {c : Cs} (N : Me K mg c) (c_xlawcellat : Cal P w K mg base 1 "_law_cell_at" (sp_xlawcellat K) []) (c_xlawiswriting : Cal P w K mg base 2 "_law_is_writing" (sp_xlawiswriting K) []) (c_xlawread : Cal P w K mg base 2 "_law_read" (sp_xlawread K) []) (c_xlawtold : Cal P w K mg base 3 "_law_told" (sp_xlawtold K c) []) (c_xlawdrawn : Cal P w K mg base 2 "_law_drawn" (sp_xlawdrawn K) []) (c_xlawodd : Cal P w K mg base 2 "_law_odd" (sp_xlawodd K) []) : FnOk P w K mg base CX0 4 f fd ["script"] (sp_law K) := by
  refine F.ok sc_law (fun vs H Q E h => ?_) (fun cdv A outer s H vs Q E hr h => ?_)
  · obtain ⟨a, ns, rfl, hS, hlen, q⟩ := h
    all_goals rfl
  · have hu := hu_of hr
    obtain ⟨a, ns, rfl, hS, hlen, q⟩ := h
    obtain ⟨b, hb, hb1, hb2⟩ : ∃ b : Nat, 2 + cl ns 0 % 35 = (b : Int) ∧ 2 ≤ b ∧ b ≤ 36 := ⟨(2 + cl ns 0 % 35).toNat, by omega, by omega, by omega⟩
    refine ⟨_, (Evl.pss_cut (ps_set (i := 1) sc_law.nd rfl (.inl rfl) (pe_op op_add pe_int (pe_op op_mod (pe_c c_xlawcellat hr (by decide) (by rfl) (pa_cons (pv 0) (pa_cons pe_int pa_nil))) pe_int)))
      (pss_cons (ps_set (i := 2) sc_law.nd rfl (.inl rfl) (pe_c c_xlawdrawn hr (by decide) (by rfl) (pa_cons (pv 0) (pa_cons (pv 1) pa_nil))))
      (Evl.pss_cut (ps_if (pt_cmpR op_eq (pe_op op_mod (pe_c c_xlawcellat hr (by decide) (by rfl) (pa_cons (pv 0) (pa_cons pe_int pa_nil))) pe_int) pe_int (nomark _))
        (pss_one (ps_set (i := 2) sc_law.nd rfl (.inl rfl) (pe_c c_xlawodd hr (by decide) (by rfl) (pa_cons (pv 0) (pa_cons (pv 1) (pa_cons (pv 2) pa_nil)))))) pss_nil)
      (pss_cons (ps_if (pt_cmpR op_eq (pe_op op_mod (pe_c c_xlawcellat hr (by decide) (by rfl) (pa_cons (pv 0) (pa_cons pe_int pa_nil))) pe_int) pe_int (nomark _))
        (pss_cons (ps_set (i := 3) sc_law.nd rfl (.inl rfl) (pe_op op_mod (pe_c c_xlawcellat hr (by decide) (by rfl) (pa_cons (pv 0) (pa_cons pe_int pa_nil))) (pe_op op_pow pe_int pe_int)))
      (pss_one (ps_ret (pe_cmpR (op_eqD hr.units) (pe_c c_xlawtold hr (by decide) (by rfl) (pa_cons (pe_ix ix_list (pe_lst (pa_cons pe_int (pa_cons pe_int (pa_cons (pe_op op_sub pe_int (pv 3)) (pa_cons (pe_op op_add pe_int (pv 3)) pa_nil))))) (pe_op op_mod (pe_op op_fdivP (pe_c c_xlawcellat hr (by decide) (by rfl) (pa_cons (pv 0) (pa_cons pe_int pa_nil))) pe_int) pe_int) (fun _ _ => rfl)) (pa_cons (pv 2) pa_nil))) pe_str (nomark _))))) pss_nil)
      (pss_cons (ps_set (i := 4) sc_law.nd rfl (.inl rfl) (pe_c c_xlawread hr (by decide) (by rfl) (pa_cons (pv 1) (pa_cons (pv 2) pa_nil))))
      (pss_cons (ps_set (i := 5) sc_law.nd rfl (.inl rfl) (pe_c c_xlawtold hr (by decide) (by rfl) (pa_cons (pv 1) (pa_cons (pv 2) pa_nil))))
      (pss_cons (ps_if (PW.pt (pw_or (pt_cmpR op_isN (pv 4) pe_non (nomark _)) (pw_or (pt_cmpR op_gt (pe_callB call_len_seq (by rfl) M.m_len PySem.boot_len (pa_cons (pe_ix ix_tup (pv 4) pe_int (fun _ _ => rfl)) pa_nil)) pe_int (nomark _)) (pw_or1 (pt_cmpR op_gt (pe_callB call_len_seq (by rfl) M.m_len PySem.boot_len (pa_cons (pe_ix ix_tup (pv 4) pe_int (fun _ _ => rfl)) pa_nil)) pe_int (nomark _))))))
        (pss_one (ps_ret (pe_cmpR (op_eqD hr.units) (pv 5) pe_str (nomark _)))) pss_nil)
      (pss_one (ps_ret (pe_c c_xlawiswriting hr (by decide) (by rfl) (pa_cons (pv 5) (pa_cons (pv 4) pa_nil)))))))))))), ?_⟩
    refine ⟨fun σ H' => H = H' ∧ σ = [some (.ref a), some (.int (b : Int)), none, none, none, none], ?_, fun σ H' hM => ?_⟩
    · walk_at "st"
      rw [← hb]; rfl
    obtain ⟨rfl, rfl⟩ := hM
    walk_at "st"
    refine go_xlawdrawn b rfl hb1 hb2 hS hlen (fun t H1 lt s1 => ?_)
    have hS1 := s1.seq hS
    walk_at "st"
    refine ⟨fun σ H' => Same H H' ∧ ∃ u : Str, u.length ≤ 9000 ∧ σ = [some (.ref a), some (.int (b : Int)), some (.str u), none, none, none], ?_, fun σ H' hM => ?_⟩
    · walk_at "st"
      refine iteE (fun _ => ?_) (fun _ => ?_)
      · walk_at "st"
        refine go_xlawodd b rfl hb1 hb2 hS1 hlen lt (fun u H2 lu s2 => ?_)
        exact ⟨s1.trans s2, u, lu, rfl⟩
      · exact ⟨s1, t, by omega, rfl⟩
    clear hS1 s1 lt
    obtain ⟨s2, u, lu, rfl⟩ := hM
    obtain ⟨l, rfl⟩ : ∃ l : List Nat, u = tx l := ⟨u.cps.toList, str_tx u⟩
    rw [tx_len] at lu
    have ll : l.length ≤ 10000 := by omega
    have hS2 := s2.seq hS
    walk_at "st"
    refine iteE (fun _ => ?_) (fun _ => ?_)
    · walk_at "st"
      intro p5 np5
      have hS5 : SqL K (upd H' p5 (.lst [V.int 1, V.int 37, V.int (1 - cl ns 0 % 10 ^ 20), V.int (37 + cl ns 0 % 10 ^ 20)])) a (ns.map V.int) := (same_ups s2 np5).seq hS
      walk_at "st"
      try refine go_cell (by decide) hS5 ?_
      try walk_at "st"
      have f0 : 0 ≤ cl ns 0 % 10 ^ 20 := Int.emod_nonneg _ (by decide)
      have w0 : 0 ≤ cl ns 9 / 9 % 4 := Int.emod_nonneg _ (by decide)
      have w1 : cl ns 9 / 9 % 4 < 4 := Int.emod_lt_of_pos _ (by decide)
      obtain ⟨z, ez, hz⟩ := four_bases f0 w0 w1
      refine ⟨p5, _, _, _, rfl, rfl, sql upd_same, ez, ?_⟩
      walk_at "st"
      refine go_xlawtold l ll (fun _ H6 s6 => ?_) (fun b' hz' h1' h2' => absurd hz' (by omega))
      walk_at "st"
      refine ⟨_, _, .str _, .str _, by decide +kernel, by decide +kernel, ?_⟩
      rw [eqv_txt]
      exact q _
    walk_at "st"
    refine go_xlawread b l rfl hb1 hb2 ll (fun x px H3 p ra rr s3 w3 => ?_) (fun no H3 s3 => ?_)
    · walk_at "st"
      refine go_xlawtold l ll (fun bad => absurd bad (by omega)) (fun b' hz _ _ => ?_)
      obtain rfl : b' = b := by omega
      refine ⟨fun y py la lr H4 p4 a4 r4 w4 => ?_, fun far H4 s4 => ?_⟩
      · obtain rfl := parse_unique px py
        have w34 := w3.same w4.same
        have tp := w34.tp
        have sla := w34.la
        have slr := w34.lr
        walk_at "st"
        rw [List.length_map]
        refine iteD (fun c => absurd c (by omega)) (fun _ => ?_)
        walk_at "st"
        rw [List.length_map]
        refine iteD (fun c => absurd c (by omega)) (fun _ => ?_)
        walk_at "st"
        refine go_xlawiswriting_eq w4.at' w34 rfl (fun H5 s5 => ?_)
        exact q _
      · have w34 := w3.same s4
        have tp := w34.tp
        have sla := w34.la
        have slr := w34.lr
        walk_at "st"
        rw [List.length_map]
        refine iteD (fun c => ?_) (fun c => ?_)
        · walk_at "st"
          refine ⟨_, _, .str _, .str _, by decide +kernel, by decide +kernel, ?_⟩
          rw [eqv_txt]
          exact q _
        walk_at "st"
        rw [List.length_map]
        refine iteD (fun _ => ?_) (fun c2 => ?_)
        · walk_at "st"
          refine ⟨_, _, .str _, .str _, by decide +kernel, by decide +kernel, ?_⟩
          rw [eqv_txt]
          exact q _
        · have := far x px
          omega
    · walk_at "st"
      refine go_xlawtold l ll (fun bad => absurd bad (by omega)) (fun b' hz _ _ => ?_)
      obtain rfl : b' = b := by omega
      refine ⟨fun y py la lr H4 p4 a4 r4 w4 => absurd py (no y), fun far H4 s4 => ?_⟩
      walk_at "st"
      refine ⟨_, _, .str _, .str _, by decide +kernel, by decide +kernel, ?_⟩
      rw [eqv_txt]
      exact q _
end
/-! ### the end -/
theorem all_mk {l : PySem.W.OpenLaw} {w : World} {K : PySem.W.Frag} {h : Heap} {mg : Str → Option Value} {fa : Addr} (X : K.In h) (G : h.Ns mainGlobals mg) (hfa : mg "law" = some (.ref fa))
    {f0 : Addr} {od0 an0 : Option Addr} {sl0 : Array (Option Value)} {oc0 kV0 dc0 pm0 cd0 ct0 : Value}
    (a0 : PySem.W.nsIn K mainGlobals "asked_base" = some (some (.ref f0)))
    (l0 : K.lookup f0 = some ⟨oc0, od0, .func (PySem.W.fnOf "asked_base" "asked_base" (defArgs s_askedbase) (defBody s_askedbase) (defScope s_askedbase) .none kV0 dc0 pm0 an0 cd0 ct0), sl0⟩)
    (e0 : PySem.W.codeIn K cd0 "asked_base" = true) (k0 : PySem.W.keepIn K (.ref f0) = true)
    {f1 : Addr} {od1 an1 : Option Addr} {sl1 : Array (Option Value)} {oc1 kV1 dc1 pm1 cd1 ct1 : Value}
    (a1 : PySem.W.nsIn K mainGlobals "number_of" = some (some (.ref f1)))
    (l1 : K.lookup f1 = some ⟨oc1, od1, .func (PySem.W.fnOf "number_of" "number_of" (defArgs s_numberof) (defBody s_numberof) (defScope s_numberof) .none kV1 dc1 pm1 an1 cd1 ct1), sl1⟩)
    (e1 : PySem.W.codeIn K cd1 "number_of" = true) (k1 : PySem.W.keepIn K (.ref f1) = true)
    {f2 : Addr} {od2 an2 : Option Addr} {sl2 : Array (Option Value)} {oc2 kV2 dc2 pm2 cd2 ct2 : Value}
    (a2 : PySem.W.nsIn K mainGlobals "read_figures" = some (some (.ref f2)))
    (l2 : K.lookup f2 = some ⟨oc2, od2, .func (PySem.W.fnOf "read_figures" "read_figures" (defArgs s_readfigures) (defBody s_readfigures) (defScope s_readfigures) .none kV2 dc2 pm2 an2 cd2 ct2), sl2⟩)
    (e2 : PySem.W.codeIn K cd2 "read_figures" = true) (k2 : PySem.W.keepIn K (.ref f2) = true)
    {f3 : Addr} {od3 an3 : Option Addr} {sl3 : Array (Option Value)} {oc3 kV3 dc3 pm3 cd3 ct3 : Value}
    (a3 : PySem.W.nsIn K mainGlobals "read" = some (some (.ref f3)))
    (l3 : K.lookup f3 = some ⟨oc3, od3, .func (PySem.W.fnOf "read" "read" (defArgs s_read) (defBody s_read) (defScope s_read) .none kV3 dc3 pm3 an3 cd3 ct3), sl3⟩)
    (e3 : PySem.W.codeIn K cd3 "read" = true) (k3 : PySem.W.keepIn K (.ref f3) = true)
    {f4 : Addr} {od4 an4 : Option Addr} {sl4 : Array (Option Value)} {oc4 kV4 dc4 pm4 cd4 ct4 : Value}
    (a4 : PySem.W.nsIn K mainGlobals "_law_cell_at" = some (some (.ref f4)))
    (l4 : K.lookup f4 = some ⟨oc4, od4, .func (PySem.W.fnOf "_law_cell_at" "_law_cell_at" (defArgs s_xlawcellat) (defBody s_xlawcellat) (defScope s_xlawcellat) .none kV4 dc4 pm4 an4 cd4 ct4), sl4⟩)
    (e4 : PySem.W.codeIn K cd4 "_law_cell_at" = true) (k4 : PySem.W.keepIn K (.ref f4) = true)
    {f5 : Addr} {od5 an5 : Option Addr} {sl5 : Array (Option Value)} {oc5 kV5 dc5 pm5 cd5 ct5 : Value}
    (a5 : PySem.W.nsIn K mainGlobals "_law_draw" = some (some (.ref f5)))
    (l5 : K.lookup f5 = some ⟨oc5, od5, .func (PySem.W.fnOf "_law_draw" "_law_draw" (defArgs s_xlawdraw) (defBody s_xlawdraw) (defScope s_xlawdraw) .none kV5 dc5 pm5 an5 cd5 ct5), sl5⟩)
    (e5 : PySem.W.codeIn K cd5 "_law_draw" = true) (k5 : PySem.W.keepIn K (.ref f5) = true)
    {f6 : Addr} {od6 an6 : Option Addr} {sl6 : Array (Option Value)} {oc6 kV6 dc6 pm6 cd6 ct6 : Value}
    (a6 : PySem.W.nsIn K mainGlobals "_law_whole" = some (some (.ref f6)))
    (l6 : K.lookup f6 = some ⟨oc6, od6, .func (PySem.W.fnOf "_law_whole" "_law_whole" (defArgs s_xlawwhole) (defBody s_xlawwhole) (defScope s_xlawwhole) .none kV6 dc6 pm6 an6 cd6 ct6), sl6⟩)
    (e6 : PySem.W.codeIn K cd6 "_law_whole" = true) (k6 : PySem.W.keepIn K (.ref f6) = true)
    {f7 : Addr} {od7 an7 : Option Addr} {sl7 : Array (Option Value)} {oc7 kV7 dc7 pm7 cd7 ct7 : Value}
    (a7 : PySem.W.nsIn K mainGlobals "_law_is_writing" = some (some (.ref f7)))
    (l7 : K.lookup f7 = some ⟨oc7, od7, .func (PySem.W.fnOf "_law_is_writing" "_law_is_writing" (defArgs s_xlawiswriting) (defBody s_xlawiswriting) (defScope s_xlawiswriting) .none kV7 dc7 pm7 an7 cd7 ct7), sl7⟩)
    (e7 : PySem.W.codeIn K cd7 "_law_is_writing" = true) (k7 : PySem.W.keepIn K (.ref f7) = true)
    {f8 : Addr} {od8 an8 : Option Addr} {sl8 : Array (Option Value)} {oc8 kV8 dc8 pm8 cd8 ct8 : Value}
    (a8 : PySem.W.nsIn K mainGlobals "_law_word_of" = some (some (.ref f8)))
    (l8 : K.lookup f8 = some ⟨oc8, od8, .func (PySem.W.fnOf "_law_word_of" "_law_word_of" (defArgs s_xlawwordof) (defBody s_xlawwordof) (defScope s_xlawwordof) .none kV8 dc8 pm8 an8 cd8 ct8), sl8⟩)
    (e8 : PySem.W.codeIn K cd8 "_law_word_of" = true) (k8 : PySem.W.keepIn K (.ref f8) = true)
    {f9 : Addr} {od9 an9 : Option Addr} {sl9 : Array (Option Value)} {oc9 kV9 dc9 pm9 cd9 ct9 : Value}
    (a9 : PySem.W.nsIn K mainGlobals "_law_number" = some (some (.ref f9)))
    (l9 : K.lookup f9 = some ⟨oc9, od9, .func (PySem.W.fnOf "_law_number" "_law_number" (defArgs s_xlawnumber) (defBody s_xlawnumber) (defScope s_xlawnumber) .none kV9 dc9 pm9 an9 cd9 ct9), sl9⟩)
    (e9 : PySem.W.codeIn K cd9 "_law_number" = true) (k9 : PySem.W.keepIn K (.ref f9) = true)
    {f10 : Addr} {od10 an10 : Option Addr} {sl10 : Array (Option Value)} {oc10 kV10 dc10 pm10 cd10 ct10 : Value}
    (a10 : PySem.W.nsIn K mainGlobals "_law_places" = some (some (.ref f10)))
    (l10 : K.lookup f10 = some ⟨oc10, od10, .func (PySem.W.fnOf "_law_places" "_law_places" (defArgs s_xlawplaces) (defBody s_xlawplaces) (defScope s_xlawplaces) .none kV10 dc10 pm10 an10 cd10 ct10), sl10⟩)
    (e10 : PySem.W.codeIn K cd10 "_law_places" = true) (k10 : PySem.W.keepIn K (.ref f10) = true)
    {f11 : Addr} {od11 an11 : Option Addr} {sl11 : Array (Option Value)} {oc11 kV11 dc11 pm11 cd11 ct11 : Value}
    (a11 : PySem.W.nsIn K mainGlobals "_law_parted" = some (some (.ref f11)))
    (l11 : K.lookup f11 = some ⟨oc11, od11, .func (PySem.W.fnOf "_law_parted" "_law_parted" (defArgs s_xlawparted) (defBody s_xlawparted) (defScope s_xlawparted) .none kV11 dc11 pm11 an11 cd11 ct11), sl11⟩)
    (e11 : PySem.W.codeIn K cd11 "_law_parted" = true) (k11 : PySem.W.keepIn K (.ref f11) = true)
    {f12 : Addr} {od12 an12 : Option Addr} {sl12 : Array (Option Value)} {oc12 kV12 dc12 pm12 cd12 ct12 : Value}
    (a12 : PySem.W.nsIn K mainGlobals "_law_read" = some (some (.ref f12)))
    (l12 : K.lookup f12 = some ⟨oc12, od12, .func (PySem.W.fnOf "_law_read" "_law_read" (defArgs s_xlawread) (defBody s_xlawread) (defScope s_xlawread) .none kV12 dc12 pm12 an12 cd12 ct12), sl12⟩)
    (e12 : PySem.W.codeIn K cd12 "_law_read" = true) (k12 : PySem.W.keepIn K (.ref f12) = true)
    {f13 : Addr} {od13 an13 : Option Addr} {sl13 : Array (Option Value)} {oc13 kV13 dc13 pm13 cd13 ct13 : Value}
    (a13 : PySem.W.nsIn K mainGlobals "_law_told" = some (some (.ref f13)))
    (l13 : K.lookup f13 = some ⟨oc13, od13, .func (PySem.W.fnOf "_law_told" "_law_told" (defArgs s_xlawtold) (defBody s_xlawtold) (defScope s_xlawtold) .none kV13 dc13 pm13 an13 cd13 ct13), sl13⟩)
    (e13 : PySem.W.codeIn K cd13 "_law_told" = true) (k13 : PySem.W.keepIn K (.ref f13) = true)
    {f14 : Addr} {od14 an14 : Option Addr} {sl14 : Array (Option Value)} {oc14 kV14 dc14 pm14 cd14 ct14 : Value}
    (a14 : PySem.W.nsIn K mainGlobals "_law_drawn" = some (some (.ref f14)))
    (l14 : K.lookup f14 = some ⟨oc14, od14, .func (PySem.W.fnOf "_law_drawn" "_law_drawn" (defArgs s_xlawdrawn) (defBody s_xlawdrawn) (defScope s_xlawdrawn) .none kV14 dc14 pm14 an14 cd14 ct14), sl14⟩)
    (e14 : PySem.W.codeIn K cd14 "_law_drawn" = true) (k14 : PySem.W.keepIn K (.ref f14) = true)
    {f15 : Addr} {od15 an15 : Option Addr} {sl15 : Array (Option Value)} {oc15 kV15 dc15 pm15 cd15 ct15 : Value}
    (a15 : PySem.W.nsIn K mainGlobals "_law_shown" = some (some (.ref f15)))
    (l15 : K.lookup f15 = some ⟨oc15, od15, .func (PySem.W.fnOf "_law_shown" "_law_shown" (defArgs s_xlawshown) (defBody s_xlawshown) (defScope s_xlawshown) .none kV15 dc15 pm15 an15 cd15 ct15), sl15⟩)
    (e15 : PySem.W.codeIn K cd15 "_law_shown" = true) (k15 : PySem.W.keepIn K (.ref f15) = true)
    {f16 : Addr} {od16 an16 : Option Addr} {sl16 : Array (Option Value)} {oc16 kV16 dc16 pm16 cd16 ct16 : Value}
    (a16 : PySem.W.nsIn K mainGlobals "_law_odd" = some (some (.ref f16)))
    (l16 : K.lookup f16 = some ⟨oc16, od16, .func (PySem.W.fnOf "_law_odd" "_law_odd" (defArgs s_xlawodd) (defBody s_xlawodd) (defScope s_xlawodd) .none kV16 dc16 pm16 an16 cd16 ct16), sl16⟩)
    (e16 : PySem.W.codeIn K cd16 "_law_odd" = true) (k16 : PySem.W.keepIn K (.ref f16) = true)
    {f17 : Addr} {od17 an17 : Option Addr} {sl17 : Array (Option Value)} {oc17 kV17 dc17 pm17 cd17 ct17 : Value}
    (a17 : PySem.W.nsIn K mainGlobals "law" = some (some (.ref f17)))
    (l17 : K.lookup f17 = some ⟨oc17, od17, .func (PySem.W.fnOf "law" "law" (defArgs s_law) (defBody s_law) (defScope s_law) .none kV17 dc17 pm17 an17 cd17 ct17), sl17⟩)
    (e17 : PySem.W.codeIn K cd17 "law" = true) (k17 : PySem.W.keepIn K (.ref f17) = true)
    (z0 : PySem.W.nsIn K mainGlobals "len" = some none)
    (z1 : PySem.W.nsIn K mainGlobals "isinstance" = some none)
    (z2 : PySem.W.nsIn K mainGlobals "int" = some none)
    (z3 : PySem.W.nsIn K mainGlobals "bool" = some none)
    (z4 : PySem.W.nsIn K mainGlobals "tuple" = some none)
    (z5 : PySem.W.nsIn K mainGlobals "list" = some none)
    (z6 : PySem.W.nsIn K mainGlobals "ValueError" = some none)
    (z7 : PySem.W.nsIn K mainGlobals "range" = some none)
    {tk0 : Tok} (y0 : PySem.W.nsIn K mainGlobals "GREATEST" = some (some (.int 1000000000000 tk0)))
    {tk1 : Tok} (y1 : PySem.W.nsIn K mainGlobals "MOST_FIGURES" = some (some (.int 4000 tk1)))
    {tk2 : Tok} (y2 : PySem.W.nsIn K mainGlobals "SIGNS" = some (some (.str "0123456789abcdefghijklmnopqrstuvwxyz" tk2)))
    {kFigureError : Addr} (bFigureError : PySem.W.nsIn K mainGlobals "FigureError" = some (some (.ref kFigureError)))
    {kNoBase : Addr} (bNoBase : PySem.W.nsIn K mainGlobals "NoBase" = some (some (.ref kNoBase)))
    {kNoFraction : Addr} (bNoFraction : PySem.W.nsIn K mainGlobals "NoFraction" = some (some (.ref kNoFraction)))
    {kNoWriting : Addr} (bNoWriting : PySem.W.nsIn K mainGlobals "NoWriting" = some (some (.ref kNoWriting)))
    {kNoNumber : Addr} (bNoNumber : PySem.W.nsIn K mainGlobals "NoNumber" = some (some (.ref kNoNumber)))
    {kTooLong : Addr} (bTooLong : PySem.W.nsIn K mainGlobals "TooLong" = some (some (.ref kTooLong)))
    {kNoNote : Addr} (bNoNote : PySem.W.nsIn K mainGlobals "NoNote" = some (some (.ref kNoNote)))
    (fa_g : PySem.W.subIn K (.ref kFigureError) (.type "BaseException") = some true)
    (fb_g : PySem.W.hasDictIn K kFigureError = true)
    (fc_g : PySem.W.typeIn K (.ref kFigureError) = some (.type "type"))
    (hn_g : PySem.W.specialIn K (.builtin "object.__class__") "__get__" = some (some (.builtin "getset_descriptor.__get__")))
    (ht_g : PySem.W.takesIn K (.builtin "object.__class__") = some true)
    (xa_NoBase : PySem.W.excIn K kNoBase [.type "ValueError", .type "Exception", .type "BaseException", .type "object"] "ValueError.__new__" = true)
    (xb_NoBase : PySem.W.keepIn K (.ref kNoBase) = true)
    (xc_NoBase : PySem.W.subIn K (.ref kNoBase) (.type "BaseException") = some true)
    (xd_NoBase : PySem.W.typeIn K (.ref kNoBase) = some (.type "type"))
    (ia_NoBase : PySem.W.findIn K (.ref kNoBase) "__getattribute__" = some (some (.builtin "BaseException.__getattribute__")))
    (ib_NoBase : PySem.W.findIn K (.ref kNoBase) "__getattr__" = some none)
    (ic_NoBase : PySem.W.hasDictIn K kNoBase = true)
    (ie_NoBase : PySem.W.findIn K (.ref kNoBase) "__class__" = some (some (.builtin "object.__class__")))
    (ig_NoBase : PySem.W.mroIn K kNoBase (.type "object") = some true)
    (s_NoBase : PySem.W.subIn K (.ref kNoBase) (.ref kFigureError) = some true)
    (v_NoBase : PySem.W.subIn K (.ref kNoBase) (.type "ValueError") = some true)
    (q_NoBase_NoBase : PySem.W.subIn K (.ref kNoBase) (.ref kNoBase) = some true)
    (q_NoBase_NoFraction : PySem.W.subIn K (.ref kNoBase) (.ref kNoFraction) = some false)
    (q_NoBase_NoWriting : PySem.W.subIn K (.ref kNoBase) (.ref kNoWriting) = some false)
    (q_NoBase_NoNumber : PySem.W.subIn K (.ref kNoBase) (.ref kNoNumber) = some false)
    (q_NoBase_TooLong : PySem.W.subIn K (.ref kNoBase) (.ref kTooLong) = some false)
    (q_NoBase_NoNote : PySem.W.subIn K (.ref kNoBase) (.ref kNoNote) = some false)
    (xa_NoNote : PySem.W.excIn K kNoNote [.type "ValueError", .type "Exception", .type "BaseException", .type "object"] "ValueError.__new__" = true)
    (xb_NoNote : PySem.W.keepIn K (.ref kNoNote) = true)
    (xc_NoNote : PySem.W.subIn K (.ref kNoNote) (.type "BaseException") = some true)
    (xd_NoNote : PySem.W.typeIn K (.ref kNoNote) = some (.type "type"))
    (ia_NoNote : PySem.W.findIn K (.ref kNoNote) "__getattribute__" = some (some (.builtin "BaseException.__getattribute__")))
    (ib_NoNote : PySem.W.findIn K (.ref kNoNote) "__getattr__" = some none)
    (ic_NoNote : PySem.W.hasDictIn K kNoNote = true)
    (ie_NoNote : PySem.W.findIn K (.ref kNoNote) "__class__" = some (some (.builtin "object.__class__")))
    (ig_NoNote : PySem.W.mroIn K kNoNote (.type "object") = some true)
    (s_NoNote : PySem.W.subIn K (.ref kNoNote) (.ref kFigureError) = some true)
    (v_NoNote : PySem.W.subIn K (.ref kNoNote) (.type "ValueError") = some true)
    (q_NoNote_NoBase : PySem.W.subIn K (.ref kNoNote) (.ref kNoBase) = some false)
    (q_NoNote_NoFraction : PySem.W.subIn K (.ref kNoNote) (.ref kNoFraction) = some false)
    (q_NoNote_NoWriting : PySem.W.subIn K (.ref kNoNote) (.ref kNoWriting) = some false)
    (q_NoNote_NoNumber : PySem.W.subIn K (.ref kNoNote) (.ref kNoNumber) = some false)
    (q_NoNote_TooLong : PySem.W.subIn K (.ref kNoNote) (.ref kTooLong) = some false)
    (q_NoNote_NoNote : PySem.W.subIn K (.ref kNoNote) (.ref kNoNote) = some true)
    (j_NoBase : PySem.W.isClsIn K kNoBase = true)
    (j_NoFraction : PySem.W.isClsIn K kNoFraction = true)
    (j_NoWriting : PySem.W.isClsIn K kNoWriting = true)
    (j_NoNumber : PySem.W.isClsIn K kNoNumber = true)
    (j_TooLong : PySem.W.isClsIn K kTooLong = true)
    (j_NoNote : PySem.W.isClsIn K kNoNote = true)
    (l_NoBase : PySem.W.typeIn K (.ref kNoBase) = some (.type "type"))
    (l_NoFraction : PySem.W.typeIn K (.ref kNoFraction) = some (.type "type"))
    (l_NoWriting : PySem.W.typeIn K (.ref kNoWriting) = some (.type "type"))
    (l_NoNumber : PySem.W.typeIn K (.ref kNoNumber) = some (.type "type"))
    (l_TooLong : PySem.W.typeIn K (.ref kTooLong) = some (.type "type"))
    (l_NoNote : PySem.W.typeIn K (.ref kNoNote) = some (.type "type"))
    : ∃ fd : FuncData, (∀ (s : Shared) (v : Value), BindsTo s fd ⟨[v], []⟩ [("script", v)]) ∧ ∀ base : Heap, K.In base → base.Ns mainGlobals mg → FnOk l.prog w K mg base CX0 4 fa fd ["script"] (sp_law K) := by
  have e := hfa.symm.trans (PySem.W.mg_of X G a17)
  cases e
  have M : Md K mg := ⟨PySem.W.mg_none_of X G z0, PySem.W.mg_none_of X G z1, PySem.W.mg_none_of X G z2, PySem.W.mg_none_of X G z3, PySem.W.mg_none_of X G z4, PySem.W.mg_none_of X G z5, PySem.W.mg_none_of X G z6, PySem.W.mg_none_of X G z7, ⟨_, PySem.W.mg_of X G y0, ⟨_, rfl⟩⟩, ⟨_, PySem.W.mg_of X G y1, ⟨_, rfl⟩⟩, ⟨_, PySem.W.mg_of X G y2, ⟨_, rfl⟩⟩⟩
  have N : Me K mg ⟨kFigureError, kNoBase, kNoFraction, kNoWriting, kNoNumber, kTooLong, kNoNote⟩ := {g_FigureError := PySem.W.mg_of X G bFigureError, g_NoBase := PySem.W.mg_of X G bNoBase, g_NoFraction := PySem.W.mg_of X G bNoFraction, g_NoWriting := PySem.W.mg_of X G bNoWriting, g_NoNumber := PySem.W.mg_of X G bNoNumber, g_TooLong := PySem.W.mg_of X G bTooLong, g_NoNote := PySem.W.mg_of X G bNoNote, x_NoBase := ⟨xa_NoBase, xb_NoBase, xc_NoBase, xd_NoBase⟩, i_NoBase := ⟨ia_NoBase, ib_NoBase, xc_NoBase, ic_NoBase, ie_NoBase, hn_g, ht_g, ig_NoBase⟩, m_NoBase := PySem.W.exm_ref fa_g fb_g fc_g s_NoBase, v_NoBase := kit_ve v_NoBase, q_NoBase_NoBase := kit_yes, q_NoBase_NoFraction := kit_no j_NoFraction l_NoFraction q_NoBase_NoBase q_NoBase_NoFraction, q_NoBase_NoWriting := kit_no j_NoWriting l_NoWriting q_NoBase_NoBase q_NoBase_NoWriting, q_NoBase_NoNumber := kit_no j_NoNumber l_NoNumber q_NoBase_NoBase q_NoBase_NoNumber, q_NoBase_TooLong := kit_no j_TooLong l_TooLong q_NoBase_NoBase q_NoBase_TooLong, q_NoBase_NoNote := kit_no j_NoNote l_NoNote q_NoBase_NoBase q_NoBase_NoNote, x_NoNote := ⟨xa_NoNote, xb_NoNote, xc_NoNote, xd_NoNote⟩, i_NoNote := ⟨ia_NoNote, ib_NoNote, xc_NoNote, ic_NoNote, ie_NoNote, hn_g, ht_g, ig_NoNote⟩, m_NoNote := PySem.W.exm_ref fa_g fb_g fc_g s_NoNote, v_NoNote := kit_ve v_NoNote, q_NoNote_NoBase := kit_no j_NoBase l_NoBase q_NoNote_NoNote q_NoNote_NoBase, q_NoNote_NoFraction := kit_no j_NoFraction l_NoFraction q_NoNote_NoNote q_NoNote_NoFraction, q_NoNote_NoWriting := kit_no j_NoWriting l_NoWriting q_NoNote_NoNote q_NoNote_NoWriting, q_NoNote_NoNumber := kit_no j_NoNumber l_NoNumber q_NoNote_NoNote q_NoNote_NoNumber, q_NoNote_TooLong := kit_no j_TooLong l_TooLong q_NoNote_NoNote q_NoNote_TooLong, q_NoNote_NoNote := kit_yes }
  have F0 := fun_mk (st := s_askedbase) l0 e0 k0
  have b0 := F0.binds (ps := ["base"]) fun _ _ _ _ _ _ us hl => match us, hl with | [_], _ => rfl
  have F1 := fun_mk (st := s_numberof) l1 e1 k1
  have b1 := F1.binds (ps := ["base", "figures"]) fun _ _ _ _ _ _ us hl => match us, hl with | [_, _], _ => rfl
  have F2 := fun_mk (st := s_readfigures) l2 e2 k2
  have b2 := F2.binds (ps := ["base", "text"]) fun _ _ _ _ _ _ us hl => match us, hl with | [_, _], _ => rfl
  have F3 := fun_mk (st := s_read) l3 e3 k3
  have b3 := F3.binds (ps := ["base", "text"]) fun _ _ _ _ _ _ us hl => match us, hl with | [_, _], _ => rfl
  have F4 := fun_mk (st := s_xlawcellat) l4 e4 k4
  have b4 := F4.binds (ps := ["script", "k"]) fun _ _ _ _ _ _ us hl => match us, hl with | [_, _], _ => rfl
  have F5 := fun_mk (st := s_xlawdraw) l5 e5 k5
  have b5 := F5.binds (ps := ["cell", "k", "bound"]) fun _ _ _ _ _ _ us hl => match us, hl with | [_, _, _], _ => rfl
  have F6 := fun_mk (st := s_xlawwhole) l6 e6 k6
  have b6 := F6.binds (ps := ["found"]) fun _ _ _ _ _ _ us hl => match us, hl with | [_], _ => rfl
  have F7 := fun_mk (st := s_xlawiswriting) l7 e7 k7
  have b7 := F7.binds (ps := ["found", "due"]) fun _ _ _ _ _ _ us hl => match us, hl with | [_, _], _ => rfl
  have F8 := fun_mk (st := s_xlawwordof) l8 e8 k8
  have b8 := F8.binds (ps := ["e"]) fun _ _ _ _ _ _ us hl => match us, hl with | [_], _ => rfl
  have F9 := fun_mk (st := s_xlawnumber) l9 e9 k9
  have b9 := F9.binds (ps := ["base", "figures"]) fun _ _ _ _ _ _ us hl => match us, hl with | [_, _], _ => rfl
  have F10 := fun_mk (st := s_xlawplaces) l10 e10 k10
  have b10 := F10.binds (ps := ["base", "text"]) fun _ _ _ _ _ _ us hl => match us, hl with | [_, _], _ => rfl
  have F11 := fun_mk (st := s_xlawparted) l11 e11 k11
  have b11 := F11.binds (ps := ["text"]) fun _ _ _ _ _ _ us hl => match us, hl with | [_], _ => rfl
  have F12 := fun_mk (st := s_xlawread) l12 e12 k12
  have b12 := F12.binds (ps := ["base", "text"]) fun _ _ _ _ _ _ us hl => match us, hl with | [_, _], _ => rfl
  have F13 := fun_mk (st := s_xlawtold) l13 e13 k13
  have b13 := F13.binds (ps := ["base", "text"]) fun _ _ _ _ _ _ us hl => match us, hl with | [_, _], _ => rfl
  have F14 := fun_mk (st := s_xlawdrawn) l14 e14 k14
  have b14 := F14.binds (ps := ["script", "base"]) fun _ _ _ _ _ _ us hl => match us, hl with | [_, _], _ => rfl
  have F15 := fun_mk (st := s_xlawshown) l15 e15 k15
  have b15 := F15.binds (ps := ["base", "number"]) fun _ _ _ _ _ _ us hl => match us, hl with | [_, _], _ => rfl
  have F16 := fun_mk (st := s_xlawodd) l16 e16 k16
  have b16 := F16.binds (ps := ["script", "base", "text"]) fun _ _ _ _ _ _ us hl => match us, hl with | [_, _, _], _ => rfl
  have F17 := fun_mk (st := s_law) l17 e17 k17
  refine ⟨PySem.W.fnOf "law" "law" (defArgs s_law) (defBody s_law) (defScope s_law) .none kV17 dc17 pm17 an17 cd17 ct17, fun s v => .of_eq rfl, fun base _ _ => ?_⟩
  have c_askedbase : CalX l.prog w K mg base 1 "asked_base" (sp_askedbase K _) := ⟨f0, _, _, ok_askedbase F0 M N , PySem.W.mg_of X G a0, k0, b0⟩
  have c_numberof : Cal l.prog w K mg base 1 "number_of" (sp_numberof K) [] := ⟨f1, _, _, [], ok_numberof F1 M N , PySem.W.mg_of X G a1, k1, b1, .nil⟩
  have c_readfigures : CalX l.prog w K mg base 1 "read_figures" (sp_readfigures K _) := ⟨f2, _, _, ok_readfigures F2 M N , PySem.W.mg_of X G a2, k2, b2⟩
  have c_read : CalX l.prog w K mg base 2 "read" (sp_read K _) := ⟨f3, _, _, ok_read F3 M N c_askedbase c_numberof c_readfigures, PySem.W.mg_of X G a3, k3, b3⟩
  have c_xlawcellat : Cal l.prog w K mg base 1 "_law_cell_at" (sp_xlawcellat K) [] := ⟨f4, _, _, [], ok_xlawcellat F4 M N , PySem.W.mg_of X G a4, k4, b4, .nil⟩
  have c_xlawdraw : Cal l.prog w K mg base 1 "_law_draw" (sp_xlawdraw K) [] := ⟨f5, _, _, [], ok_xlawdraw F5 M N , PySem.W.mg_of X G a5, k5, b5, .nil⟩
  have c_xlawwhole : Cal l.prog w K mg base 1 "_law_whole" (sp_xlawwhole K) [] := ⟨f6, _, _, [], ok_xlawwhole F6 M N , PySem.W.mg_of X G a6, k6, b6, .nil⟩
  have c_xlawiswriting : Cal l.prog w K mg base 2 "_law_is_writing" (sp_xlawiswriting K) [] := ⟨f7, _, _, [], ok_xlawiswriting F7 M N c_xlawwhole, PySem.W.mg_of X G a7, k7, b7, .nil⟩
  have c_xlawwordof : CalE l.prog w K mg base 1 "_law_word_of" (sp_xlawwordof K _) := ⟨f8, _, _, fun p cls d hz hf => ok_xlawwordof F8 M N p cls d hz hf, PySem.W.mg_of X G a8, k8, b8⟩
  have c_xlawnumber : Cal l.prog w K mg base 1 "_law_number" (sp_xlawnumber K) [] := ⟨f9, _, _, [], ok_xlawnumber F9 M N , PySem.W.mg_of X G a9, k9, b9, .nil⟩
  have c_xlawplaces : Cal l.prog w K mg base 1 "_law_places" (sp_xlawplaces K) [] := ⟨f10, _, _, [], ok_xlawplaces F10 M N , PySem.W.mg_of X G a10, k10, b10, .nil⟩
  have c_xlawparted : Cal l.prog w K mg base 1 "_law_parted" (sp_xlawparted K) [] := ⟨f11, _, _, [], ok_xlawparted F11 M N , PySem.W.mg_of X G a11, k11, b11, .nil⟩
  have c_xlawread : Cal l.prog w K mg base 2 "_law_read" (sp_xlawread K) [] := ⟨f12, _, _, [], ok_xlawread F12 M N c_xlawnumber c_xlawplaces c_xlawparted, PySem.W.mg_of X G a12, k12, b12, .nil⟩
  have c_xlawtold : Cal l.prog w K mg base 3 "_law_told" (sp_xlawtold K _) [] := ⟨f13, _, _, [], ok_xlawtold F13 M N c_read c_xlawwordof, PySem.W.mg_of X G a13, k13, b13, .nil⟩
  have c_xlawdrawn : Cal l.prog w K mg base 2 "_law_drawn" (sp_xlawdrawn K) [] := ⟨f14, _, _, [], ok_xlawdrawn F14 M N c_xlawcellat c_xlawdraw, PySem.W.mg_of X G a14, k14, b14, .nil⟩
  have c_xlawshown : Cal l.prog w K mg base 1 "_law_shown" (sp_xlawshown K) [] := ⟨f15, _, _, [], ok_xlawshown F15 M N , PySem.W.mg_of X G a15, k15, b15, .nil⟩
  have c_xlawodd : Cal l.prog w K mg base 2 "_law_odd" (sp_xlawodd K) [] := ⟨f16, _, _, [], ok_xlawodd F16 M N c_xlawcellat c_xlawshown, PySem.W.mg_of X G a16, k16, b16, .nil⟩
  exact ok_law F17 M N c_xlawcellat c_xlawiswriting c_xlawread c_xlawtold c_xlawdrawn c_xlawodd
end Rf
open PySem PySem.W PyProof.Rows
set_option maxHeartbeats 0 in
theorem PySem.Challenge.cw_ringfigures_k15_read_or_refused_holds : PySem.Challenge.rw_ringfigures_k15_read_or_refused.Holds := by
  w_on; o_law; k_head; (case hw => w_witness2)
  k_fill
  refine L2.walk_of (l := PySem.Challenge.rw_ringfigures_k15_read_or_refused) (n := 63) (k := 4) (x := "script") (CX := fun _ => L2.CX0) (sp := fun w => Rf.sp_law _) rfl (by decide) rfl ⟨rfl, by decide, by decide⟩ (fun w h Y => PySem.W.kIn_of Y) ?F (fun _ _ a ns hl _ hS => ⟨a, ns, rfl, hS, hl, fun _ => rfl⟩) (fun _ _ _ _ _ h => h)
  case F =>
    intro w mg fa h KX G hmg
    refine' Rf.all_mk KX G hmg ?a0 ?l0 ?e0 ?k0 ?a1 ?l1 ?e1 ?k1 ?a2 ?l2 ?e2 ?k2 ?a3 ?l3 ?e3 ?k3 ?a4 ?l4 ?e4 ?k4 ?a5 ?l5 ?e5 ?k5 ?a6 ?l6 ?e6 ?k6 ?a7 ?l7 ?e7 ?k7 ?a8 ?l8 ?e8 ?k8 ?a9 ?l9 ?e9 ?k9 ?a10 ?l10 ?e10 ?k10 ?a11 ?l11 ?e11 ?k11 ?a12 ?l12 ?e12 ?k12 ?a13 ?l13 ?e13 ?k13 ?a14 ?l14 ?e14 ?k14 ?a15 ?l15 ?e15 ?k15 ?a16 ?l16 ?e16 ?k16 ?a17 ?l17 ?e17 ?k17 ?z0 ?z1 ?z2 ?z3 ?z4 ?z5 ?z6 ?z7 ?y0 ?y1 ?y2 ?bFigureError ?bNoBase ?bNoFraction ?bNoWriting ?bNoNumber ?bTooLong ?bNoNote ?fa_g ?fb_g ?fc_g ?hn_g ?ht_g ?xa_NoBase ?xb_NoBase ?xc_NoBase ?xd_NoBase ?ia_NoBase ?ib_NoBase ?ic_NoBase ?ie_NoBase ?ig_NoBase ?s_NoBase ?v_NoBase ?q_NoBase_NoBase ?q_NoBase_NoFraction ?q_NoBase_NoWriting ?q_NoBase_NoNumber ?q_NoBase_TooLong ?q_NoBase_NoNote ?xa_NoNote ?xb_NoNote ?xc_NoNote ?xd_NoNote ?ia_NoNote ?ib_NoNote ?ic_NoNote ?ie_NoNote ?ig_NoNote ?s_NoNote ?v_NoNote ?q_NoNote_NoBase ?q_NoNote_NoFraction ?q_NoNote_NoWriting ?q_NoNote_NoNumber ?q_NoNote_TooLong ?q_NoNote_NoNote ?j_NoBase ?j_NoFraction ?j_NoWriting ?j_NoNumber ?j_TooLong ?j_NoNote ?l_NoBase ?l_NoFraction ?l_NoWriting ?l_NoNumber ?l_TooLong ?l_NoNote
    (case a0 => k_is); (case l0 => k_is); (case e0 => k_is); (case k0 => k_is); (case a1 => k_is); (case l1 => k_is); (case e1 => k_is); (case k1 => k_is); (case a2 => k_is); (case l2 => k_is); (case e2 => k_is); (case k2 => k_is); (case a3 => k_is); (case l3 => k_is); (case e3 => k_is); (case k3 => k_is); (case a4 => k_is); (case l4 => k_is); (case e4 => k_is); (case k4 => k_is); (case a5 => k_is); (case l5 => k_is); (case e5 => k_is); (case k5 => k_is); (case a6 => k_is); (case l6 => k_is); (case e6 => k_is); (case k6 => k_is); (case a7 => k_is); (case l7 => k_is); (case e7 => k_is); (case k7 => k_is); (case a8 => k_is); (case l8 => k_is); (case e8 => k_is); (case k8 => k_is); (case a9 => k_is); (case l9 => k_is); (case e9 => k_is); (case k9 => k_is); (case a10 => k_is); (case l10 => k_is); (case e10 => k_is); (case k10 => k_is); (case a11 => k_is); (case l11 => k_is); (case e11 => k_is); (case k11 => k_is); (case a12 => k_is); (case l12 => k_is); (case e12 => k_is); (case k12 => k_is); (case a13 => k_is); (case l13 => k_is); (case e13 => k_is); (case k13 => k_is); (case a14 => k_is); (case l14 => k_is); (case e14 => k_is); (case k14 => k_is); (case a15 => k_is); (case l15 => k_is); (case e15 => k_is); (case k15 => k_is); (case a16 => k_is); (case l16 => k_is); (case e16 => k_is); (case k16 => k_is); (case a17 => k_is); (case l17 => k_is); (case e17 => k_is); (case k17 => k_is); (case z0 => k_is); (case z1 => k_is); (case z2 => k_is); (case z3 => k_is); (case z4 => k_is); (case z5 => k_is); (case z6 => k_is); (case z7 => k_is); (case y0 => k_is); (case y1 => k_is); (case y2 => k_is); (case bFigureError => k_is); (case bNoBase => k_is); (case bNoFraction => k_is); (case bNoWriting => k_is); (case bNoNumber => k_is); (case bTooLong => k_is); (case bNoNote => k_is); (case fa_g => k_is); (case fb_g => k_is); (case fc_g => k_is); (case hn_g => k_is); (case ht_g => k_is); (case xa_NoBase => k_exc); (case xb_NoBase => k_is); (case xc_NoBase => k_is); (case xd_NoBase => k_is); (case ia_NoBase => k_is); (case ib_NoBase => k_is); (case ic_NoBase => k_is); (case ie_NoBase => k_is); (case ig_NoBase => k_is); (case s_NoBase => k_is); (case v_NoBase => k_is); (case q_NoBase_NoBase => first | rfl | k_is); (case q_NoBase_NoFraction => first | rfl | k_is); (case q_NoBase_NoWriting => first | rfl | k_is); (case q_NoBase_NoNumber => first | rfl | k_is); (case q_NoBase_TooLong => first | rfl | k_is); (case q_NoBase_NoNote => first | rfl | k_is); (case xa_NoNote => k_exc); (case xb_NoNote => k_is); (case xc_NoNote => k_is); (case xd_NoNote => k_is); (case ia_NoNote => k_is); (case ib_NoNote => k_is); (case ic_NoNote => k_is); (case ie_NoNote => k_is); (case ig_NoNote => k_is); (case s_NoNote => k_is); (case v_NoNote => k_is); (case q_NoNote_NoBase => first | rfl | k_is); (case q_NoNote_NoFraction => first | rfl | k_is); (case q_NoNote_NoWriting => first | rfl | k_is); (case q_NoNote_NoNumber => first | rfl | k_is); (case q_NoNote_TooLong => first | rfl | k_is); (case q_NoNote_NoNote => first | rfl | k_is); (case j_NoBase => k_is); (case j_NoFraction => k_is); (case j_NoWriting => k_is); (case j_NoNumber => k_is); (case j_TooLong => k_is); (case j_NoNote => k_is); (case l_NoBase => k_is); (case l_NoFraction => k_is); (case l_NoWriting => k_is); (case l_NoNumber => k_is); (case l_TooLong => k_is); (case l_NoNote => k_is)
