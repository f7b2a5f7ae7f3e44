import PyProof.Rows.All
import Wide.All
import OpenK.AllK
import Wide.FinOn
import HandS.ForMost
import HandS.Walk
import HandS.IsInst
import HandS.Gcd
import HandS.Wide
import HandS.StrMore
import HandS.Codes
import HandS.EndBits
import HandS.TryOnly
import HandS.Style
import HandS.SortKw
import HandS.TupAny
import KE.SortKeyHeap
import KE.SortData
import HandS.Evl
import HandS.Set
import HandS.SetFor
import KE.GoesEnum
import HandS.Zip
import HandS.Strs
import HandS.TupLe
import PyProof.ReprRoads
import HandS.RevRange
import HandS.ForExc
import HandS.ExcIs
import HandS.Dict
import HandS.DictComp
import HandS.Conv
import HandS.More
import HandS.SortInts
import HandS.SetBool
import PyProof.TupleOfSeq
import HandS.Replace
import HandS.TupMul
import KE.KRevSl
import KE.IntBitsLaws
import KE.RegKIsAll
import PySem.Challenge.RW_wordscut_k22_whole_replaced_again_and_ag
set_option Elab.async false
set_option linter.all false
set_option maxRecDepth 100000
set_option maxHeartbeats 2000000
/-! rules over texts as lists of code points; called defs as bundles -/
namespace Wc
open PySem PySem.Spec PyProof.Rows L2

abbrev Tx := List Nat
/-- a text as a value -/
abbrev T (l : Tx) : V := .str (SX.S l)
theorem T_inj {a b : Tx} (h : T a = T b) : a = b := SX.S_inj (V.str.inj h)
theorem T_str (x : Str) : V.str x = T x.cps.toList := congrArg V.str (SX.S_tl x).symm
theorem dec_T (a b : Tx) : decide (T a = T b) = decide (a = b) := by
  by_cases h : a = b
  · subst h
    rw [decide_eq_true rfl, decide_eq_true rfl]
  · rw [decide_eq_false h, decide_eq_false fun e => h (T_inj e)]
theorem S_length (a : Tx) : (SX.S a).length = a.length := SX.S_len a

/-- text + text -/
def rAddT : R2 := fun x y H Q => ∃ a b : Tx, x = T a ∧ y = T b ∧ a.length + b.length ≤ 16777216 ∧ Q (T (a ++ b)) H
theorem op_addT {X : Cx} : OpR X (binaryOp .Add) rAddT := by
  intro pins s σ H x y v u Q I rx ry h
  obtain ⟨a, b, rfl, rfl, hl, q⟩ := h
  refine op_add_str pins s σ H _ _ v u Q I rx ry ⟨_, _, rfl, rfl, ?_, ?_⟩
  · rw [S_length, S_length]
    exact hl
  · rw [SX.S_cat]
    exact q
/-- text * int -/
def repT (n : Nat) (a : Tx) : Tx := (List.replicate n a).flatten
theorem repT_zero (a : Tx) : repT 0 a = [] := rfl
theorem repT_succ (n : Nat) (a : Tx) : repT (n + 1) a = a ++ repT n a := by
  unfold repT
  rw [List.replicate_succ, List.flatten_cons]
theorem repT_len (n : Nat) (a : Tx) : (repT n a).length = n * a.length := by
  induction n with
  | zero => simp [repT]
  | succ n ih => rw [repT_succ, List.length_append, ih, Nat.succ_mul]; omega
theorem fold_app : ∀ (l : List (Array Nat)) (acc : Array Nat), (l.foldl (· ++ ·) acc).toList = acc.toList ++ (l.map Array.toList).flatten
  | [], acc => by simp
  | x :: l, acc => by
    show (l.foldl (· ++ ·) (acc ++ x)).toList = _
    rw [fold_app l (acc ++ x)]
    simp
theorem mul_S (a : Tx) (n : Int) : Txt.mul (SX.S a) n = SX.S (repT n.toNat a) := by
  unfold Txt.mul
  by_cases h1 : n < 1
  · rw [if_pos h1]
    have e : n.toNat = 0 := by omega
    rw [e]
    rfl
  · rw [if_neg h1]
    by_cases h2 : (n == 1 || (SX.S a).length == 0) = true
    · rw [if_pos h2]
      rw [Bool.or_eq_true] at h2
      rcases h2 with h2 | h2
      · have e : n.toNat = 1 := by
          have := eq_of_beq h2
          omega
        rw [e]
        simp [repT]
      · have e := eq_of_beq h2
        rw [S_length] at e
        have e2 := List.length_eq_zero_iff.mp e
        subst e2
        have : repT n.toNat [] = [] := List.length_eq_zero_iff.mp (by rw [repT_len]; simp)
        rw [this]
    · rw [if_neg h2]
      refine TL.ext_tl ?_
      show (List.foldl (· ++ ·) #[] (List.replicate n.toNat a.toArray)).toList = repT n.toNat a
      rw [fold_app]
      simp [repT, List.map_replicate]
def rMulT : R2 := fun x y H Q => ∃ (a : Tx) (n : Int), x = T a ∧ y = .int n ∧ -1000000000 ≤ n ∧ n ≤ 1000000000 ∧ a.length * n.toNat ≤ 16777216 ∧ Q (T (repT n.toNat a)) H
theorem mulOk {a : Tx} {n : Int} (h0 : -1000000000 ≤ n) (h1 : n ≤ 1000000000) (h : a.length * n.toNat ≤ 16777216) : MulOk (SX.S a) n := by
  refine ⟨?_, fun hn _ => ?_, fun hn _ => ?_⟩
  · rw [Bool.or_eq_false_iff]
    exact ⟨decide_eq_false (by omega), decide_eq_false (by omega)⟩
  · rw [S_length]
    intro hgt
    have h2 : (a.length : Int) ≤ 16777216 := by
      have : a.length * 1 ≤ a.length * n.toNat := Nat.mul_le_mul_left _ (by omega)
      omega
    have h3 : (16777216 : Int) ≤ (2 ^ 63 - 1) / n := by
      rw [Int.le_ediv_iff_mul_le (by omega)]
      have : (16777216 : Int) * n ≤ 16777216 * 1000000000 := Int.mul_le_mul_of_nonneg_left h1 (by decide)
      omega
    omega
  · rw [S_length]
    unfold Builtin.Str.tooLong
    have : ¬ (a.length * n.toNat > 16777216) := by omega
    exact decide_eq_false (by first | exact this | (simp; omega))
theorem op_mulT {X : Cx} : OpR X (binaryOp .Mult) rMulT := by
  intro pins s σ H x y v u Q I rx ry h
  obtain ⟨a, n, rfl, rfl, h0, h1, hl, q⟩ := h
  obtain ⟨t, rfl⟩ := rx
  obtain ⟨t', rfl⟩ := ry
  refine SB.mul (mulOk h0 h1 hl) fun t2 k => ?_
  rw [mul_S]
  exact ⟨T (repT n.toNat a), H, I.tok _, ⟨_, rfl⟩, q⟩

/-! ### subscripts, slices, length, comparisons -/
def rIxT : R2 := fun x y H Q => ∃ (a : Tx) (i : Int) (c : Nat), x = T a ∧ y = .int i ∧ a.length ≤ 16777216 ∧ atI a i = some c ∧ Q (T [c]) H
theorem ix_T {X : Cx} : IxR X rIxT := by
  intro value slice pins s σ H x y v u Q I rx ry h hs
  obtain ⟨a, i, c, rfl, rfl, hl, ha, q⟩ := h
  exact ix_str value slice pins s σ H _ _ v u Q I rx ry ⟨_, i, c, rfl, rfl, by rw [S_length]; exact hl, ha, q⟩ hs
def cutT (a : Tx) (lo hi : Option Int) : Tx := (a.drop (HT.sIx a.length 0 lo)).take (HT.sIx a.length a.length hi - HT.sIx a.length 0 lo)
theorem cutS_T (a : Tx) (lo hi : Option Int) : cutS (SX.S a) lo hi = SX.S (cutT a lo hi) := by
  unfold cutS cutT
  rw [S_length]
def rSlT : V → Option Int → Option Int → Hp → VK → Prop := fun x lo hi H Q => ∃ a : Tx, x = T a ∧ a.length ≤ 16777216 ∧ Q (T (cutT a lo hi)) H
theorem sl_T {X : Cx} : SlR X rSlT := by
  intro pins s σ H x v vl vu lo hi sl Q I rx hs pl pu h
  obtain ⟨a, rfl, hl, q⟩ := h
  refine sl_str pins s σ H _ v vl vu lo hi sl Q I rx hs pl pu ⟨_, rfl, by rw [S_length]; exact hl, ?_⟩
  rw [cutS_T]
  exact q
theorem cutT_to (a : Tx) (n : Nat) : cutT a none (some (n : Int)) = a.take n := by
  unfold cutT
  rw [HT.sIx_none, HT.sIx_nat, List.drop_zero, Nat.sub_zero]
  by_cases h : n ≤ a.length
  · rw [Nat.min_eq_left h]
  · rw [Nat.min_eq_right (by omega), List.take_of_length_le (Nat.le_refl _), List.take_of_length_le (by omega)]
theorem cutT_from (a : Tx) (n : Nat) : cutT a (some (n : Int)) none = a.drop n := by
  unfold cutT
  rw [HT.sIx_none, HT.sIx_nat]
  by_cases h : n ≤ a.length
  · rw [Nat.min_eq_left h]
    exact List.take_of_length_le (by rw [List.length_drop]; exact Nat.le_refl _)
  · rw [Nat.min_eq_right (by omega), List.drop_eq_nil_of_le (Nat.le_refl _), List.drop_eq_nil_of_le (by omega), List.take_nil]
theorem cutT_mid (a : Tx) (m n : Nat) : cutT a (some (m : Int)) (some (n : Int)) = (a.drop m).take (n - m) := by
  unfold cutT
  rw [HT.sIx_nat, HT.sIx_nat]
  by_cases h : m ≤ a.length
  · rw [Nat.min_eq_left h]
    by_cases h2 : n ≤ a.length
    · rw [Nat.min_eq_left h2]
    · rw [Nat.min_eq_right (by omega), List.take_of_length_le (by rw [List.length_drop]; exact Nat.le_refl _), List.take_of_length_le (by rw [List.length_drop]; omega)]
  · rw [Nat.min_eq_right (show a.length ≤ m by omega), List.drop_eq_nil_of_le (Nat.le_refl _), List.drop_eq_nil_of_le (show a.length ≤ m by omega), List.take_nil, List.take_nil]
/-- without the last so many -/
theorem cutT_but (a : Tx) (k : Nat) : cutT a none (some (-((k : Int) + 1))) = a.take (a.length - (k + 1)) := by
  unfold cutT
  rw [HT.sIx_none, List.drop_zero, Nat.sub_zero]
  have e : HT.sIx a.length a.length (some (-((k : Int) + 1))) = a.length - (k + 1) := by
    show (if (-((k : Int) + 1)) < 0 then ((-((k : Int) + 1)) + (a.length : Int)).toNat else min (-((k : Int) + 1)).toNat a.length) = _
    rw [if_pos (by omega)]
    omega
  rw [e]
/-- the last so many -/
theorem cutT_last (a : Tx) (k : Nat) : cutT a (some (-((k : Int) + 1))) none = a.drop (a.length - (k + 1)) := by
  unfold cutT
  rw [HT.sIx_none]
  have e : HT.sIx a.length 0 (some (-((k : Int) + 1))) = a.length - (k + 1) := by
    show (if (-((k : Int) + 1)) < 0 then ((-((k : Int) + 1)) + (a.length : Int)).toNat else min (-((k : Int) + 1)).toNat a.length) = _
    rw [if_pos (by omega)]
    omega
  rw [e]
  exact List.take_of_length_le (by rw [List.length_drop]; exact Nat.le_refl _)
theorem cutT_len (a : Tx) (lo hi : Option Int) : (cutT a lo hi).length ≤ a.length := by
  unfold cutT
  rw [List.length_take, List.length_drop]
  omega
theorem cutT_mem {a : Tx} {lo hi : Option Int} {c : Nat} (h : c ∈ cutT a lo hi) : c ∈ a := List.mem_of_mem_drop (List.mem_of_mem_take h)
def rLenT : List V → Hp → VK → Prop := fun vs H Q => ∃ a : Tx, vs = [T a] ∧ a.length ≤ 16777216 ∧ Q (.int (a.length : Int)) H
theorem cr_lenT {X : Cx} : CallR X (.builtin "len") rLenT := by
  intro pins s σ H vs us Q I r h
  obtain ⟨a, rfl, hl, q⟩ := h
  refine call_len_str pins s σ H _ us Q I r ⟨_, rfl, by rw [S_length]; exact hl, ?_⟩
  rw [S_length]
  exact q
def rEqT : R2 := fun x y H Q => ∃ a b : Tx, x = T a ∧ y = T b ∧ Q (.bl (decide (a = b))) H
theorem op_eqT {X : Cx} : OpR X (compareOp .Eq) rEqT := by
  intro pins s σ H x y v u Q I rx ry h
  obtain ⟨a, b, rfl, rfl, q⟩ := h
  refine op_eq pins s σ H _ _ v u Q I rx ry ⟨rfl, ?_⟩
  rw [dec_T]
  exact q
def rNeT : R2 := fun x y H Q => ∃ a b : Tx, x = T a ∧ y = T b ∧ Q (.bl (!decide (a = b))) H
theorem op_neT {X : Cx} : OpR X (compareOp .NotEq) rNeT := by
  intro pins s σ H x y v u Q I rx ry h
  obtain ⟨a, b, rfl, rfl, q⟩ := h
  refine op_ne pins s σ H _ _ v u Q I rx ry ⟨rfl, ?_⟩
  rw [dec_T]
  exact q
theorem dec_int (i j : Int) : decide (V.int i = V.int j) = decide (i = j) := by
  by_cases h : i = j
  · subst h
    rw [decide_eq_true rfl, decide_eq_true rfl]
  · rw [decide_eq_false h, decide_eq_false fun e => h (V.int.inj e)]
theorem dec_bl (i j : Bool) : decide (V.bl i = V.bl j) = decide (i = j) := by
  cases i <;> cases j <;> decide
theorem op_eqI {X : Cx} : OpR X (compareOp .Eq) (rI0 fun i j => .bl (decide (i = j))) := by
  intro pins s σ H x y v u Q I rx ry h
  obtain ⟨i, j, rfl, rfl, q⟩ := h
  refine op_eq pins s σ H _ _ v u Q I rx ry ⟨rfl, ?_⟩
  rw [dec_int]
  exact q
theorem op_neI {X : Cx} : OpR X (compareOp .NotEq) (rI0 fun i j => .bl (!decide (i = j))) := by
  intro pins s σ H x y v u Q I rx ry h
  obtain ⟨i, j, rfl, rfl, q⟩ := h
  refine op_ne pins s σ H _ _ v u Q I rx ry ⟨rfl, ?_⟩
  rw [dec_int]
  exact q
def rB0 (g : Bool → Bool → Bool) : R2 := fun x y H Q => ∃ i j, x = .bl i ∧ y = .bl j ∧ Q (.bl (g i j)) H
theorem op_eqB {X : Cx} : OpR X (compareOp .Eq) (rB0 fun i j => decide (i = j)) := by
  intro pins s σ H x y v u Q I rx ry h
  obtain ⟨i, j, rfl, rfl, q⟩ := h
  refine op_eq pins s σ H _ _ v u Q I rx ry ⟨rfl, ?_⟩
  rw [dec_bl]
  exact q
def rInT : R2 := fun x y H Q => ∃ (c : Nat) (z : Tx), x = T [c] ∧ y = T z ∧ Q (.bl (decide (c ∈ z))) H
theorem op_inT {X : Cx} : OpR X (compareOp .In) rInT := by
  intro pins s σ H x y v u Q I rx ry h
  obtain ⟨c, z, rfl, rfl, q⟩ := h
  exact op_in_sign pins s σ H _ _ v u Q I rx ry ⟨c, SX.S z, rfl, rfl, q⟩
def rLtT : R2 := fun x y H Q => ∃ a b : Tx, x = T a ∧ y = T b ∧ Q (.bl (decide (a < b))) H
theorem op_ltT' {X : Cx} : OpR X (compareOp .Lt) rLtT := by
  intro pins s σ H x y v u Q I rx ry h
  obtain ⟨a, b, rfl, rfl, q⟩ := h
  exact op_lt_str pins s σ H _ _ v u Q I rx ry ⟨_, _, rfl, rfl, q⟩
/-! ### % and // by a positive number -/
theorem op_modP {X : Cx} : OpR X (binaryOp .Mod) (rI (fun _ j => 0 < j) fun i j => .int (i % j)) := op_mod
/-- * of any two whose bits together are below the line -/
def CMulB (i j : Int) : Prop := i.natAbs.log2 + j.natAbs.log2 < 100000000
theorem CMulB.ok {i j : Int} (h : CMulB i j) : IntMulOk i j := by
  have b : ∀ x : Int, Builtin.Int.intBits x ≤ x.natAbs.log2 + 1 := fun x => by
    unfold Builtin.Int.intBits
    split <;> omega
  have h1 := b i
  have h2 := b j
  have h3 : i.natAbs.log2 + j.natAbs.log2 < 100000000 := h
  have e : bitsLine = 134217728 := by decide
  unfold IntMulOk
  intro z
  rw [Bool.and_eq_true] at z
  have z2 := z.2
  unfold Builtin.Int.intTooBig at z2
  have z3 := of_decide_eq_true z2
  rw [e] at z3
  omega
theorem op_mulB {X : Cx} : OpR X (binaryOp .Mult) (rI CMulB fun i j => .int (i * j)) := opI fun _ _ _ _ _ _ _ hc q => mul_int q hc.ok
theorem mulB {i j : Int} {a b : Nat} (ha : i.natAbs < 2 ^ a) (hb : j.natAbs < 2 ^ b) (h0 : 0 < a) (h1 : 0 < b) (h : a + b ≤ 100000000) : CMulB i j := by
  have x := PySem.Flt.log2_lt_of h0 ha
  have y := PySem.Flt.log2_lt_of h1 hb
  unfold CMulB
  omega
/-! ### str.join, find, startswith -/
def rJoinT (K : PySem.W.Frag) : V → List V → Hp → VK → Prop := fun x xs H Q => ∃ (a : Tx) (p : Addr) (ys : List Tx), x = T a ∧ xs = [.ref p] ∧ (SqL K H p (ys.map T) ∨ SqT K H p (ys.map T)) ∧ (ys.map List.length).sum + ys.length * a.length ≤ 16777216 ∧ Q (T (TL.joinL a ys)) H
theorem mt_joinT {X : Cx} : MtR X "str.join" (rJoinT X.K) := by
  intro pins s σ H x xs v us Q I rx r h
  obtain ⟨a, p, ys, rfl, rfl, hs, hl, q⟩ := h
  have em : ys.map T = (ys.map SX.S).map V.str := by rw [List.map_map]; rfl
  rw [em] at hs
  refine mt_join pins s σ H _ _ v us Q I rx r ⟨_, p, ys.map SX.S, rfl, rfl, hs, ?_, ?_⟩
  · rw [SX.lens, List.length_map, S_length]
    exact hl
  · rw [SX.join_S]
    exact q
theorem joinL_nil : ∀ ys : List Tx, TL.joinL [] ys = ys.flatten
  | [] => rfl
  | [p] => by simp [TL.joinL]
  | p :: q :: r => by
    show p ++ ([] ++ TL.joinL [] (q :: r)) = _
    rw [joinL_nil (q :: r)]
    rfl
/-- b stands in a at i -/
abbrev StAt (a b : Tx) (i : Nat) : Prop := (a.drop i).take b.length = b
theorem subAt_T (a b : Tx) (i : Nat) : Builtin.Str.subAt (SX.S a) (SX.S b) i = decide (StAt a b i) := by
  rw [StrLaws.subAt_eq, S_length]
  show ((a.drop i).take b.length == b) = decide _
  by_cases h : StAt a b i
  · rw [decide_eq_true h]
    exact beq_iff_eq.mpr h
  · rw [decide_eq_false h]
    exact beq_eq_false_iff_ne.mpr h
/-- where b stands first in a, from i on -/
inductive FindT (a b : Tx) (i : Nat) : Int → Prop where
  | at_ (k : Nat) : i ≤ k → k + b.length ≤ a.length → StAt a b k → (∀ j, i ≤ j → j < k → ¬ StAt a b j) → FindT a b i (k : Int)
  | no : (∀ j, i ≤ j → j + b.length ≤ a.length → ¬ StAt a b j) → FindT a b i (-1)
theorem fromIndex_nat (n i : Nat) : fromIndex n (i : Int) = i := by
  unfold fromIndex
  rw [if_neg (by omega)]
  omega
theorem range'_pre {s n : Nat} {pre post : List Nat} {a : Nat} (h : List.range' s n = pre ++ a :: post) : s ≤ a ∧ ∀ k, s ≤ k → k < a → k ∈ pre := by
  have hl : n = pre.length + (post.length + 1) := by
    have e := congrArg List.length h
    simpa using e
  have ha : s + pre.length = a := by
    have h1 : (List.range' s n)[pre.length]? = some a := by rw [h]; simp
    rw [List.getElem?_range' (by omega)] at h1
    have := Option.some.inj h1
    omega
  refine ⟨by omega, fun k h1 h2 => ?_⟩
  have h3 : (List.range' s n)[k - s]? = some k := by
    rw [List.getElem?_range' (by omega)]
    congr 1
    omega
  rw [h, List.getElem?_append_left (by omega)] at h3
  exact List.mem_of_getElem? h3
theorem find3_spec (a b : Tx) (i : Nat) : FindT a b i (Txt.find3 (SX.S a) (SX.S b) (i : Int)) := by
  have hAt : ∀ j, StrLaws.At (SX.S a) (SX.S b) a.length j ↔ (j + b.length ≤ a.length ∧ StAt a b j) := fun j => by
    unfold StrLaws.At
    rw [subAt_T, S_length, decide_eq_true_eq]
  unfold Txt.find3
  rw [S_length, fromIndex_nat, StrLaws.occ_eq]
  rcases StrLaws.occ_first (SX.S a) (SX.S b) a.length 1 (Nat.le_refl _) (List.range' i (a.length + 1 - i)) i (fun k hk => (List.mem_range'_1.mp hk).1) with ⟨h0, hn⟩ | ⟨pre, k, post, e, h0, hk, hn⟩
  · rw [h0]
    refine .no fun j h1 h2 h3 => hn j ?_ ((hAt j).mpr ⟨h2, h3⟩)
    exact List.mem_range'_1.mpr ⟨h1, by omega⟩
  · have hp := range'_pre e
    have hk' := (hAt k).mp hk
    generalize hL : (forIn (List.range' i (a.length + 1 - i)) ((#[] : Array Nat), i) (StrLaws.occBody (SX.S a) (SX.S b) a.length 1)).run.fst = L at h0 ⊢
    have e2 : ∃ r, L.toList = k :: r := by
      have h1 : L.toList[0]? = some k := by rw [Array.getElem?_toList]; exact h0
      cases hh : L.toList with
      | nil => rw [hh] at h1; simp at h1
      | cons y r => rw [hh] at h1; exact ⟨r, by rw [show y = k from Option.some.inj h1]⟩
    obtain ⟨r, e2⟩ := e2
    rw [e2]
    exact .at_ k hp.1 hk'.1 hk'.2 fun j h1 h2 h3 => hn j (hp.2 j h1 h2) ((hAt j).mpr ⟨by omega, h3⟩)
def rFind3T : V → List V → Hp → VK → Prop := fun x xs H Q => ∃ (a b : Tx) (i : Nat), x = T a ∧ xs = [T b, .int (i : Int)] ∧ ∀ r, FindT a b i r → Q (.int r) H
theorem mt_find3T {X : Cx} : MtR X "str.find" rFind3T := by
  intro pins s σ H x xs v us Q I rx r h
  obtain ⟨a, b, i, rfl, rfl, q⟩ := h
  exact mt_find3 pins s σ H _ _ v us Q I rx r ⟨_, _, _, rfl, rfl, q _ (find3_spec a b i)⟩
def rFindT : V → List V → Hp → VK → Prop := fun x xs H Q => ∃ (a b : Tx), x = T a ∧ xs = [T b] ∧ ∀ r, FindT a b 0 r → Q (.int r) H
theorem find_spec (a b : Tx) : FindT a b 0 (Txt.find (SX.S a) (SX.S b)) := by
  have h := find3_spec a b 0
  unfold Txt.find3 at h
  rw [S_length, fromIndex_nat] at h
  unfold Txt.find
  rw [S_length]
  exact h
theorem mt_findT {X : Cx} : MtR X "str.find" rFindT := by
  intro pins s σ H x xs v us Q I rx r h
  obtain ⟨a, b, rfl, rfl, q⟩ := h
  exact mt_find pins s σ H _ _ v us Q I rx r ⟨_, _, rfl, rfl, q _ (find_spec a b)⟩
def rStart3T : V → List V → Hp → VK → Prop := fun x xs H Q => ∃ (a b : Tx) (i : Nat), x = T a ∧ xs = [T b, .int (i : Int)] ∧ Q (.bl (decide (i + b.length ≤ a.length ∧ StAt a b i))) H
theorem mt_start3T {X : Cx} : MtR X "str.startswith" rStart3T := by
  intro pins s σ H x xs v us Q I rx r h
  obtain ⟨a, b, i, rfl, rfl, q⟩ := h
  refine mt_startswith3 pins s σ H _ _ v us Q I rx r ⟨_, _, _, rfl, rfl, ?_⟩
  unfold Txt.startswith3
  rw [S_length, S_length, fromIndex_nat, subAt_T, ← Bool.decide_and]
  exact q
end Wc
set_option Elab.async false
set_option linter.all false
set_option maxRecDepth 100000
set_option maxHeartbeats 2000000
namespace Wc
open PySem PySem.Spec PyProof.Rows L2
/-! ### constants -/
theorem pe_sT {X : Cx} (l : Tx) {x : Str} {j pos} (e : x = SX.S l := by decide +kernel) : PE X (.Constant (.str x) j pos) (tC (T l)) := by
  rw [e]
  exact pe_str
theorem pe_gT {X : Cx} {x : Str} {z : Str} {pos : Pos} (h : ∃ t, X.mg x = some (.str z t)) (l : Tx) (hg : Gl X x := by rfl) (e : z = SX.S l := by decide +kernel) (hd : (x == ("__debug__" : Str)) = false := by decide) : PE X (.Name x pos) (tC (T l)) := by
  obtain ⟨t, h⟩ := h
  subst e
  exact pe_glob hg h ⟨t, rfl⟩ hd
theorem pe_gI {X : Cx} {x : Str} {i : Int} {pos : Pos} (h : ∃ t, X.mg x = some (.int i t)) (hg : Gl X x := by rfl) (hd : (x == ("__debug__" : Str)) = false := by decide) : PE X (.Name x pos) (tC (.int i)) := by
  obtain ⟨t, h⟩ := h
  exact pe_glob hg h ⟨t, rfl⟩ hd
/-! ### a def that is called -/
structure Cal (P : Program) (w : World) (K : PySem.W.Frag) (mg : Str → Option Value) (base : Heap) (x : Str) (st : Stmt) (k : Nat) (ps : List Str) (sp : Sp) : Prop where
  ex : ∃ f fd, FnOk P w K mg base CX0 k f fd ps sp ∧ mg x = some (.ref f) ∧ Fun K x x st f fd ∧ Binds K fd ps []
section
variable {X : Cx} {x : Str} {st : Stmt} {k n : Nat} {ps ks : List Str} {sp : Sp} {p pos : Pos} {e : Expr} {es : List Expr} {kws : List Keyword} {t tk : TA}
theorem pe_cl (C : Cal X.prog X.w X.K X.mg X.base x st k ps sp) (hr : Room n X.A) (ha : PA X (e :: es) t) (hkn : k ≤ n := by decide) (hg : Gl X x := by rfl) (hdb : (x == ("__debug__" : Str)) = false := by decide)
    (he : starEach (e :: es) X.env = (false, eval e X.env) :: starEach es X.env := by rfl) (hpl : (backTo pos (starEach es X.env)).any (·.1) = false := by rfl) : PE X (.Call (.Name x p) (e :: es) [] pos) (tCall sp [] E0 t) := by
  obtain ⟨f, fd, F, hm, hF, hb⟩ := C.ex
  exact pe_call F (hr.mono hkn) hg hm hF.kp hb .nil pass0 ha hdb he hpl
theorem pe_cl0 (C : Cal X.prog X.w X.K X.mg X.base x st k ps sp) (hr : Room n X.A) (hkn : k ≤ n := by decide) (hg : Gl X x := by rfl) (hdb : (x == ("__debug__" : Str)) = false := by decide) : PE X (.Call (.Name x p) [] [] pos) (tCall sp [] E0 tNil) := by
  obtain ⟨f, fd, F, hm, hF, hb⟩ := C.ex
  exact pe_call0 F (hr.mono hkn) hg hm hF.kp hb .nil pass0 hdb
/-- the values of the parameters out of the named ones -/
def KB (x : Str) (st : Stmt) (n : Nat) (ps ks : List Str) (g : List Value → List Value → List Value) (gV : List V → List V → List V) : Prop :=
  ∀ (K : PySem.W.Frag) (f : Addr) (fd : FuncData), Fun K x x st f fd → KBinds K fd ps ks g gV
def tCallK0 (sp : Sp) (gV : List V → List V → List V) (tk : TA) : TE := fun σ H Q => tk σ H fun zs H2 => sp (gV [] zs) H2 Q E0
theorem pe_clK0 {g : List Value → List Value → List Value} {gV : List V → List V → List V} (C : Cal X.prog X.w X.K X.mg X.base x st k ps sp) (kb : KB x st 0 ps ks g gV) (hr : Room n X.A) (hkw : PK X kws tk) (hkn : k ≤ n := by decide) (hg : Gl X x := by rfl) (hdb : (x == ("__debug__" : Str)) = false := by decide)
    (hall : (backToKw pos (keywordEach kws X.env)).all (·.1.isSome) = true := by rfl) (hks : (backToKw pos (keywordEach kws X.env)).filterMap (·.1) = ks := by rfl)
    (hpl : ((backTo pos (starEach [] X.env)).any (·.1) || (backToKw pos (keywordEach kws X.env)).any (·.1.isNone)) = false := by rfl) : PE X (.Call (.Name x p) [] kws pos) (tCallK0 sp gV tk) := by
  obtain ⟨f, fd, F, hm, hF, hb⟩ := C.ex
  refine ⟨fun pins s σ H Q I h => ?_⟩
  refine wpAny_Call_Name_kw (ld_glob I hg hm ?_ hdb)
  refine PySem.W.callWith_KW0 (h₀ := X.base) I.ok.mod.kin hF.kp hall (thn (hkw.run pos pins s σ H _ I h) fun ws s2 ⟨zs, H2, I2, rz, q2⟩ => ⟨I2.kIn, ?_⟩) hpl
  rw [hks]
  exact run_fnk (us := []) (vs := []) F (hr.mono hkn) (kb _ _ _ hF) pass0 I2 .nil rz q2
theorem pe_clK {g : List Value → List Value → List Value} {gV : List V → List V → List V} (C : Cal X.prog X.w X.K X.mg X.base x st k ps sp) (kb : KB x st 0 ps ks g gV) (hr : Room n X.A) (ha : PA X (e :: es) t) (hkw : PK X kws tk) (hkn : k ≤ n := by decide) (hg : Gl X x := by rfl)
    (hall : (backToKw pos (keywordEach kws X.env)).all (·.1.isSome) = true := by rfl) (hks : (backToKw pos (keywordEach kws X.env)).filterMap (·.1) = ks := by rfl)
    (hdb : (x == ("__debug__" : Str)) = false := by decide) (he : starEach (e :: es) X.env = (false, eval e X.env) :: starEach es X.env := by rfl)
    (hpl : ((backTo pos (starEach (e :: es) X.env)).any (·.1) || (backToKw pos (keywordEach kws X.env)).any (·.1.isNone)) = false := by rfl) : PE X (.Call (.Name x p) (e :: es) kws pos) (tCallK sp gV E0 t tk) := by
  obtain ⟨f, fd, F, hm, hF, hb⟩ := C.ex
  exact pe_callK F (hr.mono hkn) hg hm hF.kp (kb _ _ _ hF) pass0 ha hkw hall hks hdb he hpl
end
/-- two named values, in their sequence, or turned -/
def sw2 {α : Type} (turn : Bool) : List α → List α → List α
  | [], [a, b] => if turn then [b, a] else [a, b]
  | _, _ => []
theorem sw2_rel {turn : Bool} {vs zs : List V} {us ws : List Value} (r : Vals vs us) (rz : Vals zs ws) : Vals (sw2 turn vs zs) (sw2 turn us ws) := by
  cases r with
  | cons => exact .nil
  | nil =>
    cases rz with
    | nil => exact .nil
    | cons h1 r1 =>
      cases r1 with
      | nil => exact .nil
      | cons h2 r2 =>
        cases r2 with
        | cons => exact .nil
        | nil => cases turn with
          | true => exact .cons h2 (.cons h1 .nil)
          | false => exact .cons h1 (.cons h2 .nil)
theorem kb2 {x : Str} {st : Stmt} {ps ks : List Str} (turn : Bool) (hp : ps.length = 2)
    (h : ∀ (kV doc pm : Value) (an : Option Addr) (cdv ct a b : Value), bindArgs (PySem.W.fnOf x x (defArgs st) (defBody st) (defScope st) .none kV doc pm an cdv ct) ⟨[], ks.zip [a, b]⟩ = pure (ps.zip (sw2 turn [] [a, b]))) : KB x st 0 ps ks (sw2 turn) (sw2 turn) := by
  intro K f fd F
  obtain ⟨oc, od, kV, doc, pm, an, cdv, ct, osl, rfl, lk, hcd⟩ := F.ex
  refine ⟨fun s us ws _ hl => ?_, fun r rz => sw2_rel r rz⟩
  rw [hp] at hl
  match us, ws, hl with
  | [], [a, b], _ => exact .of_eq (h kV doc pm an cdv ct a b)
  | [], [], hl => exact absurd hl (by simp [sw2])
  | [], [_], hl => exact absurd hl (by simp [sw2])
  | [], _ :: _ :: _ :: _, hl => exact absurd hl (by simp [sw2])
  | _ :: _, ws, hl => exact absurd hl (by simp [sw2])

/-! ### isinstance with a built-in class -/
def rIsiB (K : PySem.W.Frag) : List V → Hp → VK → Prop := fun vs H Q => ∃ (x : V) (n t : String) (b : Bool), vs = [x, .ty n] ∧ TyX K H x (.type t) ∧ kitB t n = some b ∧ Q (.bl b) H
theorem cr_isi {X : Cx} : CallR X (.builtin "isinstance") (rIsiB X.K) := by
  intro pins s σ H vs us Q I r h
  obtain ⟨x, n, t, b, rfl, ty, hk, q⟩ := h
  exact call_isi pins s σ H _ us Q I r ⟨x, .ty n, .type t, .type n, b, rfl, .ty n, ty, kit_ty hk, q⟩
theorem k_str_str : kitB "str" "str" = some true := by decide +kernel
theorem k_bool_bool : kitB "bool" "bool" = some true := by decide +kernel
theorem k_int_int : kitB "int" "int" = some true := by decide +kernel
theorem k_int_bool : kitB "int" "bool" = some false := by decide +kernel
theorem k_bool_int : kitB "bool" "int" = some true := by decide +kernel
theorem k_list_list : kitB "list" "list" = some true := by decide +kernel
theorem k_tuple_tuple : kitB "tuple" "tuple" = some true := by decide +kernel
theorem k_str_bool : kitB "str" "bool" = some false := by decide +kernel

/-! ### sorted(xs, key=len) of texts -/
noncomputable def sortLen (xs : List Tx) : List Tx := xs.mergeSort (PySem.W.dataLe false fun a => PyData.int (a.length : Int))
def rSortLen (K : PySem.W.Frag) : List V → Hp → VK → Prop := fun vs H Q => ∃ (p : Addr) (xs : List Tx), vs = [.ref p] ∧ SqL K H p (xs.map T) ∧ (∀ a ∈ xs, a.length ≤ 16777216) ∧ ∀ q, H q = none → Q (.ref q) (upd H q (.lst ((sortLen xs).map T)))
def tSortLen (K : PySem.W.Frag) (t : TA) : TE := fun σ H Q => t σ H fun vs H1 => rSortLen K vs H1 Q
abbrev IsT (v : Value) (a : Tx) : Prop := ∃ t, v = .str (SX.S a) t
theorem each_of_vals : ∀ {xs : List Tx} {us : List Value}, Vals (xs.map T) us → PySem.W.EachIs IsT us xs
  | [], [], _ => .nil
  | a :: xs, u :: us, .cons h r => .cons h (each_of_vals r)
theorem vals_of_each : ∀ {xs : List Tx} {us : List Value}, PySem.W.EachIs IsT us xs → Vals (xs.map T) us
  | [], [], _ => .nil
  | a :: xs, u :: us, .cons h r => .cons h (vals_of_each r)
theorem pe_sortLen {X : Cx} {p p2 kp pos : Pos} {e : Expr} {t : TA} (hu : X.A.units + 64 < cLine) (hm : X.mg "sorted" = none) (hm2 : X.mg "len" = none) (ha : PA X [e] t) (hg : Gl X "sorted" := by rfl) (hg2 : Gl X "len" := by rfl)
    (he : backTo pos (starEach [e] X.env) = (false, eval e X.env) :: backTo pos (starEach [] X.env) := by rfl) (hpl : (backTo pos (starEach [e] X.env)).any (·.1) = false := by rfl) :
    PE X (.Call (.Name "sorted" p) [e] [⟨some "key", .Name "len" p2, kp⟩] pos) (tSortLen X.K t) := by
  refine ⟨fun pins s σ H Q I h => ?_⟩
  refine wpAny_Call_Name_kw (ld_blt I hg hm boot_sorted ?_)
  refine PyProof.Rows.callWith_kw (thn (ha.run pos pins s σ H _ I h) fun us s1 ⟨vs, H1, I1, r1, q1⟩ => ?_) he hpl
  show wpAny _ _ (evalAll ((do let v ← eval (.Name "len" p2) X.env; standAt pos; pure v) :: [])) _ _ s1
  refine wpAny_evalAll_cons (wpAny_bind (ld_blt I1 hg2 hm2 PySem.boot_len (wpAny_bind (wpAny_standAt (wpAny_pure ?_)))))
  refine wpAny_evalAll_nil ?_
  obtain ⟨q, xs, rfl, hs, hb, k⟩ := q1
  obtain rfl := Vals.ref1 r1
  obtain ⟨its, rv, hl, hz⟩ := I1.list hs
  show wpAny _ _ (call (.builtin "sorted") [.ref q] [(Str.ofString "key", .builtin "len")]) _ _ s1
  rw [List.length_map] at hz
  refine PySem.W.sorted_key_data (R := IsT) (bs := xs) (b := false) (fun a => PyData.int (a.length : Int)) hl.isList (each_of_vals rv) ?_ ?_ hz ?_ (PyProof.Rows.ksk_s1 _ _) (fun _ => PyProof.Rows.ksk_l1 _ _) (fun x => PyProof.Rows.ksk_t4 "len" x) ?_ ?_
  · intro d hd d' hd'
    obtain ⟨a, _, rfl⟩ := List.mem_map.mp hd
    obtain ⟨b, _, rfl⟩ := List.mem_map.mp hd'
    rfl
  · refine .inr fun d hd => ?_
    obtain ⟨a, _, rfl⟩ := List.mem_map.mp hd
    exact ⟨fun z => (nomatch z), fun _ z => (nomatch z)⟩
  · intro a _
    show X.A.units + 2 + _ < cLine
    have : (PyData.int (a.length : Int)).depth ≤ 1 := by simp [PyData.depth]
    omega
  · rintro v a ⟨t, rfl⟩ hm h tk hk
    have hla := hb a hm
    refine PyProof.Rows.len_str ?_ ?_
    · rw [S_length]
      omega
    · rw [S_length]
      exact ⟨h, _, rfl, fun _ _ z => z, .int _ _⟩
  · intro out c h' tk hk hn ho hlen eo
    have fr : H1 (s1.heap.objs.size + 1) = none := I1.hok.fresh (Nat.le_succ _)
    refine ⟨.ref _, upd H1 (s1.heap.objs.size + 1) (.lst ((sortLen xs).map T)), I1.laid (t' := tk) hk (Nat.le_succ _) ⟨?_, out, c, vals_of_each eo, ho⟩, rfl, k _ fr⟩
    rw [List.length_map]
    unfold sortLen
    rw [List.length_mergeSort]
    exact hz
theorem sortLen_pair (a b : Tx) : sortLen [a, b] = if b.length < a.length then [b, a] else [a, b] := by
  have e := PySem.W.dataLe_int (fun a : Tx => (a.length : Int))
  unfold sortLen
  rw [e]
  by_cases h : b.length < a.length
  · rw [if_pos h]
    simp [List.mergeSort, List.MergeSort.Internal.splitInTwo, List.merge, show ¬ a.length ≤ b.length by omega]
  · rw [if_neg h]
    simp [List.mergeSort, List.MergeSort.Internal.splitInTwo, List.merge, show a.length ≤ b.length by omega]
end Wc
set_option Elab.async false
set_option linter.all false
set_option maxRecDepth 100000
set_option maxHeartbeats 2000000
/-! what the new readings evaluate to (over HandS.Evl) -/
namespace Wc
open PySem PySem.Spec PyProof.Rows L2 Evl
section
variable {K : PySem.W.Frag} {σ : L2.St} {H H' : Hp} {ta tb te : TE} {t : TT} {x y z v : V}
theorem rv_addT {a b : Tx} (h : a.length + b.length ≤ 16777216) : RV rAddT (T a) (T b) H (T (a ++ b)) := fun H1 _ _ q => ⟨a, b, rfl, rfl, h, q H1 (Ex.refl H1)⟩
theorem rv_mulT {a : Tx} {n : Int} (h0 : -1000000000 ≤ n) (h1 : n ≤ 1000000000) (h : a.length * n.toNat ≤ 16777216) : RV rMulT (T a) (.int n) H (T (repT n.toNat a)) := fun H1 _ _ q => ⟨a, n, rfl, rfl, h0, h1, h, q H1 (Ex.refl H1)⟩
theorem rv_eqT {a b : Tx} : RV rEqT (T a) (T b) H (.bl (decide (a = b))) := fun H1 _ _ q => ⟨a, b, rfl, rfl, q H1 (Ex.refl H1)⟩
theorem rv_neT {a b : Tx} : RV rNeT (T a) (T b) H (.bl (!decide (a = b))) := fun H1 _ _ q => ⟨a, b, rfl, rfl, q H1 (Ex.refl H1)⟩
theorem rv_ltT {a b : Tx} : RV rLtT (T a) (T b) H (.bl (decide (a < b))) := fun H1 _ _ q => ⟨a, b, rfl, rfl, q H1 (Ex.refl H1)⟩
theorem rv_inT {c : Nat} {b : Tx} : RV rInT (T [c]) (T b) H (.bl (decide (c ∈ b))) := fun H1 _ _ q => ⟨c, b, rfl, rfl, q H1 (Ex.refl H1)⟩
theorem rv_eqB {a b : Bool} {g : Bool → Bool → Bool} : RV (rB0 g) (.bl a) (.bl b) H (.bl (g a b)) := fun H1 _ _ q => ⟨a, b, rfl, rfl, q H1 (Ex.refl H1)⟩
theorem rv_ixT {a : Tx} {i : Int} {c : Nat} (hl : a.length ≤ 16777216) (h : atI a i = some c) : RV rIxT (T a) (.int i) H (T [c]) := fun H1 _ _ q => ⟨a, i, c, rfl, rfl, hl, h, q H1 (Ex.refl H1)⟩
theorem rv_isN : RV (fun x y H Q => y = .non ∧ Q (.bl (decide (x = .non))) H) x .non H (.bl (decide (x = .non))) := fun H1 _ _ q => ⟨rfl, q H1 (Ex.refl H1)⟩
theorem rv_notN : RV (fun x y H Q => y = .non ∧ Q (.bl (!decide (x = .non))) H) x .non H (.bl (!decide (x = .non))) := fun H1 _ _ q => ⟨rfl, q H1 (Ex.refl H1)⟩
theorem rc_lenT {a : Tx} (h : a.length ≤ 16777216) : RC rLenT [T a] H (.int (a.length : Int)) := fun H1 _ _ q => ⟨a, rfl, h, q H1 (Ex.refl H1)⟩
theorem rc_isi {n t : String} {b : Bool} (ty : ∀ H1, Ex H H1 → TyX K H1 x (.type t)) (h : kitB t n = some b) : RC (rIsiB K) [x, .ty n] H (.bl b) := fun H1 e _ q => ⟨x, n, t, b, rfl, ty H1 e, h, q H1 (Ex.refl H1)⟩
theorem rc_int {i : Int} : RC (fun xs H Q => (∃ i, xs = [.int i] ∧ Q (.int i) H) ∨ ∃ k, xs = [.bl k] ∧ Q (.int (if k then 1 else 0)) H) [.int i] H (.int i) := fun H1 _ _ q => .inl ⟨i, rfl, q H1 (Ex.refl H1)⟩
theorem rc_gcd {a b : Int} : RC rGcd [.int a, .int b] H (.int ((Nat.gcd a.natAbs b.natAbs : Nat) : Int)) := fun H1 _ _ q => ⟨a, b, rfl, q H1 (Ex.refl H1)⟩
/-- a reading that is given by another one -/
theorem ev_slT {a : Tx} {tl th : TO} {lo hi : Option Int} (h : Ev te σ H (T a)) (h1 : EvO tl σ H lo) (h2 : EvO th σ H hi) (hl : a.length ≤ 16777216) : Ev (tSl rSlT te tl th) σ H (T (cutT a lo hi)) := fun H1 e _ q =>
  h H1 e _ fun H2 e2 => h1 H2 (e.trans e2) _ fun H3 e3 => h2 H3 ((e.trans e2).trans e3) _ fun H4 e4 => ⟨a, rfl, hl, q H4 ((e2.trans e3).trans e4)⟩
/-- a method of a text -/
def RM (r : V → List V → Hp → VK → Prop) (x : V) (vs : List V) (H : Hp) (z : V) : Prop := ∀ H1, Ex H H1 → ∀ Q : VK, (∀ H2, Ex H1 H2 → Q z H2) → r x vs H1 Q
theorem ev_bmT {r : V → List V → Hp → VK → Prop} {tq : TA} {a : Tx} {vs : List V} (h : Ev te σ H (T a)) (ha : EvA tq σ H vs) (hr : RM r (T a) vs H z) : Ev (tBM K "str" r te tq) σ H z := fun H1 e Q q =>
  h H1 e _ fun H2 e2 => ⟨rfl, ha H2 (e.trans e2) _ fun H3 e3 => hr H3 ((e.trans e2).trans e3) Q fun H4 e4 => q H4 ((e2.trans e3).trans e4)⟩
theorem ev_bmTL {r : V → List V → Hp → VK → Prop} {a : Tx} {xs : List V} (h : Ev te σ H (T a)) (ha : EvL tb σ H xs) (hr : ∀ p H1, H1 p = some (.lst xs) → Ex H H1 → RM r (T a) [.ref p] H1 z) : Ev (tBM K "str" r te (tCons tb tNil)) σ H z := fun H1 e Q q =>
  h H1 e _ fun H2 e2 => ⟨rfl, ha H2 (e.trans e2) _ fun p H3 _ e3 hp => hr p H3 hp ((e.trans e2).trans e3) H3 (Ex.refl H3) Q fun H4 e4 => q H4 ((e2.trans e3).trans e4)⟩
/-- a call of a built-in on one new list -/
theorem ev_cbL {r : List V → Hp → VK → Prop} {xs : List V} (h : EvL te σ H xs) (hr : ∀ p H1, H1 p = some (.lst xs) → Ex H H1 → RC r [.ref p] H1 z) : Ev (tCB r (tCons te tNil)) σ H z := fun H1 e Q q =>
  h H1 e _ fun p H2 _ e2 hp => hr p H2 hp (e.trans e2) H2 (Ex.refl H2) Q fun H3 e3 => q H3 (e2.trans e3)
theorem rc_all {p : Addr} {bs : List Bool} (h : SqL K H p (bs.map V.bl)) : RC (rAll K) [.ref p] H (.bl (bs.all id)) := fun H1 e _ q => ⟨p, bs, rfl, ex_l e h, q H1 (Ex.refl H1)⟩
theorem rc_any {p : Addr} {bs : List Bool} (h : SqL K H p (bs.map V.bl)) : RC (rAny K) [.ref p] H (.bl (bs.any id)) := fun H1 e _ q => ⟨p, bs, rfl, ex_l e h, q H1 (Ex.refl H1)⟩
theorem rc_sum {p : Addr} {ns : List Int} (h : SqL K H p (ns.map V.int)) : RC (rSum K) [.ref p] H (.int ns.sum) := fun H1 e _ q => ⟨p, ns, rfl, ex_l e h, q H1 (Ex.refl H1)⟩
theorem rm_join {p : Addr} {ys : List Tx} (h : SqL K H p (ys.map T) ∨ SqT K H p (ys.map T)) (hl : (ys.map List.length).sum ≤ 16777216) : RM (rJoinT K) (T []) [.ref p] H (T ys.flatten) := fun H1 e _ q =>
  ⟨[], p, ys, rfl, rfl, h.imp (ex_l e) (ex_t e), by simpa using hl, by rw [joinL_nil]; exact q H1 (Ex.refl H1)⟩

/-! ### heaps: all but some stand -/
def Exc (B : Addr → Prop) (H H' : Hp) : Prop := ∀ b o, ¬ B b → H b = some o → H' b = some o
theorem Exc.refl {B : Addr → Prop} (H : Hp) : Exc B H H := fun _ _ _ h => h
theorem Exc.trans {B : Addr → Prop} {H H1 H2 : Hp} (a : Exc B H H1) (b : Exc B H1 H2) : Exc B H H2 := fun x o n h => b x o n (a x o n h)
theorem Exc.of {B : Addr → Prop} {H H1 : Hp} (a : Ex H H1) : Exc B H H1 := fun x o _ h => a x o h
theorem Exc.ex {H H1 : Hp} (a : Exc (fun _ => False) H H1) : Ex H H1 := fun x o h => a x o (fun z => z) h
theorem Exc.then {B : Addr → Prop} {H H1 H2 : Hp} (a : Exc B H H1) (b : Ex H1 H2) : Exc B H H2 := a.trans (.of b)
theorem Exc.mono {B B' : Addr → Prop} {H H1 : Hp} (a : Exc B H H1) (h : ∀ b, B b → B' b) : Exc B' H H1 := fun x o n e => a x o (fun z => n (h x z)) e
theorem Exc.upd {B : Addr → Prop} {H H1 : Hp} {p : Addr} {o : HO} (a : Exc B H H1) (h : B p ∨ H p = none) : Exc B H (upd H1 p o) := fun x u n e => by
  have hx : x ≠ p := by
    rintro rfl
    rcases h with h | h
    · exact n h
    · rw [h] at e; cases e
  rw [upd_ne hx]
  exact a x u n e
theorem Exc.l {B : Addr → Prop} {K : PySem.W.Frag} {H H1 : Hp} {p : Addr} {xs : List V} (a : Exc B H H1) (n : ¬ B p) (h : SqL K H p xs) : SqL K H1 p xs := by
  rcases h with (h | ⟨o, h⟩) | h
  · exact .inl (.inl (a _ _ n h))
  · exact .inl (.inr ⟨o, a _ _ n h⟩)
  · exact .inr h
theorem Exc.tp {B : Addr → Prop} {K : PySem.W.Frag} {H H1 : Hp} {p : Addr} {xs : List V} (a : Exc B H H1) (n : ¬ B p) (h : SqT K H p xs) : SqT K H1 p xs := by
  rcases h with (h | ⟨o, h⟩) | h
  · exact .inl (.inl (a _ _ n h))
  · exact .inl (.inr ⟨o, a _ _ n h⟩)
  · exact .inr h
theorem Exc.fresh {B : Addr → Prop} {H H1 : Hp} {p : Addr} (a : Exc B H H1) (n : ¬ B p) (h : H1 p = none) : H p = none := by
  cases e : H p with
  | none => rfl
  | some o => rw [a _ _ n e] at h; cases h

/-! ### what is walked: the values, one by one -/
/-- wi gives n values; the i-th is such that P i of it and the heap holds; own: what must stand meanwhile -/
def Src (wi : TI) (σ : L2.St) (H : Hp) (n : Nat) (own : Addr → Prop) (P : Nat → V → Hp → Prop) : Prop :=
  ∀ H1, Ex H H1 → ∀ R : It → Hp → Prop, (∀ J H2 S, Ex H1 H2 → Walk J n S (fun i Ha v Hb => Ex Ha Hb ∧ P i v Hb) → (∀ (B : Addr → Prop) Ha, (∀ b, B b → H b ≠ none ∧ ¬ own b) → Exc B H2 Ha → S Ha) → R J H2) → wi σ H1 R
theorem src_list {a : Addr} {xs : List V} {tl : TE} (h : Ev tl σ H (.ref a)) (hs : SqL K H a xs) : Src (iList K tl) σ H xs.length (fun b => b = a) (fun i v _ => xs[i]? = some v) := fun H1 e R q =>
  h H1 e _ fun H2 e2 => ⟨a, rfl, ⟨xs, ex_l (e.trans e2) hs⟩, q _ H2 _ e2 (walk_list.mono (fun _ z => z) fun i Ha v Hb _ _ hy => by
    obtain ⟨rfl, hy⟩ := hy
    exact ⟨Ex.refl _, hy⟩) fun B Ha hB ea => ea.l (fun z => (hB a z).2 rfl) (ex_l (e.trans e2) hs)⟩
theorem src_listM {α : Type} {f : α → V} {a : Addr} {xs : List α} {tl : TE} (h : Ev tl σ H (.ref a)) (hs : SqL K H a (xs.map f)) : Src (iList K tl) σ H xs.length (fun b => b = a) (fun i v _ => (xs.map f)[i]? = some v) := by
  have h1 := src_list h hs
  rw [List.length_map] at h1
  exact h1
/-- over a new list -/
theorem src_newL {xs : List V} {tl : TE} (h : EvL tl σ H xs) : Src (iList K tl) σ H xs.length (fun _ => False) (fun i v _ => xs[i]? = some v) := fun H1 e R q =>
  h H1 e _ fun a H2 ha e2 h2 => ⟨a, rfl, ⟨xs, sq_of h2⟩, q _ H2 _ e2 (walk_list.mono (fun _ z => z) fun i Ha v Hb _ _ hy => by
    obtain ⟨rfl, hy⟩ := hy
    exact ⟨Ex.refl _, hy⟩) fun B Ha hB ea => ea.l (fun z => (hB a z).1 (fresh_back e ha)) (sq_of h2)⟩
theorem src_newLM {α : Type} {f : α → V} {xs : List α} {tl : TE} (h : EvL tl σ H (xs.map f)) : Src (iList K tl) σ H xs.length (fun _ => False) (fun i v _ => (xs.map f)[i]? = some v) := by
  have h1 := src_newL (K := K) h
  rw [List.length_map] at h1
  exact h1
theorem src_tup {a : Addr} {xs : List V} {tl : TE} (h : Ev tl σ H (.ref a)) (hs : SqT K H a xs) : Src (iTup K tl) σ H xs.length (fun b => b = a) (fun i v _ => xs[i]? = some v) := fun H1 e R q =>
  h H1 e _ fun H2 e2 => ⟨a, rfl, ⟨xs, ex_t (e.trans e2) hs⟩, q _ H2 _ e2 (walk_tup.mono (fun _ z => z) fun i Ha v Hb _ _ hy => by
    obtain ⟨rfl, hy⟩ := hy
    exact ⟨Ex.refl _, hy⟩) fun B Ha hB ea => ea.tp (fun z => (hB a z).2 rfl) (ex_t (e.trans e2) hs)⟩
theorem src_tupM {α : Type} {f : α → V} {a : Addr} {xs : List α} {tl : TE} (h : Ev tl σ H (.ref a)) (hs : SqT K H a (xs.map f)) : Src (iTup K tl) σ H xs.length (fun b => b = a) (fun i v _ => (xs.map f)[i]? = some v) := by
  have h1 := src_tup h hs
  rw [List.length_map] at h1
  exact h1
theorem src_str {a : Tx} {tl : TE} (h : Ev tl σ H (T a)) : Src (iStr tl) σ H a.length (fun _ => False) (fun i v _ => (a.map fun c => T [c])[i]? = some v) := fun H1 e R q =>
  h H1 e _ fun H2 e2 => ⟨_, rfl, q _ H2 (fun _ => True) e2 (by
    have w := (walk_str (z := SX.S a)).mono (fun _ z => z) (Y' := fun i Ha v Hb => Ex Ha Hb ∧ (a.map fun c => T [c])[i]? = some v) (fun i Ha v Hb _ _ hy => by
      obtain ⟨rfl, c, hc, rfl⟩ := hy
      refine ⟨Ex.refl _, ?_⟩
      have hc' : a[i]? = some c := by
        have : (a.toArray)[i]? = some c := hc
        simpa using this
      rw [List.getElem?_map, hc']
      rfl)
    have e3 : (SX.S a).cps.size = a.length := S_length a
    rw [e3] at w
    exact w) fun _ _ _ _ => True.intro⟩
theorem src_range1 {tq : TA} {n : Nat} (h : EvA tq σ H [.int (n : Int)]) (hn : n ≤ 1000000000) : Src (iRng1 tq) σ H n (fun _ => False) (fun i v _ => v = .int (i : Int)) := fun H1 e R q =>
  h H1 e _ fun H2 e2 => ⟨_, rfl, by omega, by omega, by
    have w := (walk_range (lo := 0) (n := n)).mono (fun _ z => z) (Y' := fun i Ha v Hb => Ex Ha Hb ∧ v = .int (i : Int)) (fun i Ha v Hb _ _ hy => by
      obtain ⟨rfl, rfl⟩ := hy
      exact ⟨Ex.refl _, by show V.int (0 + (i : Int)) = V.int (i : Int); rw [Int.zero_add]⟩)
    exact q _ H2 _ e2 w fun _ _ _ _ => True.intro⟩
theorem src_range2 {tq : TA} {lo hi : Int} {n : Nat} (h : EvA tq σ H [.int lo, .int hi]) (h0 : -1000000000 ≤ lo) (h1 : lo ≤ 1000000000) (h2 : -1000000000 ≤ hi) (h3 : hi ≤ 1000000000) (hn : n = (hi - lo).toNat) : Src (iRng2 tq) σ H n (fun _ => False) (fun i v _ => v = .int (lo + (i : Int))) := fun H1 e R q =>
  h H1 e _ fun H2 e2 => ⟨lo, hi, rfl, ⟨by omega, by omega, by omega, by omega⟩, by
    subst hn
    have w := (walk_range (lo := lo) (n := (hi - lo).toNat)).mono (fun _ z => z) (Y' := fun i Ha v Hb => Ex Ha Hb ∧ v = .int (lo + (i : Int))) (fun i Ha v Hb _ _ hy => by
      obtain ⟨rfl, rfl⟩ := hy
      exact ⟨Ex.refl _, rfl⟩)
    exact q _ H2 _ e2 w fun _ _ _ _ => True.intro⟩
theorem src_enum {a : Addr} {xs : List V} {tl : TE} (h : Ev tl σ H (.ref a)) (hs : SqL K H a xs) : Src (iEnum K (tCons tl tNil)) σ H xs.length (fun b => b = a) (fun i v Hb => ∃ p x, v = .ref p ∧ xs[i]? = some x ∧ Hb p = some (.tup [.int (i : Nat), x])) := fun H1 e R q =>
  h H1 e _ fun H2 e2 => ⟨a, xs, rfl, ex_l (e.trans e2) hs, q _ H2 _ e2 (walk_enum.mono (fun _ z => z) fun i Ha v Hb _ _ hy => by
    obtain ⟨p, y, x, rfl, hn, rfl, h1, h2⟩ := hy
    refine ⟨Ex.new hn, p, x, rfl, h2, ?_⟩
    rw [← Option.some.inj h1]
    exact upd_same) fun B Ha hB ea => ea.l (fun z => (hB a z).2 rfl) (ex_l (e.trans e2) hs)⟩
theorem src_zip {a b : Addr} {xs ys : List V} {n : Nat} {tl tr : TE} (h : Ev tl σ H (.ref a)) (h2 : Ev tr σ H (.ref b)) (hs : SqL K H a xs) (hs2 : SqL K H b ys) (hn : n = min xs.length ys.length) :
    Src (iZip K (tCons tl (tCons tr tNil))) σ H n (fun c => c = a ∨ c = b) (fun i v Hb => ∃ p x y, v = .ref p ∧ xs[i]? = some x ∧ ys[i]? = some y ∧ Hb p = some (.tup [x, y])) := fun H1 e R q =>
  h H1 e _ fun H2 e2 => h2 H2 (e.trans e2) _ fun H3 e3 => ⟨a, b, xs, ys, rfl, ex_l ((e.trans e2).trans e3) hs, ex_l ((e.trans e2).trans e3) hs2, q _ H3 _ (e2.trans e3) ((walk_zip hn).mono (fun _ z => z) fun i Ha v Hb _ _ hy => by
    obtain ⟨p, x, y, rfl, hf, rfl, h1, h2⟩ := hy
    exact ⟨Ex.new hf, p, x, y, rfl, h1, h2, upd_same⟩) fun B Ha hB ea => ⟨ea.l (fun z => (hB a z).2 (.inl rfl)) (ex_l ((e.trans e2).trans e3) hs), ea.l (fun z => (hB b z).2 (.inr rfl)) (ex_l ((e.trans e2).trans e3) hs2)⟩⟩
theorem src_as {wi : TI} {n : Nat} {own : Addr → Prop} {P P' : Nat → V → Hp → Prop} (h : Src wi σ H n own P) (hp : ∀ i v H', i < n → P i v H' → P' i v H') : Src wi σ H n own P' := fun H1 e R q => h H1 e R fun J H2 S e2 w hS => q J H2 S e2 ⟨w.goes, w.stops, fun i Ha v Hb hi hg hy => ⟨(w.yields i Ha v Hb hi hg hy).1, hp i v Hb hi (w.yields i Ha v Hb hi hg hy).2⟩⟩ hS
theorem src_range1L {tq : TA} {n : Nat} (h : EvA tq σ H [.int (n : Int)]) (hn : n ≤ 1000000000) : Src (iRng1 tq) σ H (List.range n).length (fun _ => False) (fun i v _ => ((List.range n).map fun (i : Nat) => V.int (i : Int))[i]? = some v) := by
  have h1 := src_as (P' := fun i v _ => ((List.range n).map fun (i : Nat) => V.int (i : Int))[i]? = some v) (src_range1 h hn) fun i v _ hi hp => by
    subst hp
    show ((List.range n).map fun (i : Nat) => V.int (i : Int))[i]? = _
    rw [List.getElem?_map, List.getElem?_range hi]
    rfl
  have e : (List.range n).length = n := List.length_range
  rw [e]
  exact h1
theorem src_range2L {tq : TA} {lo hi : Int} {n : Nat} (h : EvA tq σ H [.int lo, .int hi]) (h0 : -1000000000 ≤ lo) (h1 : lo ≤ 1000000000) (h2 : -1000000000 ≤ hi) (h3 : hi ≤ 1000000000) (hn : n = (hi - lo).toNat) : Src (iRng2 tq) σ H (List.range n).length (fun _ => False) (fun i v _ => ((List.range n).map fun (i : Nat) => V.int (lo + (i : Int)))[i]? = some v) := by
  have h1 := src_as (P' := fun i v _ => ((List.range n).map fun (i : Nat) => V.int (lo + (i : Int)))[i]? = some v) (src_range2 h h0 h1 h2 h3 hn) fun i v _ hi hp => by
    subst hp
    show ((List.range n).map fun (i : Nat) => V.int (lo + (i : Int)))[i]? = _
    rw [List.getElem?_map, List.getElem?_range hi]
    rfl
  have e : (List.range n).length = n := List.length_range
  rw [e]
  exact h1

/-! ### comprehensions over such -/
/-- the target a name -/
theorem el_lcW {wi : TI} {j : Nat} {vs : List Nat} {n : Nat} {own : Addr → Prop} {P : Nat → V → Hp → Prop} (f : Nat → Bool) (v : Nat → V) (hs : Src wi σ H n own P) (hn : n ≤ 40000) (hw : ∀ x, wipe ((wipe σ vs).set j (some x)) vs = wipe σ vs)
    (ht : ∀ (i : Nat) (x : V) H1, Ex H H1 → i < n → P i x H1 → EvT t ((wipe σ vs).set j (some x)) H1 (f i)) (he : ∀ (i : Nat) (x : V) H1, Ex H H1 → i < n → P i x H1 → f i = true → Ev te ((wipe σ vs).set j (some x)) H1 (v i)) :
    EvL (tLc wi (gName j) t te vs) σ H (given n f v) := fun H0 e Q q => hs H0 e _ fun J H1 S e1 w hS => fun Dl hD =>
  lc_it w (Qd := fun H3 => Q (.ref Dl) H3) (Cw H1 f v Dl) ⟨hD, Ex.new hD, upd_same⟩ (fun i Hi _ p => hS (fun _ => False) Hi (fun _ z => z.elim) (.of p.2.1)) (fun i x Hi Hj hi p hy => by
    obtain ⟨ey, hP⟩ := hy
    have p' : Cw H1 f v Dl i Hj := ⟨p.1, p.2.1.trans ey, ey _ _ p.2.2⟩
    have eAll : Ex H Hj := (e.trans e1).trans p'.2.1
    refine ⟨hw x, ?_⟩
    have p2 : Cw H1 f v Dl i Hj := p'
    obtain ⟨p1, p3, p4⟩ := p2
    refine ht i x Hj eAll hi hP Hj (Ex.refl _) _ fun H3 e3 => ?_
    cases hf : f i with
    | true =>
      show te _ H3 fun y H4 => ∃ acc, H4 Dl = some (.lst acc) ∧ acc.length < sizeLine ∧ Cw H1 f v Dl (i + 1) (upd H4 Dl (.lst (acc ++ [y])))
      refine he i x Hj eAll hi hP hf H3 e3 _ fun H4 e4 => ⟨given i f v, e4 Dl _ (e3 Dl _ p4), sz_lt (by have := given_len i f v; omega), p1, Ex.mut ((p3.trans e3).trans e4) p1, ?_⟩
      rw [given_yes hf]
      exact upd_same
    | false =>
      show Cw H1 f v Dl (i + 1) H3
      refine ⟨p1, p3.trans e3, ?_⟩
      rw [given_no hf]
      exact e3 Dl _ p4) (fun H3 p => q Dl H3 (fresh_back e1 p.1) (e1.trans p.2.1) p.2.2)
theorem given_map {α : Type} (xs : List α) (p : α → Bool) (g : α → V) (f : Nat → Bool) (v : Nat → V) (hf : ∀ i a, xs[i]? = some a → f i = p a) (hv : ∀ i a, xs[i]? = some a → v i = g a) : given xs.length f v = (xs.filter p).map g := by
  have key : ∀ n, n ≤ xs.length → given n f v = ((xs.take n).filter p).map g := fun n => by
    induction n with
    | zero => intro _; rfl
    | succ n ih =>
      intro hn
      have ha : xs[n]? = some xs[n] := List.getElem?_eq_getElem (by omega)
      rw [List.take_add_one, ha, List.filter_append, List.map_append, ← ih (by omega)]
      cases hp : p xs[n] with
      | true =>
        rw [given_yes ((hf n _ ha).trans hp), hv n _ ha]
        simp [hp]
      | false =>
        rw [given_no ((hf n _ ha).trans hp)]
        simp [hp]
  have := key xs.length (Nat.le_refl _)
  rw [List.take_length] at this
  exact this
/-- over values that stand for xs, one by one; the target a name -/
theorem el_lcX {α : Type} {wi : TI} {j : Nat} {vs : List Nat} {n : Nat} {own : Addr → Prop} {P : Nat → V → Hp → Prop} {g : α → V} {p : α → Bool} (xs : List α) (R : α → V → Hp → Prop) (hs : Src wi σ H n own P) (hn : n ≤ 40000) (hw : ∀ x, wipe ((wipe σ vs).set j (some x)) vs = wipe σ vs)
    (hx : xs.length = n) (hP : ∀ i x H1, P i x H1 → ∃ a, xs[i]? = some a ∧ R a x H1)
    (ht : ∀ (a : α) (x : V) H1, Ex H H1 → a ∈ xs → R a x H1 → EvT t ((wipe σ vs).set j (some x)) H1 (p a)) (he : ∀ (a : α) (x : V) H1, Ex H H1 → a ∈ xs → R a x H1 → p a = true → Ev te ((wipe σ vs).set j (some x)) H1 (g a)) :
    EvL (tLc wi (gName j) t te vs) σ H ((xs.filter p).map g) := by
  subst hx
  have h0 := el_lcW (te := te) (t := t) (fun i => match xs[i]? with | some a => p a | none => false) (fun i => match xs[i]? with | some a => g a | none => .non) hs hn hw
    (fun i x H1 e hi hp => by
      obtain ⟨a, ha, hr⟩ := hP i x H1 hp
      simp only [ha]
      exact ht a x H1 e (List.mem_of_getElem? ha) hr)
    (fun i x H1 e hi hp hf => by
      obtain ⟨a, ha, hr⟩ := hP i x H1 hp
      simp only [ha] at hf ⊢
      exact he a x H1 e (List.mem_of_getElem? ha) hr hf)
  rw [given_map xs p g _ _ (fun i a ha => by simp only [ha]) (fun i a ha => by simp only [ha])] at h0
  exact h0
theorem et_yes : EvT tYes σ H true := fun H1 _ _ q => q H1 (Ex.refl H1)
theorem at_map {α : Type} {xs : List α} {f : α → V} {i : Nat} {x : V} (h : (xs.map f)[i]? = some x) : ∃ a, xs[i]? = some a ∧ x = f a := by
  rw [List.getElem?_map] at h
  cases e : xs[i]? with
  | none => rw [e] at h; cases h
  | some a => rw [e] at h; exact ⟨a, rfl, (Option.some.inj h).symm⟩
/-- over a list of values f a; no test -/
theorem el_lcM {α : Type} {wi : TI} {j : Nat} {vs : List Nat} {own : Addr → Prop} {f g : α → V} (xs : List α) (hs : Src wi σ H xs.length own (fun i v _ => (xs.map f)[i]? = some v)) (hn : xs.length ≤ 40000) (hw : ∀ x, wipe ((wipe σ vs).set j (some x)) vs = wipe σ vs)
    (he : ∀ (a : α) H1, Ex H H1 → a ∈ xs → Ev te ((wipe σ vs).set j (some (f a))) H1 (g a)) : EvL (tLc wi (gName j) tYes te vs) σ H (xs.map g) := by
  have h := el_lcX (te := te) (t := tYes) (p := fun _ => true) (g := g) xs (fun a x _ => x = f a) hs hn hw rfl (fun i x _ hp => at_map hp) (fun _ _ _ _ _ _ => et_yes) (fun a x H1 e hm hr _ => by rw [hr]; exact he a H1 e hm)
  rw [List.filter_eq_self.mpr (fun _ _ => rfl)] at h
  exact h
/-- .. with a test -/
theorem el_lcF {α : Type} {wi : TI} {j : Nat} {vs : List Nat} {own : Addr → Prop} {f g : α → V} {p : α → Bool} (xs : List α) (hs : Src wi σ H xs.length own (fun i v _ => (xs.map f)[i]? = some v)) (hn : xs.length ≤ 40000) (hw : ∀ x, wipe ((wipe σ vs).set j (some x)) vs = wipe σ vs)
    (ht : ∀ (a : α) H1, Ex H H1 → a ∈ xs → EvT t ((wipe σ vs).set j (some (f a))) H1 (p a)) (he : ∀ (a : α) H1, Ex H H1 → a ∈ xs → p a = true → Ev te ((wipe σ vs).set j (some (f a))) H1 (g a)) : EvL (tLc wi (gName j) t te vs) σ H ((xs.filter p).map g) :=
  el_lcX (te := te) (t := t) xs (fun a x _ => x = f a) hs hn hw rfl (fun i x _ hp => at_map hp) (fun a x H1 e hm hr => by rw [hr]; exact ht a H1 e hm) (fun a x H1 e hm hr hf => by rw [hr]; exact he a H1 e hm hf)

/-! ### for loops over such; B: what the turns may change; the word speaks of the heap Hs at the loop's start -/
variable {D : Ends} {tu tz : TS}
theorem s_forW {wi : TI} {g : TG} {n : Nat} {own : Addr → Prop} {P : Nat → V → Hp → Prop} (B : Addr → Prop) (hs : Src wi σ H n own P) (hB : ∀ b, B b → H b ≠ none ∧ ¬ own b) (Pv : Hp → Nat → L2.St → Hp → Prop)
    (h0 : ∀ Hs, Ex H Hs → Pv Hs 0 σ Hs) (hE : ∀ Hs i σ' H', Pv Hs i σ' H' → Exc B Hs H') (hst : ∀ Hs i σ' Ha Hb, Pv Hs i σ' Ha → Ex Ha Hb → Pv Hs i σ' Hb)
    (hb : ∀ Hs i x σ' H', Ex H Hs → i < n → Pv Hs i σ' H' → P i x H' → g x σ' H' fun σ2 H2 => tu { D with nx := Pv Hs (i + 1), ct := Pv Hs (i + 1), bk := D.nx } σ2 H2) (hd : ∀ Hs σ' H', Ex H Hs → Pv Hs n σ' H' → D.nx σ' H') : tFor wi g tu D σ H :=
  hs H (Ex.refl H) _ fun J Hs S e w hS => for_it w (Pv Hs) (h0 Hs e) (fun i σ' H' _ p => hS B H' hB (hE Hs i σ' H' p)) (fun i x σ' Ha Hb hi p hy => hb Hs i x σ' Hb e hi (hst Hs i σ' Ha Hb p hy.1) hy.2) (fun σ' H' p => hd Hs σ' H' e p)
theorem q_forW {wi : TI} {g : TG} {n : Nat} {own : Addr → Prop} {P : Nat → V → Hp → Prop} (B : Addr → Prop) (hs : Src wi σ H n own P) (hB : ∀ b, B b → H b ≠ none ∧ ¬ own b) (Pv : Hp → Nat → L2.St → Hp → Prop)
    (h0 : ∀ Hs, Ex H Hs → Pv Hs 0 σ Hs) (hE : ∀ Hs i σ' H', Pv Hs i σ' H' → Exc B Hs H') (hst : ∀ Hs i σ' Ha Hb, Pv Hs i σ' Ha → Ex Ha Hb → Pv Hs i σ' Hb)
    (hb : ∀ Hs i x σ' H', Ex H Hs → i < n → Pv Hs i σ' H' → P i x H' → g x σ' H' fun σ2 H2 => tu { D with nx := Pv Hs (i + 1), ct := Pv Hs (i + 1), bk := tz D } σ2 H2) (hd : ∀ Hs σ' H', Ex H Hs → Pv Hs n σ' H' → tz D σ' H') : tSeq (tFor wi g tu) tz D σ H :=
  s_forW (D := { D with nx := tz D }) B hs hB Pv h0 hE hst hb hd
end
end Wc
set_option Elab.async false
set_option linter.all false
set_option maxRecDepth 100000
set_option maxHeartbeats 2000000
/-! loops that search, calls of promises -/
namespace Wc
open PySem PySem.Spec PyProof.Rows L2 Evl
section
variable {K : PySem.W.Frag} {σ : L2.St} {H H' : Hp} {ta tb te : TE} {t : TT} {x y z v : V} {D : Ends} {tu tr tz : TS}
theorem set_self {σ : L2.St} {j : Nat} (hj : j < σ.length) : ∃ y, σ = σ.set j y := ⟨σ[j], by simp⟩
/-- for x in ..: if t: return .. -/
theorem q_search {wi : TI} {j : Nat} {n : Nat} {own : Addr → Prop} {P : Nat → V → Hp → Prop} (hs : Src wi σ H n own P) (hj : j < σ.length) (f : Nat → Bool)
    (ht : ∀ i x H1, Ex H H1 → i < n → P i x H1 → (∀ k, k < i → f k = false) → EvT t (σ.set j (some x)) H1 (f i))
    (hr : ∀ i x H1 H2, Ex H H1 → i < n → P i x H1 → Ex H1 H2 → (∀ k, k < i → f k = false) → f i = true → ∀ D' : Ends, D'.rt = D.rt → tr D' (σ.set j (some x)) H2)
    (hd : ∀ y H1, Ex H H1 → (∀ i, i < n → f i = false) → tz D (σ.set j y) H1) : tSeq (tFor wi (gName j) (tIfS t tr tNext)) tz D σ H := by
  refine q_forW (fun _ => False) hs (fun _ z => z.elim) (fun Hs i σ' H' => (∃ y, σ' = σ.set j y) ∧ Ex Hs H' ∧ ∀ k, k < i → f k = false) ?_ ?_ ?_ ?_ ?_
  · intro Hs e
    exact ⟨set_self hj, Ex.refl _, fun k hk => absurd hk (Nat.not_lt_zero _)⟩
  · intro Hs i σ' H' p
    exact .of p.2.1
  · intro Hs i σ' Ha Hb p e
    exact ⟨p.1, p.2.1.trans e, p.2.2⟩
  · rintro Hs i x σ' H' e hi ⟨⟨y, rfl⟩, e2, hk⟩ hP
    have eA : Ex H H' := e.trans e2
    show tIfS t tr tNext _ ((σ.set j y).set j (some x)) H'
    rw [List.set_set]
    refine s_when (ht i x H' eA hi hP hk) (fun hb H1 e1 => ?_) (fun hb H1 e1 => ?_)
    · exact hr i x H' H1 eA hi hP e1 hk hb _ rfl
    · exact ⟨⟨_, rfl⟩, e2.trans e1, fun k hk' => by
        rcases Nat.lt_succ_iff_lt_or_eq.mp hk' with h | h
        · exact hk k h
        · rw [h]; exact hb⟩
  · rintro Hs σ' H' e ⟨⟨y, rfl⟩, e2, hk⟩
    exact hd y H' (e.trans e2) hk
theorem rc_allM {α : Type} {p : Addr} {xs : List α} {f : α → Bool} (h : SqL K H p (xs.map fun a => V.bl (f a))) : RC (rAll K) [.ref p] H (.bl (xs.all f)) := by
  have h2 : SqL K H p ((xs.map f).map V.bl) := by
    rw [List.map_map]
    exact h
  have e := rc_all h2
  rw [List.all_map] at e
  exact e
theorem rc_anyM {α : Type} {p : Addr} {xs : List α} {f : α → Bool} (h : SqL K H p (xs.map fun a => V.bl (f a))) : RC (rAny K) [.ref p] H (.bl (xs.any f)) := by
  have h2 : SqL K H p ((xs.map f).map V.bl) := by
    rw [List.map_map]
    exact h
  have e := rc_any h2
  rw [List.any_map] at e
  exact e
theorem rc_sumM {α : Type} {p : Addr} {xs : List α} {f : α → Int} (h : SqL K H p (xs.map fun a => V.int (f a))) : RC (rSum K) [.ref p] H (.int (xs.map f).sum) := by
  have h2 : SqL K H p ((xs.map f).map V.int) := by
    rw [List.map_map]
    exact h
  exact rc_sum h2
theorem divW {i j : Int} (h : 0 < j) (h1 : j ≤ 1000000000) : CDivW i j := wide_div (b := 31) h (by omega) (by decide) (by decide)
theorem et_andI {u : TT} {a b : Bool} (h1 : EvT t σ H a) (h2 : a = true → EvT u σ H b) : EvT (tAnd t u) σ H (a && b) := et_and h1 h2
/-- and: what stands behind is asked only where the first holds -/
theorem et_andG {u : TT} {a : Bool} {b : Bool} (h1 : EvT t σ H a) (h2 : a = true → EvT u σ H b) (h3 : a = false → b = false) : EvT (tAnd t u) σ H b := by
  have h := et_and h1 h2
  cases a with
  | true => exact h
  | false =>
    rw [h3 rfl] at h ⊢
    exact h
/-- a slice of a new list -/
theorem el_slN {xs : List V} {tl th : TO} {lo hi : Option Int} (h : EvL te σ H xs) (h1 : EvO tl σ H lo) (h2 : EvO th σ H hi) : EvL (tSl (rSlL K) te tl th) σ H (cutV xs lo hi) := fun H1 e _ q =>
  h H1 e _ fun a H2 ha e2 hx => h1 H2 (e.trans e2) _ fun H3 e3 => h2 H3 ((e.trans e2).trans e3) _ fun H4 e4 =>
    ⟨a, xs, rfl, ex_l (e3.trans e4) (sq_of hx), fun p hp => q p _ (fresh_back ((e2.trans e3).trans e4) hp) (((e2.trans e3).trans e4).trans (Ex.new hp)) upd_same⟩
theorem cutV_to (xs : List V) (n : Nat) : cutV xs none (some (n : Int)) = xs.take n := by
  unfold cutV
  rw [HT.sIx_none, HT.sIx_nat, List.drop_zero, Nat.sub_zero]
  by_cases h : n ≤ xs.length
  · rw [Nat.min_eq_left h]
  · rw [Nat.min_eq_right (by omega), List.take_of_length_le (Nat.le_refl _), List.take_of_length_le (by omega)]
theorem cutV_from (xs : List V) (n : Nat) : cutV xs (some (n : Int)) none = xs.drop n := by
  unfold cutV
  rw [HT.sIx_none, HT.sIx_nat]
  by_cases h : n ≤ xs.length
  · rw [Nat.min_eq_left h]
    exact List.take_of_length_le (by rw [List.length_drop]; exact Nat.le_refl _)
  · rw [Nat.min_eq_right (by omega), List.drop_eq_nil_of_le (Nat.le_refl _), List.drop_eq_nil_of_le (by omega), List.take_nil]
/-- xs.extend(ys), ys a new list -/
theorem s_ext {l : Addr} {xs ys : List V} (hl : H l = some (.lst xs)) (ha : Ev ta σ H (.ref l)) (h : EvL te σ H ys) (hz : xs.length + ys.length ≤ 1000000) (k : ∀ H1, Ex H H1 → D.nx σ (upd H1 l (.lst (xs ++ ys)))) :
    tDrop (tBM K "list" rExtend ta (tCons te tNil)) D σ H := ha H (Ex.refl H) _ fun H1 e1 =>
  ⟨Or.inl ⟨rfl, xs, sq_of (e1 l _ hl)⟩, h H1 e1 _ fun p H2 hp e2 h2 => ⟨l, p, xs, ys, rfl, rfl, e2 l _ (e1 l _ hl), h2, Nat.le_trans hz (by decide), k H2 (e1.trans e2)⟩⟩
/-- return f(..), x = f(..), whatever f hands back -/
theorem s_retC {sp : Sp} {dvs vs : List V} {E : XK} {tq : TA} (h : EvA tq σ H vs) (k : ∀ H1, Ex H H1 → sp (vs ++ dvs) H1 D.rt E) : tRet (tCall sp dvs E tq) D σ H := h H (Ex.refl H) _ fun H1 e1 => k H1 e1
theorem q_asgC {i : Nat} {sp : Sp} {dvs vs : List V} {E : XK} {tq : TA} (h : EvA tq σ H vs) (k : ∀ H1, Ex H H1 → sp (vs ++ dvs) H1 (fun v H2 => tz D (σ.set i (some v)) H2) E) : tSeq (tAsg (tCall sp dvs E tq) (gName i)) tz D σ H := h H (Ex.refl H) _ fun H1 e1 => k H1 e1
/-- a promise that hands back a value | a new list | a new tuple, all else kept -/
def RetU (xs : List V) (H : Hp) (Q : VK) : Prop := ∀ p H2, H p = none → Ex H H2 → H2 p = some (.tup xs) → Q (.ref p) H2
theorem RetV.mono {v : V} {H H1 : Hp} {Q : VK} (k : RetV v H Q) (e : Ex H H1) : RetV v H1 Q := fun H2 e2 => k H2 (e.trans e2)
theorem RetL.mono {xs : List V} {H H1 : Hp} {Q : VK} (k : RetL xs H Q) (e : Ex H H1) : RetL xs H1 Q := fun p H2 hp e2 h2 => k p H2 (fresh_back e hp) (e.trans e2) h2
theorem RetU.mono {xs : List V} {H H1 : Hp} {Q : VK} (k : RetU xs H Q) (e : Ex H H1) : RetU xs H1 Q := fun p H2 hp e2 h2 => k p H2 (fresh_back e hp) (e.trans e2) h2
theorem RetV.is {v w : V} {H : Hp} {Q : VK} (k : RetV v H Q) (e : v = w) : RetV w H Q := e ▸ k
end
end Wc
set_option Elab.async false
set_option linter.all false
set_option maxRecDepth 100000
set_option maxHeartbeats 2000000
/-! the feed of draws: a list of three ints at fa; how often it has been stirred -/
namespace Wc
open PySem PySem.Spec PyProof.Rows L2 Evl
def capF : Nat := 1000000000000000000
/-- a feed that has been stirred n times at most -/
def Fd (fa : Addr) (n : Nat) (H : Hp) : Prop := ∃ (a b c : Int) (e : Nat), H fa = some (.lst [.int a, .int b, .int c]) ∧ 0 ≤ a ∧ 1 ≤ e ∧ e ≤ 2000000 ∧ a.natAbs < 2 ^ e ∧ 0 ≤ b ∧ b < 10 ^ 40 ∧ 0 ≤ c ∧ c ≤ (n : Int)
theorem Fd.mono {fa : Addr} {n m : Nat} {H : Hp} (h : Fd fa n H) (hm : n ≤ m) : Fd fa m H := by
  obtain ⟨a, b, c, e, h1, h2, h3, h4, h5, h6, h7, h8, h9⟩ := h
  exact ⟨a, b, c, e, h1, h2, h3, h4, h5, h6, h7, h8, by omega⟩
/-- so many draws may be made -/
def GF (fa : Addr) (B : Nat) (H : Hp) : Prop := ∃ n, n + B ≤ capF ∧ Fd fa n H
/-- at most m draws behind: all else stands -/
structure Rf (fa : Addr) (m : Nat) (H H' : Hp) : Prop where
  keep : Exc (fun c => c = fa) H H'
  feed : ∀ n, n + m ≤ capF → Fd fa n H → Fd fa (n + m) H'
section
variable {K : PySem.W.Frag} {fa p : Addr} {m m' B : Nat} {H H1 H2 : Hp} {o : HO} {xs : List V}
theorem Fd.is (h : Fd fa m H) : H fa ≠ none := by
  obtain ⟨a, b, c, e, h1, _⟩ := h
  rw [h1]
  exact fun z => nomatch z
theorem GF.is (h : GF fa B H) : H fa ≠ none := by
  obtain ⟨n, _, h⟩ := h
  exact h.is
theorem GF.new (h : GF fa B H) (hp : H p = none) : p ≠ fa := fun z => h.is (z ▸ hp)
theorem GF.ofTup (h : GF fa B H) (hp : H p = Option.some (HO.tup xs)) : p ≠ fa := by
  rintro rfl
  obtain ⟨n, _, a, b, c, e, h1, _⟩ := h
  rw [hp] at h1
  cases h1
theorem Rf.refl (H : Hp) : Rf fa 0 H H := ⟨Exc.refl _, fun _ _ h => h⟩
theorem Rf.of_ex (e : Ex H H1) : Rf fa 0 H H1 := ⟨.of e, fun n _ h => by
  obtain ⟨a, b, c, e', h1, h2⟩ := h
  exact ⟨a, b, c, e', e _ _ h1, h2⟩⟩
theorem Rf.trans (a : Rf fa m H H1) (b : Rf fa m' H1 H2) : Rf fa (m + m') H H2 := ⟨a.keep.trans b.keep, fun n hn h => by
  have h1 := b.feed (n + m) (by omega) (a.feed n (by omega) h)
  rw [← Nat.add_assoc]
  exact h1⟩
theorem Rf.mono (a : Rf fa m H H1) (h : m ≤ m') : Rf fa m' H H1 := ⟨a.keep, fun n hn hf => (a.feed n (by omega) hf).mono (by omega)⟩
theorem Rf.then (a : Rf fa m H H1) (e : Ex H1 H2) : Rf fa m H H2 := (a.trans (.of_ex e)).mono (Nat.le_refl _)
theorem Rf.pre (e : Ex H H1) (a : Rf fa m H1 H2) : Rf fa m H H2 := ((Rf.of_ex e).trans a).mono (by omega)
theorem Rf.upd (a : Rf fa m H H1) (h : H p = none) (hf : H fa ≠ none) : Rf fa m H (upd H1 p o) := by
  have hne : fa ≠ p := fun z => hf (z ▸ h)
  refine ⟨a.keep.upd (.inr h), fun n hn hF => ?_⟩
  obtain ⟨x, b, c, e', h1, h2⟩ := a.feed n hn hF
  exact ⟨x, b, c, e', by rw [upd_ne hne]; exact h1, h2⟩
theorem GF.go (g : GF fa B H) (a : Rf fa m H H1) (h : m + m' ≤ B) : GF fa m' H1 := by
  obtain ⟨n, hn, hf⟩ := g
  exact ⟨n + m, by omega, a.feed n (by omega) hf⟩
theorem GF.mono (g : GF fa B H) (h : m ≤ B) : GF fa m H := by
  obtain ⟨n, hn, hf⟩ := g
  exact ⟨n, by omega, hf⟩
theorem GF.ex (g : GF fa B H) (e : Ex H H1) : GF fa B H1 := g.go (Rf.of_ex e) (by omega)
theorem Rf.at_ (a : Rf fa m H H1) (h : H p = some o) (hp : p ≠ fa) : H1 p = some o := a.keep _ _ hp h
theorem Rf.l (a : Rf fa m H H1) (hp : p ≠ fa) (h : SqL K H p xs) : SqL K H1 p xs := a.keep.l hp h
theorem Rf.t (a : Rf fa m H H1) (hp : p ≠ fa) (h : SqT K H p xs) : SqT K H1 p xs := a.keep.tp hp h
theorem Rf.free (a : Rf fa m H H1) (g : H fa ≠ none) (h : H1 p = none) (g1 : H1 fa ≠ none) : H p = none := by
  refine a.keep.fresh ?_ h
  rintro rfl
  exact g1 h
end
/-! ### draw -/
def sp_draw : Sp := fun vs H Q _ => ∃ (fa : Addr) (many : Int), vs = [.ref fa, .int many] ∧ GF fa 1 H ∧ 0 < many ∧ many ≤ 10 ^ 61 ∧ ∀ (d : Nat) H', (d : Int) < many → Rf fa 1 H H' → Q (.int (d : Int)) H'
/-- one of a text's signs, of a list's or a tuple's items -/
def sp_one (K : PySem.W.Frag) : Sp := fun vs H Q _ => ∃ (fa : Addr), GF fa 1 H ∧
  ((∃ (s : Tx), vs = [.ref fa, T s] ∧ s ≠ [] ∧ s.length ≤ 16777216 ∧ ∀ c H', c ∈ s → Rf fa 1 H H' → Q (T [c]) H') ∨
   (∃ (p : Addr) (xs : List V), vs = [.ref fa, .ref p] ∧ (SqL K H p xs ∨ SqT K H p xs) ∧ p ≠ fa ∧ xs ≠ [] ∧ xs.length ≤ 16777216 ∧ ∀ v H', v ∈ xs → Rf fa 1 H H' → Q v H'))
/-- a text of at most so many signs of some -/
def sp_text : Sp := fun vs H Q _ => ∃ (fa : Addr) (s : Tx) (most : Nat), vs = [.ref fa, T s, .int (most : Int)] ∧ GF fa (most + 1) H ∧ most ≤ 30000 ∧ s ≠ [] ∧ s.length ≤ 16777216 ∧ ∀ (t : Tx) H', t.length ≤ most → (∀ c ∈ t, c ∈ s) → Rf fa (most + 1) H H' → Q (T t) H'
/-! ### things and draws in a comprehension; the element a value that is good -/
section
variable {K : PySem.W.Frag} {fa : Addr} {σ : L2.St} {H : Hp} {te : TE}
theorem lcD {wi : TI} {j : Nat} {vs : List Nat} {n : Nat} {own : Addr → Prop} {P : Nat → V → Hp → Prop} {Q : VK} (good : V → Prop) (c : Nat) (hf : H fa ≠ none) (hs : Src wi σ H n own P) (ho : ¬ own fa) (hn : n ≤ 40000) (hw : ∀ x, wipe ((wipe σ vs).set j (some x)) vs = wipe σ vs)
    (he : ∀ (i : Nat) (x : V) H1, i < n → P i x H1 → Rf fa (i * c) H H1 → ∀ Q' : VK, (∀ y H2, good y → Rf fa c H1 H2 → Q' y H2) → te ((wipe σ vs).set j (some x)) H1 Q')
    (k : ∀ p H2 acc, H p = none → Rf fa (n * c) H H2 → H2 p = some (.lst acc) → acc.length = n → (∀ v ∈ acc, good v) → Q (.ref p) H2) : tLc wi (gName j) tYes te vs σ H Q :=
  hs H (Ex.refl H) _ fun J H1 S e1 w hS => fun Dl hD => by
    have hDH : H Dl = none := fresh_back e1 hD
    have hne : Dl ≠ fa := fun z => hf (z ▸ hDH)
    have hf1 : H1 fa ≠ none := by
      cases hq : H fa with
      | none => exact absurd hq hf
      | some o => rw [e1 _ _ hq]; exact fun z => nomatch z
    refine lc_it w (Qd := fun H3 => Q (.ref Dl) H3) (fun i Hi => Rf fa (i * c) H1 Hi ∧ ∃ acc, Hi Dl = some (.lst acc) ∧ acc.length = i ∧ ∀ v ∈ acc, good v) ?_ (fun i Hi hi p => hS (fun b => b = fa) Hi (by rintro b rfl; exact ⟨hf, ho⟩) p.1.keep) ?_ ?_
    · refine ⟨?_, [], upd_same, rfl, fun v hv => nomatch hv⟩
      exact ((Rf.refl H1).upd hD hf1).mono (Nat.zero_le _)
    · rintro i x Ha Hb hi ⟨R, acc, h1, h2, h3⟩ ⟨ey, hP⟩
      refine ⟨hw x, ?_⟩
      show te ((wipe σ vs).set j (some x)) Hb fun y H4 => _
      have Rb : Rf fa (i * c) H1 Hb := R.then ey
      refine he i x Hb hi hP (Rf.pre e1 Rb) _ fun y H4 hy R4 => ?_
      have h4 : H4 Dl = some (.lst acc) := R4.at_ (ey _ _ h1) hne
      refine ⟨acc, h4, sz_lt (by omega), ?_, acc ++ [y], upd_same, by rw [List.length_append, h2]; rfl, fun v hv => ?_⟩
      · have := (Rb.trans R4).upd (p := Dl) (o := .lst (acc ++ [y])) hD hf1
        exact this.mono (by rw [Nat.succ_mul]; exact Nat.le_refl _)
      · rcases List.mem_append.mp hv with hv | hv
        · exact h3 v hv
        · rw [List.mem_singleton.mp hv]
          exact hy
    · rintro H3 ⟨R, acc, h1, h2, h3⟩
      exact k Dl H3 acc hDH (Rf.pre e1 R) h1 h2 h3
end
theorem ix_any {X : Cx} : IxR X (fun x y H Q => (L2.rIxL X.K x y H Q ∨ L2.rIxT X.K x y H Q) ∨ Wc.rIxT x y H Q) := (ix_list.or ix_tup).or ix_T
theorem cr_lenAny {X : Cx} : CallR X (.builtin "len") (fun xs H Q => rLenT xs H Q ∨ (∃ p ys, xs = [.ref p] ∧ (SqL X.K H p ys ∨ SqT X.K H p ys) ∧ Q (.int ys.length) H)) := CallR.or cr_lenT call_len_seq
theorem atI_mem {α : Type} {xs : List α} {d : Nat} (h : d < xs.length) : ∃ v, atI xs (d : Int) = some v ∧ v ∈ xs := ⟨xs[d], atI_nat (List.getElem?_eq_getElem h), List.getElem_mem h⟩
/-- a list of texts -/
theorem texts_of {acc : List V} {g : Tx → Prop} (h : ∀ v ∈ acc, ∃ t, v = T t ∧ g t) : ∃ ts : List Tx, acc = ts.map T ∧ ∀ t ∈ ts, g t := by
  induction acc with
  | nil => exact ⟨[], rfl, fun _ h => nomatch h⟩
  | cons v acc ih =>
    obtain ⟨t, rfl, ht⟩ := h v List.mem_cons_self
    obtain ⟨ts, rfl, hts⟩ := ih fun v hv => h v (List.mem_cons_of_mem _ hv)
    exact ⟨t :: ts, rfl, fun x hx => by
      rcases List.mem_cons.mp hx with rfl | hx
      · exact ht
      · exact hts x hx⟩
end Wc
set_option Elab.async false
set_option linter.all false
set_option maxRecDepth 100000
set_option maxHeartbeats 2000000
/-! data at any depth: texts, ints, lists, tuples -/
namespace Wc
open PySem PySem.Spec PyProof.Rows L2 Evl
/-- a text of low signs -/
def LowT (a : Tx) : Prop := ∀ c ∈ a, c < 1000
abbrev dT (a : Tx) : PyData := .str (SX.S a)
theorem lay_T {a : Tx} (h : LowT a) : (dT a).canLay0 = true := by
  show (SX.S a).cps.all (· < 0x110000) = true
  rw [← Array.all_toList, List.all_eq_true]
  intro c hc
  have := h c hc
  exact decide_eq_true (by omega)
theorem lay_all {α : Type} {g : α → PyData} : ∀ {xs : List α}, (∀ x ∈ xs, (g x).canLay0 = true) → PyData.canLayAll0 (xs.map g) = true
  | [], _ => rfl
  | x :: xs, h => by
    show ((g x).canLay0 && PyData.canLayAll0 (xs.map g)) = true
    rw [h x List.mem_cons_self, lay_all fun y hy => h y (List.mem_cons_of_mem _ hy)]
    rfl
theorem lay_list {α : Type} {g : α → PyData} {xs : List α} (h : ∀ x ∈ xs, (g x).canLay0 = true) : (PyData.list (xs.map g)).canLay0 = true := by
  show PyData.canLayAll0 _ = true
  exact lay_all h
theorem depth_all {α : Type} {g : α → PyData} {m : Nat} : ∀ {xs : List α}, (∀ x ∈ xs, (g x).depth ≤ m) → PyData.depthAll (xs.map g) ≤ m
  | [], _ => Nat.zero_le _
  | x :: xs, h => Nat.max_le.mpr ⟨h x List.mem_cons_self, depth_all fun y hy => h y (List.mem_cons_of_mem _ hy)⟩
theorem shaped_of {d : PyData} (h : d.canLay0 = true) (hd : d.depth ≤ 64) : SeqAt.shaped d = true := by
  unfold SeqAt.shaped
  rw [h, decide_eq_true hd]
  rfl
theorem shaped_list {α : Type} {g : α → PyData} {xs : List α} {m : Nat} (h : ∀ x ∈ xs, (g x).canLay0 = true) (hd : ∀ x ∈ xs, (g x).depth ≤ m) (hm : m + 1 ≤ 64) : SeqAt.shaped (.list (xs.map g)) = true :=
  shaped_of (lay_list h) (by
    show PyData.depthAll _ + 1 ≤ 64
    have := depth_all hd
    omega)
theorem dp_all {α : Type} {K : PySem.W.Frag} {H : Hp} {f : α → V} {g : α → PyData} : ∀ {xs : List α}, (∀ x ∈ xs, Dp K H (f x) (g x)) → DpAll K H (xs.map f) (xs.map g)
  | [], _ => .nil
  | x :: xs, h => .cons (h x List.mem_cons_self) (dp_all fun y hy => h y (List.mem_cons_of_mem _ hy))
theorem dp_list {α : Type} {K : PySem.W.Frag} {H : Hp} {f : α → V} {g : α → PyData} {xs : List α} {p : Addr} (hp : SqL K H p (xs.map f)) (h : ∀ x ∈ xs, Dp K H (f x) (g x)) : Dp K H (.ref p) (.list (xs.map g)) := .lst hp (dp_all h)
theorem eqv_list {α : Type} [DecidableEq α] {g : α → PyData} (h : ∀ x y, PyData.eqv (g x) (g y) = decide (x = y)) : ∀ (xs ys : List α), PyData.eqv (.list (xs.map g)) (.list (ys.map g)) = decide (xs = ys) := by
  intro xs ys
  show PyData.eqvAll _ _ = _
  induction xs generalizing ys with
  | nil => cases ys with
    | nil => rfl
    | cons y ys => rfl
  | cons x xs ih => cases ys with
    | nil => rfl
    | cons y ys =>
      show (PyData.eqv (g x) (g y) && PyData.eqvAll _ _) = _
      rw [h, ih]
      by_cases e : x = y
      · by_cases e2 : xs = ys
        · simp [e, e2]
        · simp [e, e2]
      · simp [e]
theorem eqv_T (a b : Tx) : PyData.eqv (dT a) (dT b) = decide (a = b) := by
  show (SX.S a == SX.S b) = _
  exact SX.S_beq_eq
theorem eqv_int (a b : Int) : PyData.eqv (.int a) (.int b) = decide (a = b) := by
  show (a == b) = _
  by_cases h : a = b
  · simp [h]
  · simp [h]
section
variable {K : PySem.W.Frag} {H : Hp} {x y : V} {d e : PyData}
theorem rv_eqD {b : Bool} (h : ∀ H1, Ex H H1 → Dp K H1 x d) (h2 : ∀ H1, Ex H H1 → Dp K H1 y e) (s1 : SeqAt.shaped d = true) (s2 : SeqAt.shaped e = true) (hb : PyData.eqv d e = b) : RV (rEqD K) x y H (.bl b) := fun H1 e1 _ q => ⟨d, e, h H1 e1, h2 H1 e1, s1, s2, by rw [hb]; exact q H1 (Ex.refl H1)⟩
theorem rv_neD {b : Bool} (h : ∀ H1, Ex H H1 → Dp K H1 x d) (h2 : ∀ H1, Ex H H1 → Dp K H1 y e) (s1 : SeqAt.shaped d = true) (s2 : SeqAt.shaped e = true) (hb : PyData.eqv d e = b) : RV (rNeD K) x y H (.bl (!b)) := fun H1 e1 _ q => ⟨d, e, h H1 e1, h2 H1 e1, s1, s2, by rw [hb]; exact q H1 (Ex.refl H1)⟩
mutual
theorem Dp.ex {H1 : Hp} (e : Ex H H1) : ∀ {v : V} {d : PyData}, Dp K H v d → Dp K H1 v d
  | _, _, .non => .non
  | _, _, .bl b => .bl b
  | _, _, .int i => .int i
  | _, _, .str x => .str x
  | _, _, .lst h a => .lst (ex_l e h) (DpAll.ex e a)
  | _, _, .tup h a => .tup (ex_t e h) (DpAll.ex e a)
theorem DpAll.ex {H1 : Hp} (e : Ex H H1) : ∀ {vs : List V} {ds : List PyData}, DpAll K H vs ds → DpAll K H1 vs ds
  | _, _, .nil => .nil
  | _, _, .cons h a => .cons (Dp.ex e h) (DpAll.ex e a)
end
end
/-- values that are ints or texts, none a truth -/
inductive FlatV : V → PyData → Prop
  | int (i : Int) : FlatV (.int i) (.int i)
  | str {a : Tx} (h : LowT a) : FlatV (T a) (dT a)
/-- a list of such -/
def sp_list_same (K : PySem.W.Frag) : Sp := fun vs H Q _ => ∃ (p q : Addr) (xs : List V), vs = [.ref p, .ref q] ∧ H p = some (.lst xs) ∧ SqL K H q xs ∧ (∀ v ∈ xs, ∃ d, FlatV v d) ∧ xs.length ≤ 30000 ∧ RetV (.bl true) H Q
theorem flat_data {K : PySem.W.Frag} {H : Hp} {xs : List V} (h : ∀ v ∈ xs, ∃ d, FlatV v d) : ∃ ds : List PyData, DpAll K H xs ds ∧ PyData.canLayAll0 ds = true ∧ PyData.depthAll ds ≤ 0 := by
  induction xs with
  | nil => exact ⟨[], .nil, rfl, Nat.le_refl _⟩
  | cons v xs ih =>
    obtain ⟨ds, h1, h2, h3⟩ := ih fun v hv => h v (List.mem_cons_of_mem _ hv)
    obtain ⟨d, hd⟩ := h v List.mem_cons_self
    cases hd with
    | int i => exact ⟨.int i :: ds, .cons (.int i) h1, by show (true && PyData.canLayAll0 ds) = true; rw [h2]; rfl, Nat.max_le.mpr ⟨Nat.le_refl _, h3⟩⟩
    | str ha => exact ⟨_ :: ds, .cons (.str _) h1, by show ((dT _).canLay0 && PyData.canLayAll0 ds) = true; rw [h2, lay_T ha]; rfl, Nat.max_le.mpr ⟨Nat.le_refl _, h3⟩⟩
end Wc
set_option Elab.async false
set_option linter.all false
set_option maxRecDepth 100000
set_option maxHeartbeats 2000000
/-! the rules that name the written part: with the part K given -/
namespace Wc
open PySem PySem.Spec PyProof.Rows L2 Evl
def rLenAny (K : PySem.W.Frag) : List V → Hp → VK → Prop := fun xs H Q => rLenT xs H Q ∨ (∃ p ys, xs = [.ref p] ∧ (SqL K H p ys ∨ SqT K H p ys) ∧ Q (.int ys.length) H)
def rIxAny (K : PySem.W.Frag) : R2 := fun x y H Q => (L2.rIxL K x y H Q ∨ L2.rIxT K x y H Q) ∨ Wc.rIxT x y H Q
def rTupS (K : PySem.W.Frag) : List V → Hp → VK → Prop := fun xs H Q => ∃ p ys, xs = [.ref p] ∧ ((SqL K H p ys ∧ ∀ l, H l = none → Q (.ref l) (upd H l (.tup ys))) ∨ (SqT K H p ys ∧ Q (.ref p) H))
section
variable {X : Cx} (K : PySem.W.Frag)
theorem kcr {f : Value} {r : PySem.W.Frag → List V → Hp → VK → Prop} (h : CallR X f (r X.K)) (hK : X.K = K := by rfl) : CallR X f (r K) := hK ▸ h
theorem kop {f : Value → Value → Sem Value} {r : PySem.W.Frag → R2} (h : OpR X f (r X.K)) (hK : X.K = K := by rfl) : OpR X f (r K) := hK ▸ h
theorem kix {r : PySem.W.Frag → R2} (h : IxR X (r X.K)) (hK : X.K = K := by rfl) : IxR X (r K) := hK ▸ h
theorem ksl {r : PySem.W.Frag → V → Option Int → Option Int → Hp → VK → Prop} (h : SlR X (r X.K)) (hK : X.K = K := by rfl) : SlR X (r K) := hK ▸ h
theorem kmt {id : String} {r : PySem.W.Frag → V → List V → Hp → VK → Prop} (h : MtR X id (r X.K)) (hK : X.K = K := by rfl) : MtR X id (r K) := hK ▸ h
theorem kbm {e : Expr} {T : String} {r : V → List V → Hp → VK → Prop} {to : TE} {t : TA} (h : PE X e (tBM X.K T r to t)) (hK : X.K = K := by rfl) : PE X e (tBM K T r to t) := hK ▸ h
theorem kbm0 {e : Expr} {T : String} {r : V → List V → Hp → VK → Prop} {to : TE} (h : PE X e (tBM0 X.K T r to)) (hK : X.K = K := by rfl) : PE X e (tBM0 K T r to) := hK ▸ h
theorem kil {tg it : Expr} {tl : TE} (h : PI X tg it (iList X.K tl)) (hK : X.K = K := by rfl) : PI X tg it (iList K tl) := hK ▸ h
theorem kit {tg it : Expr} {tl : TE} (h : PI X tg it (iTup X.K tl)) (hK : X.K = K := by rfl) : PI X tg it (iTup K tl) := hK ▸ h
theorem kie {tg it : Expr} {ta : TA} (h : PI X tg it (iEnum X.K ta)) (hK : X.K = K := by rfl) : PI X tg it (iEnum K ta) := hK ▸ h
theorem kiz {tg it : Expr} {ta : TA} (h : PI X tg it (iZip X.K ta)) (hK : X.K = K := by rfl) : PI X tg it (iZip K ta) := hK ▸ h
theorem kgt {tg : Expr} {n : Nat} {t : TGs} (h : PG X tg (gTup X.K n t)) (hK : X.K = K := by rfl) : PG X tg (gTup K n t) := hK ▸ h
theorem kgl {tg : Expr} {n : Nat} {t : TGs} (h : PG X tg (gLst X.K n t)) (hK : X.K = K := by rfl) : PG X tg (gLst K n t) := hK ▸ h
theorem kso {e : Expr} {t : TA} (h : PE X e (tSortLen X.K t)) (hK : X.K = K := by rfl) : PE X e (tSortLen K t) := hK ▸ h
end
end Wc
set_option Elab.async false
set_option linter.all false
set_option maxRecDepth 100000
set_option maxHeartbeats 2000000
/-! draws by their promises -/
namespace Wc
open PySem PySem.Spec PyProof.Rows L2 Evl
section
variable {K : PySem.W.Frag} {σ : L2.St} {H : Hp} {te tm : TE} {fa : Addr} {i : Nat} {Q : VK} {B : Nat}
theorem wp_draw {many : Int} (h0 : σ[i]? = some (some (.ref fa))) (h : Ev te σ H (.int many)) (G : GF fa B H) (h1 : 0 < many) (h2 : many ≤ 10 ^ 61) (k : ∀ (d : Nat) H', (d : Int) < many → Rf fa 1 H H' → Q (.int (d : Int)) H') (hB : 1 ≤ B := by omega) : tCall sp_draw [] E0 (tCons (tVar i) (tCons te tNil)) σ H Q :=
  ⟨.ref fa, h0, h H (Ex.refl _) _ fun H1 e1 => ⟨fa, many, rfl, (G.ex e1).mono hB, h1, h2, fun d H' hd R => k d H' hd (.pre e1 R)⟩⟩
theorem wp_oneT {s : Tx} (h0 : σ[i]? = some (some (.ref fa))) (h : Ev te σ H (T s)) (G : GF fa B H) (hs : s ≠ []) (hl : s.length ≤ 16777216) (k : ∀ c H', c ∈ s → Rf fa 1 H H' → Q (T [c]) H') (hB : 1 ≤ B := by omega) : tCall (sp_one K) [] E0 (tCons (tVar i) (tCons te tNil)) σ H Q :=
  ⟨.ref fa, h0, h H (Ex.refl _) _ fun H1 e1 => ⟨fa, (G.ex e1).mono hB, .inl ⟨s, rfl, hs, hl, fun c H' hc R => k c H' hc (.pre e1 R)⟩⟩⟩
/-- of a new list -/
theorem wp_oneL {vs : List V} (h0 : σ[i]? = some (some (.ref fa))) (h : EvL te σ H vs) (G : GF fa B H) (hs : vs ≠ []) (hl : vs.length ≤ 16777216) (k : ∀ v H', v ∈ vs → Rf fa 1 H H' → Q v H') (hB : 1 ≤ B := by omega) : tCall (sp_one K) [] E0 (tCons (tVar i) (tCons te tNil)) σ H Q :=
  ⟨.ref fa, h0, h H (Ex.refl _) _ fun p H1 hp e1 h1 => ⟨fa, (G.ex e1).mono hB, .inr ⟨p, vs, rfl, .inl (sq_of h1), G.new hp, hs, hl, fun v H' hv R => k v H' hv (.pre e1 R)⟩⟩⟩
/-- of a list or tuple that stands -/
theorem wp_oneS {p : Addr} {xs : List V} (h0 : σ[i]? = some (some (.ref fa))) (h : Ev te σ H (.ref p)) (hS : SqL K H p xs ∨ SqT K H p xs) (hp : p ≠ fa) (G : GF fa B H) (hs : xs ≠ []) (hl : xs.length ≤ 16777216) (k : ∀ v H', v ∈ xs → Rf fa 1 H H' → Q v H') (hB : 1 ≤ B := by omega) : tCall (sp_one K) [] E0 (tCons (tVar i) (tCons te tNil)) σ H Q :=
  ⟨.ref fa, h0, h H (Ex.refl _) _ fun H1 e1 => ⟨fa, (G.ex e1).mono hB, .inr ⟨p, xs, rfl, hS.imp (ex_l e1) (ex_t e1), hp, hs, hl, fun v H' hv R => k v H' hv (.pre e1 R)⟩⟩⟩
theorem wp_text {s : Tx} {most : Nat} (h0 : σ[i]? = some (some (.ref fa))) (h : Ev te σ H (T s)) (hm : Ev tm σ H (.int (most : Int))) (G : GF fa B H) (hm1 : most ≤ 30000) (hs : s ≠ []) (hl : s.length ≤ 16777216) (k : ∀ (t : Tx) H', t.length ≤ most → (∀ c ∈ t, c ∈ s) → Rf fa (most + 1) H H' → Q (T t) H') (hB : most + 1 ≤ B := by omega) :
    tCall sp_text [] E0 (tCons (tVar i) (tCons te (tCons tm tNil))) σ H Q :=
  ⟨.ref fa, h0, h H (Ex.refl _) _ fun H1 e1 => hm H1 e1 _ fun H2 e2 => ⟨fa, s, most, rfl, (G.ex (e1.trans e2)).mono hB, hm1, hs, hl, fun t H' h1 h2 R => k t H' h1 h2 (.pre (e1.trans e2) R)⟩⟩
end
/-- a feed out of a cell of the script -/
def sp_feed (K : PySem.W.Frag) : Sp := fun vs H Q _ => ∃ (a : Addr) (ns : List Int) (k e : Nat), vs = [.ref a, .int (k : Int)] ∧ SqL K H a (ns.map V.int) ∧ k ≤ 1000 ∧ 1 ≤ e ∧ e ≤ 1100000 ∧ (∀ z ∈ ns, z.natAbs < 2 ^ e) ∧
  ∀ fa H', H fa = none → Ex H H' → Fd fa 0 H' → Q (.ref fa) H'
theorem pow_add_small {x c : Int} {e : Nat} (hx : x.natAbs < 2 ^ e) (hc : c.natAbs ≤ 2 ^ 70) : (x + c).natAbs < 2 ^ (e + 72) := by
  have h1 : (x + c).natAbs ≤ x.natAbs + c.natAbs := Int.natAbs_add_le _ _
  have h2 : 1 ≤ 2 ^ e := Nat.pow_pos (by decide)
  have h3 : (2 : Nat) ^ (e + 72) = 2 ^ e * (4 * 2 ^ 70) := by rw [Nat.pow_add]
  have hA : 1 ≤ (2 : Nat) ^ 70 := Nat.pow_pos (by decide)
  rw [h3]
  generalize (2 : Nat) ^ e = E at hx h2 ⊢
  generalize (2 : Nat) ^ 70 = A at hc hA ⊢
  have h5 : E ≤ E * A := Nat.le_mul_of_pos_right _ hA
  have h6 : A ≤ E * A := Nat.le_mul_of_pos_left _ h2
  rw [Nat.mul_left_comm]
  omega
end Wc
set_option Elab.async false
set_option linter.all false
set_option maxRecDepth 100000
set_option maxHeartbeats 2000000
/-! readings that draw: what is told of the value alone -/
namespace Wc
open PySem PySem.Spec PyProof.Rows L2 Evl
/-- te draws m times at most and gives a value that is good -/
def Dw (fa : Addr) (σ : L2.St) (m : Nat) (te : TE) (g : V → Prop) : Prop := ∀ H, GF fa m H → ∀ Q : VK, (∀ v H', g v → Rf fa m H H' → Q v H') → te σ H Q
def GdT (ok : Nat → Prop) (lo n : Nat) (v : V) : Prop := ∃ s : Tx, v = T s ∧ lo ≤ s.length ∧ s.length ≤ n ∧ ∀ c ∈ s, ok c
def GdI (lo hi : Int) (v : V) : Prop := ∃ i : Int, v = .int i ∧ lo ≤ i ∧ i ≤ hi
section
variable {K : PySem.W.Frag} {σ : L2.St} {ta tb te : TE} {fa : Addr} {m m1 m2 : Nat} {g g1 g2 : V → Prop} {ok : Nat → Prop}
theorem dw_mono {m' : Nat} (h : Dw fa σ m te g) (hm : m ≤ m') : Dw fa σ m' te g := fun H G Q q => h H (G.mono hm) Q fun v H' hg R => q v H' hg (R.mono hm)
theorem dw_as {g' : V → Prop} (h : Dw fa σ m te g) (hg : ∀ v, g v → g' v) : Dw fa σ m te g' := fun H G Q q => h H G Q fun v H' hv R => q v H' (hg v hv) R
theorem dw_var {i : Nat} {v : V} (h : σ[i]? = some (some v)) (hg : g v) : Dw fa σ 0 (tVar i) g := fun H G Q q => ⟨v, h, q v H hg (Rf.refl H)⟩
theorem dw_c {v : V} (hg : g v) : Dw fa σ 0 (tC v) g := fun H G Q q => q v H hg (Rf.refl H)
theorem dw_op {r : R2} (h1 : Dw fa σ m1 ta g1) (h2 : Dw fa σ m2 tb g2) (hr : ∀ x y, g1 x → g2 y → ∃ z, g z ∧ ∀ H (Q : VK), Q z H → r x y H Q) : Dw fa σ (m1 + m2) (tOp r ta tb) g := fun H G Q q =>
  h1 H (G.mono (by omega)) _ fun x H1 hx R1 => h2 H1 (G.go R1 (by omega)) _ fun y H2 hy R2 => by
    obtain ⟨z, hz, hk⟩ := hr x y hx hy
    exact hk H2 Q (q z H2 hz (R1.trans R2))
theorem dI_var {i : Nat} {x lo hi : Int} (h : σ[i]? = some (some (.int x))) (h1 : lo ≤ x) (h2 : x ≤ hi) : Dw fa σ 0 (tVar i) (GdI lo hi) := dw_var h ⟨x, rfl, h1, h2⟩
theorem dI_c {x : Int} : Dw fa σ 0 (tC (.int x)) (GdI x x) := dw_c ⟨x, rfl, Int.le_refl _, Int.le_refl _⟩
theorem dT_var {i : Nat} {s : Tx} {lo n : Nat} (h : σ[i]? = some (some (T s))) (h1 : lo ≤ s.length) (h2 : s.length ≤ n) (h3 : ∀ c ∈ s, ok c) : Dw fa σ 0 (tVar i) (GdT ok lo n) := dw_var h ⟨s, rfl, h1, h2, h3⟩
theorem dT_c {s : Tx} (h3 : ∀ c ∈ s, ok c) : Dw fa σ 0 (tC (T s)) (GdT ok s.length s.length) := dw_c ⟨s, rfl, Nat.le_refl _, Nat.le_refl _, h3⟩
theorem dI_add {a b c d : Int} (h1 : Dw fa σ m1 ta (GdI a b)) (h2 : Dw fa σ m2 tb (GdI c d)) : Dw fa σ (m1 + m2) (tOp (rI0 fun i j => .int (i + j)) ta tb) (GdI (a + c) (b + d)) := dw_op h1 h2 fun x y ⟨i, hi, h3, h4⟩ ⟨j, hj, h5, h6⟩ => ⟨.int (i + j), ⟨i + j, rfl, by omega, by omega⟩, fun H Q q => ⟨i, j, hi, hj, q⟩⟩
theorem dT_add {a b c d : Nat} (h1 : Dw fa σ m1 ta (GdT ok a b)) (h2 : Dw fa σ m2 tb (GdT ok c d)) (hb : b + d ≤ 16777216 := by omega) : Dw fa σ (m1 + m2) (tOp rAddT ta tb) (GdT ok (a + c) (b + d)) := dw_op h1 h2 fun x y ⟨s, hs, h3, h4, h5⟩ ⟨t, ht, h6, h7, h8⟩ => ⟨T (s ++ t), ⟨s ++ t, rfl, by rw [List.length_append]; omega, by rw [List.length_append]; omega, fun c hc => by
  rcases List.mem_append.mp hc with hc | hc
  · exact h5 c hc
  · exact h8 c hc⟩, fun H Q q => ⟨s, t, hs, ht, by omega, q⟩⟩
theorem repT_mem {n : Nat} {a : Tx} {c : Nat} (h : c ∈ repT n a) : c ∈ a := by
  unfold repT at h
  obtain ⟨l, hl, hc⟩ := List.mem_flatten.mp h
  rw [List.eq_of_mem_replicate hl] at hc
  exact hc
theorem dT_mul {a b c d : Nat} (h1 : Dw fa σ m1 ta (GdT ok a b)) (h2 : Dw fa σ m2 tb (GdI (c : Int) (d : Int))) (hb : b * d ≤ 16777216 := by omega) (hd : d ≤ 1000000000 := by omega) : Dw fa σ (m1 + m2) (tOp rMulT ta tb) (GdT ok (c * a) (d * b)) := dw_op h1 h2 fun x y ⟨s, hs, h3, h4, h5⟩ ⟨j, hj, h6, h7⟩ => ⟨T (repT j.toNat s), ⟨repT j.toNat s, rfl, by
    rw [repT_len]
    exact Nat.mul_le_mul (by omega) h3, by
    rw [repT_len]
    exact Nat.mul_le_mul (by omega) h4, fun c hc => h5 c (repT_mem hc)⟩, fun H Q q => ⟨s, j, hs, hj, by omega, by omega, Nat.le_trans (Nat.mul_le_mul h4 (show j.toNat ≤ d by omega)) hb, q⟩⟩
theorem dI_len {a b : Nat} (h1 : Dw fa σ m te (GdT ok a b)) (hb : b ≤ 16777216 := by omega) : Dw fa σ m (tCB rLenT (tCons te tNil)) (GdI a b) := fun H G Q q => h1 H G _ fun v H1 ⟨s, hs, h3, h4, h5⟩ R => ⟨s, by rw [hs], by omega, q _ H1 ⟨_, rfl, by omega, by omega⟩ R⟩
/-- the ends of a slice -/
def Dwo (fa : Addr) (σ : L2.St) (m : Nat) (to : TO) : Prop := ∀ H, GF fa m H → ∀ Q : Option Int → Hp → Prop, (∀ v H', Rf fa m H H' → Q v H') → to σ H Q
theorem do_none : Dwo fa σ 0 tNoPart := fun H G Q q => q none H (Rf.refl H)
theorem do_some {a b : Int} (h : Dw fa σ m te (GdI a b)) : Dwo fa σ m (tPart te) := fun H G Q q => h H G _ fun v H1 ⟨i, hi, _, _⟩ R => ⟨i, hi, q (some i) H1 R⟩
theorem dT_sl {a b m3 : Nat} {tl th : TO} (h : Dw fa σ m1 te (GdT ok a b)) (h1 : Dwo fa σ m2 tl) (h2 : Dwo fa σ m3 th) (hb : b ≤ 16777216 := by omega) : Dw fa σ (m1 + (m2 + m3)) (tSl rSlT te tl th) (GdT ok 0 b) := fun H G Q q =>
  h H (G.mono (by omega)) _ fun v H1 ⟨s, hs, h3, h4, h5⟩ R1 => h1 H1 (G.go R1 (by omega)) _ fun l H2 R2 => h2 H2 (G.go (R1.trans R2) (by omega)) _ fun u H3 R3 =>
    ⟨s, hs, by omega, q _ H3 ⟨cutT s l u, rfl, Nat.zero_le _, Nat.le_trans (cutT_len s l u) h4, fun c hc => h5 c (cutT_mem hc)⟩ ((R1.trans (R2.trans R3)).mono (by omega))⟩
theorem dI_draw {i : Nat} {lo hi : Int} (h0 : σ[i]? = some (some (.ref fa))) (h : Dw fa σ m te (GdI lo hi)) (h1 : 0 < lo := by omega) (h2 : hi ≤ 10 ^ 61 := by decide) : Dw fa σ (m + 1) (tCall sp_draw [] E0 (tCons (tVar i) (tCons te tNil))) (GdI 0 (hi - 1)) := fun H G Q q =>
  ⟨.ref fa, h0, h H (G.mono (by omega)) _ fun v H1 ⟨j, hj, h3, h4⟩ R => ⟨fa, j, by rw [hj]; rfl, G.go R (Nat.le_refl _), by omega, by omega, fun d H' hd R2 => q _ H' ⟨(d : Int), rfl, by omega, by omega⟩ (R.trans R2)⟩⟩
theorem dT_one {i : Nat} {lo n : Nat} (h0 : σ[i]? = some (some (.ref fa))) (h : Dw fa σ m te (GdT ok lo n)) (h1 : 0 < lo := by omega) (h2 : n ≤ 16777216 := by omega) : Dw fa σ (m + 1) (tCall (sp_one K) [] E0 (tCons (tVar i) (tCons te tNil))) (GdT ok 1 1) := fun H G Q q =>
  ⟨.ref fa, h0, h H (G.mono (by omega)) _ fun v H1 ⟨s, hs, h3, h4, h5⟩ R => ⟨fa, G.go R (Nat.le_refl _), .inl ⟨s, by rw [hs]; rfl, fun z => by rw [z] at h3; simp at h3; omega, by omega, fun c H' hc R2 => q _ H' ⟨[c], rfl, Nat.le_refl _, Nat.le_refl _, fun d hd => by rw [List.mem_singleton.mp hd]; exact h5 c hc⟩ (R.trans R2)⟩⟩⟩
/-- of a list that is displayed -/
theorem dw_oneL {i : Nat} {vs : List V} (h0 : σ[i]? = some (some (.ref fa))) (h : ∀ H, EvL te σ H vs) (hg : ∀ v ∈ vs, g v) (hs : vs ≠ []) (hl : vs.length ≤ 16777216) : Dw fa σ 1 (tCall (sp_one K) [] E0 (tCons (tVar i) (tCons te tNil))) g := fun H G Q q => wp_oneL h0 (h H) G hs hl fun v H' hv R => q v H' (hg v hv) R
theorem dT_text {i : Nat} {a b c : Nat} {tm : TE} (h0 : σ[i]? = some (some (.ref fa))) (h : Dw fa σ m1 te (GdT ok a b)) (hm : Dw fa σ m2 tm (GdI 0 (c : Int))) (h1 : 0 < a := by omega) (h2 : b ≤ 16777216 := by omega) (h3 : c ≤ 30000 := by omega) : Dw fa σ (m1 + m2 + (c + 1)) (tCall sp_text [] E0 (tCons (tVar i) (tCons te (tCons tm tNil)))) (GdT ok 0 c) := fun H G Q q =>
  ⟨.ref fa, h0, h H (G.mono (by omega)) _ fun v H1 ⟨s, hs, h4, h5, h6⟩ R1 => hm H1 (G.go R1 (by omega)) _ fun y H2 ⟨j, hj, h7, h8⟩ R2 => by
    obtain ⟨n, rfl⟩ := Int.eq_ofNat_of_zero_le h7
    exact ⟨fa, s, n, by rw [hs, hj]; rfl, (G.go (R1.trans R2) (m' := n + 1) (by omega)), by omega, fun z => by rw [z] at h4; simp at h4; omega, by omega, fun t H' ht hc R3 => q _ H' ⟨t, rfl, Nat.zero_le _, by omega, fun c hc' => h6 c (hc c hc')⟩ (((R1.trans R2).trans R3).mono (by omega))⟩⟩
/-- a statement that draws -/
theorem q_dw {i : Nat} {D : Ends} {tz : TS} {H : Hp} {B : Nat} (h : Dw fa σ m te g) (G : GF fa B H) (k : ∀ v H1, g v → Rf fa m H H1 → tz D (σ.set i (some v)) H1) (hm : m ≤ B := by omega) : tSeq (tAsg te (gName i)) tz D σ H := h H (G.mono hm) _ fun v H1 hv R => k v H1 hv R
/-- a displayed pair, returned -/
theorem s_pair {D : Ends} {H : Hp} {B : Nat} (h1 : Dw fa σ m1 ta g1) (h2 : Dw fa σ m2 tb g2) (G : GF fa B H) (k : ∀ x y p H1, g1 x → g2 y → H p = none → Rf fa (m1 + m2) H H1 → H1 p = some (.lst [x, y]) → D.rt (.ref p) H1) (hm : m1 + m2 ≤ B := by omega) : tRet (tLst (tCons ta (tCons tb tNil))) D σ H :=
  h1 H (G.mono (by omega)) _ fun x H1 hx R1 => h2 H1 (G.go R1 (by omega)) _ fun y H2 hy R2 => ⟨by show 2 ≤ sizeLine; decide, fun p np => by
    have R := R1.trans R2
    have G2 : GF fa 0 H2 := G.go R (by omega)
    exact k x y p _ hx hy (R.free G.is np G2.is) (R.upd (R.free G.is np G2.is) G.is) upd_same⟩
/-- a test -/
theorem s_dif {D : Ends} {H : Hp} {tt ts : TS} {tu : TT} (h : ∀ Q : Bool → Hp → Prop, (∀ b H1, Rf fa m H H1 → Q b H1) → tu σ H Q) (k : ∀ b H1, Rf fa m H H1 → if b = true then tt D σ H1 else ts D σ H1) : tIfS tu tt ts D σ H := h _ k
theorem dw_test {H : Hp} {B : Nat} {a b c d : Int} {f : Int → Int → Bool} (h1 : Dw fa σ m1 ta (GdI a b)) (h2 : Dw fa σ m2 tb (GdI c d)) (G : GF fa B H) (Q : Bool → Hp → Prop) (k : ∀ b H1, Rf fa (m1 + m2) H H1 → Q b H1) (hm : m1 + m2 ≤ B := by omega) : tTest (tOp (rI0 fun i j => .bl (f i j)) ta tb) σ H Q :=
  h1 H (G.mono (by omega)) _ fun x H1 ⟨i, hi, _, _⟩ R1 => h2 H1 (G.go R1 (by omega)) _ fun y H2 ⟨j, hj, _, _⟩ R2 => ⟨i, j, hi, hj, f i j, rfl, k _ H2 (R1.trans R2)⟩
/-- a displayed pair -/
theorem wp_pair {H : Hp} {Q : VK} {B : Nat} (h1 : Dw fa σ m1 ta g1) (h2 : Dw fa σ m2 tb g2) (G : GF fa B H) (k : ∀ x y p H1, g1 x → g2 y → H p = none → Rf fa (m1 + m2) H H1 → H1 p = some (.lst [x, y]) → Q (.ref p) H1) (hm : m1 + m2 ≤ B := by omega) : tLst (tCons ta (tCons tb tNil)) σ H Q := s_pair (D := { nx := fun _ _ => False, bk := fun _ _ => False, ct := fun _ _ => False, rt := Q }) h1 h2 G k hm
/-- a loop of so many turns as are drawn -/
theorem q_forD {D : Ends} {tz tu : TS} {gg : TG} {H : Hp} {B : Nat} {a b : Int} (h : Dw fa σ m te (GdI a b)) (G : GF fa B H) (k : ∀ n H1, a ≤ n → n ≤ b → Rf fa m H H1 → tSeq (tFor (iRng1 fun _ H' Q' => Q' [.int n] H') gg tu) tz D σ H1) (hm : m ≤ B := by omega) : tSeq (tFor (iRng1 (tCons te tNil)) gg tu) tz D σ H := h H (G.mono hm) _ fun v H1 ⟨n, hn, h1, h2⟩ R => by
  subst hn
  exact k n H1 h1 h2 R
theorem s_retIf {D : Ends} {H : Hp} {b : Bool} {tu : TT} (h : EvT tu σ H b) (h1 : b = true → ∀ H1, Ex H H1 → tRet ta D σ H1) (h2 : b = false → ∀ H1, Ex H H1 → tRet tb D σ H1) : tRet (tIf tu ta tb) D σ H := h H (Ex.refl H) _ fun H1 e1 => by
  cases b with
  | true => exact h1 rfl H1 e1
  | false => exact h2 rfl H1 e1
theorem s_retIfD {D : Ends} {H : Hp} {B : Nat} {tc td : TE} {a b c d : Int} {f : Int → Int → Bool} (h : Dw fa σ m1 tc (GdI a b)) (h' : Dw fa σ m2 td (GdI c d)) (G : GF fa B H) (h1 : ∀ H1, Rf fa (m1 + m2) H H1 → tRet ta D σ H1) (h2 : ∀ H1, Rf fa (m1 + m2) H H1 → tRet tb D σ H1) (hm : m1 + m2 ≤ B := by omega) : tRet (tIf (tTest (tOp (rI0 fun i j => .bl (f i j)) tc td)) ta tb) D σ H := dw_test h h' G _ (fun b H1 R => by
  cases b with
  | true => exact h1 H1 R
  | false => exact h2 H1 R) hm
/-- a fresh list is written at -/
theorem Rf.exc {H H1 H2 : Hp} {p : Addr} (a : Rf fa m H H1) (h : Exc (fun c => c = p) H1 H2) (hp : H p = none) (hne : p ≠ fa) : Rf fa m H H2 := ⟨fun c o hc hs => h c o (fun z => by rw [z, hp] at hs; cases hs) (a.keep c o hc hs), fun n hn hF => by
  obtain ⟨x, b, c, e', h1, h2⟩ := a.feed n hn hF
  exact ⟨x, b, c, e', h _ _ (Ne.symm hne) h1, h2⟩⟩
theorem atI_back2 {α : Type} (xs : List α) (a b : α) : atI (xs ++ [a] ++ [b]) (-2) = some a := by
  have hl : (xs ++ [a] ++ [b]).length = xs.length + 2 := by simp
  have e : ixN (xs ++ [a] ++ [b]).length (-2) = some xs.length := by
    unfold ixN
    rw [if_neg (by decide), hl, if_pos (by omega)]
    congr 1
    omega
  unfold atI
  rw [e]
  simp
/-- [.., .., ..][i], returned -/
theorem s_ix3 {D : Ends} {H : Hp} {t1 t2 t3 tw : TE} (h : t1 σ H fun v1 H1 => t2 σ H1 fun v2 H2 => t3 σ H2 fun v3 H3 => [v1, v2, v3].length ≤ sizeLine ∧ ∀ p, H3 p = none → tw σ (upd H3 p (.lst [v1, v2, v3])) fun i H4 => L2.rIxL K (.ref p) i H4 D.rt) : tRet (tOp (L2.rIxL K) (tLst (tCons t1 (tCons t2 (tCons t3 tNil)))) tw) D σ H := h
end
end Wc
set_option Elab.async false
set_option linter.all false
set_option maxRecDepth 100000
set_option maxHeartbeats 4000000
/-! sets of texts: filled out of a list, sorted -/
namespace Wt
open PySem PySem.Spec PyProof.Rows L2
/-- the text that a value is -/
def txOf : Value → Str
  | .str k _ => k
  | _ => Str.empty
/-- an entry whose value is a text -/
def Ent (P : Program) (w : World) (e : Int × Value) : Prop := ∃ (k : Str) (u : Tok), e.2 = .str k u ∧ e.1 = (PySem.strKind P w).hash k
def ek (e : Int × Value) : Str := txOf e.2
/-- entries and table hold just the texts l -/
structure Pay (P : Program) (w : World) (es : Array (Int × Value)) (t : SetTable) (l : List Str) : Prop where
  ents : ∀ e ∈ es.toList, Ent P w e
  keys : (es.toList.map ek).Perm l
  nd : l.Nodup
  few : es.size < scanBound
  fit : t.fits es.size = true
  ris : Ris t.place.toList
  led : w.params.followText "set-order" = true ∨ t.led = true
def SetX (P : Program) (w : World) (h : Heap) (a : Addr) (l : List Str) : Prop := ∃ o es ep t, h.get? a = some o ∧ o.ExactSet ∧ o.data = .set es ep t ∧ Pay P w es t l
section
variable {P : Program} {w : World} {h h' : Heap} {a : Addr} {l : List Str} {es es1 : Array (Int × Value)} {t t1 : SetTable}
theorem SetX.at (R : SetX P w h a l) (k : ∀ o, h.get? a = some o → h'.get? a = some o) : SetX P w h' a l := by
  obtain ⟨o, es, ep, t, ho, r⟩ := R
  exact ⟨o, es, ep, t, k o ho, r⟩
theorem ent_is {e : Int × Value} (g : Ent P w e) (k : Str) : (PySem.strKind P w).is k e.2 = true ↔ ek e = k := by
  obtain ⟨k0, u, h1, _⟩ := g
  unfold ek
  rw [h1]
  show (Value.isStrOf k (.str k0 u) = true) ↔ k0 = k
  simp [Value.isStrOf]
theorem Pay.size (p : Pay P w es t l) : es.size = l.length := by
  have := p.keys.length_eq
  rw [List.length_map, Array.length_toList] at this
  exact this
theorem Pay.elems (p : Pay P w es t l) : ElemsOf (PySem.strKind P w) es.toList := fun e he => by
  obtain ⟨k, u, h1, h2⟩ := p.ents e he
  exact ⟨⟨k, by rw [h1]; exact PySem.strKind_is P w k u, h2⟩, by rw [h1]; rfl⟩
theorem Pay.mem (p : Pay P w es t l) (k : Str) : k ∈ l ↔ ∃ e ∈ es.toList, (PySem.strKind P w).is k e.2 = true := by
  rw [← p.keys.mem_iff, List.mem_map]
  exact ⟨fun ⟨e, he, q⟩ => ⟨e, he, (ent_is (p.ents e he) k).mpr q⟩, fun ⟨e, he, q⟩ => ⟨e, he, (ent_is (p.ents e he) k).mp q⟩⟩
/-- laid anew -/
theorem Pay.anew (p : Pay P w es t l) (pm : es1.toList.Perm es.toList) (hf : t1.fits es1.size = true) (hr : Ris t1.place.toList) (hl : t1.led = t.led) : Pay P w es1 t1 l where
  ents := fun e he => p.ents e (pm.mem_iff.mp he)
  keys := (pm.map ek).trans p.keys
  nd := p.nd
  few := by
    have := pm.length_eq
    rw [Array.length_toList, Array.length_toList] at this
    rw [this]
    exact p.few
  fit := hf
  ris := hr
  led := p.led.imp id fun z => hl.trans z
/-- one more -/
theorem Pay.more {k : Str} {u : Tok} (p : Pay P w es t l) (hk : k ∉ l) (room : l.length + 1 < scanBound) (pm : es1.toList.Perm (es.push ((PySem.strKind P w).hash k, .str k u)).toList) (hf : t1.fits es1.size = true) (hr : Ris t1.place.toList) (hl : t1.led = t.led) : Pay P w es1 t1 (k :: l) := by
  rw [Array.toList_push] at pm
  have pc := pm.trans (List.perm_append_singleton _ _)
  have pk : (es1.toList.map ek).Perm (k :: es.toList.map ek) := pc.map ek
  refine ⟨fun e he => ?_, pk.trans (p.keys.cons k), List.nodup_cons.mpr ⟨hk, p.nd⟩, ?_, hf, hr, p.led.imp id fun z => hl.trans z⟩
  · rcases List.mem_cons.mp (pc.mem_iff.mp he) with z | z
    · rw [z]
      exact ⟨k, u, rfl, rfl⟩
    · exact p.ents e z
  · have := pc.length_eq
    rw [List.length_cons, Array.length_toList, Array.length_toList, p.size] at this
    rw [this]
    exact room
end
section
variable {P : Program} {w : World} {A : Around} {E : Value → Shared → Prop} {s : Shared} {a : Addr} {l : List Str}
/-- behind the table's own step -/
theorem add_end {g : Bool → Sem Unit} (hg : ∀ (b : Bool) (s1 : Shared) (Q' : Unit → Shared → Prop), Q' () s1 → wpAny (model P w) A (g b) Q' E s1) {o : Obj} {es es1 : Array (Int × Value)} {ep : Nat} {t t2 : SetTable} {l2 : List Str}
    (ho : s.heap.get? a = some o) (hex : o.ExactSet) (hd : o.data = .set es ep t) (p : Pay P w es1 t2 l2) {dm : Bool} {R : Option Bool → Shared → Prop} (hR : ∀ h', Heap.SameBut a s.heap h' → SetX P w h' a l2 → R (some true) { s with heap := h' }) :
    wpAny (model P w) A (do
        storeSet a es1 t2
        if (!dm && t2.tooFull) = true then do
            g (relayAll t2 es1 (SetTable.grown es1.size)).2.2
            storeSet a (relayAll t2 es1 (SetTable.grown es1.size)).1 (relayAll t2 es1 (SetTable.grown es1.size)).2.1
            pure (some true)
          else pure (some true)) R E s := by
  have hz := fits_of_scanBound p.few
  refine wpAny_bind (wpAny_storeSet_of ho hd ?_ hz)
  have at1 := store_at (es' := es1) (t' := t2) ho hd
  have same1 := Heap.SameBut.update s.heap a (Obj.putSet es1 t2)
  by_cases c : (!dm && t2.tooFull) = true
  · rw [if_pos c]
    have p2 := p.anew (relayAll_perm t2 es1 (SetTable.grown es1.size)) (relayAll_fits t2 es1 _) (relayAll_ris t2 es1 _) (relayAll_led t2 es1 _)
    generalize relayAll t2 es1 (SetTable.grown es1.size) = Z at p2 ⊢
    refine wpAny_bind (hg _ _ _ ?_)
    refine wpAny_bind (wpAny_storeSet_of at1 rfl ?_ (fits_of_scanBound p2.few))
    exact wpAny_pure (hR _ (same1.trans (Heap.SameBut.update _ a _)) ⟨_, Z.1, _, Z.2.1, store_at (es' := Z.1) (t' := Z.2.1) at1 rfl, hex, rfl, p2⟩)
  · rw [if_neg c]
    exact wpAny_pure (hR _ same1 ⟨_, es1, _, t2, at1, hex, rfl, p⟩)
theorem add_text {k : Str} {u : Tok} {Q : Bool → Shared → Prop} (R : SetX P w s.heap a l) (room : l.length + 1 < scanBound)
    (hQ : ∀ h' b, Heap.SameBut a s.heap h' → SetX P w h' a (if k ∈ l then l else k :: l) → Q b { s with heap := h' }) : wpAny (model P w) A (setAddHashed a (.str k u) ((PySem.strKind P w).hash k)) Q E s := by
  obtain ⟨o, es, ep, t, ho, hex, hd, p⟩ := id R
  have is1 : (PySem.strKind P w).is k (.str k u) = true := PySem.strKind_is P w k u
  unfold setAddHashed setAddHashedIn
  refine wpAny_holding (wpAny_bind (wpAny_setState_of ho hd p.fit ?_))
  dsimp only
  rw [byScan_of (x := Value.str k u) rfl p.few p.elems, if_pos rfl]
  unfold setAddByScan
  refine wpAny_bind (wpAny_bind (wpAny_rule (wpAny_bind (wpAny_setScan_of is1 ho hd p.fit p.elems ?_))))
  cases hfi : List.findIdx? (fun e => (PySem.strKind P w).is k e.2) es.toList with
  | some j =>
    obtain ⟨hj, pj, _⟩ := List.findIdx?_eq_some_iff_getElem.mp hfi
    have hin : k ∈ l := (p.mem k).mpr ⟨es.toList[j], List.getElem_mem hj, pj⟩
    dsimp only
    refine wpAny_pure (wpAny_pure ?_)
    have q := hQ s.heap false (Heap.SameBut.refl a s.heap)
    rw [if_pos hin] at q
    exact q R
  | none =>
    have hno : k ∉ l := fun z => by
      obtain ⟨e, he, q⟩ := (p.mem k).mp z
      have c := List.findIdx?_eq_none_iff.mp hfi e he
      rw [q] at c
      cases c
    dsimp only
    have p1 := p.more (u := u) hno room (layNew_perm t es _ _) (layNew_fits t es _ _) (layNew_ris t es _ _ p.ris) (layNew_led t es _ _)
    generalize layNew t es ((PySem.strKind P w).hash k) (.str k u) = Z at p1 ⊢
    obtain ⟨es1, t1, dm, gave⟩ := Z
    dsimp only at p1 ⊢
    have both : ∀ (g : Bool) {s1 : Shared} {Q' : Unit → Shared → Prop}, Q' () s1 → wpAny (model P w) A (match g with | true => rule "set.scan.the-table-gave-way" | false => pure ()) Q' E s1 := fun g s1 Q' q => by
      cases g
      · exact wpAny_pure q
      · exact wpAny_rule q
    have fin : ∀ h', Heap.SameBut a s.heap h' → SetX P w h' a (k :: l) → Q true { s with heap := h' } := fun h' sb r => hQ h' true sb (by rw [if_neg hno]; exact r)
    refine wpAny_bind (both _ ?_)
    by_cases hp : t1.plain = true
    · rw [if_pos hp]
      refine wpAny_bind ?_
      rw [hashByValue_scannable 8 (x := Value.str k u) rfl]
      refine wpAny_pure ?_
      have p2 : Pay P w es1 { t1 with plain := false } (k :: l) := ⟨p1.ents, p1.keys, p1.nd, p1.few, SetTable.fits_plain_off p1.fit, p1.ris, p1.led⟩
      refine add_end (l2 := k :: l) ?_ ho hex hd (by split <;> first | exact p1 | exact p2) fun h' sb r => wpAny_pure (fin h' sb r)
      exact fun b s1 Q' q => by cases b <;> first | exact wpAny_pure q | exact wpAny_rule q
    · rw [if_neg hp]
      refine wpAny_bind (wpAny_pure ?_)
      refine add_end (l2 := k :: l) ?_ ho hex hd (by rw [if_pos rfl]; exact p1) fun h' sb r => wpAny_pure (fin h' sb r)
      exact fun b s1 Q' q => by cases b <;> first | exact wpAny_pure q | exact wpAny_rule q
/-- the set as set() makes it -/
abbrev so (w : World) : Obj := { cls := .type "set", dict := none, data := .set #[] 0 (.fresh 0 0 (!w.params.followText "set-order")) }
theorem SetX.new {h : Heap} (ho : h.get? a = some (so w)) : SetX P w h a [] := ⟨_, #[], 0, _, ho, ⟨rfl, rfl, rfl⟩, rfl, fun e he => by simp at he, List.Perm.refl _, List.nodup_nil, by decide, by rfl, List.Pairwise.nil, by
  show _ ∨ (!w.params.followText "set-order") = true
  cases w.params.followText "set-order" <;> simp⟩
/-- what is met among the first ones -/
structure Met (xs : List Str) (i : Nat) (l : List Str) : Prop where
  nd : l.Nodup
  mem : ∀ x, x ∈ l ↔ x ∈ xs.take i
  len : l.length ≤ i
theorem Met.next {xs l : List Str} {i : Nat} {x : Str} (m : Met xs i l) (h : xs[i]? = some x) : Met xs (i + 1) (if x ∈ l then l else x :: l) := by
  have e : xs.take (i + 1) = xs.take i ++ [x] := by rw [List.take_add_one, h]; rfl
  by_cases hx : x ∈ l
  · rw [if_pos hx]
    refine ⟨m.nd, fun y => ?_, Nat.le_succ_of_le m.len⟩
    rw [e, List.mem_append, m.mem y]
    exact ⟨.inl, fun z => z.elim id fun z => by rw [List.mem_singleton.mp z]; exact (m.mem x).mp hx⟩
  · rw [if_neg hx]
    refine ⟨List.nodup_cons.mpr ⟨hx, m.nd⟩, fun y => ?_, Nat.succ_le_succ m.len⟩
    rw [e, List.mem_append, List.mem_cons, List.mem_singleton, m.mem y]
    exact Or.comm
theorem fill_texts {I S : Addr} {fp wr : List Addr} {G : Array GenState → Array GenState → Prop} {n : Nat} {Pv : Nat → Value → Prop} {St : Nat → Shared → Prop} {R : Result → Shared → Prop} {xs : List Str}
    (W : WalksS P w A.in1 I fp wr G n Pv St) (hS : S ∉ fp) (hn : xs.length = n) (hb : n + 1 < scanBound) (hv : ∀ i v, Pv i v → ∃ x u, xs[i]? = some x ∧ v = .str x u) :
    ∀ (d i : Nat) (s : Shared) (l : List Str), n = i + d → St i s → Met xs i l → SetX P w s.heap S l → (∀ s2 l2, Moved (S :: wr) G s s2 → Met xs n l2 → SetX P w s2.heap S l2 → R (.ok (.ret .none)) s2) →
      codeAny (model P w) A (.builtin "set.update.loop" ⟨[.ref S, .ref I], []⟩) R s := by
  have hw : S ∉ wr := fun z => hS (W.sub _ z)
  have wide : ∀ b ∈ wr, b ∈ S :: wr := fun b z => List.mem_cons_of_mem _ z
  intro d
  induction d with
  | zero =>
    intro i s l hd st m X hR
    obtain rfl : i = n := by omega
    refine codeAny_builtin F.entry_set_update_loop (by
      rw [Around.under_plainId F.plain_set_update_loop _]
      exact wpAny_bind (W.done s _ _ st fun s2 mv => wpAny_pure (hR s2 l (mv.mono wide) m (X.at fun o e => mv.heap S o hw e))))
  | succ d ih =>
    intro i s l hd st m X hR
    refine codeAny_builtin F.entry_set_update_loop (by
      rw [Around.under_plainId F.plain_set_update_loop _]
      refine wpAny_bind (W.item i s _ _ (by omega) st fun v s2 hP st2 mv => ?_)
      obtain ⟨x, u, hx, rfl⟩ := hv i v hP
      have X2 : SetX P w s2.heap S l := X.at fun o e => mv.heap S o hw e
      have hl := m.len
      refine wpAny_bind (m := holding [Value.str x u] (setAdd S (.str x u))) (wpAny_holding ?_)
      unfold setAdd
      refine wpAny_holding (wpAny_bind ((PySem.strKind P w).pyHash (k := x) (PySem.strKind_is _ _ _ _) ?_))
      refine add_text (s := { s2 with toks := s2.toks + 1 }) X2 (by omega) fun h' b sb X3 => wpAny_pure ⟨plainId_quiet F.plain_set_update_loop _, ?_⟩
      refine ih (i + 1) _ _ (by omega) (W.frame _ s2 _ _ st2 (Nat.le_succ _) fun c hc o e => ?_) (m.next hx) X3 fun s3 l3 mv3 m3 X4 => hR s3 l3 (Moved.trans W.gtrans ((mv.mono wide).then_heap (Nat.le_succ _) fun c o hc e => ?_) mv3) m3 X4
      · rw [sb.2 c fun z => hS (z ▸ hc)]
        exact e
      · rw [sb.2 c fun z => hc (z ▸ List.mem_cons_self)]
        exact e)
set_option maxHeartbeats 3200000 in
theorem call_set_texts {src : Addr} {its : Array Value} {xs : List Str} {Q : Value → Shared → Prop} (noH : A.handled = none) (isl : s.heap.IsList src its) (hit : StrsAre its.toList xs) (room : xs.length + 1 < scanBound)
    (fin : ∀ (h2 : Heap) (tk : Nat) (l : List Str), Met xs xs.length l → SetX P w h2 s.heap.objs.size l → (∀ b o, s.heap.get? b = some o → h2.get? b = some o) → Q (.ref s.heap.objs.size) { s with heap := h2, toks := tk }) :
    wpAny (model P w) A (call (.type "set") [.ref src]) Q E s := by
  have lx : xs.length = its.size := by rw [← Array.length_toList, hit.len_eq]
  obtain ⟨c, tl, q0⟩ := PySem.F.called_set.mro
  have q1 := PySem.F.called_set.made; have q2 := PySem.F.called_set.sub
  refine wpAny_call (codeAny_of_tree (wpAny_pure ⟨Code.quiet_builtin _ (by decide +kernel), codeAny_builtin PySem.F.entry_type_call ?_⟩))
  rw [Around.under_plain (weight_type_call_type "set" [.ref src] []) rfl]
  have q3 := PySem.F.called_set.notType; have q4 := PySem.F.called_set.canCreate
  have q5 := PySem.F.typeCall_set_1 (.ref src)
  repeat (any_goals (first | assumption | wp_step))
  refine codeAny_mono (code_set_led1 (.ref src) (E := E) (Q₁ := fun ob t1 => ob = .ref s.heap.objs.size ∧ t1 = { s with heap := s.heap.push (so w) }) ⟨rfl, rfl⟩) fun r t1 hr => ?_
  match r, hr with
  | .error e, hr => exact hr
  | .ok (.ret ob), hr =>
    obtain ⟨rfl, rfl⟩ := hr
    have atS : (s.heap.push (so w)).get? s.heap.objs.size = some (so w) := Heap.get?_push_size _ rfl
    have tyS : Shared.TypeIs { s with heap := s.heap.push (so w) } (.ref s.heap.objs.size) "set" := ⟨_, atS, rfl⟩
    have q6 := PySem.F.called_set.init.lookup
    have q7 := PySem.F.called_set.init.bind (.ref s.heap.objs.size)
    repeat (any_goals (first | assumption | wp_step))
    refine codeAny_mono (codeAny_call_builtin (R := wants (fun r t2 => r = .none ∧ ∃ h2 tk l, t2 = { s with heap := h2, toks := tk } ∧ Met xs xs.length l ∧ SetX P w h2 s.heap.objs.size l ∧ ∀ b o, s.heap.get? b = some o → h2.get? b = some o) E) PySem.F.called_set.init.plain PySem.F.entry_set_init (check_set_init_1 tyS ?_)) fun r2 t2 hr2 => ?_
    · obtain ⟨ol, atl, cl, nl, dl⟩ := isl
      obtain ⟨ocls, odict, odata, oslots⟩ := ol
      simp only at cl dl
      subst cl; subst dl
      have lt := Heap.lt_size atl
      have isl2 : (s.heap.push (so w)).IsList src its := ⟨_, Heap.get?_push_of_some _ atl, rfl, nl, rfl⟩
      have q8 := PySem.F.sub_list_set; have q9 := PySem.F.sub_list_frozenset
      have q10 : (Value.type "list" == Value.type "dict") = false := by decide
      have atl2 : (s.heap.push (so w)).get? src = some { cls := .type "list", dict := odict, data := .seq its nl, slots := oslots } := Heap.get?_push_of_some _ atl
      unfold Builtin.«set.__init__» noKeywords Builtin.Frozenset.updateFrom
      generalize hI : pyIter = iter
      wp_walk
      subst hI
      refine wpAny_pyIter_list isl2 (wpAny_bind (wpAny_runValue ?_))
      have no3 : A.in1.in1.in1.handled = none := by simp [noH]
      have zI : (s.heap.push (so w)).objs.size = s.heap.objs.size + 1 := Heap.size_push ..
      have ne1 : src ≠ (s.heap.push (so w)).objs.size := by rw [zI]; exact Nat.ne_of_lt (Nat.lt_succ_of_lt lt)
      have out1 : s.heap.objs.size ∉ [(s.heap.push (so w)).objs.size, src] := by
        rw [zI]
        intro z
        rcases List.mem_cons.mp z with z | z
        · exact absurd z (Nat.ne_of_lt (Nat.lt_succ_self _))
        · exact absurd (List.mem_singleton.mp z) (Nat.ne_of_gt lt)
      refine fill_texts (P := P) (xs := xs) ((Walks.list no3 _ src ne1 its).toS) out1 lx (by rw [← lx]; exact room) (fun i v hv => ?_) its.size 0 _ [] (by omega) ⟨⟨_, Heap.get?_push_size _ rfl, rfl, rfl⟩, isl2.push _⟩ ⟨List.nodup_nil, fun x => by simp, Nat.le_refl _⟩ (SetX.new (Heap.get?_push_of_some _ atS)) fun s2 l2 mv m2 X2 => ?_
      · obtain ⟨y, u, h1, h2⟩ := hit.item i v (by rw [Array.getElem?_toList]; exact hv)
        exact ⟨y, u, h2, h1⟩
      · obtain ⟨h2, g2, d2, tk2, os2⟩ := s2
        obtain rfl : g2 = s.gens := mv.gens
        obtain rfl : d2 = s.drawn := mv.drawn
        obtain rfl : os2 = s.os := mv.os
        rw [← lx] at m2
        show wpAny _ _ (Bind.bind (pure _) _) _ _ _
        refine wpAny_pure (wpAny_pure ⟨rfl, h2, tk2, l2, rfl, m2, X2, fun b o e => ?_⟩)
        have hb := Heap.lt_size e
        refine mv.heap b o (fun z => ?_) (Heap.get?_push_of_some _ (Heap.get?_push_of_some _ e))
        rw [zI] at z
        rcases List.mem_cons.mp z with z | z
        · exact absurd z (Nat.ne_of_lt hb)
        · exact absurd (List.mem_singleton.mp z) (Nat.ne_of_lt (Nat.lt_succ_of_lt hb))
    · match r2, hr2 with
      | .error e, hr2 => exact hr2
      | .ok (.ret v2), hr2 =>
        obtain ⟨rfl, h2, tk, l, rfl, m, X, k⟩ := hr2
        repeat (any_goals (first | assumption | wp_step))
        exact fin _ _ _ m X k
end
end Wt
set_option Elab.async false
set_option linter.all false
set_option maxRecDepth 100000
set_option maxHeartbeats 4000000
/-! sorted(texts), set(texts), sorted(set) as rules -/
namespace Wt
open PySem PySem.Spec PyProof.Rows L2 Wc
/-- texts in the sequence of their signs -/
def sortT (xs : List Tx) : List Tx := xs.mergeSort (fun a b => decide (a ≤ b))
theorem sortT_perm (xs : List Tx) : (sortT xs).Perm xs := List.mergeSort_perm _ _
theorem sortT_len (xs : List Tx) : (sortT xs).length = xs.length := List.length_mergeSort _
theorem sortT_mem {xs : List Tx} {t : Tx} : t ∈ sortT xs ↔ t ∈ xs := (sortT_perm xs).mem_iff
theorem sortT_pw (xs : List Tx) : (sortT xs).Pairwise (· ≤ ·) := by
  have h := List.pairwise_mergeSort (le := fun a b : Tx => decide (a ≤ b)) (fun a b c h1 h2 => decide_eq_true (List.le_trans (of_decide_eq_true h1) (of_decide_eq_true h2))) (fun a b => by
    rcases List.le_total a b with h | h
    · simp [h]
    · simp [h]) xs
  exact h.imp fun z => of_decide_eq_true z
theorem enc_le : (PySem.W.dataLe false fun b : Tx => PyData.str (SX.S b)) = fun a b => decide (a ≤ b) := by
  rw [PySem.W.dataLe_str]
theorem alike_tx (xs : List Tx) : PySem.W.AllAlike (xs.map fun b => PyData.str (SX.S b)) := by
  intro d hd d' hd'
  obtain ⟨a, _, rfl⟩ := List.mem_map.mp hd
  obtain ⟨b, _, rfl⟩ := List.mem_map.mp hd'
  rfl
theorem sortable_tx (xs : List Tx) : PySem.W.Sortable (xs.map fun b => PyData.str (SX.S b)) := by
  refine .inr fun d hd => ?_
  obtain ⟨a, _, rfl⟩ := List.mem_map.mp hd
  exact ⟨fun z => (nomatch z), fun _ z => (nomatch z)⟩
theorem reads_tx {h : Heap} {vs : List Value} {xs : List Tx} (e : PySem.W.EachIs IsT vs xs) : PySem.W.EachIs (fun v b => ∃ as, Reads h v (PyData.str (SX.S b)) as) vs xs := e.mono fun v b ⟨t, hv⟩ => ⟨[], by rw [hv]; exact .str _ _⟩
theorem reads_out {h : Heap} {a : Addr} {vs : List Value} {xs : List Tx} (e : PySem.W.EachIs IsT vs xs) : PySem.W.EachIs (fun v b => ∃ as, Reads h v (PyData.str (SX.S b)) as ∧ a ∉ as) vs xs := e.mono fun v b ⟨t, hv⟩ => ⟨[], by rw [hv]; exact .str _ _, fun z => nomatch z⟩
theorem strs_of_each : ∀ {vs : List Value} {xs : List Tx}, PySem.W.EachIs IsT vs xs → StrsAre vs (xs.map SX.S)
  | _, _, .nil => .nil
  | _, _, .cons ⟨t, rfl⟩ r => .cons _ t (strs_of_each r)
section
variable {X : Cx}
def rSortTx (K : PySem.W.Frag) : List V → Hp → VK → Prop := fun vs H Q => ∃ (p : Addr) (xs : List Tx), vs = [.ref p] ∧ SqL K H p (xs.map T) ∧ ∀ q, H q = none → Q (.ref q) (upd H q (.lst ((sortT xs).map T)))
theorem cr_sortTx (hu : X.A.units + 64 < cLine) : CallR X (.builtin "sorted") (rSortTx X.K) := by
  intro pins s σ H vs us Q I r h
  obtain ⟨p, xs, rfl, hp, q⟩ := h
  rw [Vals.ref1 r]
  obtain ⟨its, rv, pl, hz⟩ := I.list hp
  rw [List.length_map] at hz
  have ev := each_of_vals rv
  refine PySem.W.sorted_data (R := IsT) (enc := fun b : Tx => PyData.str (SX.S b)) pl.isList ev (reads_tx ev) (alike_tx xs) (sortable_tx xs) hz (fun b _ => ?_) fun out hlen eo => ?_
  · show X.A.units + 2 + _ < cLine
    have : (PyData.str (SX.S b)).depth ≤ 1 := by simp [PyData.depth]
    omega
  · rw [enc_le] at eo
    obtain ⟨c, hc⟩ := sortedAll_at s.heap its out.toArray
    have hn : H (s.heap.objs.size + 1) = none := I.hok.fresh (Nat.le_succ _)
    refine ⟨.ref _, upd H (s.heap.objs.size + 1) (.lst ((sortT xs).map T)), I.laid (t' := s.toks) (fun b u e => sortedAll_old e) (Nat.le_succ _) ⟨?_, out, c, vals_of_each eo, hc⟩, rfl, q _ hn⟩
    rw [List.length_map, sortT_len]
    exact hz
/-- the set of these texts -/
def SetXO (P : Program) (w : World) (a : Addr) (l : List Str) : HO := .ext fun h => SetX P w h a l
theorem setXO_new {w : World} {P : Program} {H : Hp} {h : Heap} {a : Addr} {l : List Str} (R : SetX P w h a l) : ObjOk P w H h a (SetXO P w a l) := by
  have ⟨o, _, _, _, ho, _⟩ := R
  exact ⟨R, ⟨o, ho⟩, fun h1 h2 p k => SetX.at p k⟩
/-- the texts without repetition -/
structure Uniq (xs ys : List Tx) : Prop where
  nd : ys.Nodup
  mem : ∀ x, x ∈ ys ↔ x ∈ xs
def rSetTx (K : PySem.W.Frag) (P : Program) (w : World) : List V → Hp → VK → Prop := fun vs H Q => ∃ (p : Addr) (xs : List Tx), vs = [.ref p] ∧ SqL K H p (xs.map T) ∧ xs.length ≤ 4000 ∧ ∀ q ys, Uniq xs ys → ys.length ≤ xs.length → H q = none → Q (.ref q) (upd H q (SetXO P w q (ys.map SX.S)))
theorem tx_back (l : List Str) : l = (l.map fun x => x.cps.toList).map SX.S := by
  rw [List.map_map]
  conv => lhs; rw [← List.map_id l]
  apply List.map_congr_left
  intro x _
  rfl
theorem S_inj {a b : Tx} (h : SX.S a = SX.S b) : a = b := by
  have := congrArg (fun x : Str => x.cps.toList) h
  simpa using this
theorem uniq_of {xs : List Tx} {l : List Str} (m : Met (xs.map SX.S) (xs.map SX.S).length l) : ∃ ys, l = ys.map SX.S ∧ Uniq xs ys ∧ ys.length ≤ xs.length := by
  refine ⟨_, tx_back l, ⟨?_, fun x => ?_⟩, ?_⟩
  · have nd := m.nd
    rw [tx_back l] at nd
    exact List.Pairwise.of_map SX.S (fun a b hne e => hne (congrArg SX.S e)) nd
  · have h := m.mem (SX.S x)
    rw [List.take_length] at h
    constructor
    · intro hx
      obtain ⟨y, hy, rfl⟩ := List.mem_map.mp hx
      obtain ⟨z, hz, e⟩ := List.mem_map.mp (h.mp hy)
      rw [← S_inj e]
      exact hz
    · intro hx
      have h2 := h.mpr (List.mem_map.mpr ⟨x, hx, rfl⟩)
      exact List.mem_map.mpr ⟨_, h2, rfl⟩
  · rw [List.length_map]
    have := m.len
    rw [List.length_map] at this
    exact this
theorem cr_setTx (hc : X.calm = true) : CallR X (.type "set") (rSetTx X.K X.prog X.w) := by
  intro pins s σ H vs us Q I r h
  obtain ⟨p, xs, rfl, hp, hl, q⟩ := h
  rw [Vals.ref1 r]
  obtain ⟨its, rv, pl, hz⟩ := I.list hp
  refine call_set_texts (P := X.prog) (xs := xs.map SX.S) (I.ok.hd hc) pl.isList (by simpa using strs_of_each (each_of_vals rv)) (by rw [List.length_map]; unfold scanBound; omega) fun h2 tk l m R k => ?_
  obtain ⟨ys, rfl, u, hly⟩ := uniq_of m
  have hn : H s.heap.objs.size = none := I.hok.fresh (Nat.le_refl _)
  exact ⟨.ref _, upd H s.heap.objs.size (SetXO X.prog X.w s.heap.objs.size (ys.map SX.S)), I.laid (t' := tk) k (Nat.le_refl _) (setXO_new R), rfl, q _ ys u hly hn⟩
def rSortSet (P : Program) (w : World) : List V → Hp → VK → Prop := fun vs H Q => ∃ (a : Addr) (ys : List Tx), vs = [.ref a] ∧ H a = some (SetXO P w a (ys.map SX.S)) ∧ ∀ zs q, zs.Perm ys → H q = none → Q (.ref q) (upd H q (.lst ((sortT zs).map T)))
theorem ents_texts {P : Program} {w : World} : ∀ {l : List (Int × Value)}, (∀ e ∈ l, Ent P w e) → PySem.W.EachIs IsT (l.map (·.2)) (l.map fun e => (ek e).cps.toList)
  | [], _ => .nil
  | e :: l, h => .cons (by
      obtain ⟨k, u, h1, _⟩ := h e List.mem_cons_self
      refine ⟨u, ?_⟩
      show e.2 = .str (SX.S (ek e).cps.toList) u
      unfold ek
      rw [h1]
      rfl) (ents_texts fun x hx => h x (List.mem_cons_of_mem _ hx))
theorem each_perm {vs ws : List Value} {xs : List Tx} (e : PySem.W.EachIs IsT ws xs) (p : vs.Perm ws) : ∃ zs, zs.Perm xs ∧ PySem.W.EachIs IsT vs zs := by
  have key : ∀ {us : List Value} {zs : List Tx}, PySem.W.EachIs IsT us zs → zs = us.map (fun v => (txOf v).cps.toList) := by
    intro us zs h
    induction h with
    | nil => rfl
    | cons h1 _ ih =>
      obtain ⟨t, rfl⟩ := h1
      rw [List.map_cons, ← ih]
      rfl
  have all : ∀ {us : List Value} {zs : List Tx}, PySem.W.EachIs IsT us zs → ∀ v ∈ us, ∃ k t, v = Value.str k t := by
    intro us zs h
    induction h with
    | nil => intro v hv; cases hv
    | cons h1 _ ih =>
      intro v hv
      obtain ⟨t, rfl⟩ := h1
      rcases List.mem_cons.mp hv with rfl | hv
      · exact ⟨_, t, rfl⟩
      · exact ih v hv
  have hv : ∀ v ∈ vs, ∃ k t, v = Value.str k t := fun v h => all e v (p.mem_iff.mp h)
  refine ⟨vs.map fun v => (txOf v).cps.toList, ?_, ?_⟩
  · rw [key e]
    exact p.map _
  · clear p
    induction vs with
    | nil => exact .nil
    | cons v vs ih =>
      refine .cons ?_ (ih fun x hx => hv x (List.mem_cons_of_mem _ hx))
      obtain ⟨k, t, rfl⟩ := hv v List.mem_cons_self
      exact ⟨t, rfl⟩
theorem cr_sortSet (hc : X.calm = true) (hu : X.A.units + 64 < cLine) : CallR X (.builtin "sorted") (rSortSet X.prog X.w) := by
  intro pins s σ H vs us Q I r h
  obtain ⟨a, ys, rfl, ha, q⟩ := h
  rw [Vals.ref1 r]
  obtain ⟨o, es, ep, t, ho, hex, hd, py⟩ := (I.hok a _ ha).1
  refine Calls.call_function_entry kind_sorted plain_sorted entry_sorted (args_sorted1 _) ?_
  unfold Builtin.«sorted»
  refine wpAny_bind (m := checkCount "sorted" 1 1 _) (wpAny_pure (wpAny_bind (collect_set (A := X.A.in1) (I.ok.hd hc) ⟨o, ho, hex.1, hd⟩ py.fit py.few py.ris py.led fun s1 ws k1 sz g1 o1 pm => ?_)))
  obtain ⟨zs, pz, ez⟩ := each_perm (ents_texts py.ents) pm
  have few := py.few
  have lw : ws.length = es.size := by rw [pm.length_eq, List.length_map, Array.length_toList]
  have small : ws.length ≤ sizeLine := by
    rw [lw]
    exact fits_of_scanBound few
  refine wpAny_bind (wpAny_newList ?_ small)
  have atL : (s1.heap.push (seqObj "list" ws.toArray 0)).get? s1.heap.objs.size = some (seqObj "list" ws.toArray 0) := Heap.get?_push_size _ rfl
  refine wpAny_bind (wpAny_holding (PySem.W.list_sort_data (s := { s1 with heap := s1.heap.push (seqObj "list" ws.toArray 0) }) (R := IsT) (enc := fun b : Tx => PyData.str (SX.S b)) atL ez (reads_out ez) (alike_tx zs) (sortable_tx zs) (by rw [← ez.length]; exact small) (fun b _ => ?_) fun out hlen eo => ?_))
  · show X.A.in1.units + 1 + _ < cLine
    have h1 : X.A.in1.units ≤ X.A.units + 8 := by
      show X.A.units + _ ≤ _
      first | omega | exact Nat.add_le_add_left (by decide) _
    have : (PyData.str (SX.S b)).depth ≤ 1 := by simp [PyData.depth]
    omega
  · rw [enc_le] at eo
    obtain ⟨c, hc2⟩ := sortedHeap_at (vs := ws) (out := out.toArray) atL
    have pzy : zs.Perm ys := by
      refine pz.trans ?_
      have h1 := py.keys.map (fun x : Str => x.cps.toList)
      rw [List.map_map, List.map_map] at h1
      exact h1.trans (by rw [show ((fun x : Str => x.cps.toList) ∘ SX.S) = (fun x : Tx => x) from by funext x; simp, List.map_id'])
    have kk : ∀ b u, s.heap.get? b = some u → (sortedHeap (s1.heap.push (seqObj "list" ws.toArray 0)) s1.heap.objs.size ws out.toArray).get? b = some u := fun b u e => by
      have lt := Heap.lt_size (k1 b u e)
      rw [sortedHeap_old (Nat.ne_of_lt lt) (by rw [size_push']; exact Nat.lt_succ_of_lt lt)]
      exact Heap.get?_push_of_some _ (k1 b u e)
    have hn : H s1.heap.objs.size = none := I.hok.fresh sz
    have J := I.call (ch := []) (g' := s1.gens) (d' := s1.drawn) (t' := s1.toks) (Un.laid kk sz hn) (I.hok.laid kk sz (o := .lst ((sortT zs).map T)) ⟨by rw [List.length_map, sortT_len, ← ez.length]; exact small, out, c, vals_of_each eo, hc2⟩) (by rw [g1]; exact I.bare) (fun _ z => nomatch z)
    refine wpAny_pure ⟨_, rfl, .ref s1.heap.objs.size, _, ?_, rfl, q zs _ pzy hn⟩
    have e : ({ s1 with heap := sortedHeap (s1.heap.push (seqObj "list" ws.toArray 0)) s1.heap.objs.size ws out.toArray } : Shared) = { s with heap := sortedHeap (s1.heap.push (seqObj "list" ws.toArray 0)) s1.heap.objs.size ws out.toArray, gens := s1.gens, drawn := s1.drawn, toks := s1.toks } := by
      cases s1
      cases s
      cases o1
      rfl
    rw [e]
    exact J
end
end Wt
set_option Elab.async false
set_option linter.all false
set_option maxRecDepth 100000
set_option maxHeartbeats 2000000
/-! text[::-1]; rules with the part given; lists put behind one another -/
namespace Wt
open PySem PySem.Spec PyProof.Rows L2 Evl Wc
theorem rev_range (a : Tx) : (List.range a.length).map (fun k => a.getD (a.length - 1 - k) 0) = a.reverse := by
  apply List.ext_getElem
  · simp
  · intro i h1 h2
    have hl : i < a.length := by simpa using h1
    rw [List.getElem_map, List.getElem_range, List.getElem_reverse, List.getD_eq_getElem?_getD, List.getElem?_eq_getElem (by omega)]
    rfl
theorem made_rev (a : Tx) (t u : Tok) : sliceMade (SX.S a) t none none (some ((-1 : Int), u)) = .str (SX.S a.reverse) := by
  unfold sliceMade slicePicked
  rw [if_neg (by
    rw [show ((((some ((-1 : Int), u)).map (·.1)).getD 1 == 1)) = false from rfl]
    simp)]
  show Made.str ⟨((Builtin.Str.strSliceIndices none none (-1) (SX.S a).length).filterMap ((SX.S a).cps[·]?)).toArray⟩ = _
  rw [picked_rev, filterMap_get, List.map_map]
  · have e : (SX.S a).length = a.length := S_length a
    rw [e]
    congr 1
    show (⟨((List.range a.length).map fun k => (SX.S a).cps.getD (a.length - 1 - k) 0).toArray⟩ : Str) = SX.S a.reverse
    rw [← rev_range]
    congr 2
    apply List.map_congr_left
    intro k hk
    show a.toArray.getD _ 0 = _
    simp [Array.getD, List.getD_eq_getElem?_getD]
    split
    · rename_i h
      rw [List.getElem?_eq_getElem h]
      rfl
    · rename_i h
      rw [List.getElem?_eq_none (by omega)]
      rfl
  · intro i hi
    obtain ⟨k, hk, rfl⟩ := List.mem_map.mp hi
    have := List.mem_range.mp hk
    show _ < (SX.S a).length
    omega
def tRevT (te : TE) : TE := fun σ H Q => te σ H fun x H1 => ∃ a : Tx, x = T a ∧ a.length ≤ 16777216 ∧ Q (T a.reverse) H1
section
variable {X : Cx}
theorem pe_revT {e : Expr} {te : TE} {k : Nat} {p1 p2 p3 pos : Pos} (he : PE X e te) : PE X (.Subscript e (.Slice none none (some (.UnaryOp .USub (.Constant (.int 1) k p1) p2)) p3) pos) (tRevT te) := by
  refine ⟨fun pins s σ H Q I h => Subscript_ (thn (he.run pins s σ H _ I h) fun v s1 ⟨x, H1, I1, r1, q1⟩ => ?_)⟩
  obtain ⟨a, ex, hz, q⟩ := q1
  subst ex
  obtain ⟨t, rfl⟩ := r1
  have neg : PO X (some (.UnaryOp .USub (.Constant (.int 1) k p1) p2)) (tPart (tUn (rU fun i => .int (-i)) (tC (.int 1)))) := po_some (pe_un un_neg pe_int)
  refine wpAny_Slice (thn (po_none.run pins s1 σ H1 (fun o G => o = none ∧ G = H1) I1 ⟨rfl, rfl⟩) fun vl s2 ⟨l, H2, I2, pl, el, e2⟩ => ?_)
  subst el e2
  refine thn (po_none.run pins s2 σ H2 (fun o G => o = none ∧ G = H2) I2 ⟨rfl, rfl⟩) fun vu s3 ⟨u, H3, I3, pu, eu, e3⟩ => ?_
  subst eu e3
  refine thn (neg.run pins s3 σ H3 (fun o G => o = some (-1) ∧ G = H3) I3 ⟨1, rfl, -1, rfl, rfl, rfl⟩) fun vs s4 ⟨o, H4, I4, ps, eo, e4⟩ => ?_
  subst eo e4
  obtain ⟨l', rfl, hl⟩ := IsPart.raw pl
  obtain ⟨u', rfl, hu⟩ := IsPart.raw pu
  obtain ⟨st, rfl, hst⟩ := IsPart.raw ps
  cases l' with
  | some z => cases hl
  | none => cases u' with
    | some z => cases hu
    | none => cases st with
      | none => cases hst
      | some z =>
        obtain ⟨n, w⟩ := z
        have hn : n = -1 := Option.some.inj hst
        subst hn
        have I5 : Inv X pins σ H4 { s4 with heap := s4.heap.push { cls := .type "slice", data := .fields #[partValue none, partValue none, partValue (some (-1, w))] } } := I4.kept (t' := s4.toks) fun b ob q => Heap.get?_push_of_some _ q
        refine tail_any (T := "str") (ops := [.str (SX.S a) t, .ref s4.heap.objs.size]) (typeIs_str _ _ _) (PySem.F.slot_str_getitem.lookup) ?_ (by with_unfolding_all rfl)
        refine wpAny_getItem_str_slice (l := none) (u := none) (st := some (-1, w)) ⟨_, Heap.get?_push_size _ rfl, rfl, rfl⟩ rfl ?_
        rw [made_rev]
        refine ⟨?_, .str _, _, I5.tok _, ⟨_, rfl⟩, q⟩
        rw [S_length, List.length_reverse]
        exact Nat.le_trans hz (by decide)
end
section
variable {X : Cx} (P : Program) (w : World) (K : PySem.W.Frag)
def rSortX (K : PySem.W.Frag) (P : Program) (w : World) : List V → Hp → VK → Prop := fun vs H Q => rSortTx K vs H Q ∨ rSortSet P w vs H Q
theorem kset (hc : X.calm = true := by rfl) (hK : X.K = K := by rfl) (hP : X.prog = P := by rfl) (hw : X.w = w := by rfl) : CallR X (.type "set") (rSetTx K P w) := by
  subst hK hP hw
  exact cr_setTx hc
theorem ksorted (hu : X.A.units + 64 < cLine) (hc : X.calm = true := by rfl) (hK : X.K = K := by rfl) (hP : X.prog = P := by rfl) (hw : X.w = w := by rfl) : CallR X (.builtin "sorted") (rSortX K P w) := by
  subst hK hP hw
  exact CallR.or (cr_sortTx hu) (cr_sortSet hc hu)
theorem krev {e : Expr} {te : TE} (h : PE X e (tRevL X.K te)) (hK : X.K = K := by rfl) : PE X e (tRevL K te) := hK ▸ h
end
section
variable {K : PySem.W.Frag} {P : Program} {w : World} {σ : L2.St} {H : Hp} {te : TE}
theorem ev_revT {a : Tx} (h : Ev te σ H (T a)) (hl : a.length ≤ 16777216) : Ev (tRevT te) σ H (T a.reverse) := fun H1 e _ q => h H1 e _ fun H2 e2 => ⟨a, rfl, hl, q H2 e2⟩
theorem el_revL {p : Addr} {xs : List V} (h : Ev te σ H (.ref p)) (hp : SqL K H p xs) : EvL (tRevL K te) σ H xs.reverse := fun H1 e _ q => h H1 e _ fun H2 e2 => ⟨p, xs, rfl, ex_l (e.trans e2) hp, fun r hr => q r _ (fresh_back e2 hr) (e2.trans (Ex.new hr)) upd_same⟩
theorem el_revN {xs : List V} (h : EvL te σ H xs) : EvL (tRevL K te) σ H xs.reverse := fun H1 e _ q => h H1 e _ fun p H2 hp e2 h2 => ⟨p, xs, rfl, sq_of h2, fun r hr => q r _ (fresh_back e2 hr) (e2.trans (Ex.new hr)) upd_same⟩
/-- sorted(set(..)), of a new list of texts -/
theorem el_sortSet {xs : List Tx} (h : EvL te σ H (xs.map T)) (hl : xs.length ≤ 4000) (Q : VK) (k : ∀ p ys H1, Uniq xs ys → ys.length ≤ xs.length → H p = none → Ex H H1 → H1 p = some (.lst ((sortT ys).map T)) → Q (.ref p) H1) :
    tCB (rSortX K P w) (tCons (tCB (rSetTx K P w) (tCons te tNil)) tNil) σ H Q := h H (Ex.refl _) _ fun p H1 hp e1 h1 => ⟨p, xs, rfl, sq_of h1, hl, fun q ys u hly hq => .inr ⟨q, ys, rfl, upd_same, fun zs r pz hr => by
  have hr1 : H1 r = none := fresh_back (Ex.new hq) hr
  exact k r zs _ ⟨pz.nodup_iff.mpr u.nd, fun x => (pz.mem_iff).trans (u.mem x)⟩ (by rw [pz.length_eq]; exact hly) (fresh_back e1 hr1) ((e1.trans (Ex.new hq)).trans (Ex.new hr)) upd_same⟩⟩
/-- sorted(..) of a standing list of texts -/
theorem el_sorted {p : Addr} {xs : List Tx} (h : Ev te σ H (.ref p)) (hp : SqL K H p (xs.map T)) : EvL (tCB (rSortX K P w) (tCons te tNil)) σ H ((sortT xs).map T) := fun H1 e _ q => h H1 e _ fun H2 e2 => .inl ⟨p, xs, rfl, ex_l (e.trans e2) hp, fun r hr => q r _ (fresh_back e2 hr) (e2.trans (Ex.new hr)) upd_same⟩
end
end Wt
set_option Elab.async false
set_option linter.all false
set_option maxRecDepth 100000
set_option maxHeartbeats 2000000
/-! small things for lists and tests -/
namespace Wt
open PySem PySem.Spec PyProof.Rows L2 Evl Wc
section
variable {K : PySem.W.Frag} {σ : L2.St} {H : Hp} {ta tb tc te : TE} {x y z : V}
theorem ev_chain {r r' : R2} {b1 b2 : Bool} (ha : Ev ta σ H x) (hb : Ev tb σ H y) (h1 : RV r x y H (.bl b1)) (hc : Ev tc σ H z) (h2 : RV r' y z H (.bl b2)) : Ev (tChain r r' ta tb tc) σ H (.bl (b1 && b2)) := fun H1 e1 Q q =>
  ha H1 e1 _ fun H2 e2 => hb H2 (e1.trans e2) _ fun H3 e3 => h1 H3 ((e1.trans e2).trans e3) _ fun H4 e4 => ⟨b1, rfl, by
    have e14 := (e2.trans e3).trans e4
    cases b1 with
    | true =>
      show tc σ H4 _
      exact hc H4 (e1.trans e14) _ fun H5 e5 => h2 H5 ((e1.trans e14).trans e5) _ fun H6 e6 => q H6 ((e14.trans e5).trans e6)
    | false => exact q H4 e14⟩
theorem erase_perm {α : Type} {xs : List α} {d : Nat} (h : d < xs.length) : (xs[d] :: xs.eraseIdx d).Perm xs := by
  rw [List.eraseIdx_eq_take_drop_succ]
  have e : xs = xs.take d ++ xs[d] :: xs.drop (d + 1) := by
    rw [List.getElem_cons_drop, List.take_append_drop]
  conv => rhs; rw [e]
  exact List.perm_middle.symm
/-- the signs of a text's value -/
def unT : V → Tx
  | .str x => x.cps.toList
  | _ => []
theorem map_unT (xs : List Tx) : (xs.map T).map unT = xs := by
  rw [List.map_map]
  conv => rhs; rw [← List.map_id xs]
  rfl
theorem perm_texts {ys : List V} {xs : List Tx} (h : ys.Perm (xs.map T)) : ∃ zs : List Tx, ys = zs.map T ∧ zs.Perm xs := by
  obtain ⟨zs, rfl, _⟩ := texts_of (acc := ys) (g := fun _ => True) fun v hv => by
    obtain ⟨t, _, rfl⟩ := List.mem_map.mp (h.mem_iff.mp hv)
    exact ⟨t, rfl, trivial⟩
  have := h.map unT
  rw [map_unT, map_unT] at this
  exact ⟨zs, rfl, this⟩
theorem seqIx_nat {d n : Nat} (h : d < n) : seqIndex? (d : Int) n = some d := by
  have : ¬ (d : Int) < 0 := by omega
  unfold seqIndex?
  simp [this, h]
/-- lists put behind one another: both new | the first stands -/
theorem el_catNN {xs ys : List V} (ha : EvL ta σ H xs) (hb : EvL tb σ H ys) (hz : xs.length + ys.length ≤ 100000) : EvL (tOp rCat ta tb) σ H (xs ++ ys) := fun H1 e1 Q q =>
  ha H1 e1 _ fun p H2 hp e2 h2 => hb H2 (e1.trans e2) _ fun r H3 hr e3 h3 => ⟨p, r, xs, ys, rfl, rfl, e3 _ _ h2, h3, sz_of hz, fun n hn => q n _ (fresh_back (e2.trans e3) hn) ((e2.trans e3).trans (Ex.new hn)) upd_same⟩
theorem el_catVN {p : Addr} {xs ys : List V} (ha : Ev ta σ H (.ref p)) (hp : H p = some (.lst xs)) (hb : EvL tb σ H ys) (hz : xs.length + ys.length ≤ 100000) : EvL (tOp rCat ta tb) σ H (xs ++ ys) := fun H1 e1 Q q =>
  ha H1 e1 _ fun H2 e2 => hb H2 (e1.trans e2) _ fun r H3 hr e3 h3 => ⟨p, r, xs, ys, rfl, rfl, ((e1.trans e2).trans e3) _ _ hp, h3, sz_of hz, fun n hn => q n _ (fresh_back (e2.trans e3) hn) ((e2.trans e3).trans (Ex.new hn)) upd_same⟩
theorem ev_lenU {p : Addr} {xs : List V} (h : Ev ta σ H (.ref p)) (hp : SqT K H p xs) : Ev (tCB (rLenS K) (tCons ta tNil)) σ H (.int (xs.length : Int)) := fun H1 e Q q => h H1 e _ fun H2 e2 => ⟨p, xs, rfl, .inr (ex_t (e.trans e2) hp), q H2 e2⟩
end
end Wt
set_option Elab.async false
set_option linter.all false
set_option maxRecDepth 100000
set_option maxHeartbeats 2000000
/-! comprehensions of so many turns as are drawn -/
namespace Wt
open PySem PySem.Spec PyProof.Rows L2 Evl Wc
section
variable {K : PySem.W.Frag} {fa : Addr} {σ : L2.St} {H : Hp} {te te0 : TE}
theorem lcRD {j : Nat} {vs : List Nat} {lo N c m0 : Nat} (good : V → Prop) (hc : Dw fa σ m0 te0 (GdI (lo : Int) (N : Int))) (hN : N ≤ 1000) (G : GF fa (m0 + N * c) H) (hw : ∀ x, wipe ((wipe σ vs).set j (some x)) vs = wipe σ vs)
    (he : ∀ x n H1, Rf fa n H H1 → GF fa c H1 → ∀ Q' : VK, (∀ y H2, good y → Rf fa c H1 H2 → Q' y H2) → te ((wipe σ vs).set j (some x)) H1 Q') (Q : VK)
    (k : ∀ p H2 acc, H p = none → Rf fa (m0 + N * c) H H2 → H2 p = some (.lst acc) → lo ≤ acc.length → acc.length ≤ N → (∀ v ∈ acc, good v) → Q (.ref p) H2) : tLc (iRng1 (tCons te0 tNil)) (gName j) tYes te vs σ H Q :=
  hc H (G.mono (by omega)) _ fun v H1 ⟨n, hv, h0, h1⟩ R1 => by
    obtain ⟨n, rfl⟩ := Int.eq_ofNat_of_zero_le (show 0 ≤ n by omega)
    subst hv
    have hn : n ≤ N := by omega
    have hnc : n * c ≤ N * c := Nat.mul_le_mul_right c hn
    have G1 : GF fa (N * c) H1 := G.go R1 (by omega)
    have h : tLc (iRng1 fun _ H' Q' => Q' [.int (n : Int)] H') (gName j) tYes te vs σ H1 Q := by
      refine lcD good c G1.is (src_range1 (n := n) (fun H2 e2 Q2 q => q H2 (Ex.refl _)) (by omega)) (fun z => z) (by omega) hw (fun i x H2 hi _ R2 Q2 q2 => ?_) fun p H2 acc hp R2 h2 hl hg => k p H2 acc (R1.free G.is hp G1.is) ((R1.trans R2).mono (by omega)) h2 (by omega) (by omega) hg
      have hic : i * c + c ≤ N * c := by
        have := Nat.mul_le_mul_right c (show i + 1 ≤ N by omega)
        rw [Nat.succ_mul] at this
        exact this
      exact he x _ H2 (R1.trans R2) (G1.go R2 hic) Q2 q2
    exact h
/-- over a standing list of texts, with a test that draws; what is kept is of the list -/
theorem texts_GdT {acc : List V} {ok : Nat → Prop} {lo n : Nat} (h : ∀ v ∈ acc, GdT ok lo n v) : ∃ ws : List Tx, acc = ws.map T ∧ ∀ t ∈ ws, lo ≤ t.length ∧ t.length ≤ n ∧ ∀ c ∈ t, ok c := texts_of fun v hv => by
  obtain ⟨s, rfl, h1, h2, h3⟩ := h v hv
  exact ⟨s, rfl, h1, h2, h3⟩
theorem dI_sub {ta tb : TE} {m1 m2 : Nat} {a b c d : Int} (h1 : Dw fa σ m1 ta (GdI a b)) (h2 : Dw fa σ m2 tb (GdI c d)) : Dw fa σ (m1 + m2) (tOp (rI0 fun i j => .int (i - j)) ta tb) (GdI (a - d) (b - c)) := dw_op h1 h2 fun x y ⟨i, hi, h3, h4⟩ ⟨j, hj, h5, h6⟩ => ⟨.int (i - j), ⟨i - j, rfl, by omega, by omega⟩, fun H Q q => ⟨i, j, hi, hj, q⟩⟩
theorem dI_wk {m : Nat} {a b c d : Int} (h : Dw fa σ m te (GdI a b)) (h1 : c ≤ a := by omega) (h2 : b ≤ d := by omega) : Dw fa σ m te (GdI c d) := dw_as h fun v ⟨i, hi, h3, h4⟩ => ⟨i, hi, by omega, by omega⟩
theorem dT_wk {m : Nat} {ok : Nat → Prop} {a b c d : Nat} (h : Dw fa σ m te (GdT ok a b)) (h1 : c ≤ a := by omega) (h2 : b ≤ d := by omega) : Dw fa σ m te (GdT ok c d) := dw_as h fun v ⟨i, hi, h3, h4, h5⟩ => ⟨i, hi, by omega, by omega, h5⟩
/-- one of displayed numbers -/
theorem dI_oneL {i : Nat} {ns : List Int} {lo hi : Int} (h0 : σ[i]? = some (some (.ref fa))) (h : ∀ H, EvL te σ H (ns.map V.int)) (hg : ∀ n ∈ ns, lo ≤ n ∧ n ≤ hi) (hs : ns ≠ []) (hl : ns.length ≤ 1000) : Dw fa σ 1 (tCall (sp_one K) [] E0 (tCons (tVar i) (tCons te tNil))) (GdI lo hi) :=
  dw_oneL h0 h (fun v hv => by
    obtain ⟨n, hn, rfl⟩ := List.mem_map.mp hv
    exact ⟨n, rfl, (hg n hn).1, (hg n hn).2⟩) (fun z => hs (List.map_eq_nil_iff.mp z)) (by rw [List.length_map]; omega)
/-- a list comprehension over a list, at which draws are made: test and step -/
theorem lcDT {wi : TI} {tt : TT} {j : Nat} {vs : List Nat} {n : Nat} {own : Addr → Prop} {P : Nat → V → Hp → Prop} {Q : VK} (good : V → Prop) (c : Nat) (hf : H fa ≠ none) (hs : Src wi σ H n own P) (ho : ¬ own fa) (hn : n ≤ 40000) (hw : ∀ x, wipe ((wipe σ vs).set j (some x)) vs = wipe σ vs)
    (ht : ∀ (i : Nat) (x : V) H1, i < n → P i x H1 → Rf fa (i * c) H H1 → ∀ Q' : Bool → Hp → Prop, (∀ b H2, Rf fa c H1 H2 → Q' b H2) → tt ((wipe σ vs).set j (some x)) H1 Q')
    (he : ∀ (i : Nat) (x : V) H0 H1, i < n → P i x H0 → Rf fa c H0 H1 → ∀ Q' : VK, (∀ y H2, good y → Ex H1 H2 → Q' y H2) → te ((wipe σ vs).set j (some x)) H1 Q')
    (k : ∀ p H2 acc, H p = none → Rf fa (n * c) H H2 → H2 p = some (.lst acc) → acc.length ≤ n → (∀ v ∈ acc, good v) → Q (.ref p) H2) : tLc wi (gName j) tt te vs σ H Q :=
  hs H (Ex.refl H) _ fun J H1 S e1 w hS => fun Dl hD => by
    have hDH : H Dl = none := fresh_back e1 hD
    have hne : Dl ≠ fa := fun z => hf (z ▸ hDH)
    have hf1 : H1 fa ≠ none := by
      cases hq : H fa with
      | none => exact absurd hq hf
      | some o => rw [e1 _ _ hq]; exact fun z => nomatch z
    refine lc_it w (Qd := fun H3 => Q (.ref Dl) H3) (fun i Hi => Rf fa (i * c) H1 Hi ∧ ∃ acc, Hi Dl = some (.lst acc) ∧ acc.length ≤ i ∧ ∀ v ∈ acc, good v) ?_ (fun i Hi hi p => hS (fun b => b = fa) Hi (by rintro b rfl; exact ⟨hf, ho⟩) p.1.keep) ?_ ?_
    · exact ⟨((Rf.refl H1).upd hD hf1).mono (Nat.zero_le _), [], upd_same, Nat.le_refl _, fun v hv => nomatch hv⟩
    · rintro i x Ha Hb hi ⟨R, acc, h1, h2, h3⟩ ⟨ey, hP⟩
      refine ⟨hw x, ?_⟩
      have Rb : Rf fa (i * c) H1 Hb := R.then ey
      refine ht i x Hb hi hP (Rf.pre e1 Rb) _ fun b H3 R3 => ?_
      have h13 : H3 Dl = some (.lst acc) := R3.at_ (ey _ _ h1) hne
      have Rc : Rf fa ((i + 1) * c) H1 H3 := (Rb.trans R3).mono (by rw [Nat.succ_mul]; exact Nat.le_refl _)
      cases b with
      | true =>
        show te ((wipe σ vs).set j (some x)) H3 fun y H4 => _
        refine he i x Hb H3 hi hP R3 _ fun y H4 hy e4 => ⟨acc, e4 _ _ h13, sz_lt (by omega), (Rc.then e4).upd hD hf1, acc ++ [y], upd_same, by rw [List.length_append]; exact Nat.succ_le_succ h2, fun v hv => ?_⟩
        rcases List.mem_append.mp hv with hv | hv
        · exact h3 v hv
        · rw [List.mem_singleton.mp hv]
          exact hy
      | false => exact ⟨Rc, acc, h13, Nat.le_succ_of_le h2, h3⟩
    · rintro H3 ⟨R, acc, h1, h2, h3⟩
      exact k Dl H3 acc hDH (Rf.pre e1 R) h1 h2 h3
/-- the list is the value of a reading -/
theorem lc_of {te0 : TE} {g : TG} {tt : TT} {vs : List Nat} {Q : VK} (h : te0 σ H fun v H1 => tLc (iList K (fun _ H' Q' => Q' v H')) g tt te vs σ H1 Q) : tLc (iList K te0) g tt te vs σ H Q := h
end
end Wt
set_option Elab.async false
set_option linter.all false
set_option maxRecDepth 100000
set_option maxHeartbeats 2000000
/-! enumerate(t), t a tuple -/
namespace Wt
open PySem PySem.Spec PyProof.Rows L2 Evl Wc
theorem meets_enum1 {v : Value} {o : Obj} {Hh : Heap → Prop} (B : Begins v o Hh) :
    Meets (Builtin.«enumerate.__new__» ⟨[.type "enumerate", v], []⟩) (fun _ R s => Hh s.heap ∧ R (.ok (.ret (.ref (s.heap.push o).objs.size))) { s with heap := (s.heap.push o).push { cls := .type "enumerate", data := .fields #[.none, .bool false, .ref s.heap.objs.size, rawInt 0, .none, .none] } }) :=
  .of_wp fun P w A R s h => by
    obtain ⟨hp, g, d, tk, os⟩ := s
    obtain ⟨h1, h2⟩ := h
    have hsub := sub_enumerate
    have begin_ : ∀ {A' : Around} {E : Value → Shared → Prop} {Q : Value → Shared → Prop}, Q (.ref hp.objs.size) ⟨hp.push o, g, d, tk, os⟩ → wpAny (model P w) A' (pyIter v) Q E ⟨hp, g, d, tk, os⟩ := fun q => B.iter P w _ _ ⟨hp, g, d, tk, os⟩ _ h1 q
    wp_walk
    refine wpAny_stack_any fun st => wpAny_pure ?_
    split
    · rename_i c _ _ _ _ _
      cases (c == Value.type "enumerate")
      · wp_walk using begin_
        exact ⟨_, rfl, h2⟩
      · wp_walk using begin_
        exact ⟨_, rfl, h2⟩
    · wp_walk using begin_
      exact ⟨_, rfl, h2⟩
section
variable {P : Program} {w : World} {A : Around} {E : Value → Shared → Prop} {s : Shared}
theorem call_enum1 {v : Value} {o : Obj} {Hh : Heap → Prop} {Q : Value → Shared → Prop} (B : Begins v o Hh) (h1 : Hh s.heap)
    (h : ∀ h', IsEnum h' (s.heap.objs.size + 1) s.heap.objs.size 0 .none → h'.get? s.heap.objs.size = some o → (∀ b o, s.heap.get? b = some o → h'.get? b = some o) → Q (.ref (s.heap.objs.size + 1)) { s with heap := h' }) :
    wpAny (model P w) A (call (.type "enumerate") [v]) Q E s := by
  refine callType_new F.called_enumerate (by decide) (F.typeCall_enumerate_1 _) (F.newCall_enumerate_1 _) (fun obj => F.args_object_init_2 obj _) F.entry_enumerate_new (meets_enum1 B) ⟨h1, ?_⟩
  have z : (s.heap.push o).objs.size = s.heap.objs.size + 1 := Heap.size_push ..
  show _ ∧ _
  rw [z]
  have he : IsEnum ((s.heap.push o).push { cls := .type "enumerate", data := .fields #[.none, .bool false, .ref s.heap.objs.size, rawInt 0, .none, .none] }) (s.heap.objs.size + 1) s.heap.objs.size 0 .none := by
    rw [← z]
    exact Heap.get?_push_size (s.heap.push o) rfl
  exact ⟨⟨_, he, rfl⟩, h _ he (Heap.get?_push_of_some _ (Heap.get?_push_size _ B.free)) fun b u x => Heap.get?_push_of_some _ (Heap.get?_push_of_some _ x)⟩
end
/-- the tuple at a, each item in a new pair with its number -/
def ItEt (K : PySem.W.Frag) (a : Addr) : It :=
  ⟨fun i H => ∃ (xs : List V) (x : V), SqT K H a xs ∧ xs[i]? = some x, fun i H v H' => ∃ T x, v = .ref T ∧ H T = none ∧ H' = upd H T (.tup [.int (i : Nat), x]) ∧ ∀ xs, SqT K H a xs → xs[i]? = some x, fun i H => ∃ xs : List V, SqT K H a xs ∧ xs.length ≤ i⟩
theorem turn_enumT {P : Program} {w : World} {K : PySem.W.Frag} {elts : List Expr} {kk : Nat} {tpos : Pos} (a e it : Addr) (hne : e ≠ it) (ha1 : a ≠ it) (ha2 : a ≠ e) :
    Turn P w K (.Tuple elts kk tpos) (ItEt K a) [e, it] e (fun i h => (∃ old, IsEnum h e it ((i : Nat) : Int) old) ∧ h.IsTupleIter it a i) where
  mem := List.mem_cons_self
  obj := fun i h st b hb => by
    obtain ⟨⟨old, he⟩, o, ho, hc, hd⟩ := st
    rcases List.mem_cons.mp hb with z | z
    · rw [z]
      exact ⟨_, he, fun v q => nomatch q⟩
    · rw [List.mem_singleton.mp z]
      exact ⟨o, ho, fun v q => by rw [hd] at q; cases q⟩
  keep := fun i h h' st k => let ⟨⟨old, he⟩, hi⟩ := st; ⟨⟨old, k e List.mem_cons_self _ he⟩, hi.at fun o q => k it (by simp) o q⟩
  item := by
    intro X hP hw hK hc i pins s σ H E I hf st hg
    subst hP hw hK
    obtain ⟨⟨old, he⟩, hit⟩ := st
    obtain ⟨xs, x, hq, hx⟩ := hg
    obtain ⟨its, rv, p, hz⟩ := I.tuple hq
    obtain ⟨u, hu, ru⟩ := rv.get hx
    have le : e < s.heap.objs.size := Heap.lt_size he
    have li : it < s.heap.objs.size := by obtain ⟨_, q, _⟩ := hit; exact Heap.lt_size q
    have hlt : i < its.toArray.size := by
      rw [List.size_toArray]
      exact (List.getElem?_eq_some_iff.mp hu).1
    have D := Draws.tuple (prog := X.prog) (w := X.w) (A := X.A.in1) (I.ok.hd hc) it a ha1 its.toArray
    refine wpAny_pyNext_enum_itemD D he ⟨hit, p⟩ hlt hne (by simp [hne, ha2.symm]) fun y h' tk hP2 ho hst hT hsz hk => ?_
    have hyu : y = u := by
      have e1 : its.toArray[i]? = some u := by simpa using hu
      rw [e1] at hP2
      exact (Option.some.inj hP2).symm
    subst hyu
    refine ⟨_, rfl, wpAny_letOwnedTupleGo_enum (s := { s with heap := h', toks := tk + 1 }) ho fun h2 he2 sb => ?_⟩
    have hT2 : h2.get? s.heap.objs.size = some { cls := .type "tuple", data := .seq #[.int i tk, y] } := (sb.2 _ (Nat.ne_of_gt le)).trans hT
    have new : ObjOk X.prog X.w (upd H s.heap.objs.size (.tup [.int (i : Nat), x])) h2 s.heap.objs.size (.tup [.int (i : Nat), x]) := ⟨by show 2 ≤ sizeLine; decide, [.int i tk, y], .cons ⟨_, rfl⟩ (.cons ru .nil), ⟨_, hT2, rfl, _, rfl⟩⟩
    have I1 : Inv X pins σ (upd H s.heap.objs.size (.tup [.int (i : Nat), x])) { s with heap := h2, toks := tk + 1 } :=
      I.turnedNew (ch := [e, it]) (fun b ob hb q => (sb.2 b (fun z => hb (by simp [z]))).trans (hk b ob (fun z => hb (by simp [z])) (fun z => hb (by simp [z])) q)) hf (Nat.le_refl _) new
    refine ⟨.ref s.heap.objs.size, _, I1, rfl, ⟨_, x, rfl, I.hok.fresh (Nat.le_refl _), rfl, fun ys hy => by rw [I.tuple_inj hy hq]; exact hx⟩, ⟨⟨y, ?_⟩, hst.1.at fun o q => (sb.2 it (Ne.symm hne)).trans q⟩, fun b hb => ?_⟩
    · rw [show ((i + 1 : Nat) : Int) = (i : Int) + 1 by omega]
      exact he2
    · have lb : b < s.heap.objs.size := by
        rcases List.mem_cons.mp hb with z | z
        · rw [z]; exact le
        · rw [List.mem_singleton.mp z]; exact li
      rw [upd_ne (Nat.ne_of_lt lb)]
      exact (hf b hb).1
  done := by
    intro X hP hw hK hc i pins s σ H E I hf st hg
    subst hP hw hK
    obtain ⟨⟨old, he⟩, hit⟩ := st
    obtain ⟨xs, hq, hx⟩ := hg
    obtain ⟨its, rv, p, hz⟩ := I.tuple hq
    obtain ⟨f0, f1, f2, f3, f4, f5⟩ := hf it (by simp)
    have hl := rv.length
    have none_ : its.toArray[i]? = none := by simp; omega
    have D : Draws X.prog X.w X.A.in1 it [it, a] 0 (fun _ _ => False) (fun _ h => h.IsTupleIter it a i ∧ h.IsTuple a its.toArray) := ⟨fun _ _ st => let ⟨o, ho, _⟩ := st.1; ⟨o, ho⟩, fun _ _ _ st k => ⟨st.1.at fun o q => k it (by simp) o q, st.2.at fun o q => k a (by simp) o q⟩, fun _ _ _ _ z => absurd z (Nat.not_lt_zero _), fun s Q E st hE => wpAny_nextOf_tuple_end (I.ok.hd hc) st.1 st.2 none_ hE⟩
    exact wpAny_pyNext_enum_endD D he ⟨hit, p⟩ fun h' eb => ⟨rfl, I.turned (t' := s.toks) (fun b o hb q => eb b o hb q) f0 f1 f3 f4 f5⟩
  self := fun A i s Q E st h => let ⟨⟨_, he⟩, _⟩ := st; wpAny_pyIter_enum he h
def iEnumT (K : PySem.W.Frag) (ta : TA) : TI := fun σ H R => ta σ H fun vs H1 => ∃ a xs, vs = [.ref a] ∧ SqT K H1 a xs ∧ R (ItEt K a) H1
theorem pi_enumT {X : Cx} {e : Expr} {ta : TA} {p pos tpos : Pos} {elts : List Expr} {kk : Nat} (hg : Gl X "enumerate") (hm : X.mg "enumerate" = none) (ha : PA X [e] ta) (hs : starEach [e] X.env = [(false, eval e X.env)] := by rfl) : PI X (.Tuple elts kk tpos) (.Call (.Name "enumerate" p) [e] [] pos) (iEnumT X.K ta) := by
  refine ⟨fun pins s σ H R I h => Call_ (ld_blt I hg hm boot_enumerate (PyProof.Rows.callWith_type1 (thn (ha.run pos pins s σ H _ I h) fun us s1 ⟨vs, H1, I1, r1, q1⟩ => ?_) hs rfl))⟩
  obtain ⟨a, xs, ex, hq, q⟩ := q1
  subst ex
  obtain rfl := Vals.ref1 r1
  obtain ⟨its, rv, pt, hz⟩ := I1.tuple hq
  have la : a < s1.heap.objs.size := by obtain ⟨o, ho, _⟩ := pt; exact Heap.lt_size ho
  refine call_enum1 (begins_tuple a its.toArray) pt fun h' he hi hk => wpAny_pyIter_enum he ?_
  have I2 : Inv X pins σ H1 { s1 with heap := h' } := I1.kept (t' := s1.toks) hk
  refine ⟨s1.heap.objs.size + 1, [s1.heap.objs.size + 1, s1.heap.objs.size], _, _, H1, rfl, I2, turn_enumT a (s1.heap.objs.size + 1) s1.heap.objs.size (Nat.succ_ne_self _) (Nat.ne_of_lt la) (Nat.ne_of_lt (Nat.lt_succ_of_lt la)), ⟨⟨.none, he⟩, ⟨_, hi, rfl, rfl⟩⟩, fun b hb => ?_, q⟩
  have hle : s1.heap.objs.size ≤ b := by
    rcases List.mem_cons.mp hb with z | z
    · rw [z]; exact Nat.le_succ _
    · rw [List.mem_singleton.mp z]; exact Nat.le_refl _
  exact I1.fpOk hle (I1.hok.fresh hle)
section
variable {K : PySem.W.Frag} {σ : L2.St} {H : Hp}
theorem walk_enumT {a : Addr} {xs : List V} : Walk (ItEt K a) xs.length (fun H => SqT K H a xs) (YPair (fun i => some (.int (i : Nat))) (fun i => xs[i]?)) := by
  refine ⟨fun i _ hi q => ⟨xs, xs[i], q, by simp [hi]⟩, fun _ q => ⟨xs, q, Nat.le_refl _⟩, fun i H v H' _ q y => ?_⟩
  obtain ⟨t, x, y1, y2, y3, y4⟩ := y
  exact ⟨t, .int (i : Nat), x, y1, y2, y3, rfl, y4 xs q⟩
theorem src_enumT {a : Addr} {xs : List V} {tl : TE} (h : Ev tl σ H (.ref a)) (hs : SqT K H a xs) : Src (iEnumT K (tCons tl tNil)) σ H xs.length (fun b => b = a) (fun i v Hb => ∃ p x, v = .ref p ∧ xs[i]? = some x ∧ Hb p = some (.tup [.int (i : Nat), x])) := fun H1 e R q =>
  h H1 e _ fun H2 e2 => ⟨a, xs, rfl, ex_t (e.trans e2) hs, q _ H2 _ e2 (walk_enumT.mono (fun _ z => z) fun i Ha v Hb _ _ hy => by
    obtain ⟨p, y, x, rfl, hn, rfl, h1, h2⟩ := hy
    refine ⟨Ex.new hn, p, x, rfl, h2, ?_⟩
    rw [← Option.some.inj h1]
    exact upd_same) fun B Ha hB ea => ea.tp (fun z => (hB a z).2 rfl) (ex_t (e.trans e2) hs)⟩
theorem kiet {X : Cx} (K : PySem.W.Frag) {tg it : Expr} {ta : TA} (h : PI X tg it (iEnumT X.K ta)) (hK : X.K = K := by rfl) : PI X tg it (iEnumT K ta) := hK ▸ h
theorem kiza {X : Cx} (K : PySem.W.Frag) {tg it : Expr} {ta : TA} (h : PI X tg it (RZ.iZipA X.K ta)) (hK : X.K = K := by rfl) : PI X tg it (RZ.iZipA K ta) := hK ▸ h
theorem kfl {X : Cx} (K : PySem.W.Frag) {e : Expr} {ta : TE} {f : Str} (h : PE X e (tFld X.K ta f)) (hK : X.K = K := by rfl) : PE X e (tFld K ta f) := hK ▸ h
theorem walk_zipT {a b : Addr} {xs ys : List V} {n : Nat} (hn : n = min xs.length ys.length) : Walk (RZ.ItzT K a b) n (fun H => SqT K H a xs ∧ SqT K H b ys) (YPair (fun i => xs[i]?) (fun i => ys[i]?)) := by
  subst hn
  refine ⟨fun i _ hi q => ⟨xs, ys, xs[i]'(by omega), ys[i]'(by omega), q.1, q.2, by simp [show i < xs.length by omega], by simp [show i < ys.length by omega]⟩, fun _ q => ⟨xs, ys, q.1, q.2, by omega⟩, fun i H v H' _ q y => ?_⟩
  obtain ⟨t, x, z, y1, y2, y3, y4, y5⟩ := y
  exact ⟨t, x, z, y1, y2, y3, y4 xs q.1, y5 ys q.2⟩
theorem src_zipT {a : Addr} {xs ys : List V} {n : Nat} {tl tr : TE} (h : Ev tl σ H (.ref a)) (h2 : EvU tr σ H ys) (hs : SqT K H a xs) (hn : n = min xs.length ys.length) :
    Src (RZ.iZipA K (tCons tl (tCons tr tNil))) σ H n (fun c => c = a ∨ H c = none) (fun i v Hb => ∃ p x y, v = .ref p ∧ xs[i]? = some x ∧ ys[i]? = some y ∧ Hb p = some (.tup [x, y])) := fun H1 e R q =>
  h H1 e _ fun H2 e2 => h2 H2 (e.trans e2) _ fun b H3 hb e3 hb3 => ⟨a, b, xs, ys, rfl, .inr ⟨ex_t ((e.trans e2).trans e3) hs, st_of hb3, q _ H3 _ (e2.trans e3) ((walk_zipT hn).mono (fun _ z => z) fun i Ha v Hb _ _ hy => by
    obtain ⟨p, x, y, rfl, hf, rfl, h1, h2⟩ := hy
    exact ⟨Ex.new hf, p, x, y, rfl, h1, h2, upd_same⟩) fun B Ha hB ea => ⟨ea.tp (fun z => (hB a z).2 (.inl rfl)) (ex_t ((e.trans e2).trans e3) hs), ea.tp (fun z => (hB b z).2 (.inr (fresh_back (e.trans e2) hb))) (st_of hb3)⟩⟩⟩
end
end Wt
set_option Elab.async false
set_option linter.all false
set_option maxRecDepth 100000
set_option maxHeartbeats 2000000
namespace K22
open PySem PySem.Spec PyProof.Rows L2 Evl Wc
def topS (i : Nat) : Stmt := PySem.Challenge.pw_wordscut_k22_whole_replaced_again_and_ag.main.body.getD i (.Pass ⟨0, 0, 0, 0⟩)
abbrev st_is_integer : Stmt := topS 9
abbrev st_is_within : Stmt := topS 10
abbrev st_need_number : Stmt := topS 11
abbrev st_are_signs : Stmt := topS 12
abbrev st_replaced_text : Stmt := topS 14
abbrev st_lengths_after : Stmt := topS 15
abbrev st_sign_after : Stmt := topS 16
abbrev st_grown : Stmt := topS 17
abbrev st_alike_signs : Stmt := topS 19
abbrev st_is_replacing : Stmt := topS 23
abbrev st_need_replacing : Stmt := topS 24
abbrev st_need_own : Stmt := topS 25
abbrev st_need_sign : Stmt := topS 26
abbrev st_again : Stmt := topS 27
abbrev st_sign_at : Stmt := topS 28
abbrev st_growing : Stmt := topS 29
abbrev st_need_all : Stmt := topS 30
abbrev st_stays : Stmt := topS 31
abbrev st_alike_for_ever : Stmt := topS 32
abbrev st__law_feed : Stmt := topS 34
abbrev st__law_draw : Stmt := topS 35
abbrev st__law_one : Stmt := topS 36
abbrev st__law_mixed : Stmt := topS 37
abbrev st__law_image : Stmt := topS 38
abbrev st__law_replacing : Stmt := topS 39
abbrev st__law_times : Stmt := topS 40
abbrev st__law_known : Stmt := topS 41
abbrev st__law_way_down : Stmt := topS 42
abbrev st__law_done : Stmt := topS 43
abbrev st__law_grown : Stmt := topS 44
abbrev st__law_asked : Stmt := topS 45
abbrev st__law_bad_replacing : Stmt := topS 46
abbrev st__law_numbers_right : Stmt := topS 47
abbrev st__law_second : Stmt := topS 48
abbrev st__law_growth_right : Stmt := topS 49
abbrev st_law : Stmt := topS 50
/-- what the top has left of names that are no defs -/
structure Md (K : PySem.W.Frag) (mg : Str → Option Value) : Prop where
  n_ValueError : mg "ValueError" = none
  n_all : mg "all" = none
  n_bool : mg "bool" = none
  n_dict : mg "dict" = none
  n_int : mg "int" = none
  n_isinstance : mg "isinstance" = none
  n_len : mg "len" = none
  n_list : mg "list" = none
  n_max : mg "max" = none
  n_min : mg "min" = none
  n_range : mg "range" = none
  n_repr : mg "repr" = none
  n_str : mg "str" = none
  n_sum : mg "sum" = none
  n_tuple : mg "tuple" = none
  n_zip : mg "zip" = none
  c_SIGNS : ∃ t, mg "SIGNS" = some (.str (Str.ofString "abcd") t)
  c_MOST_LETTERS : ∃ t, mg "MOST_LETTERS" = some (.int 12 t)
  c_MOST_MADE : ∃ t, mg "MOST_MADE" = some (.int 4000 t)
  c_MOST_TIMES : ∃ t, mg "MOST_TIMES" = some (.int 60 t)
abbrev N_is_integer : List Str := ["thing"]
theorem sc_is_integer : FnScope N_is_integer ["thing"] (defScope st_is_integer) := ⟨rfl, rfl, rfl, by decide +kernel, rfl, by decide +kernel, by decide +kernel⟩
abbrev N_is_within : List Str := ["thing", "least", "most"]
theorem sc_is_within : FnScope N_is_within ["thing", "least", "most"] (defScope st_is_within) := ⟨rfl, rfl, rfl, by decide +kernel, rfl, by decide +kernel, by decide +kernel⟩
abbrev N_need_number : List Str := ["thing", "least", "most"]
theorem sc_need_number : FnScope N_need_number ["thing", "least", "most"] (defScope st_need_number) := ⟨rfl, rfl, rfl, by decide +kernel, rfl, by decide +kernel, by decide +kernel⟩
abbrev N_are_signs : List Str := ["thing", "most", "sign"]
theorem sc_are_signs : FnScope N_are_signs ["thing", "most"] (defScope st_are_signs) := ⟨rfl, rfl, rfl, by decide +kernel, rfl, by decide +kernel, by decide +kernel⟩
abbrev N_replaced_text : List Str := ["replacing", "text", "sign"]
theorem sc_replaced_text : FnScope N_replaced_text ["replacing", "text"] (defScope st_replaced_text) := ⟨rfl, rfl, rfl, by decide +kernel, rfl, by decide +kernel, by decide +kernel⟩
abbrev N_lengths_after : List Str := ["replacing", "times", "found", "turn", "last", "sign", "text"]
theorem sc_lengths_after : FnScope N_lengths_after ["replacing", "times"] (defScope st_lengths_after) := ⟨rfl, rfl, rfl, by decide +kernel, rfl, by decide +kernel, by decide +kernel⟩
abbrev N_sign_after : List Str := ["replacing", "sign", "times", "place", "lengths", "turn", "other", "many"]
theorem sc_sign_after : FnScope N_sign_after ["replacing", "sign", "times", "place"] (defScope st_sign_after) := ⟨rfl, rfl, rfl, by decide +kernel, rfl, by decide +kernel, by decide +kernel⟩
abbrev N_grown : List Str := ["replacing", "sign", "most", "text"]
theorem sc_grown : FnScope N_grown ["replacing", "sign", "most"] (defScope st_grown) := ⟨rfl, rfl, rfl, by decide +kernel, rfl, by decide +kernel, by decide +kernel⟩
abbrev N_alike_signs : List Str := ["one", "other", "many"]
theorem sc_alike_signs : FnScope N_alike_signs ["one", "other"] (defScope st_alike_signs) := ⟨rfl, rfl, rfl, by decide +kernel, rfl, by decide +kernel, by decide +kernel⟩
abbrev N_is_replacing : List Str := ["thing", "text"]
theorem sc_is_replacing : FnScope N_is_replacing ["thing"] (defScope st_is_replacing) := ⟨rfl, rfl, rfl, by decide +kernel, rfl, by decide +kernel, by decide +kernel⟩
abbrev N_need_replacing : List Str := ["replacing"]
theorem sc_need_replacing : FnScope N_need_replacing ["replacing"] (defScope st_need_replacing) := ⟨rfl, rfl, rfl, by decide +kernel, rfl, by decide +kernel, by decide +kernel⟩
abbrev N_need_own : List Str := ["replacing", "sign"]
theorem sc_need_own : FnScope N_need_own ["replacing"] (defScope st_need_own) := ⟨rfl, rfl, rfl, by decide +kernel, rfl, by decide +kernel, by decide +kernel⟩
abbrev N_need_sign : List Str := ["replacing", "sign"]
theorem sc_need_sign : FnScope N_need_sign ["replacing", "sign"] (defScope st_need_sign) := ⟨rfl, rfl, rfl, by decide +kernel, rfl, by decide +kernel, by decide +kernel⟩
abbrev N_again : List Str := ["replacing", "sign", "times"]
theorem sc_again : FnScope N_again ["replacing", "sign", "times"] (defScope st_again) := ⟨rfl, rfl, rfl, by decide +kernel, rfl, by decide +kernel, by decide +kernel⟩
abbrev N_sign_at : List Str := ["replacing", "sign", "times", "place"]
theorem sc_sign_at : FnScope N_sign_at ["replacing", "sign", "times", "place"] (defScope st_sign_at) := ⟨rfl, rfl, rfl, by decide +kernel, rfl, by decide +kernel, by decide +kernel⟩
abbrev N_growing : List Str := ["replacing", "sign", "text"]
theorem sc_growing : FnScope N_growing ["replacing"] (defScope st_growing) := ⟨rfl, rfl, rfl, by decide +kernel, rfl, by decide +kernel, by decide +kernel⟩
abbrev N_need_all : List Str := ["replacing"]
theorem sc_need_all : FnScope N_need_all ["replacing"] (defScope st_need_all) := ⟨rfl, rfl, rfl, by decide +kernel, rfl, by decide +kernel, by decide +kernel⟩
abbrev N_stays : List Str := ["replacing"]
theorem sc_stays : FnScope N_stays ["replacing"] (defScope st_stays) := ⟨rfl, rfl, rfl, by decide +kernel, rfl, by decide +kernel, by decide +kernel⟩
abbrev N_alike_for_ever : List Str := ["replacing", "other", "sign", "most"]
theorem sc_alike_for_ever : FnScope N_alike_for_ever ["replacing", "other", "sign", "most"] (defScope st_alike_for_ever) := ⟨rfl, rfl, rfl, by decide +kernel, rfl, by decide +kernel, by decide +kernel⟩
abbrev N__law_feed : List Str := ["script", "k", "cell"]
theorem sc__law_feed : FnScope N__law_feed ["script", "k"] (defScope st__law_feed) := ⟨rfl, rfl, rfl, by decide +kernel, rfl, by decide +kernel, by decide +kernel⟩
abbrev N__law_draw : List Str := ["feed", "many", "rest", "got", "stir"]
theorem sc__law_draw : FnScope N__law_draw ["feed", "many"] (defScope st__law_draw) := ⟨rfl, rfl, rfl, by decide +kernel, rfl, by decide +kernel, by decide +kernel⟩
abbrev N__law_one : List Str := ["feed", "things"]
theorem sc__law_one : FnScope N__law_one ["feed", "things"] (defScope st__law_one) := ⟨rfl, rfl, rfl, by decide +kernel, rfl, by decide +kernel, by decide +kernel⟩
abbrev N__law_mixed : List Str := ["feed", "things", "pool", "got", "turn"]
theorem sc__law_mixed : FnScope N__law_mixed ["feed", "things"] (defScope st__law_mixed) := ⟨rfl, rfl, rfl, by decide +kernel, rfl, by decide +kernel, by decide +kernel⟩
abbrev N__law_image : List Str := ["feed", "signs", "head", "many", "text", "turn"]
theorem sc__law_image : FnScope N__law_image ["feed", "signs", "head"] (defScope st__law_image) := ⟨rfl, rfl, rfl, by decide +kernel, rfl, by decide +kernel, by decide +kernel⟩
abbrev N__law_replacing : List Str := ["feed", "many", "signs", "sign"]
theorem sc__law_replacing : FnScope N__law_replacing ["feed", "many"] (defScope st__law_replacing) := ⟨rfl, rfl, rfl, by decide +kernel, rfl, by decide +kernel, by decide +kernel⟩
abbrev N__law_times : List Str := ["replacing", "sign", "times", "here", "turn", "later", "one", "to"]
theorem sc__law_times : FnScope N__law_times ["replacing", "sign", "times"] (defScope st__law_times) := ⟨rfl, rfl, rfl, by decide +kernel, rfl, by decide +kernel, by decide +kernel⟩
abbrev N__law_known : List Str := ["replacing", "times", "known", "sign", "turn", "to", "text"]
theorem sc__law_known : FnScope N__law_known ["replacing", "times"] (defScope st__law_known) := ⟨rfl, rfl, rfl, by decide +kernel, rfl, by decide +kernel, by decide +kernel⟩
abbrev N__law_way_down : List Str := ["feed", "replacing", "sign", "times", "known", "place", "turn", "image", "many", "other", "some", "at"]
theorem sc__law_way_down : FnScope N__law_way_down ["feed", "replacing", "sign", "times", "known"] (defScope st__law_way_down) := ⟨rfl, rfl, rfl, by decide +kernel, rfl, by decide +kernel, by decide +kernel⟩
abbrev N__law_done : List Str := ["replacing", "text", "times", "turn", "sign"]
theorem sc__law_done : FnScope N__law_done ["replacing", "text", "times"] (defScope st__law_done) := ⟨rfl, rfl, rfl, by decide +kernel, rfl, by decide +kernel, by decide +kernel⟩
abbrev N__law_grown : List Str := ["replacing", "sign", "most", "text", "place"]
theorem sc__law_grown : FnScope N__law_grown ["replacing", "sign", "most"] (defScope st__law_grown) := ⟨rfl, rfl, rfl, by decide +kernel, rfl, by decide +kernel, by decide +kernel⟩
abbrev N__law_asked : List Str := ["way", "parts", "found", "caught", "error", "kinds", "word", "kind"]
theorem sc__law_asked : FnScope N__law_asked ["way", "parts"] (defScope st__law_asked) := ⟨rfl, rfl, rfl, by decide +kernel, rfl, by decide +kernel, by decide +kernel⟩
abbrev N__law_bad_replacing : List Str := ["feed", "replacing", "at", "many", "odd", "bent"]
theorem sc__law_bad_replacing : FnScope N__law_bad_replacing ["feed", "replacing"] (defScope st__law_bad_replacing) := ⟨rfl, rfl, rfl, by decide +kernel, rfl, by decide +kernel, by decide +kernel⟩
abbrev N__law_numbers_right : List Str := ["feed", "many", "replacing", "times", "at", "sign", "due", "text", "known", "turn", "found", "place", "told", "ends", "wrong", "odd", "number", "parts", "word"]
theorem sc__law_numbers_right : FnScope N__law_numbers_right ["feed"] (defScope st__law_numbers_right) := ⟨rfl, rfl, rfl, by decide +kernel, rfl, by decide +kernel, by decide +kernel⟩
abbrev N__law_second : List Str := ["feed", "replacing", "many", "way", "at", "twice", "text"]
theorem sc__law_second : FnScope N__law_second ["feed", "replacing"] (defScope st__law_second) := ⟨rfl, rfl, rfl, by decide +kernel, rfl, by decide +kernel, by decide +kernel⟩
abbrev N__law_growth_right : List Str := ["feed", "many", "replacing", "other", "signs", "due", "sign", "text", "one", "empty", "less", "both", "most", "wrong", "odd", "number", "told", "two", "alike", "place"]
theorem sc__law_growth_right : FnScope N__law_growth_right ["feed"] (defScope st__law_growth_right) := ⟨rfl, rfl, rfl, by decide +kernel, rfl, by decide +kernel, by decide +kernel⟩
abbrev N_law : List Str := ["script", "k", "feed"]
theorem sc_law : FnScope N_law ["script"] (defScope st_law) := ⟨rfl, rfl, rfl, by decide +kernel, rfl, by decide +kernel, by decide +kernel⟩
end K22
set_option Elab.async false
set_option linter.all false
set_option maxRecDepth 100000
set_option maxHeartbeats 2000000
set_option exponentiation.threshold 5000
namespace K22
open PySem PySem.Spec PyProof.Rows L2 Evl Wc
section
variable {P : Program} {w : World} {K : PySem.W.Frag} {mg : Str → Option Value} {base : Heap}
theorem ok__law_draw {f : Addr} {fd : FuncData} (F : Fun K "_law_draw" "_law_draw" st__law_draw f fd) (M : Md K mg) : FnOk P w K mg base CX0 1 f fd ["feed", "many"] sp_draw := by
  have nd := sc__law_draw.nd
  refine F.ok sc__law_draw (fun vs H Q E h => ?_) (fun cdv A outer s H vs Q E hr h => ?_)
  · obtain ⟨_, _, rfl, _⟩ := h
    rfl
  · obtain ⟨fa, many, rfl, ⟨n0, hn0, a, b, c, e, hfa, ha0, he1, he2, hae, hb0, hb1, hc0, hc1⟩, hm0, hm1, k⟩ := h
    refine ⟨_, (pss_cons (ps_if (pt_cmpR op_gt (pe_ix (kix K (r := L2.rIxL) ix_list) (pv 0) pe_int (fun _ _ => rfl)) pe_int (nomark _))
  (pss_cons (ps_set (i := 2) nd rfl (Or.inl rfl) (pe_op op_fdivW (pe_ix (kix K (r := L2.rIxL) ix_list) (pv 0) pe_int (fun _ _ => rfl)) (pv 1)))
  (pss_cons (ps_set (i := 3) nd rfl (Or.inl rfl) (pe_op op_sub (pe_ix (kix K (r := L2.rIxL) ix_list) (pv 0) pe_int (fun _ _ => rfl)) (pe_op op_mulB (pv 2) (pv 1))))
  (pss_cons (ps_asg (pv 2) (pg_sub (pv 0) pe_int set_list))
  (pss_one (ps_ret (pv 3))))))
  pss_nil)
  (pss_cons (ps_asg (pe_op op_add (pe_ix (kix K (r := L2.rIxL) ix_list) (pv 0) pe_int (fun _ _ => rfl)) pe_int) (pg_sub (pv 0) pe_int set_list))
  (pss_cons (ps_set (i := 4) nd rfl (Or.inl rfl) (pe_op op_add (pe_ix (kix K (r := L2.rIxL) ix_list) (pv 0) pe_int (fun _ _ => rfl)) (pe_op op_mulB pe_int (pe_ix (kix K (r := L2.rIxL) ix_list) (pv 0) pe_int (fun _ _ => rfl)))))
  (pss_cons (ps_set (i := 4) nd rfl (Or.inl rfl) (pe_op op_modP (pe_callTy call_int1 (by rfl) M.n_int boot_int (pa_cons (pe_op op_add (pe_op op_mulB (pe_op op_mulB (pv 4) (pv 4)) (pv 4)) (pe_op op_mulB pe_int (pe_ix (kix K (r := L2.rIxL) ix_list) (pv 0) pe_int (fun _ _ => rfl)))) pa_nil)) (pe_op op_add (pe_op op_pow pe_int pe_int) pe_int)))
  (pss_cons (ps_set (i := 4) nd rfl (Or.inl rfl) (pe_op op_modP (pe_callTy call_int1 (by rfl) M.n_int boot_int (pa_cons (pe_op op_add (pe_op op_mulB (pv 4) (pv 4)) pe_int) pa_nil)) (pe_op op_add (pe_op op_pow pe_int pe_int) pe_int)))
  (pss_one (ps_ret (pe_op op_modP (pe_callTy call_int1 (by rfl) M.n_int boot_int (pa_cons (pe_op op_fdivW (pv 4) (pe_op op_pow pe_int pe_int)) pa_nil)) (pv 1))))))))), ?_⟩
    have hcap : (n0 : Int) + 1 ≤ 1000000000000000000 := by
      have : n0 + 1 ≤ 1000000000000000000 := hn0
      omega
    have hmany : many.natAbs < 2 ^ 300 := Nat.lt_of_le_of_lt (show many.natAbs ≤ 10 ^ 61 by omega) (by decide)
    have hdm : CDivW a many := wide_div (b := 300) hm0 hmany (by decide) (by decide)
    have ge0 : ∀ H1, Ex H H1 → Ev (tOp (L2.rIxL K) (tVar 0) (tC (.int 0))) (start N__law_draw [.ref fa, .int many]) H1 (.int a) := fun H1 e1 => ev_op (ev_var rfl) ev_c (rv_ixL (sq_of (e1 _ _ hfa)) rfl)
    refine q_when (et_test (ev_op (ge0 H (Ex.refl _)) ev_c rv_I0)) (fun h1 H1 e1 => ?_) (fun h1 H1 e1 => ?_)
    · have hap : 0 < a := of_decide_eq_true h1
      refine q_asg (ev_op (ev_op (ev_var rfl) ev_c (rv_ixL (sq_of (e1 _ _ hfa)) rfl)) (ev_var rfl) (rv_I hdm)) fun H2 e2 => ?_
      have hr0 : 0 ≤ a / many := Int.ediv_nonneg ha0 (by omega)
      have hr1 : a / many ≤ a := Int.ediv_le_self _ ha0
      have hrn : (a / many).natAbs < 2 ^ e := Nat.lt_of_le_of_lt (by omega) hae
      have hg : a - a / many * many = a % many := by
        rw [Int.emod_def, Int.mul_comm]
      have hg0 : 0 ≤ a % many := Int.emod_nonneg _ (by omega)
      have hg1 : a % many < many := Int.emod_lt_of_pos _ hm0
      refine q_asg (v := .int (((a % many).toNat : Nat) : Int)) (ev_is (ev_op (ev_op (ev_var rfl) ev_c (rv_ixL (sq_of (e2 _ _ (e1 _ _ hfa))) rfl)) (ev_op (ev_var rfl) (ev_var rfl) (rv_I (mulB hrn hmany (by omega) (by decide) (by omega)))) rv_I0) (by rw [hg]; congr 1; omega)) fun H3 e3 => ?_
      have hf3 := e3 _ _ (e2 _ _ (e1 _ _ hfa))
      refine q_setL (j := 0) hf3 (ev_var rfl) (ev_var rfl) ev_c (by show 0 < 3; decide) fun H4 e4 => ?_
      refine s_ret (ev_var rfl) fun H5 e5 => k (a % many).toNat H5 (by omega) ⟨?_, fun n hn hF => ?_⟩
      · exact Exc.then (Exc.upd (B := fun c => c = fa) (Exc.of (((e1.trans e2).trans e3).trans e4)) (.inl rfl)) e5
      · obtain ⟨a', b', c', e', g1, g2, g3, g4, g5, g6, g7, g8, g9⟩ := hF
        rw [hfa] at g1
        injection g1 with g1
        injection g1 with g1
        injection g1 with x1 g1
        injection g1 with x2 g1
        injection g1 with x3 g1
        injection x1 with x1
        injection x2 with x2
        injection x3 with x3
        subst x1 x2 x3
        exact ⟨a / many, b, c, e, e5 _ _ upd_same, hr0, he1, he2, hrn, hb0, hb1, hc0, by omega⟩
    · have ha : a = 0 := by
        have := of_decide_eq_false h1
        omega
      subst ha
      -- feed[2] = feed[2] + 1
      refine q_setL (j := 2) (e1 _ _ hfa) (ev_op (ev_op (ev_var rfl) ev_c (rv_ixL (sq_of (e1 _ _ hfa)) rfl)) ev_c rv_I0) (ev_var rfl) ev_c (by show 2 < 3; decide) fun H2 e2 => ?_
      have hf2 : (upd H2 fa (.lst ([V.int 0, V.int b, V.int c].set 2 (V.int (c + 1))))) fa = some (.lst [.int 0, .int b, .int (c + 1)]) := upd_same
      generalize hH3 : upd H2 fa (.lst ([V.int 0, V.int b, V.int c].set 2 (V.int (c + 1)))) = H3 at hf2 ⊢
      have g1 : ∀ H4, Ex H3 H4 → ∀ σ : L2.St, σ[0]? = some (some (.ref fa)) → Ev (tOp (L2.rIxL K) (tVar 0) (tC (.int 1))) σ H4 (.int b) := fun H4 e4 σ h0 => ev_op (ev_var h0) ev_c (rv_ixL (sq_of (e4 _ _ hf2)) rfl)
      have g2 : ∀ H4, Ex H3 H4 → ∀ σ : L2.St, σ[0]? = some (some (.ref fa)) → Ev (tOp (L2.rIxL K) (tVar 0) (tC (.int 2))) σ H4 (.int (c + 1)) := fun H4 e4 σ h0 => ev_op (ev_var h0) ev_c (rv_ixL (sq_of (e4 _ _ hf2)) rfl)
      have lit : ∀ {i : Int} {k : Nat}, 0 ≤ i → i ≤ k → k < 2 ^ 600 → i.natAbs < 2 ^ 600 := fun h1 h2 h3 => Nat.lt_of_le_of_lt (by omega) h3
      -- stir = feed[1] + 6700417 * feed[2]
      have hc9 : (c + 1).natAbs < 2 ^ 600 := lit (k := 1000000000000000000) (by omega) (by omega) (by decide)
      refine q_asg (ev_op (g1 _ (Ex.refl _) _ rfl) (ev_op ev_c (g2 _ (Ex.refl _) _ rfl) (rv_I (mulB (a := 600) (b := 600) (by decide) hc9 (by decide) (by decide) (by decide)))) rv_I0) fun H4 e4 => ?_
      have hs0 : 0 ≤ b + 6700417 * (c + 1) := by omega
      have hs1 : b + 6700417 * (c + 1) ≤ 10 ^ 41 := by omega
      generalize b + 6700417 * (c + 1) = x at hs0 hs1 ⊢
      have hx : x.natAbs < 2 ^ 600 := lit (k := 10 ^ 41) hs0 hs1 (by decide)
      have hxx : (x * x).natAbs < 2 ^ 1200 := wide_lt hx hx
      -- stir = int(stir * stir * stir + 15485863 * feed[2]) % (10 ** 43 + 57)
      refine q_asg (ev_op (ev_cb (ea_cons (ev_op (ev_op (ev_op (ev_var rfl) (ev_var rfl) (rv_I (mulB hx hx (by decide) (by decide) (by decide)))) (ev_var rfl) (rv_I (mulB hxx hx (by decide) (by decide) (by decide)))) (ev_op ev_c (g2 _ e4 _ rfl) (rv_I (mulB (a := 600) (b := 600) (by decide) hc9 (by decide) (by decide) (by decide)))) rv_I0) ea_nil) rc_int)
        (ev_op (ev_op ev_c ev_c (rv_I ⟨by decide, by decide, by decide⟩)) ev_c rv_I0) (rv_I (by decide))) fun H5 e5 => ?_
      have hy0 : 0 ≤ (x * x * x + 15485863 * (c + 1)) % ((10 : Int) ^ (43 : Int).toNat + 57) := Int.emod_nonneg _ (by decide)
      have hy1 : (x * x * x + 15485863 * (c + 1)) % ((10 : Int) ^ (43 : Int).toNat + 57) < (10 : Int) ^ 43 + 57 := Int.emod_lt_of_pos _ (by decide)
      generalize (x * x * x + 15485863 * (c + 1)) % ((10 : Int) ^ (43 : Int).toNat + 57) = y at hy0 hy1 ⊢
      have hy : y.natAbs < 2 ^ 600 := lit (k := 10 ^ 44) hy0 (by omega) (by decide)
      refine q_asg (ev_op (ev_cb (ea_cons (ev_op (ev_op (ev_var rfl) (ev_var rfl) (rv_I (mulB hy hy (by decide) (by decide) (by decide)))) ev_c rv_I0) ea_nil) rc_int) (ev_op (ev_op ev_c ev_c (rv_I ⟨by decide, by decide, by decide⟩)) ev_c rv_I0) (rv_I (by decide))) fun H6 e6 => ?_
      have hz0 : 0 ≤ (y * y + 32452843) % ((10 : Int) ^ (38 : Int).toNat + 133) := Int.emod_nonneg _ (by decide)
      generalize (y * y + 32452843) % ((10 : Int) ^ (38 : Int).toNat + 133) = z at hz0 ⊢
      have hq0 : 0 ≤ (z / (10 : Int) ^ (9 : Int).toNat) % many := Int.emod_nonneg _ (by omega)
      have hq1 : (z / (10 : Int) ^ (9 : Int).toNat) % many < many := Int.emod_lt_of_pos _ hm0
      refine s_ret (v := .int ((((z / (10 : Int) ^ (9 : Int).toNat) % many).toNat : Nat) : Int)) (ev_is (ev_op (ev_cb (ea_cons (ev_op (ev_var rfl) (ev_op ev_c ev_c (rv_I ⟨by decide, by decide, by decide⟩)) (rv_I (divW (by decide) (by decide)))) ea_nil) rc_int) (ev_var rfl) (rv_I hm0)) (by congr 1; omega)) fun H7 e7 => k _ H7 (by omega) ⟨?_, fun n hn hF => ?_⟩
      · have : Exc (fun c => c = fa) H H3 := by
          rw [← hH3]
          exact (Exc.of (e1.trans e2)).upd (.inl rfl)
        exact this.then (((e4.trans e5).trans e6).trans e7)
      · obtain ⟨a', b', c', e', g1, g2, g3, g4, g5, g6, g7, g8, g9⟩ := hF
        rw [hfa] at g1
        injection g1 with g1
        injection g1 with g1
        injection g1 with x1 g1
        injection g1 with x2 g1
        injection g1 with x3 g1
        injection x2 with x2
        injection x3 with x3
        subst x2 x3
        exact ⟨0, b, c + 1, 1, (((e4.trans e5).trans e6).trans e7) _ _ hf2, Int.le_refl _, Nat.le_refl _, by decide, by decide, hb0, hb1, by omega, by omega⟩
theorem ok__law_one {f : Addr} {fd : FuncData} (F : Fun K "_law_one" "_law_one" st__law_one f fd) (M : Md K mg) (C__law_draw : Cal P w K mg base "_law_draw" st__law_draw 1 ["feed", "many"] sp_draw) : FnOk P w K mg base CX0 2 f fd ["feed", "things"] (sp_one K) := by
  have nd := sc__law_one.nd
  refine F.ok sc__law_one (fun vs H Q E h => ?_) (fun cdv A outer s H vs Q E hr h => ?_)
  · obtain ⟨_, _, ⟨_, rfl, _⟩ | ⟨_, _, rfl, _⟩⟩ := h <;> rfl
  · obtain ⟨fa, G, h⟩ := h
    rcases h with ⟨s, rfl, hs, hl, k⟩ | ⟨p, xs, rfl, hS, hp, hx, hl, k⟩
    · refine ⟨_, (pss_one (ps_ret (pe_ix (kix K (r := rIxAny) ix_any) (pv 1) (pe_cl C__law_draw hr (pa_cons (pv 0) (pa_cons (pe_callB (kcr K (r := rLenAny) cr_lenAny) (by rfl) M.n_len boot_len (pa_cons (pv 1) pa_nil)) pa_nil))) (fun _ _ => rfl)))), ?_⟩
      have hpos : 0 < s.length := List.length_pos_iff.mpr hs
      refine ⟨T s, rfl, .ref fa, rfl, T s, rfl, .inl ⟨s, rfl, hl, fa, (s.length : Int), rfl, G, by omega, by omega, fun d H1 hd R => ?_⟩⟩
      obtain ⟨c, hc, hm⟩ := atI_mem (xs := s) (d := d) (by omega)
      exact .inr ⟨s, d, c, rfl, rfl, hl, hc, k c H1 hm R⟩
    · refine ⟨_, (pss_one (ps_ret (pe_ix (kix K (r := rIxAny) ix_any) (pv 1) (pe_cl C__law_draw hr (pa_cons (pv 0) (pa_cons (pe_callB (kcr K (r := rLenAny) cr_lenAny) (by rfl) M.n_len boot_len (pa_cons (pv 1) pa_nil)) pa_nil))) (fun _ _ => rfl)))), ?_⟩
      have hpos : 0 < xs.length := List.length_pos_iff.mpr hx
      refine ⟨.ref p, rfl, .ref fa, rfl, .ref p, rfl, .inr ⟨p, xs, rfl, hS, fa, (xs.length : Int), rfl, G, by omega, by omega, fun d H1 hd R => ?_⟩⟩
      obtain ⟨v, hv, hm⟩ := atI_mem (xs := xs) (d := d) (by omega)
      rcases hS with hS | hS
      · exact .inl (.inl ⟨p, xs, d, v, rfl, rfl, R.l hp hS, hv, k v H1 hm R⟩)
      · exact .inl (.inr ⟨p, xs, d, v, rfl, rfl, R.t hp hS, hv, k v H1 hm R⟩)
theorem sum_le {ts : List Tx} {m : Nat} (h : ∀ t ∈ ts, t.length ≤ m) : (ts.map List.length).sum ≤ ts.length * m := by
  induction ts with
  | nil => simp
  | cons t ts ih =>
    have h1 := h t List.mem_cons_self
    have h2 := ih fun x hx => h x (List.mem_cons_of_mem _ hx)
    simp only [List.map_cons, List.sum_cons, List.length_cons, Nat.succ_mul]
    omega
theorem flat_len {ts : List Tx} : ts.flatten.length = (ts.map List.length).sum := by
  simp [List.length_flatten]
end
end K22
set_option Elab.async false
set_option linter.all false
set_option maxRecDepth 100000
set_option maxHeartbeats 4000000
/-! sets of numbers out of a list, sorted -/
namespace Wt
open PySem PySem.Spec PyProof.Rows L2 Evl Wc
section
variable {P : Program} {w : World} {A : Around} {E : Value → Shared → Prop} {s : Shared}
set_option maxHeartbeats 3200000 in
theorem call_set_ints {src : Addr} {its : Array Value} {xs : List Int} {Q : Value → Shared → Prop} (noH : A.handled = none) (isl : s.heap.IsList src its) (hit : IntsAre its.toList xs) (room : xs.length + 1 < scanBound)
    (fin : ∀ (h2 : Heap) (tk c : Nat), SetR w h2 s.heap.objs.size (fun j => decide (j ∈ xs)) c → c ≤ xs.length → (∀ b o, s.heap.get? b = some o → h2.get? b = some o) → Q (.ref s.heap.objs.size) { s with heap := h2, toks := tk }) :
    wpAny (model P w) A (call (.type "set") [.ref src]) Q E s := by
  have lx : xs.length = its.size := by rw [← Array.length_toList, IntsAre.length hit]
  obtain ⟨c, tl, q0⟩ := PySem.F.called_set.mro
  have q1 := PySem.F.called_set.made; have q2 := PySem.F.called_set.sub
  refine wpAny_call (codeAny_of_tree (wpAny_pure ⟨Code.quiet_builtin _ (by decide +kernel), codeAny_builtin PySem.F.entry_type_call ?_⟩))
  rw [Around.under_plain (weight_type_call_type "set" [.ref src] []) rfl]
  have q3 := PySem.F.called_set.notType; have q4 := PySem.F.called_set.canCreate
  have q5 := PySem.F.typeCall_set_1 (.ref src)
  repeat (any_goals (first | assumption | wp_step))
  refine codeAny_mono (code_set_led1 (.ref src) (E := E) (Q₁ := fun ob t1 => ob = .ref s.heap.objs.size ∧ t1 = { s with heap := s.heap.push (so w) }) ⟨rfl, rfl⟩) fun r t1 hr => ?_
  match r, hr with
  | .error e, hr => exact hr
  | .ok (.ret ob), hr =>
    obtain ⟨rfl, rfl⟩ := hr
    have atS : (s.heap.push (so w)).get? s.heap.objs.size = some (so w) := Heap.get?_push_size _ rfl
    have tyS : Shared.TypeIs { s with heap := s.heap.push (so w) } (.ref s.heap.objs.size) "set" := ⟨_, atS, rfl⟩
    have q6 := PySem.F.called_set.init.lookup
    have q7 := PySem.F.called_set.init.bind (.ref s.heap.objs.size)
    repeat (any_goals (first | assumption | wp_step))
    refine codeAny_mono (codeAny_call_builtin (R := wants (fun r t2 => r = .none ∧ ∃ h2 tk c, t2 = { s with heap := h2, toks := tk } ∧ SetR w h2 s.heap.objs.size (fun j => decide (j ∈ xs)) c ∧ c ≤ xs.length ∧ ∀ b o, s.heap.get? b = some o → h2.get? b = some o) E) PySem.F.called_set.init.plain PySem.F.entry_set_init (check_set_init_1 tyS ?_)) fun r2 t2 hr2 => ?_
    · obtain ⟨ol, atl, cl, nl, dl⟩ := isl
      obtain ⟨ocls, odict, odata, oslots⟩ := ol
      simp only at cl dl
      subst cl; subst dl
      have lt := Heap.lt_size atl
      have isl2 : (s.heap.push (so w)).IsList src its := ⟨_, Heap.get?_push_of_some _ atl, rfl, nl, rfl⟩
      have q8 := PySem.F.sub_list_set; have q9 := PySem.F.sub_list_frozenset
      have q10 : (Value.type "list" == Value.type "dict") = false := by decide
      have atl2 : (s.heap.push (so w)).get? src = some { cls := .type "list", dict := odict, data := .seq its nl, slots := oslots } := Heap.get?_push_of_some _ atl
      unfold Builtin.«set.__init__» noKeywords Builtin.Frozenset.updateFrom
      generalize hI : pyIter = iter
      wp_walk
      subst hI
      refine wpAny_pyIter_list isl2 (wpAny_bind (wpAny_runValue ?_))
      have no3 : A.in1.in1.in1.handled = none := by simp [noH]
      have zI : (s.heap.push (so w)).objs.size = s.heap.objs.size + 1 := Heap.size_push ..
      have ne1 : src ≠ (s.heap.push (so w)).objs.size := by rw [zI]; exact Nat.ne_of_lt (Nat.lt_succ_of_lt lt)
      have out1 : s.heap.objs.size ∉ [(s.heap.push (so w)).objs.size, src] := by
        rw [zI]
        intro z
        rcases List.mem_cons.mp z with z | z
        · exact absurd z (Nat.ne_of_lt (Nat.lt_succ_self _))
        · exact absurd (List.mem_singleton.mp z) (Nat.ne_of_gt lt)
      refine set_update_ints (P := P) ((Walks.list no3 _ src ne1 its).toS) s.heap.objs.size out1 xs lx.symm room (fun i v hv => ?_) its.size 0 _ (Nat.sub_zero _) (Nat.zero_le _) ⟨⟨_, Heap.get?_push_size _ rfl, rfl, rfl⟩, isl2.push _⟩ ⟨0, Nat.le_refl _, setR_new_at (ns := xs) (Heap.get?_push_of_some _ atS)⟩ fun s2 l2 mv hc2 X2 => ?_
      · have hv2 : its.toList[i]? = some v := by rw [Array.getElem?_toList]; exact hv
        obtain ⟨t, e⟩ := IntsAre.int_at hit i v hv2
        have hi : i < xs.length := by
          have := (List.getElem?_eq_some_iff.mp hv2).1
          rw [Array.length_toList] at this
          omega
        exact ⟨xs[i], t, List.getElem?_eq_getElem hi, by rw [e, List.getD_eq_getElem?_getD, List.getElem?_eq_getElem hi]; rfl⟩
      · obtain ⟨h2, g2, d2, tk2, os2⟩ := s2
        obtain rfl : g2 = s.gens := mv.gens
        obtain rfl : d2 = s.drawn := mv.drawn
        obtain rfl : os2 = s.os := mv.os
        show wpAny _ _ (Bind.bind (pure _) _) _ _ _
        refine wpAny_pure (wpAny_pure ⟨rfl, h2, tk2, l2, rfl, X2, by omega, fun b o e => ?_⟩)
        have hb := Heap.lt_size e
        refine mv.heap b o (fun z => ?_) (Heap.get?_push_of_some _ (Heap.get?_push_of_some _ e))
        rw [zI] at z
        rcases List.mem_cons.mp z with z | z
        · exact absurd z (Nat.ne_of_lt hb)
        · exact absurd (List.mem_singleton.mp z) (Nat.ne_of_lt (Nat.lt_succ_of_lt hb))
    · match r2, hr2 with
      | .error e, hr2 => exact hr2
      | .ok (.ret v2), hr2 =>
        obtain ⟨rfl, h2, tk, l, rfl, X, m, k⟩ := hr2
        repeat (any_goals (first | assumption | wp_step))
        exact fin _ _ _ X m k
end
section
variable {X : Cx}
def rSetI (K : PySem.W.Frag) (w : World) : List V → Hp → VK → Prop := fun vs H Q => ∃ (p : Addr) (ns : List Int), vs = [.ref p] ∧ SqL K H p (ns.map V.int) ∧ ns.length ≤ 60 ∧ ∀ q c, c ≤ ns.length → H q = none → Q (.ref q) (upd H q (SetO w q (fun j => decide (j ∈ ns)) c))
theorem cr_setI (hc : X.calm = true) : CallR X (.type "set") (rSetI X.K X.w) := by
  intro pins s σ H vs us Q I r h
  obtain ⟨p, ns, rfl, hp, hl, q⟩ := h
  rw [Vals.ref1 r]
  obtain ⟨its, rv, pl, hz⟩ := I.list hp
  refine call_set_ints (P := X.prog) (xs := ns) (I.ok.hd hc) pl.isList (ints_of_vals rv) (by unfold scanBound; omega) fun h2 tk c R m k => ?_
  have hn : H s.heap.objs.size = none := I.hok.fresh (Nat.le_refl _)
  exact ⟨.ref _, upd H s.heap.objs.size (SetO X.w s.heap.objs.size (fun j => decide (j ∈ ns)) c), I.laid (t' := tk) k (Nat.le_refl _) (setO_new R), rfl, q _ c m hn⟩
theorem ksetI {K : PySem.W.Frag} {w : World} (hc : X.calm = true := by rfl) (hK : X.K = K := by rfl) (hw : X.w = w := by rfl) : CallR X (.type "set") (rSetI K w) := by
  subst hK hw
  exact cr_setI hc
theorem ksortI {w : World} (hc : X.calm = true := by rfl) (hw : X.w = w := by rfl) : CallR X (.builtin "sorted") (rSortedSet w) := by
  subst hw
  exact cr_sortedSet hc
end
/-- sorted(set(..)) of the numbers of a standing list -/
theorem sortIntsAt {K : PySem.W.Frag} {w : World} {p : Addr} {ns : List Int} {H : Hp} {Q : VK} (hp : H p = some (.lst (ns.map V.int))) (hl : ns.length ≤ 60) (k : ∀ (r : Addr) (zs : List Int) (H3 : Hp), zs.Pairwise (· < ·) → (∀ z, z ∈ zs ↔ z ∈ ns) → H r = none → Ex H H3 → H3 r = some (.lst (zs.map V.int)) → Q (.ref r) H3) : rSetI K w [.ref p] H fun s H2 => rSortedSet w [s] H2 Q :=
  ⟨p, ns, rfl, Evl.sq_of hp, hl, fun q c hc hq => ⟨q, _, c, rfl, upd_same, by omega, fun zs r ha hm hz hr => k r zs _ ha (fun z => (hm z).trans decide_eq_true_iff) (fresh_back (Ex.new hq) hr) ((Ex.new hq).trans (Ex.new hr)) upd_same⟩⟩
end Wt
set_option Elab.async false
set_option linter.all false
set_option maxRecDepth 100000
set_option maxHeartbeats 2000000
/-! comprehensions with any target -/
namespace Wt
open PySem PySem.Spec PyProof.Rows L2 Evl Wc
section
variable {K : PySem.W.Frag} {σ : L2.St} {H : Hp} {te : TE} {t : TT}
theorem el_lcG {α : Type} {wi : TI} {g : TG} {vs : List Nat} {n : Nat} {own : Addr → Prop} {P : Nat → V → Hp → Prop} {gv : α → V} {p : α → Bool} (xs : List α) (st : α → L2.St) (R : α → V → Hp → Prop) (hs : Src wi σ H n own P) (hn : n ≤ 40000) (hx : xs.length = n)
    (hP : ∀ i x H1, P i x H1 → ∃ a, xs[i]? = some a ∧ R a x H1) (hg : ∀ a x H1 (Q' : L2.St → Hp → Prop), R a x H1 → Q' (st a) H1 → g x (wipe σ vs) H1 Q') (hw : ∀ a, wipe (st a) vs = wipe σ vs)
    (ht : ∀ a H1, Ex H H1 → a ∈ xs → EvT t (st a) H1 (p a)) (he : ∀ a H1, Ex H H1 → a ∈ xs → p a = true → Ev te (st a) H1 (gv a)) : EvL (tLc wi g t te vs) σ H ((xs.filter p).map gv) := fun H0 e Q q => by
  have hgm := given_map xs p gv (fun i => match xs[i]? with | some a => p a | none => false) (fun i => match xs[i]? with | some a => gv a | none => .non) (fun i a ha => by simp only [ha]) (fun i a ha => by simp only [ha])
  rw [hx] at hgm
  generalize hf : (fun (i : Nat) => match xs[i]? with | some a => p a | none => false) = f at hgm
  generalize hv : (fun (i : Nat) => match xs[i]? with | some a => gv a | none => V.non) = v at hgm
  exact hs H0 e _ fun J H1 S e1 w hS => fun Dl hD =>
    lc_it w (Qd := fun H3 => Q (.ref Dl) H3) (Cw H1 f v Dl) ⟨hD, Ex.new hD, upd_same⟩ (fun i Hi _ c => hS (fun _ => False) Hi (fun _ z => z.elim) (.of c.2.1)) (fun i x Hi Hj hi c hy => by
      obtain ⟨ey, hPi⟩ := hy
      obtain ⟨a, ha, hr⟩ := hP i x Hj hPi
      have hm : a ∈ xs := List.mem_of_getElem? ha
      have fa : f i = p a := by rw [← hf]; simp only [ha]
      have va : v i = gv a := by rw [← hv]; simp only [ha]
      have c' : Cw H1 f v Dl i Hj := ⟨c.1, c.2.1.trans ey, ey _ _ c.2.2⟩
      have eAll : Ex H Hj := (e.trans e1).trans c'.2.1
      obtain ⟨c1, c2, c3⟩ := c'
      refine hg a x Hj _ hr ⟨hw a, ht a Hj eAll hm Hj (Ex.refl _) _ fun H3 e3 => ?_⟩
      cases hp : p a with
      | true =>
        show te (st a) H3 fun y H4 => ∃ acc, H4 Dl = some (.lst acc) ∧ acc.length < sizeLine ∧ Cw H1 f v Dl (i + 1) (upd H4 Dl (.lst (acc ++ [y])))
        refine he a Hj eAll hm hp H3 e3 _ fun H4 e4 => ⟨given i f v, e4 Dl _ (e3 Dl _ c3), sz_lt (by have := given_len i f v; omega), c1, Ex.mut ((c2.trans e3).trans e4) c1, ?_⟩
        rw [given_yes (fa.trans hp), va]
        exact upd_same
      | false =>
        show Cw H1 f v Dl (i + 1) H3
        refine ⟨c1, c2.trans e3, ?_⟩
        rw [given_no (fa.trans hp)]
        exact e3 Dl _ c3) (fun H3 c => by
      refine q Dl H3 (fresh_back e1 c.1) (e1.trans c.2.1) ?_
      rw [← hgm]
      exact c.2.2)
theorem rc_allT {α : Type} {q : Addr} {xs : List α} (h : SqL K H q (xs.map fun _ => V.bl true)) : RC (rAll K) [.ref q] H (.bl true) := by
  have e := rc_allM (f := fun _ : α => true) h
  rw [show (xs.all fun _ => true) = true by simp] at e
  exact e
/-- t[1:] -/
theorem el_dropU {p : Addr} {xs : List V} (h : Ev te σ H (.ref p)) (hp : SqT K H p xs) (hn : 0 < xs.length) : EvU (tSl (rSlA K) te (tPart (tC (.int 1))) tNoPart) σ H (xs.drop 1) := fun H1 e Q q => h H1 e _ fun H2 e2 => ⟨1, rfl, p, xs, rfl, ex_t (e.trans e2) hp, fun z => by
    have := z.1
    rw [show (1 : Int) = ((1 : Nat) : Int) from rfl, HT.sIx_nat] at this
    omega, fun _ r hr => by
    have := q r _ (fresh_back e2 hr) (e2.trans (Ex.new (o := .tup (cutV xs (some ((1 : Nat) : Int)) none)) hr)) (by rw [upd_same, cutV_from])
    exact this⟩
end
end Wt
set_option Elab.async false
set_option linter.all false
set_option maxRecDepth 100000
set_option maxHeartbeats 2000000
/-! objects of an own class; ranges downwards; repeated lists -/
namespace Wt
open PySem PySem.Spec PyProof.Rows L2 Evl Wc
/-- the class at C, as it is made by a call -/
structure Mak (P : Program) (w : World) (K : PySem.W.Frag) (mg : Str → Option Value) (base : Heap) (k : Nat) (C : Addr) (x : Str) (sp : Sp) : Prop where
  ex : ∃ (f : Addr) (fd : FuncData) (ps : List Str), Mk K C f ∧ FnOk P w K mg base CX0 k f fd ps sp ∧ Binds K fd ps [] ∧ mg x = some (.ref C)
theorem pe_mkM {X : Cx} {k n : Nat} {C : Addr} {x : Str} {sp : Sp} {p pos : Pos} {e : Expr} {es : List Expr} {t : TA} (c : Mak X.prog X.w X.K X.mg X.base k C x sp) (hr : Room n X.A) (ha : PA X (e :: es) t) (hk : k + 1 ≤ n := by decide) (hg : Gl X x := by rfl)
    (hdb : (x == ("__debug__" : Str)) = false := by decide) (he : starEach (e :: es) X.env = (false, eval e X.env) :: starEach es X.env := by rfl) (hpl : (backTo pos (starEach es X.env)).any (·.1) = false := by rfl) : PE X (.Call (.Name x p) (e :: es) [] pos) (tMake C sp [] E0 t) := by
  obtain ⟨f, fd, ps, M, F, b, hm⟩ := c.ex
  exact pe_make M F (hr.mono hk) hg hm b .nil pass0 ha hdb he hpl
section
variable {K : PySem.W.Frag} {σ : L2.St} {H : Hp} {te ta tb : TE} {C x dx : Addr} {fs : List (Str × V)} {f : Str} {v : V}
theorem ev_fld (h : Ev te σ H (.ref x)) (hx : H x = some (.ins C dx fs)) (c : Cls K C) (n : NoAttr K C f) (l : fs.lookup f = some v) : Ev (tFld K te f) σ H v := fun H1 e Q q => h H1 e _ fun H2 e2 => ⟨x, C, dx, fs, v, rfl, (e.trans e2) _ _ hx, c, n, l, q H2 e2⟩
/-- a field is stored -/
theorem q_fld {D : Ends} {tz : TS} (h : Ev te σ H v) (hx : σ[0]? = some (some (.ref x))) (hH : H x = some (.ins C dx fs)) (c : Cls K C) (n : NoAttr K C f) (hl : fs.length < 1000) (k : ∀ H1, Ex H H1 → tz D σ (upd H1 x (.ins C dx (putF f v fs)))) : tSeq (sFld K (tVar 0) te f) tz D σ H :=
  h H (Ex.refl _) _ fun H1 e1 => ⟨_, hx, x, C, dx, fs, rfl, e1 _ _ hH, c, n, hl, k H1 e1⟩
theorem q_fldL {D : Ends} {tz : TS} {xs : List V} (h : EvL te σ H xs) (hx : σ[0]? = some (some (.ref x))) (hH : H x = some (.ins C dx fs)) (c : Cls K C) (n : NoAttr K C f) (hl : fs.length < 1000) (k : ∀ p H1, H p = none → Ex H H1 → H1 p = some (.lst xs) → tz D σ (upd H1 x (.ins C dx (putF f (.ref p) fs)))) : tSeq (sFld K (tVar 0) te f) tz D σ H :=
  h H (Ex.refl _) _ fun p H1 hp e1 h1 => ⟨_, hx, x, C, dx, fs, rfl, e1 _ _ hH, c, n, hl, k p H1 hp e1 h1⟩
theorem el_rep {xs : List V} {n : Nat} (h : EvL ta σ H xs) (h2 : Ev tb σ H (.int (n : Int))) (hz : xs.length * n ≤ 100000) (hn : n ≤ 1000000) : EvL (tOp rRep ta tb) σ H (List.replicate n xs).flatten := fun H1 e Q q => h H1 e _ fun p H2 hp e2 hp2 => h2 H2 (e.trans e2) _ fun H3 e3 => ⟨p, (n : Int), xs, rfl, rfl, e3 _ _ hp2, by omega, by omega, sz_of hz, fun r hr => by
  have := q r _ (fresh_back (e2.trans e3) hr) ((e2.trans e3).trans (Ex.new (o := .lst (List.replicate (n : Int).toNat xs).flatten) hr)) upd_same
  exact this⟩
theorem rep_one (n : Nat) (v : V) : (List.replicate n [v]).flatten = List.replicate n v := by
  induction n with
  | zero => rfl
  | succ n ih => rw [List.replicate_succ, List.flatten_cons, ih, List.replicate_succ]; rfl
theorem el_catNV {p : Addr} {xs ys : List V} (ha : EvL ta σ H xs) (hb : Ev tb σ H (.ref p)) (hp : H p = some (.lst ys)) (hz : xs.length + ys.length ≤ 100000) : EvL (tOp rCat ta tb) σ H (xs ++ ys) := fun H1 e1 Q q =>
  ha H1 e1 _ fun r H2 hr e2 h2 => hb H2 (e1.trans e2) _ fun H3 e3 => ⟨r, p, xs, ys, rfl, rfl, e3 _ _ h2, ((e1.trans e2).trans e3) _ _ hp, sz_of hz, fun n hn => q n _ (fresh_back (e2.trans e3) hn) ((e2.trans e3).trans (Ex.new hn)) upd_same⟩
/-- n - 1, n - 2, .. 0 -/
theorem src_down {tq : TA} {n : Nat} (h : EvA tq σ H [.int ((n : Int) - 1), .int (-1), .int (-1)]) (hn : n ≤ 1000000000) : Src (iRng3 tq) σ H n (fun _ => False) (fun i v _ => v = .int ((n : Int) - 1 - (i : Int))) := fun H1 e R q =>
  h H1 e _ fun H2 e2 => ⟨_, _, _, n, rfl, by
    have := RgC.neg (i := (n : Int) - 1) (j := -1) (by omega) (by omega) (by decide) (by decide)
    have e : ((n : Int) - 1 - -1).toNat = n := by omega
    rw [e] at this
    exact this, by
    have w := (walk_rangeC (lo := (n : Int) - 1) (c := -1) (n := n)).mono (fun _ z => z) (Y' := fun i Ha v Hb => Ex Ha Hb ∧ v = .int ((n : Int) - 1 - (i : Int))) (fun i Ha v Hb _ _ hy => by
      obtain ⟨rfl, rfl⟩ := hy
      exact ⟨Ex.refl _, by show V.int ((n : Int) - 1 + ((i : Nat) : Int) * -1) = _; congr 1; omega⟩)
    exact q _ H2 _ e2 w fun _ _ _ _ => True.intro⟩
end
/-- xs[k], by values -/
def rGetN (K : PySem.W.Frag) : V → V → Hp → VK → Prop := fun o i H Q => ∃ (p : Addr) (xs : List V) (k : Nat) (z : V), o = .ref p ∧ i = .int (k : Int) ∧ SqL K H p xs ∧ xs[k]? = some z ∧ Q z H
theorem get_listN {X : Cx} : PGet X (rGetN X.K) := by
  intro pins s σ H o i ov iv Q I ro ri h
  obtain ⟨p, xs, k, z, rfl, rfl, hp, hz, q⟩ := h
  cases ro
  obtain ⟨t, rfl⟩ := ri
  obtain ⟨its, rv, pl, hs⟩ := I.list hp
  obtain ⟨u, hu, ru⟩ := rv.get hz
  have hk := (List.getElem?_eq_some_iff.mp hz).1
  have h63 : ((k : Int) < 2 ^ 63) := by
    have : sizeLine < 2 ^ 63 := by decide
    omega
  exact wpAny_getItem_list pl.isList (by omega) h63 (x := u) (by simpa using hu) ⟨z, H, I, ru, q⟩
theorem kget {X : Cx} (K : PySem.W.Frag) (hK : X.K = K := by rfl) : PGet X (rGetN K) := hK ▸ get_listN
end Wt
set_option Elab.async false
set_option linter.all false
set_option maxRecDepth 100000
set_option maxHeartbeats 2000000
namespace Wt
open PySem PySem.Spec PyProof.Rows L2 Evl Wc
/-! ### (number, text) < (number, text) -/
def rLtIT (K : PySem.W.Frag) : R2 := fun x y H Q => ∃ (a b : Addr) (m n : Int) (s t : Tx), x = .ref a ∧ y = .ref b ∧ SqT K H a [.int m, T s] ∧ SqT K H b [.int n, T t] ∧ Q (.bl (decide (m < n ∨ (m = n ∧ s < t)))) H
theorem op_ltIT {X : Cx} (hu0 : X.A.units + 64 < cLine) : OpR X (compareOp .Lt) (rLtIT X.K) := by
  intro pins s σ H x y v u Q I rx ry h
  have hu : X.A.units < cLine := Nat.lt_of_le_of_lt (Nat.le_add_right _ _) hu0
  obtain ⟨a, b, m, n, c, d, rfl, rfl, ha, hb, q⟩ := h
  cases rx
  cases ry
  obtain ⟨its, r1, p1, _⟩ := I.tuple ha
  obtain ⟨its2, r2, p2, _⟩ := I.tuple hb
  cases r1 with
  | cons rm r1 =>
  cases r1 with
  | cons rc r1 =>
  cases r1
  cases r2 with
  | cons rn r2 =>
  cases r2 with
  | cons rd r2 =>
  cases r2
  obtain ⟨_, rfl⟩ := rm
  obtain ⟨_, rfl⟩ := rc
  obtain ⟨_, rfl⟩ := rn
  obtain ⟨_, rfl⟩ := rd
  have R := Ob.RcOp.tuples_lt (A := X.A) (s := s) (e := fun j => if j = 0 then decide (m = n) else decide (c = d)) (r := fun j => if j = 0 then decide (m < n) else decide (c < d)) p1 p2 hu (fun j h1 h2 => by
    have h1' : j < 2 := h1
    have hj : j = 0 ∨ j = 1 := by omega
    rcases hj with rfl | rfl
    · have z : (m == n) = decide (m = n) := by
        by_cases q : m = n
        · rw [decide_eq_true q]; exact beq_iff_eq.mpr q
        · rw [decide_eq_false q]; exact beq_eq_false_iff_ne.mpr q
      show SeqAt.EqAt X.A.in1 s _ _ (decide (m = n))
      rw [← z]
      exact SeqAt.EqAt.int_int _ _ _ _
    · have z : (SX.S c == SX.S d) = decide (c = d) := by
        by_cases q : c = d
        · rw [decide_eq_true q, q]; exact beq_iff_eq.mpr rfl
        · rw [decide_eq_false q]; exact beq_eq_false_iff_ne.mpr fun e => q (congrArg (fun z : Str => z.cps.toList) e)
      show SeqAt.EqAt X.A.in1 s _ _ (decide (c = d))
      rw [← z]
      exact SeqAt.EqAt.str_str _ _ _ _) (fun j h1 h2 _ => by
    have h1' : j < 2 := h1
    have hj : j = 0 ∨ j = 1 := by omega
    rcases hj with rfl | rfl
    · exact Ob.RcOp.lt_int _ _ _ _
    · exact fun prog w E Q h => lt_str h)
  have e : Ob.lexAt (fun j => if j = 0 then decide (m = n) else decide (c = d)) (fun j => if j = 0 then decide (m < n) else decide (c < d)) (decide (2 < 2)) 0 2 = decide (m < n ∨ (m = n ∧ c < d)) := by
    simp only [Ob.lexAt]
    by_cases h1 : m = n
    · subst h1
      by_cases h2 : c = d
      · subst h2
        simp [List.lt_irrefl]
      · simp [h2]
    · simp [h1]
  have z : wpAny (model X.prog X.w) X.A (compareOp .Lt (.ref a) (.ref b)) (EP X pins σ Q) X.xe s := R X.prog X.w X.xe (EP X pins σ Q) ⟨.bl _, H, I, rfl, by
    show Q (.bl (Ob.lexAt _ _ (decide (2 < 2)) 0 2)) H
    rw [e]
    exact q⟩
  exact z
end Wt
set_option Elab.async false
set_option linter.all false
set_option maxRecDepth 100000
set_option maxHeartbeats 2000000
/-! zip(a, b) of two texts -/
namespace Wt
open PySem PySem.Spec PyProof.Rows L2 Evl Wc
def ItzS (a b : Tx) : It :=
  ⟨fun i _ => i < min a.length b.length, fun i H v H' => ∃ t c d, v = .ref t ∧ H t = none ∧ H' = upd H t (.tup [T [c], T [d]]) ∧ a[i]? = some c ∧ b[i]? = some d, fun i _ => i = min a.length b.length⟩
theorem sgn {a : Tx} {i : Nat} {v : Value} (h : ∃ c u, (SX.S a).cps[i]? = some c ∧ v = .str ⟨#[c]⟩ u) : ∃ c, a[i]? = some c ∧ RelV (T [c]) v := by
  obtain ⟨c, u, h1, rfl⟩ := h
  exact ⟨c, by simpa [SX.S] using h1, u, rfl⟩
theorem turn_zipS {P : Program} {w : World} {K : PySem.W.Frag} {elts : List Expr} {kk : Nat} {tpos : Pos} {a b : Tx} {ta tb : Tok} {z TI TO i1 i2 : Addr} (D : ZipSep2 z TI TO i1 i2 [i1] [i2]) :
    Turn P w K (.Tuple elts kk tpos) (ItzS a b) [z, TI, TO, i1, i2] z (fun i h => IsZip h z TI TO .none ∧ IsTupOf2 h TI (.ref i1) (.ref i2) ∧ (∃ x y, IsTupOf2 h TO x y) ∧ h.IsStrIter i1 (strIterType (SX.S a)) (SX.S a) ta i ∧ h.IsStrIter i2 (strIterType (SX.S b)) (SX.S b) tb i) where
  mem := by simp
  obj := fun i h st c hc => by
    obtain ⟨hz, hTI, ⟨x, y, hTO⟩, ⟨o1, e1, _, d1⟩, ⟨o2, e2, _, d2⟩⟩ := st
    have e' : c = z ∨ c = TI ∨ c = TO ∨ c = i1 ∨ c = i2 := by simpa using hc
    rcases e' with q | q | q | q | q
    · rw [q]; exact ⟨_, hz, fun v q => nomatch q⟩
    · rw [q]; exact ⟨_, hTI, fun v q => nomatch q⟩
    · rw [q]; exact ⟨_, hTO, fun v q => nomatch q⟩
    · rw [q]; exact ⟨o1, e1, fun v q => by rw [d1] at q; cases q⟩
    · rw [q]; exact ⟨o2, e2, fun v q => by rw [d2] at q; cases q⟩
  keep := fun i h h' st k => by
    obtain ⟨hz, hTI, ⟨x, y, hTO⟩, ⟨o1, e1, f1⟩, ⟨o2, e2, f2⟩⟩ := st
    exact ⟨k z (by simp) _ hz, k TI (by simp) _ hTI, ⟨x, y, k TO (by simp) _ hTO⟩, ⟨o1, k i1 (by simp) _ e1, f1⟩, ⟨o2, k i2 (by simp) _ e2, f2⟩⟩
  item := by
    intro X hP hw hK hc i pins s σ H E I hf st hg
    subst hP hw hK
    obtain ⟨hz, hTI, ⟨x0, y0, hTO⟩, h1, h2⟩ := st
    have hlt : i < min a.length b.length := hg
    have D1 := Draws.text (prog := X.prog) (w := X.w) (A := X.A.in1) (I.ok.hd hc) i1 (SX.S a) ta
    have D2 := Draws.text (prog := X.prog) (w := X.w) (A := X.A.in1) (I.ok.hd hc) i2 (SX.S b) tb
    have s1 : (SX.S a).cps.size = a.length := by simp [SX.S]
    have s2 : (SX.S b).cps.size = b.length := by simp [SX.S]
    have hzl : z < s.heap.objs.size := Heap.lt_size hz
    refine wpAny_pyNext_zipD2_item D D1 D2 hz hTI hTO h1 h2 (by omega) (by omega) fun u u2 h' tk p1 p2 z' TO' h1' h2' hT hsz hk => ?_
    obtain ⟨c, hcx, ru⟩ := sgn p1
    obtain ⟨d, hdy, ru2⟩ := sgn p2
    refine ⟨_, rfl, wpAny_letOwnedTupleGo_zip (s := { s with heap := h', toks := tk }) z' fun h'' z'' sb => ?_⟩
    have hT2 : h''.get? s.heap.objs.size = some { cls := .type "tuple", data := .seq #[u, u2] } := (sb.2 _ (Nat.ne_of_gt hzl)).trans hT
    have new : ObjOk X.prog X.w (upd H s.heap.objs.size (.tup [T [c], T [d]])) h'' s.heap.objs.size (.tup [T [c], T [d]]) :=
      ⟨by show 2 ≤ sizeLine; decide, [u, u2], .cons ru (.cons ru2 .nil), ⟨_, hT2, rfl, _, rfl⟩⟩
    have I1 : Inv X pins σ (upd H s.heap.objs.size (.tup [T [c], T [d]])) { s with heap := h'', toks := tk } :=
      I.turnedNew (ch := [z, TI, TO, i1, i2]) (fun c o hb q => (sb.2 c (fun q' => hb (by simp [q']))).trans (hk c o (fun q' => hb (by simp [q'])) (fun q' => hb (by simp [q'])) (fun q' => hb (by simp [q'])) (fun q' => hb (by simp [q'])) q)) hf (Nat.le_refl _) new
    refine ⟨.ref s.heap.objs.size, _, I1, rfl, ⟨_, c, d, rfl, I.hok.fresh (Nat.le_refl _), rfl, hcx, hdy⟩, ⟨z'', ?_, ⟨u, u2, ?_⟩, ?_, ?_⟩, fun c hcm => ?_⟩
    · exact (sb.2 _ D.TIz).trans (hk _ _ D.TIz D.TITO D.TIi1 D.TIi2 hTI)
    · exact (sb.2 _ D.TOz).trans TO'
    · obtain ⟨o1, e1, f1⟩ := h1'
      exact ⟨o1, (sb.2 _ (Ne.symm D.zi1)).trans e1, f1⟩
    · obtain ⟨o2, e2, f2⟩ := h2'
      exact ⟨o2, (sb.2 _ (Ne.symm D.zi2)).trans e2, f2⟩
    · have hlt : c < s.heap.objs.size := by
        have e' : c = z ∨ c = TI ∨ c = TO ∨ c = i1 ∨ c = i2 := by simpa using hcm
        rcases e' with q | q | q | q | q
        · rw [q]; exact hzl
        · rw [q]; exact Heap.lt_size hTI
        · rw [q]; exact Heap.lt_size hTO
        · rw [q]; obtain ⟨_, e1, _⟩ := h1; exact Heap.lt_size e1
        · rw [q]; obtain ⟨_, e2, _⟩ := h2; exact Heap.lt_size e2
      rw [upd_ne (Nat.ne_of_lt hlt)]
      exact (hf c hcm).1
  done := by
    intro X hP hw hK hc i pins s σ H E I hf st hg
    subst hP hw hK
    obtain ⟨hz, hTI, ⟨x0, y0, hTO⟩, h1, h2⟩ := st
    have hend : i = min a.length b.length := hg
    have D1 := Draws.text (prog := X.prog) (w := X.w) (A := X.A.in1) (I.ok.hd hc) i1 (SX.S a) ta
    have D2 := Draws.text (prog := X.prog) (w := X.w) (A := X.A.in1) (I.ok.hd hc) i2 (SX.S b) tb
    have s1 : (SX.S a).cps.size = a.length := by simp [SX.S]
    have s2 : (SX.S b).cps.size = b.length := by simp [SX.S]
    exact wpAny_pyNext_zipD2_end D D1 D2 hz hTI hTO h1 h2 (by omega) (by omega) (by omega) fun h' tk hk => ⟨rfl, I.turnedL (t' := tk) (ch := [z, TI, TO, i1, i2]) (fun c o hb q =>
      hk c o (fun q' => hb (by simp [q'])) (fun q' => hb (by simp [q'])) (fun q' => hb (by simp [q'])) (fun q' => hb (by simp [q'])) q) hf⟩
  self := fun A i s Q E st h => wpAny_pyIter_zip st.1 h
def iZipS (ta : TA) : TI := fun σ H R => ta σ H fun vs H1 => ∃ a b : Tx, vs = [T a, T b] ∧ R (ItzS a b) H1
theorem pi_zipS {X : Cx} {e e2 : Expr} {ta : TA} {p pos tpos : Pos} {elts : List Expr} {kk : Nat} (hg : Gl X "zip") (hm : X.mg "zip" = none) (ha : PA X [e, e2] ta)
    (hs : starEach [e, e2] X.env = (false, eval e X.env) :: starEach [e2] X.env := by rfl) (hpl : (backTo pos (starEach [e2] X.env)).any (·.1) = false := by rfl) :
    PI X (.Tuple elts kk tpos) (.Call (.Name "zip" p) [e, e2] [] pos) (iZipS ta) := by
  refine ⟨fun pins s σ H R I h => ?_⟩
  refine Call_ (ld_blt I hg hm PyProof.Rows.boot_zip (PyProof.Rows.callWith_type1 (thn (ha.run pos pins s σ H _ I h) fun us s1 ⟨vs, H1, I1, r1, q1⟩ => ?_) hs hpl))
  obtain ⟨a, b, ex, q⟩ := q1
  subst ex
  cases r1 with
  | cons r rr =>
    cases rr with
    | cons r' rr =>
      cases rr
      obtain ⟨ta, rfl⟩ := r
      obtain ⟨tb, rfl⟩ := r'
      have fresh5 : ∀ c, c ∈ [s1.heap.objs.size + 4, s1.heap.objs.size + 2, s1.heap.objs.size + 3, s1.heap.objs.size, s1.heap.objs.size + 1] → FpOk X pins H1 c := fun c hcm => by
        have e' : c = s1.heap.objs.size + 4 ∨ c = s1.heap.objs.size + 2 ∨ c = s1.heap.objs.size + 3 ∨ c = s1.heap.objs.size ∨ c = s1.heap.objs.size + 1 := by simpa using hcm
        have hle : s1.heap.objs.size ≤ c := by
          rcases e' with z | z | z | z | z
          · rw [z]; exact Nat.le_add_right _ _
          · rw [z]; exact Nat.le_add_right _ _
          · rw [z]; exact Nat.le_add_right _ _
          · rw [z]; exact Nat.le_refl _
          · rw [z]; exact Nat.le_add_right _ _
        exact I1.fpOk hle (I1.hok.fresh hle)
      refine zip_begins2 (begins_text (SX.S a) ta) (begins_text (SX.S b) tb) trivial trivial fun h' hz hTI hTO h1 h2 hsz hk => wpAny_pyIter_zip hz ?_
      have I2 : Inv X pins σ H1 { s1 with heap := h' } := I1.kept (t' := s1.toks) hk
      exact ⟨s1.heap.objs.size + 4, [s1.heap.objs.size + 4, s1.heap.objs.size + 2, s1.heap.objs.size + 3, s1.heap.objs.size, s1.heap.objs.size + 1], _, _, H1, rfl, I2, turn_zipS (ta := ta) (tb := tb) (zip_sep2 (fun b hb => by cases hb) (fun b hb => by cases hb)), ⟨hz, hTI, ⟨_, _, hTO⟩, ⟨_, h1, rfl, rfl⟩, ⟨_, h2, rfl, rfl⟩⟩, fresh5, q⟩
section
variable {K : PySem.W.Frag} {σ : L2.St} {H : Hp}
theorem walk_zipS {a b : Tx} : Walk (ItzS a b) (min a.length b.length) (fun _ => True) (YPair (fun i => (a[i]?).map fun c => T [c]) (fun i => (b[i]?).map fun c => T [c])) := by
  refine ⟨fun i _ hi _ => hi, fun _ _ => rfl, fun i H v H' _ _ y => ?_⟩
  obtain ⟨t, c, d, y1, y2, y3, y4, y5⟩ := y
  exact ⟨t, _, _, y1, y2, y3, by show (a[i]?).map _ = _; rw [y4]; rfl, by show (b[i]?).map _ = _; rw [y5]; rfl⟩
theorem src_zipS {a b : Tx} {tl tr : TE} (h : Ev tl σ H (T a)) (h2 : Ev tr σ H (T b)) : Src (iZipS (tCons tl (tCons tr tNil))) σ H (min a.length b.length) (fun _ => False) (fun i v Hb => ∃ p c d, v = .ref p ∧ a[i]? = some c ∧ b[i]? = some d ∧ Hb p = some (.tup [T [c], T [d]])) := fun H1 e R q =>
  h H1 e _ fun H2 e2 => h2 H2 (e.trans e2) _ fun H3 e3 => ⟨a, b, rfl, q _ H3 _ (e2.trans e3) (walk_zipS.mono (fun _ z => z) fun i Ha v Hb _ _ hy => by
    obtain ⟨p, x, y, rfl, hn, rfl, h1, h2⟩ := hy
    have h1 : (a[i]?).map (fun c => T [c]) = some x := h1
    have h2 : (b[i]?).map (fun c => T [c]) = some y := h2
    cases ha : a[i]? with
    | none => rw [ha] at h1; cases h1
    | some c =>
      cases hb : b[i]? with
      | none => rw [hb] at h2; cases h2
      | some d =>
        rw [ha] at h1
        rw [hb] at h2
        cases h1
        cases h2
        exact ⟨Ex.new hn, p, c, d, rfl, by first | rfl | exact ha, by first | rfl | exact hb, upd_same⟩) fun B Ha hB ea => trivial⟩
end
end Wt
set_option Elab.async false
set_option linter.all false
set_option maxRecDepth 100000
set_option maxHeartbeats 2000000
/-! defs that are called while no repr runs: their promises, their calls, repr itself, and a law's end by them -/
namespace Wg
open PySem PySem.Spec PyProof.Rows L2 Evl Wc
/-- a promise for calls around which no repr runs -/
structure FnOkG (P : Program) (w : World) (K : PySem.W.Frag) (mg : Str → Option Value) (base : Heap) (k : Nat) (f : Addr) (fd : FuncData) (ps : List Str) (sp : Sp) : Prop where
  len : ∀ vs H Q E, sp vs H Q E → vs.length = ps.length
  run : ∀ (A : Around) (outer : List Env) (s : Shared) (H : Hp) (args : Args) (us : List Value) (vs : List V) (Q : VK) (E : XK), Room k A → A.guards = some [] →
    Env0 P w K mg base A outer s H → BindsTo s fd args (ps.zip us) → Vals vs us → sp vs H Q E → codeAny (model P w) A (.call (.ref f) args) (CR CX0 outer P w H s Q E) s
section
variable {P : Program} {w : World} {K : PySem.W.Frag} {mg : Str → Option Value} {base : Heap} {k : Nat} {f : Addr} {fd : FuncData} {ps : List Str} {sp : Sp}
theorem FnOkG.of (F : FnOk P w K mg base CX0 k f fd ps sp) : FnOkG P w K mg base k f fd ps sp := ⟨F.len, fun A outer s H args us vs Q E hr _ => F.run A outer s H args us vs Q E hr⟩
/-- what ends a body ends the call -/
theorem ends_call {X : Cx} {s s' : Shared} {H : Hp} {Q : VK} {fl : Flow} {outer : List Env} (hp : X.prog = P) (hw : X.w = w)
    (fin : ∀ {σ' : L2.St} {H' : Hp} {v : V} {u : Value}, Inv X [] σ' H' s' → RelV v u → Q v H' → CE outer P w H s Q u s')
    (h : SP X [] { nx := fun _ H' => Q .non H', rt := Q } fl s') : match fl with
      | .ret u => CE outer P w H s Q u s'
      | .next => CE outer P w H s Q .none s'
      | _ => False := by
  cases fl with
  | next => obtain ⟨σ', H', J, q⟩ := h; exact fin (v := V.non) J rfl q
  | ret u => obtain ⟨v, σ', H', J, rv, q⟩ := h; exact fin J rv q
  | brk => obtain ⟨_, _, _, q⟩ := h; exact q.elim
  | cont => obtain ⟨_, _, _, q⟩ := h; exact q.elim
theorem Fun.okG {x qual : Str} {st : Stmt} {N : List Str} (F : Fun K x qual st f fd) (S : FnScope N ps (defScope st)) (len : ∀ vs H Q E, sp vs H Q E → vs.length = ps.length)
    (hbody : ∀ (cdv : Value) (A : Around) (outer : List Env) (s : Shared) (H : Hp) (vs : List V) (Q : VK) (E : XK), Room k (A.deeper (envOfC qual (defScope st) s.heap.objs.size f cdv)) → A.guards = some [] → sp vs H Q E →
      ∃ t, PSs (cxOf CX0 P w K mg base N qual (defScope st) f cdv A outer s H E).nox (defBody st) t ∧ t { nx := fun _ H' => Q .non H', rt := Q } (start N vs) H) : FnOkG P w K mg base (k + 1) f fd ps sp := by
  obtain ⟨oc, od, kV, doc, pm, an, cdv, ct, osl, rfl, lk, hcd⟩ := F.ex
  refine ⟨len, fun A outer s H args us vs Q E hr hgd e0 hb r hsp => ?_⟩
  have stay : ∀ b o, base.get? b = some o → s.heap.get? b = some o := fun b o e => (e0.bs b o e).1
  have KX := e0.mod.kin.keeps stay
  refine codeAny_call_function hr.depth (KX _ _ lk) rfl S.co S.gen rfl (PySem.W.codeRec_of KX hcd) (hb _ _ _ _ (wpAny_newFunctionEnv_cells S.kind (fun y hy => ?_) fun env he s1 new => ?_))
  · obtain ⟨n, v⟩ := y
    rcases S.par n (List.of_mem_zip hy).1 with q | q
    · exact .inl q
    · exact .inr ⟨q, PySem.W.cellsFrom_some _ _ _ (.inl q)⟩
  · subst he
    obtain ⟨t, ht, hq⟩ := hbody cdv A outer s H vs Q E (hr.deeper _) hgd hsp
    have I := inv_start (CX := CX0) (E := E) S hr.hd e0 (len _ _ _ _ hsp) r new
    refine ⟨(e0.mod.nolimit.keeps stay).keeps new.toInCall.keep, codeAny_func (wpAny_mono (ht.nox.run [] s1 (start N vs) H _ I hq) (fun fl s' hs => ?_) fun e s' hs => hs)⟩
    have done := ends_call (outer := outer) (s := s) (H := H) rfl rfl (fun J rv q => ⟨_, _, J.os, J.bare, J.base, J.hok, rv, q⟩) hs
    cases fl <;> first
      | exact done
      | exact False.elim done
end
/-- a def that may be called by its name while no repr runs -/
structure CalG (P : Program) (w : World) (K : PySem.W.Frag) (mg : Str → Option Value) (base : Heap) (x : Str) (st : Stmt) (k : Nat) (ps : List Str) (sp : Sp) : Prop where
  ex : ∃ f fd, FnOkG P w K mg base k f fd ps sp ∧ mg x = some (.ref f) ∧ Fun K x x st f fd ∧ Binds K fd ps []
section
variable {X : Cx} {x : Str} {st : Stmt} {k n : Nat} {ps : List Str} {sp : Sp} {p pos : Pos} {e : Expr} {es : List Expr} {t : TA}
theorem pe_clG (C : CalG X.prog X.w X.K X.mg X.base x st k ps sp) (hr : Room n X.A) (hgd : X.A.guards = some []) (ha : PA X (e :: es) t) (hkn : k ≤ n := by decide) (hg : Gl X x := by rfl) (hdb : (x == ("__debug__" : Str)) = false := by decide)
    (he : starEach (e :: es) X.env = (false, eval e X.env) :: starEach es X.env := by rfl) (hpl : (backTo pos (starEach es X.env)).any (·.1) = false := by rfl) : PE X (.Call (.Name x p) (e :: es) [] pos) (tCall sp [] E0 t) := by
  obtain ⟨f, fd, F, hm, hF, hb⟩ := C.ex
  refine ⟨fun pins s σ H Q I h => wpAny_Call_Name_kw (ld_glob I hg hm (PySem.W.callWith_K (h₀ := X.base) I.ok.mod.kin hF.kp (thn (ha.run pos pins s σ H _ I h) fun us s1 got => ?_) he hpl) hdb)⟩
  obtain ⟨vs, H1, I1, r, q⟩ := got
  rw [List.append_nil] at q
  refine ⟨I1.kIn, wpAny_call (codeAny_mono (F.run X.A X.stack s1 H1 ⟨us, []⟩ us vs Q E0 (hr.mono hkn) hgd I1.env0 ?_ r q) fun z s' hz => ?_)⟩
  · have := hb s1 us I1.kIn (by rw [List.append_nil, ← r.length]; exact F.len _ _ _ _ q)
    rwa [List.append_nil] at this
  · cases z with
    | error e => exact hz.elim
    | ok fl => cases fl with
      | ret u => exact I1.after hz
      | _ => exact hz.elim
/-- repr of a list or tuple of plain data -/
def rRepr (K : PySem.W.Frag) : List V → Hp → VK → Prop := fun xs H Q => ∃ (p : Addr) (d : PyData), xs = [.ref p] ∧ Dp K H (.ref p) d ∧ d.showable = true ∧ d.hasDict = false ∧ d.depth ≤ 50 ∧ d.shown.length ≤ sizeLine ∧ Q (T d.shown.cps.toList) H
theorem cr_repr (hgd : X.A.guards = some []) (hu : X.A.units + 64 < cLine) : CallR X (.builtin "repr") (rRepr X.K) := by
  intro pins s σ H xs us Q I r h
  obtain ⟨p, d, rfl, hd, h1, h2, h3, h4, q⟩ := h
  rw [Vals.ref1 r]
  obtain ⟨as, rd⟩ := Dp.reads I d _ _ hd rfl
  refine repr_of_reads' rd h1 (fun z => by rw [h2] at z; cases z) hgd (by omega) (fun b o e => e) (fun h' u tk hk => ?_) h4
  exact ⟨T d.shown.cps.toList, H, I.kept (t' := tk) hk, ⟨u, congrArg (fun z => Value.str z u) (SX.S_tl d.shown).symm⟩, q⟩
end
section
variable {P : Program} {w : World} {K : PySem.W.Frag} {mg mb : Str → Option Value} {k : Nat} {fa a : Addr} {fd : FuncData} {x : Str} {sp : Sp} {s₁ : Shared} {vs : List Value} {ns : List Int}
/-- the law's def at the heap behind the top, H telling of the script at most -/
theorem call_at (KX : K.In s₁.heap) (hns : s₁.heap.Ns mainGlobals mg) (hb : s₁.heap.Ns builtinsNs mb) (hbb : ∀ x : Str, x ≠ "__name__" → mb x = bootBuiltins x) (hlim : s₁.heap.NoLimit) (hg : s₁.gens = #[])
    (ha : s₁.heap.get? a = some { cls := .type "list", data := .seq vs.toArray }) (hr : Room k callerA) (F : ∀ base : Heap, K.In base → base.Ns mainGlobals mg → FnOkG P w K mg base k fa fd [x] sp) (hbind : ∀ (s : Shared) (u : Value), BindsTo s fd ⟨[u], []⟩ [(x, u)])
    (H : Hp) (hO : Only H) (hok : HOk P w H s₁.heap) (hA : ∀ b u, H b = some u → b = a ∧ K.lookup a = none) (hsp : sp [.ref a] H (fun v _ => v = .bl true) fun _ _ _ => False) :
    codeAny (model P w) callerA (.call (.ref fa) ⟨[.ref a], []⟩) (fun r s' => r = .ok (.ret (.bool true)) ∧ OldK s₁.heap s'.heap ∧ s'.os = s₁.os ∧ AllBare s'.gens) s₁ := by
  have free : ∀ {b : Addr}, (b = a → K.lookup a = none → False) → H b = none := fun {b} no => by
    cases q : H b with
    | none => rfl
    | some u => exact (no (hA b u q).1 (hA b u q).2).elim
  have dict : ∀ {b : Addr} {m : Str → Option Value}, s₁.heap.Ns b m → (hidT s₁.heap H).Ns b m := fun {b m} got => by
    obtain ⟨o, es, ep, e, d, r⟩ := got
    refine ⟨o, es, ep, hidT_get e (free fun z _ => ?_), d, r⟩
    subst z
    rw [ha] at e
    cases e
    cases d
  have own : K.In (hidT s₁.heap H) := fun b o e => hidT_get (KX b o e) (free fun z q => by subst z; rw [q] at e; cases e)
  have mod : Mod K mg (hidT s₁.heap H) := by
    obtain ⟨mc, l1, l2⟩ := hlim
    exact ⟨own, dict hns, ⟨mb, dict hb, hbb⟩, ⟨mc, dict l1, l2⟩⟩
  have none_in : ∀ {b : Addr}, b ∉ ([] : List Addr) := fun {b} z => nomatch z
  have e0 : Env0 P w K mg (hidT s₁.heap H) callerA [] s₁ H := ⟨rfl, mod, fun b o e => of_hidT e, Nat.le_of_eq (hidT_size _ _), trivial, fun b hb => (none_in hb).elim, hok, .of_eq hg⟩
  refine codeAny_mono ((F _ own (dict hns)).run callerA [] s₁ H ⟨[.ref a], []⟩ [.ref a] [.ref a] _ _ hr rfl e0 (hbind s₁ (.ref a)) (.cons rfl .nil) hsp) fun r s' h => ?_
  match r, h with
  | .ok (.ret u), ⟨v, H', os, bare, un, hok', rel, q⟩ =>
    have q' : v = .bl true := q
    subst q'
    have rel' : u = Value.bool true := rel
    subst rel'
    refine ⟨rfl, OldK.of_keep fun b o e => ?_, os, bare⟩
    rcases hO b with z | ⟨ob, xs, z⟩
    · exact un.keep b o e z none_in none_in
    · have e1 := (hok b _ z).1
      rw [e] at e1
      cases e1
      exact (hok' b _ (un.frzs b _ _ z)).1
theorem law_callG (KX : K.In s₁.heap) (hns : s₁.heap.Ns mainGlobals mg) (hb : s₁.heap.Ns builtinsNs mb) (hbb : ∀ x : Str, x ≠ "__name__" → mb x = bootBuiltins x) (hlim : s₁.heap.NoLimit) (hg : s₁.gens = #[])
    (ha : s₁.heap.get? a = some { cls := .type "list", data := .seq vs.toArray }) (hi : IntsAre vs ns) (hl : ns.length ≤ sizeLine) (hr : Room k callerA) (F : ∀ base : Heap, K.In base → base.Ns mainGlobals mg → FnOkG P w K mg base k fa fd [x] sp) (hbind : ∀ (s : Shared) (u : Value), BindsTo s fd ⟨[u], []⟩ [(x, u)])
    (hsp : ∀ H : Hp, Only H → SqL K H a (ns.map V.int) → sp [.ref a] H (fun v _ => v = .bl true) fun _ _ _ => False) :
    codeAny (model P w) callerA (.call (.ref fa) ⟨[.ref a], []⟩) (fun r s' => r = .ok (.ret (.bool true)) ∧ OldK s₁.heap s'.heap ∧ s'.os = s₁.os ∧ AllBare s'.gens) s₁ := by
  have rv := vals_ints hi
  have go := call_at (x := x) (sp := sp) KX hns hb hbb hlim hg ha hr F hbind
  cases hk : K.lookup a with
  | some o =>
    have e := KX a o hk
    rw [ha] at e
    cases e
    exact go (fun _ => none) (fun _ => .inl rfl) (fun b u z => nomatch (show (none : Option HO) = some u from z)) (fun b u z => nomatch (show (none : Option HO) = some u from z)) (hsp _ (fun _ => .inl rfl) (.inr ⟨_, vs.toArray, _, hk, rfl, rfl, rfl, by rw [List.size_toArray, hi.length]; exact hl, by simpa using rv⟩))
  | none =>
    obtain ⟨H, hH1, hH2⟩ : ∃ H : Hp, H a = some (.frz { cls := .type "list", data := .seq vs.toArray } (.lst (ns.map V.int))) ∧ ∀ b, b ≠ a → H b = none := ⟨fun b => if b = a then some (.frz { cls := .type "list", data := .seq vs.toArray } (.lst (ns.map V.int))) else none, if_pos rfl, fun b hb => if_neg hb⟩
    have only : Only H := fun b => by
      by_cases h : b = a
      · subst h; exact .inr ⟨_, _, hH1⟩
      · exact .inl (hH2 b h)
    refine go H only (fun b u z => ?_) (fun b u z => ?_) (hsp H only (.inl (.inr ⟨_, hH1⟩)))
    · by_cases h : b = a
      · subst h
        rw [hH1] at z
        cases z
        exact ⟨ha, by rw [List.length_map]; exact hl, vs, _, rv, ha⟩
      · rw [hH2 b h] at z
        cases z
    · by_cases h : b = a
      · exact ⟨h, hk⟩
      · rw [hH2 b h] at z
        cases z
end
theorem walk_ofG {l : PySem.W.OpenLaw} {n k : Nat} {q : Program} {loose : List Str} {XP : (Str → Option Value) → Heap → Prop} {YP : World → Heap → Prop} {d : DefRec} {K : Params → PySem.W.Frag} {sp : World → Sp} {x : Str}
    (hn : l.most = some n) (hn2 : n ≤ sizeLine) (hdf : d.params.defaults = []) (hr : Room k callerA) (hY : ∀ (w : World) (h : Heap), YP w h → (K w.params).In h)
    (F : ∀ (w : World) (mg : Str → Option Value) (fa : Addr) (h : Heap), (K w.params).In h → h.Ns mainGlobals mg → mg d.name = some (.ref fa) →
      ∃ fd : FuncData, (∀ (s : Shared) (u : Value), BindsTo s fd ⟨[u], []⟩ [(x, u)]) ∧ ∀ base : Heap, (K w.params).In base → base.Ns mainGlobals mg → FnOkG l.prog w (K w.params) mg base k fa fd [x] (sp w))
    (hsp : ∀ (w : World) (H : Hp) (a : Addr) (ns : List Int), ns.length ≤ n → (∀ z ∈ ns, Builtin.Int.intBits z ≤ 1048576) → Only H → SqL (K w.params) H a (ns.map V.int) → sp w [.ref a] H (fun v _ => v = .bl true) fun _ _ _ => False) :
    PySem.W.WalkO q loose XP YP l.row.toRowW d [] (fun f vs => PySem.call f vs) :=
  Att.attach_callB hn hdf fun w s₀ s₁ mg mb fa o pm cd doc a vs ns G Y _ _ _ hmg hobj hints hlen hbits hg => by
    obtain ⟨fd, hb, hF⟩ := F w mg fa _ (hY w _ Y) G.T.g hmg
    exact law_callG (hY w _ Y) G.T.g G.T.b G.T.builtins G.T.nolimit hg hobj hints (Nat.le_trans hlen hn2) hr hF hb fun H hO hS => hsp w H a ns hlen hbits hO hS
end Wg
set_option Elab.async false
set_option linter.all false
set_option maxRecDepth 100000
set_option maxHeartbeats 2000000
/-! a loop over a list or a tuple -/
namespace Wg
open PySem PySem.Spec PyProof.Rows L2 Evl Wc
theorem pi_or {X : Cx} {tg it : Expr} {w1 w2 : TI} (h1 : PI X tg it w1) (h2 : PI X tg it w2) : PI X tg it (fun σ H R => w1 σ H R ∨ w2 σ H R) := ⟨fun pins s σ H R I h => h.elim (h1.run pins s σ H R I) (h2.run pins s σ H R I)⟩
def iSeq (K : PySem.W.Frag) (tl : TE) : TI := fun σ H R => iList K tl σ H R ∨ iTup K tl σ H R
theorem pi_seq {X : Cx} {K : PySem.W.Frag} {tg l : Expr} {tl : TE} (hl : PE X l tl) (hK : X.K = K := by rfl) : PI X tg l (iSeq K tl) := hK ▸ pi_or (pi_list hl) (pi_tup hl)
section
variable {w1 w2 : TI} {σ : L2.St} {H : Hp} {n : Nat} {own : Addr → Prop} {P : Nat → V → Hp → Prop}
theorem src_orL (h : Src w1 σ H n own P) : Src (fun σ H R => w1 σ H R ∨ w2 σ H R) σ H n own P := fun H1 e R q => .inl (h H1 e R q)
theorem src_orR (h : Src w2 σ H n own P) : Src (fun σ H R => w1 σ H R ∨ w2 σ H R) σ H n own P := fun H1 e R q => .inr (h H1 e R q)
end
end Wg
set_option Elab.async false
set_option linter.all false
set_option maxRecDepth 100000
set_option maxHeartbeats 2000000
/-! comprehensions that make new objects, ranges backwards, smaller rules -/
namespace Wg
open PySem PySem.Spec PyProof.Rows L2 Evl Wc
section
variable {K : PySem.W.Frag} {σ : L2.St} {H : Hp} {te ta tb : TE}
theorem ex_of_exc {fa : Addr} {H H1 H2 : Hp} (e : Ex H H1) (hf : H fa = none) (x : Exc (fun c => c = fa) H1 H2) : Ex H H2 := fun c o hc => x c o (fun z => by rw [z, hf] at hc; cases hc) (e c o hc)
/-- new objects, one for each o i, in p -/
structure News (H H' : Hp) (o : Nat → HO) (ps : List Addr) : Prop where
  new : ∀ p ∈ ps, H p = none
  at_ : ∀ i p, ps[i]? = some p → H' p = some (o i)
  nd : ps.Nodup
theorem lcN {wi : TI} {j : Nat} {vs : List Nat} {n : Nat} {own : Addr → Prop} {P : Nat → V → Hp → Prop} {Q : VK} (o : Nat → HO) (hs : Src wi σ H n own P) (hn : n ≤ 40000) (hw : ∀ x, wipe ((wipe σ vs).set j (some x)) vs = wipe σ vs)
    (he : ∀ (i : Nat) (x : V) H1, i < n → P i x H1 → Ex H H1 → ∀ Q' : VK, (∀ p H2, H1 p = none → Ex H1 H2 → H2 p = some (o i) → Q' (.ref p) H2) → te ((wipe σ vs).set j (some x)) H1 Q')
    (k : ∀ q H2 ps, H q = none → Ex H H2 → H2 q = some (.lst (ps.map V.ref)) → ps.length = n → News H H2 o ps → q ∉ ps → Q (.ref q) H2) : tLc wi (gName j) tYes te vs σ H Q :=
  hs H (Ex.refl H) _ fun J H1 S e1 w hS => fun Dl hD => by
    have hDH : H Dl = none := fresh_back e1 hD
    refine lc_it w (Qd := fun H3 => Q (.ref Dl) H3) (fun i Hi => Ex H1 Hi ∧ ∃ ps : List Addr, Hi Dl = some (.lst (ps.map V.ref)) ∧ ps.length = i ∧ News H1 Hi o ps ∧ Dl ∉ ps) ?_ (fun i Hi hi p => hS (fun _ => False) Hi (fun b z => z.elim) (.of p.1)) ?_ ?_
    · exact ⟨Ex.new hD, [], upd_same, rfl, ⟨fun p hp => (nomatch hp), fun i p hp => (by rw [List.getElem?_nil] at hp; cases hp), List.Pairwise.nil⟩, fun hp => (nomatch hp)⟩
    · rintro i x Ha Hb hi ⟨R, ps, h1, h2, h3, h4⟩ ⟨ey, hP⟩
      refine ⟨hw x, ?_⟩
      show te ((wipe σ vs).set j (some x)) Hb fun y H4 => _
      refine he i x Hb hi hP (e1.trans (R.trans ey)) _ fun p H4 hp e4 hp4 => ?_
      have hDl4 : H4 Dl = some (.lst (ps.map V.ref)) := e4 _ _ (ey _ _ h1)
      have npD : p ≠ Dl := fun z => by rw [z, ey _ _ h1] at hp; cases hp
      refine ⟨ps.map V.ref, hDl4, sz_lt (by rw [List.length_map]; omega), Ex.mut ((R.trans ey).trans e4) hD, ps ++ [p], by rw [upd_same, List.map_append]; rfl, by rw [List.length_append, h2]; rfl, ⟨fun q hq => ?_, fun t q hq => ?_, ?_⟩, fun hq => ?_⟩
      · rcases List.mem_append.mp hq with hq | hq
        · exact h3.new q hq
        · rw [List.mem_singleton.mp hq]
          exact fresh_back (R.trans ey) hp
      · by_cases ht : t < ps.length
        · rw [List.getElem?_append_left ht] at hq
          have hne : q ≠ Dl := fun z => h4 (z ▸ List.mem_of_getElem? hq)
          rw [upd_ne hne]
          exact e4 _ _ (ey _ _ (h3.at_ t q hq))
        · rw [List.getElem?_append_right (by omega)] at hq
          have ht0 : t - ps.length = 0 := by
            by_cases z : t - ps.length = 0
            · exact z
            · rw [List.getElem?_eq_none (by simp; omega)] at hq
              cases hq
          rw [ht0] at hq
          cases hq
          rw [upd_ne npD, hp4]
          congr 2
          omega
      · refine List.nodup_append.mpr ⟨h3.nd, List.pairwise_singleton _ _, fun a ha b hb => ?_⟩
        rw [List.mem_singleton.mp hb]
        rintro rfl
        obtain ⟨t, ht⟩ := List.mem_iff_getElem?.mp ha
        have := ey _ _ (h3.at_ t _ ht)
        rw [hp] at this
        cases this
      · rcases List.mem_append.mp hq with hq | hq
        · exact h4 hq
        · exact npD (List.mem_singleton.mp hq).symm
    · rintro H3 ⟨R, ps, h1, h2, h3, h4⟩
      exact k Dl H3 ps hDH (e1.trans R) h1 h2 ⟨fun p hp => fresh_back e1 (h3.new p hp), h3.at_, h3.nd⟩ h4
/-- from the end of a range -/
theorem src_revR {n : Nat} (h : Ev te σ H (.int (n : Int))) (hn : n ≤ 1000000000) : Src (iRevR (tRg1 te)) σ H n (fun _ => False) (fun i v _ => v = .int ((n : Int) - 1 - (i : Int))) := fun H1 e R q =>
  h H1 e _ fun H2 e2 => ⟨(n : Int), rfl, by omega, by omega, by omega, by omega, by
    have e0 : ((n : Int) - 0).toNat = n := by omega
    rw [e0, show (0 : Int) + (n : Int) - 1 = (n : Int) - 1 by omega]
    have w := (walk_rangeC (lo := (n : Int) - 1) (c := -1) (n := n)).mono (fun _ z => z) (Y' := fun i Ha v Hb => Ex Ha Hb ∧ v = .int ((n : Int) - 1 - (i : Int))) (fun i Ha v Hb _ _ hy => by
      obtain ⟨rfl, rfl⟩ := hy
      exact ⟨Ex.refl _, by show V.int ((n : Int) - 1 + ((i : Nat) : Int) * -1) = _; congr 1; omega⟩)
    exact q _ H2 _ e2 w fun _ _ _ _ => True.intro⟩
theorem q_parLC {i j : Nat} {c : V} {tz : TS} {D : Ends} {xs : List V} (h : EvL ta σ H xs) (k : ∀ p H1, H p = none → Ex H H1 → H1 p = some (.lst xs) → tz D ((σ.set i (some (.ref p))).set j (some c)) H1) : tSeq (tPar i j (tCons ta (tCons (tC c) tNil))) tz D σ H :=
  h H (Ex.refl _) _ fun p H1 hp e1 h1 => ⟨.ref p, c, rfl, k p H1 hp e1 h1⟩
theorem q_parCC {i j : Nat} {c d : V} {tz : TS} {D : Ends} (k : tz D ((σ.set i (some c)).set j (some d)) H) : tSeq (tPar i j (tCons (tC c) (tCons (tC d) tNil))) tz D σ H := ⟨c, d, rfl, k⟩
/-- two names, two constants -/
theorem q_asg2C {i j : Nat} {c d : V} {tz : TS} {D : Ends} (k : ∀ H1, Ex H H1 → tz D ((σ.set i (some c)).set j (some d)) H1) : tSeq (tAsg (tTup (tCons (tC c) (tCons (tC d) tNil))) (gTup K 2 (gCons (gName i) (gCons (gName j) gNil)))) tz D σ H :=
  ⟨by show 2 ≤ sizeLine; decide, fun pt hpt => ⟨pt, _, rfl, st_of upd_same, rfl, c, [d], rfl, d, [], rfl, rfl, k _ (Ex.new hpt)⟩⟩
theorem q_asgIf {i : Nat} {tu : TT} {tz : TS} {D : Ends} {b : Bool} (h : EvT tu σ H b) (h1 : b = true → ∀ H1, Ex H H1 → ta σ H1 fun v H2 => tz D (σ.set i (some v)) H2) (h2 : b = false → ∀ H1, Ex H H1 → tb σ H1 fun v H2 => tz D (σ.set i (some v)) H2) : tSeq (tAsg (tIf tu ta tb) (gName i)) tz D σ H := h H (Ex.refl H) _ fun H1 e1 => by
  cases b with
  | true => exact h1 rfl H1 e1
  | false => exact h2 rfl H1 e1
theorem hix {i : Nat} {x : Addr} {xs : List V} {j : Int} {v : V} (hx : H x = some (.tup xs)) (h0 : σ[i]? = some (some (.ref x))) (ha : atI xs j = some v) : Ev (tOp (rIxAny K) (tVar i) (tC (.int j))) σ H v := ev_op (ev_var h0) ev_c fun H3 e3 Q3 q3 => .inl (.inr (rv_ixT (K := K) (st_of hx) ha H3 e3 Q3 q3))
def rMin2 : List V → Hp → VK → Prop := fun xs H Q => ∃ i j, xs = [.int i, .int j] ∧ Q (.int (if j < i then j else i)) H
theorem ev_min2 {i j : Int} (ha : Ev ta σ H (.int i)) (hb : Ev tb σ H (.int j)) : Ev (tCB rMin2 (tCons ta (tCons tb tNil))) σ H (.int (if j < i then j else i)) := fun H1 e Q q =>
  ha H1 e _ fun H2 e2 => hb H2 (e.trans e2) _ fun H3 e3 => ⟨i, j, rfl, q H3 (e2.trans e3)⟩
end
end Wg
set_option Elab.async false
set_option linter.all false
set_option maxRecDepth 100000
set_option maxHeartbeats 2000000
/-! errors of own classes: raised, passed on, caught; three named values -/
namespace Wg
open PySem PySem.Spec PyProof.Rows L2 Evl Wc
/-- an own class of errors under ValueError, by its name -/
structure Err (K : PySem.W.Frag) (mg : Str → Option Value) (x : Str) (C : Addr) : Prop where
  gP : mg x = some (.ref C)
  xP : PySem.W.excIn K C [.type "ValueError", .type "Exception", .type "BaseException", .type "object"] "ValueError.__new__" = true
  kP : PySem.W.keepIn K (.ref C) = true
  bP : PySem.W.subIn K (.ref C) (.type "BaseException") = some true
  tP : PySem.W.typeIn K (.ref C) = some (.type "type")
/-- .. caught by its own name, asked for its kind -/
structure ErrI (K : PySem.W.Frag) (C : Addr) : Prop where
  te : PySem.W.exmOne K (.ref C) (.ref C) = some true
  cl : ExcC K C
/-- isinstance of the error that the suite holds, of whatever class -/
def rIsE2 (K : PySem.W.Frag) (D a : Addr) (cls : Value) (d : Option Addr) : List V → Hp → VK → Prop := fun xs H Q => cls = .ref D ∧ d = none ∧ rIsE K D a xs H Q
theorem call_isE2 {X : Cx} {a D : Addr} {oe : Obj} {pn : List (Addr × Obj)} {cls : Value} {d : Option Addr} (C : ExcC X.K D) (hz : Zc cls d oe) (hf : ∃ vs, oe.data = .fields vs) : CallR (X.suite a ((a, oe) :: pn)) (.builtin "isinstance") (rIsE2 X.K D a cls d) := by
  intro pins s σ H xs us Q I r h
  obtain ⟨rfl, rfl, h⟩ := h
  exact (call_isE C hz hf) pins s σ H xs us Q I r h
theorem is_err {K : PySem.W.Frag} {D a B : Addr} {b : Bool} {H : Hp} {Q : VK} (h : PySem.W.kitOne K (.ref D) (.ref B) = some b) (q : Q (.bl b) H) : rIsE2 K D a (.ref D) none [.ref a, .ref B] H Q := ⟨rfl, rfl, .ref B, .ref B, b, rfl, fun u hu => by cases hu; rfl, h, q⟩
section
variable {P : Program} {w : World} {K : PySem.W.Frag} {mg : Str → Option Value} {base : Heap}
/-- a def that may raise, called by its name -/
structure CalS (P : Program) (w : World) (K : PySem.W.Frag) (mg : Str → Option Value) (base : Heap) (x : Str) (st : Stmt) (k : Nat) (ps : List Str) (sp : Sp) : Prop where
  ex : ∃ f fd, FnOk P w K mg base (L2.CX P w) k f fd ps sp ∧ mg x = some (.ref f) ∧ Fun K x x st f fd ∧ Binds K fd ps []
/-- .. where it raises nothing -/
def calm (sp : Sp) : Sp := fun vs H Q _ => sp vs H Q E0
theorem CalS.calm {x : Str} {st : Stmt} {k : Nat} {ps : List Str} {sp : Sp} (C : CalS P w K mg base x st k ps sp) : Cal P w K mg base x st k ps (calm sp) := by
  obtain ⟨f, fd, F, hm, hF, hb⟩ := C.ex
  refine ⟨f, fd, ⟨fun vs H Q E h => F.len _ _ _ _ h, fun A outer s H args us vs Q E hr he hb r h => codeAny_mono (F.run A outer s H args us vs Q E0 hr he hb r h) fun z s' hz => ?_⟩, hm, hF, hb⟩
  cases z with
  | ok fl => cases fl <;> exact hz
  | error e =>
    obtain ⟨_, _, _, _, _, _, _, _, _, _, _, _, no⟩ := hz
    exact no
end
section
variable {X : Cx} {x : Str} {st : Stmt} {k n : Nat} {ps : List Str} {sp : Sp} {p pos pos' p2 : Pos} {e : Expr} {es : List Expr} {t : TA} {W : WX} {m : Str} {j : Nat} {C : Addr}
theorem pe_clS (Cl : CalS X.prog X.w X.K X.mg X.base x st k ps sp) (hr : Room n X.A) (tk : Takes X W) (ha : PA X (e :: es) t) (hkn : k ≤ n := by decide) (hg : Gl X x := by rfl) (hdb : (x == ("__debug__" : Str)) = false := by decide)
    (he : starEach (e :: es) X.env = (false, eval e X.env) :: starEach es X.env := by rfl) (hpl : (backTo pos (starEach es X.env)).any (·.1) = false := by rfl) : PE X (.Call (.Name x p) (e :: es) [] pos) (tCallS sp (WE W) t) := by
  obtain ⟨f, fd, F, hm, hF, hb⟩ := Cl.ex
  exact pe_callS F (hr.mono hkn) hg hm hF.kp hb (fun σ => passAt tk σ) ha hdb he hpl
theorem ps_raiseE (hc : X.calm = true) (tk : Takes X W) (Er : Err X.K X.mg x C) (hg : Gl X x := by rfl) (hdb : (x == ("__debug__" : Str)) = false := by decide) : PS X (.Raise (some (.Call (.Name x p) [.Constant (.str m) j p2] [] pos)) none pos') (fun _ σ H => W (.ref C) none σ H) :=
  ps_raise hc tk (pmk_own PySem.F.excBase_ValueError Er.xP Er.gP Er.kP (raises_own Er.bP Er.tP) hg hdb)
end
/-- three named values, the last one first -/
def sw3 {α : Type} : List α → List α → List α
  | [], [a, b, c] => [c, b, a]
  | _, _ => []
theorem sw3_rel {vs zs : List V} {us ws : List Value} (r : Vals vs us) (rz : Vals zs ws) : Vals (sw3 vs zs) (sw3 us ws) := by
  cases r with
  | cons => exact .nil
  | nil =>
    match zs, ws, rz with
    | [], _, .nil => exact .nil
    | [_], _, .cons _ .nil => exact .nil
    | [_, _], _, .cons _ (.cons _ .nil) => exact .nil
    | [_, _, _], _, .cons h1 (.cons h2 (.cons h3 .nil)) => exact .cons h3 (.cons h2 (.cons h1 .nil))
    | _ :: _ :: _ :: _ :: _, _, .cons _ (.cons _ (.cons _ (.cons _ _))) => exact .nil
theorem kb3 {x : Str} {st : Stmt} {ps ks : List Str} (hp : ps.length = 3)
    (h : ∀ (kV doc pm : Value) (an : Option Addr) (cdv ct a b c : Value), bindArgs (PySem.W.fnOf x x (defArgs st) (defBody st) (defScope st) .none kV doc pm an cdv ct) ⟨[], ks.zip [a, b, c]⟩ = pure (ps.zip (sw3 [] [a, b, c]))) : KB x st 0 ps ks sw3 sw3 := by
  intro K f fd F
  obtain ⟨oc, od, kV, doc, pm, an, cdv, ct, osl, rfl, lk, hcd⟩ := F.ex
  refine ⟨fun s us ws _ hl => ?_, fun r rz => sw3_rel r rz⟩
  rw [hp] at hl
  match us, ws, hl with
  | [], [a, b, c], _ => exact .of_eq (h kV doc pm an cdv ct a b c)
  | [], [], hl => exact absurd hl (by simp [sw3])
  | [], [_], hl => exact absurd hl (by simp [sw3])
  | [], [_, _], hl => exact absurd hl (by simp [sw3])
  | [], _ :: _ :: _ :: _ :: _, hl => exact absurd hl (by simp [sw3])
  | _ :: _, ws, hl => exact absurd hl (by simp [sw3])
end Wg
set_option Elab.async false
set_option linter.all false
set_option maxRecDepth 100000
set_option maxHeartbeats 2000000
/-! two lists, item by item; a pair popped off a list -/
namespace Wg
open PySem PySem.Spec PyProof.Rows L2 Evl Wc
inductive All2 {α β : Type} (R : α → β → Prop) : List α → List β → Prop
  | nil : All2 R [] []
  | cons {a : α} {b : β} {as : List α} {bs : List β} : R a b → All2 R as bs → All2 R (a :: as) (b :: bs)
namespace All2
variable {α β : Type} {R R' : α → β → Prop} {as as' : List α} {bs bs' : List β}
theorem mono (h : All2 R as bs) (k : ∀ a b, R a b → R' a b) : All2 R' as bs := by
  induction h with
  | nil => exact .nil
  | cons r _ ih => exact .cons (k _ _ r) ih
theorem len (h : All2 R as bs) : as.length = bs.length := by
  induction h with
  | nil => rfl
  | cons _ _ ih => rw [List.length_cons, List.length_cons, ih]
theorem app (h : All2 R as bs) (h' : All2 R as' bs') : All2 R (as ++ as') (bs ++ bs') := by
  induction h with
  | nil => exact h'
  | cons r _ ih => exact .cons r ih
theorem one {a : α} {b : β} (r : R a b) : All2 R [a] [b] := .cons r .nil
theorem push {a : α} {b : β} (h : All2 R as bs) (r : R a b) : All2 R (as ++ [a]) (bs ++ [b]) := h.app (one r)
theorem pop : ∀ {as : List α} {bs : List β} {b : β}, All2 R as (bs ++ [b]) → ∃ as' a, as = as' ++ [a] ∧ All2 R as' bs ∧ R a b
  | [], [], _, h => nomatch h
  | [], _ :: _, _, h => nomatch h
  | a :: as, [], b, h => by
    cases h with
    | cons r h' => cases h' with
      | nil => exact ⟨[], a, rfl, .nil, r⟩
  | a :: as, b0 :: bs, b, h => by
    cases h with
    | cons r h' =>
      obtain ⟨as', x, rfl, h1, h2⟩ := pop h'
      exact ⟨a :: as', x, rfl, .cons r h1, h2⟩
theorem at_ (h : All2 R as bs) : ∀ {i : Nat} {b : β}, bs[i]? = some b → ∃ a, as[i]? = some a ∧ R a b := by
  induction h with
  | nil => intro i b h; simp at h
  | cons r _ ih =>
    intro i b h
    cases i with
    | zero =>
      rw [List.getElem?_cons_zero] at h
      cases h
      exact ⟨_, rfl, r⟩
    | succ i => exact ih (by rwa [List.getElem?_cons_succ] at h)
theorem take (h : All2 R as bs) (n : Nat) : All2 R (as.take n) (bs.take n) := by
  induction h generalizing n with
  | nil => simp; exact .nil
  | cons r _ ih => cases n with
    | zero => exact .nil
    | succ n => exact .cons r (ih n)
end All2
section
variable {K : PySem.W.Frag} {σ : L2.St} {H : Hp}
theorem q_popP {i a b : Nat} {pw t : Addr} {xs : List V} {u v : V} {D : Ends} {tz : TS} (h0 : σ[i]? = some (some (.ref pw))) (h : H pw = some (.lst (xs ++ [.ref t]))) (ht : H t = some (.tup [u, v])) (k : tz D ((σ.set a (some u)).set b (some v)) (upd H pw (.lst xs))) :
    tSeq (tAsg (tBM0 K "list" rPop (tVar i)) (gTup K 2 (gCons (gName a) (gCons (gName b) gNil)))) tz D σ H := by
  have hne : t ≠ pw := fun z => by rw [z, h] at ht; cases ht
  refine ⟨.ref pw, h0, Or.inl ⟨rfl, _, sq_of h⟩, pw, xs ++ [.ref t], .ref t, rfl, rfl, h, by simp, ?_⟩
  rw [List.dropLast_concat]
  exact ⟨t, _, rfl, st_of (by rw [upd_ne hne]; exact ht), rfl, u, [v], rfl, v, [], rfl, rfl, k⟩
theorem s_appT {i : Nat} {l : Addr} {xs : List V} {te : TE} {D : Ends} (h0 : σ[i]? = some (some (.ref l))) (hl : H l = some (.lst xs)) (h : te σ H fun v H2 => rAppend (.ref l) [v] H2 fun _ H3 => D.nx σ H3) : tDrop (tBM K "list" rAppend (tVar i) (tCons te tNil)) D σ H := ⟨.ref l, h0, Or.inl ⟨rfl, xs, sq_of hl⟩, h⟩
end
end Wg
set_option Elab.async false
set_option linter.all false
set_option maxRecDepth 100000
set_option maxHeartbeats 2000000
/-! len(set(ints)), dicts that serve as sets of numbers, dict comprehensions, comprehensions of two clauses -/
namespace Wd
open PySem PySem.Spec PyProof.Rows L2 Evl Wc Wt Wg
theorem hu1 {A : Around} (h : A.units + 64 < cLine) : A.units + 1 < cLine := by omega
theorem len_nodup {α : Type} {l l' : List α} (h1 : l.Nodup) (h2 : l'.Nodup) (h : ∀ a, a ∈ l ↔ a ∈ l') : l.length = l'.length := ((List.perm_ext_iff_of_nodup h1 h2).mpr h).length_eq
/-- the distinct ones -/
def uniq : List Int → List Int
  | [] => []
  | x :: xs => if x ∈ xs then uniq xs else x :: uniq xs
theorem mem_uniq {z : Int} : ∀ {l : List Int}, z ∈ uniq l ↔ z ∈ l
  | [] => Iff.rfl
  | x :: xs => by
    unfold uniq
    split
    · rename_i h
      rw [mem_uniq, List.mem_cons]
      exact ⟨.inr, fun z => z.elim (fun e => e ▸ h) id⟩
    · rw [List.mem_cons, List.mem_cons, mem_uniq]
theorem uniq_nodup : ∀ l : List Int, (uniq l).Nodup
  | [] => List.Pairwise.nil
  | x :: xs => by
    unfold uniq
    split
    · exact uniq_nodup xs
    · rename_i h
      exact List.nodup_cons.mpr ⟨fun z => h (mem_uniq.mp z), uniq_nodup xs⟩
theorem uniq_le : ∀ l : List Int, (uniq l).length ≤ l.length
  | [] => Nat.le_refl _
  | x :: xs => by
    have := uniq_le xs
    unfold uniq
    split
    · rw [List.length_cons]; omega
    · rw [List.length_cons, List.length_cons]; omega
theorem uniq_all {l : List Int} (h : l.Nodup) : (uniq l).length = l.length := len_nodup (uniq_nodup l) h fun _ => mem_uniq
section
variable {X : Cx}
def rSetN (K : PySem.W.Frag) (w : World) : List V → Hp → VK → Prop := fun vs H Q => ∃ (p : Addr) (ns : List Int), vs = [.ref p] ∧ SqL K H p (ns.map V.int) ∧ ns.length ≤ 4000 ∧ ∀ q, H q = none → Q (.ref q) (upd H q (SetO w q (fun j => decide (j ∈ ns)) (uniq ns).length))
theorem cr_setN (hc : X.calm = true) : CallR X (.type "set") (rSetN X.K X.w) := by
  intro pins s σ H vs us Q I r h
  obtain ⟨p, ns, rfl, hp, hl, q⟩ := h
  rw [Vals.ref1 r]
  obtain ⟨its, rv, pl, hz⟩ := I.list hp
  refine call_set_ints (P := X.prog) (xs := ns) (I.ok.hd hc) pl.isList (ints_of_vals rv) (by unfold scanBound; omega) fun h2 tk c R m k => ?_
  have hn : H s.heap.objs.size = none := I.hok.fresh (Nat.le_refl _)
  have hc : c = (uniq ns).length := by
    obtain ⟨o, es, ep, t, _, _, _, _, nd, hm, _, _, hn, _⟩ := R
    rw [← hn, ← Array.length_toList, ← List.length_map (f := keyOf)]
    exact len_nodup nd (uniq_nodup ns) fun z => (hm z).symm.trans (decide_eq_true_iff.trans mem_uniq.symm)
  subst hc
  exact ⟨.ref _, upd H s.heap.objs.size (SetO X.w s.heap.objs.size (fun j => decide (j ∈ ns)) (uniq ns).length), I.laid (t' := tk) k (Nat.le_refl _) (setO_new R), rfl, q _ hn⟩
theorem ksetN {K : PySem.W.Frag} {w : World} (hc : X.calm = true := by rfl) (hK : X.K = K := by rfl) (hw : X.w = w := by rfl) : CallR X (.type "set") (rSetN K w) := by
  subst hK hw
  exact cr_setN hc
def rLenO (w : World) : List V → Hp → VK → Prop := fun vs H Q => ∃ (p : Addr) (S : Int → Bool) (n : Nat), vs = [.ref p] ∧ H p = some (SetO w p S n) ∧ n ≤ 4000 ∧ Q (.int (n : Int)) H
theorem cr_lenO : CallR X (.builtin "len") (rLenO X.w) := by
  intro pins s σ H vs us Q I r h
  obtain ⟨p, S, n, rfl, hp, hl, q⟩ := h
  rw [Vals.ref1 r]
  obtain ⟨o, es, ep, t, ho, hex, hd, _, _, _, _, hf, hn, _⟩ := setO_get I hp
  exact call_len_set ho hex hd hf (by omega) ⟨.int (n : Int), H, I.tok _, ⟨_, by rw [hn]⟩, q⟩
theorem kLenO {w : World} (hw : X.w = w := by rfl) : CallR X (.builtin "len") (rLenO w) := by
  subst hw
  exact cr_lenO
def rDictP (K : PySem.W.Frag) : List V → Hp → VK → Prop := fun xs H Q => ∃ (a : Addr) (ps : List Addr) (kvs : List (Key × V)), xs = [.ref a] ∧ SqL K H a (ps.map V.ref) ∧ Paired (fun p kv => SqT K H p [kV kv.1, kv.2]) ps kvs ∧
    ∀ p, H p = none → Q (.ref p) (upd H p (.dK (mergeK [] kvs)))
theorem kDictP {K : PySem.W.Frag} (hc : X.calm = true := by rfl) (hK : X.K = K := by rfl) : CallR X (.type "dict") (rDictP K) := by
  subst hK
  exact call_dictP hc
end
section
variable {K : PySem.W.Frag} {w : World} {σ : L2.St} {H : Hp} {ta td ty tv : TE} {D : Ends}
theorem ev_lenSet {p : Addr} {ns : List Int} (h : Ev ta σ H (.ref p)) (hp : SqL K H p (ns.map V.int)) (hl : ns.length ≤ 4000) : Ev (tCB (rLenO w) (tCons (tCB (rSetN K w) (tCons ta tNil)) tNil)) σ H (.int ((uniq ns).length : Int)) := fun H1 e Q q =>
  h H1 e _ fun H2 e2 => ⟨p, ns, rfl, ex_l (e.trans e2) hp, hl, fun r hr => ⟨r, _, _, rfl, upd_same, by have := uniq_le ns; omega, q _ (e2.trans (Ex.new hr))⟩⟩
/-! ### dicts as sets of numbers -/
def DS (ks : List Nat) : List (Key × V) := ks.map fun (n : Nat) => ((Sum.inl (n : Int) : Key), V.bl true)
def addN (ks : List Nat) (n : Nat) : List Nat := if n ∈ ks then ks else ks ++ [n]
theorem mem_addN {ks : List Nat} {n m : Nat} : m ∈ addN ks n ↔ m ∈ ks ∨ m = n := by
  unfold addN
  split
  · rename_i h
    exact ⟨.inl, fun z => z.elim id fun e => e ▸ h⟩
  · rw [List.mem_append, List.mem_singleton]
theorem addN_nodup {ks : List Nat} {n : Nat} (h : ks.Nodup) : (addN ks n).Nodup := by
  unfold addN
  split
  · exact h
  · rename_i hn
    refine List.nodup_append.mpr ⟨h, List.pairwise_singleton _ _, fun a ha b hb => ?_⟩
    rw [List.mem_singleton.mp hb]
    exact fun z => hn (z ▸ ha)
theorem addN_len (ks : List Nat) (n : Nat) : (addN ks n).length ≤ ks.length + 1 := by
  unfold addN
  split
  · omega
  · simp
theorem val_DS (ks : List Nat) (n : Nat) : valV (DS ks) (Sum.inl (n : Int)) = if n ∈ ks then some (.bl true) else none := by
  induction ks with
  | nil => rfl
  | cons m ks ih =>
    by_cases h : m = n
    · subst h
      show valV ((Sum.inl (m : Int), V.bl true) :: DS ks) _ = _
      rw [valV_pos rfl, if_pos List.mem_cons_self]
    · show valV ((Sum.inl (m : Int), V.bl true) :: DS ks) _ = _
      rw [valV_neg (fun z => h (Int.ofNat.inj (Sum.inl.inj z))), ih]
      by_cases h2 : n ∈ ks
      · rw [if_pos h2, if_pos (List.mem_cons_of_mem _ h2)]
      · rw [if_neg h2, if_neg fun z => (List.mem_cons.mp z).elim (fun e => h e.symm) h2]
theorem put_DS (ks : List Nat) (n : Nat) : putK (DS ks) (Sum.inl (n : Int)) (.bl true) = DS (addN ks n) := by
  have ha := valV_any (Sum.inl (n : Int) : Key) (DS ks)
  rw [val_DS] at ha
  unfold putK addN
  by_cases h : n ∈ ks
  · rw [if_pos h] at ha
    rw [if_pos (show ((DS ks).any fun kv => decide (kv.1 = (Sum.inl (n : Int) : Key))) = true from ha), if_pos h]
    unfold DS
    rw [List.map_map]
    refine List.map_congr_left fun m _ => ?_
    show (if (Sum.inl (m : Int) : Key) = Sum.inl (n : Int) then _ else _) = _
    split <;> rfl
  · rw [if_neg h] at ha
    rw [if_neg (show ¬ ((DS ks).any fun kv => decide (kv.1 = (Sum.inl (n : Int) : Key))) = true from fun z => Bool.false_ne_true (ha.symm.trans z)), if_neg h]
    unfold DS
    rw [List.map_append]
    rfl
theorem DS_len (ks : List Nat) : (DS ks).length = ks.length := by unfold DS; rw [List.length_map]
/-- d[n] = True -/
theorem s_putD {d : Addr} {ks : List Nat} {n : Nat} (hd : Ev td σ H (.ref d)) (hn : Ev ty σ H (.int (n : Int))) (h : H d = some (.dK (DS ks))) (hl : ks.length ≤ 10000) (k : ∀ H1, Ex H H1 → D.nx σ (upd H1 d (.dK (DS (addN ks n))))) : sDPut td ty (tC (.bl true)) D σ H :=
  hd H (Ex.refl _) _ fun H2 e2 => hn H2 e2 _ fun H3 e3 => ⟨d, _, rfl, DPut.k (k := Sum.inl (n : Int)) ((e2.trans e3) _ _ h) (by rw [DS_len]; unfold sizeLine; omega), by rw [put_DS]; exact k H3 (e2.trans e3)⟩
theorem q_putD {tz : TS} {d : Addr} {ks : List Nat} {n : Nat} (hd : Ev td σ H (.ref d)) (hn : Ev ty σ H (.int (n : Int))) (h : H d = some (.dK (DS ks))) (hl : ks.length ≤ 10000) (k : ∀ H1, Ex H H1 → tz D σ (upd H1 d (.dK (DS (addN ks n))))) : tSeq (sDPut td ty (tC (.bl true))) tz D σ H := s_putD (D := { D with nx := tz D }) hd hn h hl k
theorem some_if {b : Prop} [Decidable b] {v : V} : (if b then some v else none).isSome = decide b := by
  by_cases h : b
  · rw [if_pos h, decide_eq_true h]; rfl
  · rw [if_neg h, decide_eq_false h]; rfl
theorem ev_inD {d : Addr} {ks : List Nat} {n : Nat} (hn : Ev ty σ H (.int (n : Int))) (hd : Ev td σ H (.ref d)) (h : H d = some (.dK (DS ks))) : Ev (tDIn ty td) σ H (.bl (decide (n ∈ ks))) := fun H1 e Q q =>
  hn H1 e _ fun H2 e2 => hd H2 (e.trans e2) _ fun H3 e3 => ⟨d, _, rfl, DGet.k (k := Sum.inl (n : Int)) (((e.trans e2).trans e3) _ _ h), by rw [val_DS, some_if]; exact q H3 (e2.trans e3)⟩
theorem ev_notinD {d : Addr} {ks : List Nat} {n : Nat} (hn : Ev ty σ H (.int (n : Int))) (hd : Ev td σ H (.ref d)) (h : H d = some (.dK (DS ks))) : Ev (tDNotIn ty td) σ H (.bl (!decide (n ∈ ks))) := fun H1 e Q q =>
  hn H1 e _ fun H2 e2 => hd H2 (e.trans e2) _ fun H3 e3 => ⟨d, _, rfl, DGet.k (k := Sum.inl (n : Int)) (((e.trans e2).trans e3) _ _ h), by rw [val_DS, some_if]; exact q H3 (e2.trans e3)⟩
/-- list(d) -/
theorem el_listD {d : Addr} {ks : List Nat} (hd : Ev td σ H (.ref d)) (h : H d = some (.dK (DS ks))) : EvL (tCB rListD (tCons td tNil)) σ H (ks.map fun (n : Nat) => V.int (n : Int)) := fun H1 e Q q =>
  hd H1 e _ fun H2 e2 => ⟨d, DS ks, rfl, (e.trans e2) _ _ h, fun r hr => q r _ (fresh_back e2 hr) (e2.trans (Ex.new hr)) (by
    rw [upd_same]
    unfold DS
    rw [List.map_map]
    rfl)⟩
end
/-! ### numbers, ascending -/
/-- the members of ks, ascending, below n -/
def asc (n : Nat) (p : Nat → Bool) : List Nat := (List.range n).filter p
theorem asc_lt (n : Nat) (p : Nat → Bool) : (asc n p).Pairwise (· < ·) := List.Pairwise.filter _ List.pairwise_lt_range
theorem sorted_is {l l' : List Int} (h1 : l.Pairwise (· ≤ ·)) (h2 : l'.Pairwise (· ≤ ·)) (h : l.Perm l') : l = l' := h.eq_of_pairwise (fun a b _ _ h1 h2 => Int.le_antisymm h1 h2) h1 h2
/-- what any ascending order of ks is -/
theorem asc_is {n : Nat} {p : Nat → Bool} {ks : List Nat} {ys : List Int} (hk : ks.Nodup) (hm : ∀ m, m ∈ ks ↔ m < n ∧ p m = true) (hp : ys.Perm (ks.map fun (m : Nat) => (m : Int))) (hs : ys.Pairwise (· ≤ ·)) : ys = (asc n p).map fun (m : Nat) => (m : Int) := by
  refine sorted_is hs ?_ (hp.trans (List.Perm.map _ ?_))
  · exact List.pairwise_map.mpr ((asc_lt n p).imp fun h => by omega)
  · refine (List.perm_ext_iff_of_nodup hk ((asc_lt n p).imp fun h => Nat.ne_of_lt h)).mpr fun m => ?_
    unfold asc
    rw [hm, List.mem_filter, List.mem_range]
end Wd
set_option Elab.async false
set_option linter.all false
set_option maxRecDepth 100000
set_option maxHeartbeats 2000000
/-! dict comprehensions, comprehensions of two clauses -/
namespace Wd
open PySem PySem.Spec PyProof.Rows L2 Evl Wc Wt Wg
section
variable {J : It} {n : Nat} {G : Hp → Prop} {Y : Nat → Hp → V → Hp → Prop}
theorem dc_it (w : Walk J n G Y) {g : TG} {tt : TT} {tk tv : TE} {vs : List Nat} {σ : L2.St} {H1 : Hp} {D : Addr} {Qd : Hp → Prop} (Pv : Nat → Hp → Prop) (h0 : Pv 0 (upd H1 D (.dK []))) (hG : ∀ i H, i ≤ n → Pv i H → G H)
    (hs : ∀ i x H H', i < n → Pv i H → Y i H x H' → g x (wipe σ vs) H' fun σ2 H2 => wipe σ2 vs = wipe σ vs ∧ tt σ2 H2 fun b H3 =>
      if b = true then tk σ2 H3 fun y H4 => tv σ2 H4 fun z H5 => ∃ kvs k, y = kV k ∧ H5 D = some (.dK kvs) ∧ kvs.length < sizeLine ∧ Pv (i + 1) (upd H5 D (.dK (putK kvs k z))) else Pv (i + 1) H3) (hd : ∀ H, Pv n H → Qd H) :
    ∃ W : Nat → Nat → Hp → Prop, (∃ m, W 0 m (upd H1 D (.dK []))) ∧ ∀ i m H, W i m H →
      (J.stop i H ∧ Qd H) ∨ (J.go i H ∧ ∃ Nx : Hp → Prop, (∀ H', Nx H' → ∃ m', m' < m ∧ W (i + 1) m' H') ∧ ∀ x H', J.yld i H x H' → g x (wipe σ vs) H' fun σ2 H2 => wipe σ2 vs = wipe σ vs ∧ tt σ2 H2 fun b H3 =>
        if b = true then tk σ2 H3 fun y H4 => tv σ2 H4 fun z H5 => ∃ kvs k, y = kV k ∧ H5 D = some (.dK kvs) ∧ kvs.length < sizeLine ∧ Nx (upd H5 D (.dK (putK kvs k z))) else Nx H3) := by
  refine ⟨fun i m H => m = n - i ∧ i ≤ n ∧ Pv i H, ⟨n, by simp, Nat.zero_le _, h0⟩, ?_⟩
  rintro i m H ⟨rfl, hi, p⟩
  have q := hG i H hi p
  by_cases hlt : i < n
  · exact .inr ⟨w.goes i H hlt q, Pv (i + 1), fun H' p' => ⟨n - (i + 1), by omega, rfl, hlt, p'⟩, fun x H' y => hs i x H H' hlt p (w.yields i H x H' hlt q y)⟩
  · have e : i = n := by omega
    subst e
    exact .inl ⟨w.stops H q, hd H p⟩
theorem in_it (w : Walk J n G Y) {g : TG} {tt : TT} {te : TE} {vs : List Nat} {σ : L2.St} {H1 : Hp} {D : Addr} {Qd : Hp → Prop} (Pv : Nat → Hp → Prop) (h0 : Pv 0 H1) (hG : ∀ i H, i ≤ n → Pv i H → G H)
    (hs : ∀ i x H H', i < n → Pv i H → Y i H x H' → g x (wipe σ vs) H' fun σ2 H2 => wipe σ2 vs = wipe σ vs ∧ tt σ2 H2 fun b H3 =>
      if b = true then te σ2 H3 fun y H4 => ∃ acc, H4 D = some (.lst acc) ∧ acc.length < sizeLine ∧ Pv (i + 1) (upd H4 D (.lst (acc ++ [y]))) else Pv (i + 1) H3) (hd : ∀ H, Pv n H → Qd H) :
    ∃ W : Nat → Nat → Hp → Prop, (∃ m, W 0 m H1) ∧ ∀ i m H, W i m H →
      (J.stop i H ∧ Qd H) ∨ (J.go i H ∧ ∃ Nx : Hp → Prop, (∀ H', Nx H' → ∃ m', m' < m ∧ W (i + 1) m' H') ∧ ∀ x H', J.yld i H x H' → g x (wipe σ vs) H' fun σ2 H2 => wipe σ2 vs = wipe σ vs ∧ tt σ2 H2 fun b H3 =>
        if b = true then te σ2 H3 fun y H4 => ∃ acc, H4 D = some (.lst acc) ∧ acc.length < sizeLine ∧ Nx (upd H4 D (.lst (acc ++ [y]))) else Nx H3) := by
  refine ⟨fun i m H => m = n - i ∧ i ≤ n ∧ Pv i H, ⟨n, by simp, Nat.zero_le _, h0⟩, ?_⟩
  rintro i m H ⟨rfl, hi, p⟩
  have q := hG i H hi p
  by_cases hlt : i < n
  · exact .inr ⟨w.goes i H hlt q, Pv (i + 1), fun H' p' => ⟨n - (i + 1), by omega, rfl, hlt, p'⟩, fun x H' y => hs i x H H' hlt p (w.yields i H x H' hlt q y)⟩
  · have e : i = n := by omega
    subst e
    exact .inl ⟨w.stops H q, hd H p⟩
end
def addAll (ks ns : List Nat) : List Nat := ns.foldl addN ks
theorem mem_addAll {m : Nat} : ∀ {ns ks : List Nat}, m ∈ addAll ks ns ↔ m ∈ ks ∨ m ∈ ns
  | [], ks => ⟨.inl, fun z => z.elim id fun h => nomatch h⟩
  | n :: ns, ks => by
    show m ∈ addAll (addN ks n) ns ↔ _
    rw [mem_addAll, mem_addN, List.mem_cons, or_assoc]
theorem addAll_nodup : ∀ {ns ks : List Nat}, ks.Nodup → (addAll ks ns).Nodup
  | [], _, h => h
  | n :: ns, ks, h => addAll_nodup (ns := ns) (addN_nodup h)
theorem addAll_len : ∀ (ns ks : List Nat), (addAll ks ns).length ≤ ks.length + ns.length
  | [], _ => Nat.le_refl _
  | n :: ns, ks => by
    have h1 := addAll_len ns (addN ks n)
    have h2 := addN_len ks n
    show (addAll (addN ks n) ns).length ≤ _
    rw [List.length_cons]
    omega
theorem addAll_succ {ns : List Nat} {i n : Nat} (h : ns[i]? = some n) : addAll [] (ns.take (i + 1)) = addN (addAll [] (ns.take i)) n := by
  rw [List.take_add_one, h]
  unfold addAll
  rw [List.foldl_append]
  rfl
section
variable {K : PySem.W.Frag} {σ : L2.St} {H : Hp} {te : TE} {Q : VK}
/-- {n: True for n in ns} -/
theorem dc_nums {wi : TI} {j : Nat} {vs : List Nat} {own : Addr → Prop} (ns : List Nat) (hs : Src wi σ H ns.length own (fun i v _ => (ns.map fun (n : Nat) => V.int (n : Int))[i]? = some v)) (hn : ns.length ≤ 4000) (hw : ∀ x, wipe ((wipe σ vs).set j (some x)) vs = wipe σ vs) (hj : ∀ x, ((wipe σ vs).set j (some x))[j]? = some (some x))
    (k : ∀ d H2, H d = none → Ex H H2 → H2 d = some (.dK (DS (addAll [] ns))) → Q (.ref d) H2) : tDc wi (gName j) tYes (tVar j) (tC (.bl true)) vs σ H Q :=
  hs H (Ex.refl H) _ fun J H1 S e1 w hS => fun Dl hD => by
    refine dc_it w (Qd := fun H3 => Q (.ref Dl) H3) (fun i Hi => Ex H1 Hi ∧ Hi Dl = some (.dK (DS (addAll [] (ns.take i))))) ?_ (fun i Hi hi p => hS (fun _ => False) Hi (fun b z => z.elim) (.of p.1)) ?_ ?_
    · exact ⟨Ex.new hD, upd_same⟩
    · rintro i x Ha Hb hi ⟨R, h1⟩ ⟨ey, hP⟩
      obtain ⟨n, hn1, rfl⟩ := at_map hP
      refine ⟨hw _, ?_⟩
      unfold tYes
      dsimp only
      rw [if_pos rfl]
      refine ⟨.int (n : Int), hj _, ?_⟩
      have hl := addAll_len (ns.take i) []
      refine ⟨DS (addAll [] (ns.take i)), Sum.inl (n : Int), rfl, ey _ _ h1, ?_, Ex.mut (R.trans ey) hD, ?_⟩
      · rw [DS_len]
        rw [List.length_take] at hl
        have : ([] : List Nat).length = 0 := rfl
        unfold sizeLine
        omega
      · rw [upd_same, put_DS, addAll_succ hn1]
    · rintro H3 ⟨R, h1⟩
      rw [List.take_length] at h1
      exact k Dl H3 (fresh_back e1 hD) (e1.trans R) h1
theorem sum_part {α : Type} (f : α → Nat) (xs : List α) (i : Nat) : ((xs.take i).map f).sum ≤ (xs.map f).sum := by
  conv => rhs; rw [← List.take_append_drop i xs, List.map_append, List.sum_append]
  omega
/-- [g a b for a in xs for b in ys a] -/
theorem el_lc2 {α β : Type} {wi wi1 : TI} {j j1 : Nat} {vs vs1 : List Nat} {own : Addr → Prop} {own1 : α → Addr → Prop} {f : α → V} {h : β → V} {g : α → β → V} (xs : List α) (ys : α → List β) (hs : Src wi σ H xs.length own (fun i v _ => (xs.map f)[i]? = some v))
    (hs1 : ∀ a H1, Ex H H1 → a ∈ xs → Src wi1 ((wipe σ vs).set j (some (f a))) H1 (ys a).length (own1 a) (fun i v _ => ((ys a).map h)[i]? = some v))
    (ho : ∀ a c, own1 a c → H c ≠ none) (hz : (xs.map fun a => (ys a).length).sum ≤ 40000) (hw : ∀ x, wipe ((wipe σ vs).set j (some x)) vs = wipe σ vs) (hw1 : ∀ x y, wipe ((wipe ((wipe σ vs).set j (some x)) vs1).set j1 (some y)) vs1 = wipe ((wipe σ vs).set j (some x)) vs1)
    (he : ∀ a b H1, Ex H H1 → a ∈ xs → b ∈ ys a → Ev te ((wipe ((wipe σ vs).set j (some (f a))) vs1).set j1 (some (h b))) H1 (g a b)) :
    EvL (tLc2 wi (gName j) tYes wi1 (gName j1) tYes te vs vs1) σ H (xs.flatMap fun a => (ys a).map (g a)) := fun H0 e0 Q q => hs H0 e0 _ fun J H1 S e1 w hS => fun Dl hD => by
  have e01 := e0.trans e1
  refine ⟨fun i m Hi => m = xs.length - i ∧ i ≤ xs.length ∧ Ex H1 Hi ∧ Hi Dl = some (.lst ((xs.take i).flatMap fun a => (ys a).map (g a))), ⟨xs.length, by simp, Nat.zero_le _, Ex.new hD, upd_same⟩, ?_⟩
  rintro i m Hi ⟨rfl, hi, hE, hL⟩
  have hG : S Hi := hS (fun _ => False) Hi (fun b z => z.elim) (.of hE)
  by_cases hlt : i < xs.length
  · refine .inr ⟨w.goes i Hi hlt hG, fun H' => Ex H1 H' ∧ H' Dl = some (.lst ((xs.take (i + 1)).flatMap fun a => (ys a).map (g a))), fun H' p' => ⟨xs.length - (i + 1), by omega, rfl, hlt, p'.1, p'.2⟩, fun x H' y => ?_⟩
    obtain ⟨ey, hP⟩ := w.yields i Hi x H' hlt hG y
    obtain ⟨a, ha, rfl⟩ := at_map hP
    have ham := List.mem_of_getElem? ha
    have hEy := hE.trans ey
    refine ⟨hw _, ?_⟩
    show wi1 ((wipe σ vs).set j (some (f a))) H' _
    refine hs1 a H' (e01.trans hEy) ham H' (Ex.refl _) _ fun J1 H4 S1 e4 w1 hS1 => ?_
    have hL4 : H4 Dl = some (.lst ((xs.take i).flatMap fun a => (ys a).map (g a))) := e4 _ _ (ey _ _ hL)
    have hE4 := hEy.trans e4
    have htk : (xs.take (i + 1)).flatMap (fun a => (ys a).map (g a)) = (xs.take i).flatMap (fun a => (ys a).map (g a)) ++ (ys a).map (g a) := by
      rw [List.take_add_one, ha, List.flatMap_append]
      simp
    refine in_it w1 (Qd := fun H' => Ex H1 H' ∧ H' Dl = some (.lst ((xs.take (i + 1)).flatMap fun a => (ys a).map (g a)))) (fun t Ht => Ex H1 Ht ∧ Exc (fun c => c = Dl) H4 Ht ∧ Ht Dl = some (.lst ((xs.take i).flatMap (fun a => (ys a).map (g a)) ++ ((ys a).take t).map (g a)))) ?_ ?_ ?_ ?_
    · exact ⟨hE4, Exc.refl _, by rw [hL4]; simp⟩
    · intro t Ht ht p
      refine hS1 (fun c => c = Dl) Ht (fun b z => ?_) p.2.1
      subst z
      exact ⟨(by rw [ey _ _ hL]; exact fun z => nomatch z), fun z => ho a b z (fresh_back e01 hD)⟩
    · rintro t y Ht Hu ht ⟨p1, p2, p3⟩ ⟨eu, hy⟩
      obtain ⟨b, hb, rfl⟩ := at_map hy
      refine ⟨hw1 _ _, ?_⟩
      show te ((wipe ((wipe σ vs).set j (some (f a))) vs1).set j1 (some (h b))) Hu fun y H7 => _
      refine he a b Hu (e01.trans (p1.trans eu)) ham (List.mem_of_getElem? hb) Hu (Ex.refl _) _ fun H7 e7 => ?_
      refine ⟨_, e7 _ _ (eu _ _ p3), ?_, Ex.mut (p1.trans (eu.trans e7)) hD, (p2.then (eu.trans e7)).upd (.inl rfl), ?_⟩
      · refine sz_lt ?_
        rw [List.length_append, List.length_flatMap, List.length_map, List.length_take]
        have h1 := sum_part (fun a => (ys a).length) xs (i + 1)
        rw [List.take_add_one, ha, List.map_append, List.sum_append] at h1
        simp at h1 ⊢
        omega
      · rw [upd_same, List.take_add_one, hb, List.map_append, List.append_assoc]
        rfl
    · rintro Ht ⟨p1, _, p3⟩
      rw [List.take_length] at p3
      exact ⟨p1, by rw [p3, htk]⟩
  · have e : i = xs.length := by omega
    subst e
    rw [List.take_length] at hL
    exact .inl ⟨w.stops Hi hG, q Dl Hi (fresh_back e1 hD) (e1.trans hE) hL⟩
end
end Wd
set_option Elab.async false
set_option linter.all false
set_option maxRecDepth 100000
set_option maxHeartbeats 2000000
/-! set comprehensions of any kind of things -/
namespace Ws
open PySem PySem.Spec PyProof.Rows L2 Evl Wc Wt Wg Wd
/-- how a set of some kind begins (nw) and takes one thing more (ad) -/
structure Fill (P : Program) (w : World) (nw : Addr → HO) (ad : Addr → HO → V → HO → Prop) : Prop where
  new : ∀ (H : Hp) (h : Heap), ObjOk P w H (h.push (so w)) h.objs.size (nw h.objs.size)
  add : ∀ (X : Cx), X.prog = P → X.w = w → ∀ (pins : List (Addr × Obj)) (σ : L2.St) (H : Hp) (s : Shared) (E : Value → Shared → Prop) (D : Addr) (o o' : HO) (y : V) (v : Value) (Q : Value → Shared → Prop), Inv X pins σ H s → H D = some o → ad D o y o' → RelV y v →
    (∀ s', Inv X pins σ (upd H D o') s' → Q .none s') → wpAny (model X.prog X.w) X.A (call (.builtin "set.add") [.ref D, v]) Q E s
/-- one turn's end: the thing y goes into the set at D, behind it Z -/
def tInto (ad : Addr → HO → V → HO → Prop) (D : Addr) (Z : Hp → Prop) : VK := fun y H => ∃ o o', H D = some o ∧ ad D o y o' ∧ Z (upd H D o')
/-- {te for g in wi if tt} -/
def tSet (nw : Addr → HO) (ad : Addr → HO → V → HO → Prop) (wi : TI) (g : TG) (tt : TT) (te : TE) (vs : List Nat) : TE := fun σ H Q => wi σ H fun J H1 => ∀ D, H1 D = none → ∃ W : Nat → Nat → Hp → Prop, (∃ m, W 0 m (upd H1 D (nw D))) ∧ ∀ i m H, W i m H →
  (J.stop i H ∧ Q (.ref D) H) ∨ (J.go i H ∧ ∃ Z : Hp → Prop, (∀ H', Z H' → ∃ m', m' < m ∧ W (i + 1) m' H') ∧ ∀ x H', J.yld i H x H' →
    g x (wipe σ vs) H' fun σ2 H2 => wipe σ2 vs = wipe σ vs ∧ tt σ2 H2 fun b H3 => if b = true then te σ2 H3 (tInto ad D Z) else Z H3)
/-- {te for g in wi if tt for g1 in wi1 if tt1} -/
def tSet2 (nw : Addr → HO) (ad : Addr → HO → V → HO → Prop) (wi : TI) (g : TG) (tt : TT) (wi1 : TI) (g1 : TG) (tt1 : TT) (te : TE) (vs vs1 : List Nat) : TE := fun σ H Q => wi σ H fun J H1 => ∀ D, H1 D = none → ∃ W : Nat → Nat → Hp → Prop, (∃ m, W 0 m (upd H1 D (nw D))) ∧ ∀ i m H, W i m H →
  (J.stop i H ∧ Q (.ref D) H) ∨ (J.go i H ∧ ∃ Z : Hp → Prop, (∀ H', Z H' → ∃ m', m' < m ∧ W (i + 1) m' H') ∧ ∀ x H', J.yld i H x H' →
    g x (wipe σ vs) H' fun σ2 H2 => wipe σ2 vs = wipe σ vs ∧ tt σ2 H2 fun b H3 => if b = true then
      wi1 σ2 H3 fun J1 H4 => ∃ W1 : Nat → Nat → Hp → Prop, (∃ m, W1 0 m H4) ∧ ∀ j k H, W1 j k H →
        (J1.stop j H ∧ Z H) ∨ (J1.go j H ∧ ∃ Z1 : Hp → Prop, (∀ H', Z1 H' → ∃ k', k' < k ∧ W1 (j + 1) k' H') ∧ ∀ x H', J1.yld j H x H' →
          g1 x (wipe σ2 vs1) H' fun σ3 H5 => wipe σ3 vs1 = wipe σ2 vs1 ∧ tt1 σ3 H5 fun b H6 => if b = true then te σ3 H6 (tInto ad D Z1) else Z1 H6)
    else Z H3)
/-! ### the turns of two clauses -/
section
variable {prog : Program} {w : World} {A : Around} {R : Result → Shared → Prop} {s : Shared} {elt t0 i0 t1 i1 : Expr} {ifs0 ifs1 : List Expr} {scope : Scope} {pos : Pos} {it acc : Value} {env : Env}
theorem turn_first (elt t0 i0 t1 i1 : Expr) (ifs0 ifs1 : List Expr) (scope : Scope) (pos : Pos) (it acc : Value) (env : Env) :
    compTurn (.SetComp elt [⟨t0, i0, ifs0, 0⟩, ⟨t1, i1, ifs1, 0⟩] scope pos) 0 it acc env = (do
      standAt i0.pos
      match ← pyNext it with
      | none => pure (.done .next)
      | some v =>
        letOwnedTupleGo t0 it v
        assign t0 env v
        let mut ok := true
        for c in ifs0 do
          if ok then ok ← isTrue c env (eval c env)
        if ok then
          let x ← eval i1 env
          standAt i1.pos
          let x ← foldedSetIterable i1 env x
          let _ ← runOwn (.compStart (.SetComp elt [⟨t0, i0, ifs0, 0⟩, ⟨t1, i1, ifs1, 0⟩] scope pos) 1 (← holding [x] (pyIter x)) acc env) env
        again (.compLoop (.SetComp elt [⟨t0, i0, ifs0, 0⟩, ⟨t1, i1, ifs1, 0⟩] scope pos) 0 it acc env)) := by rfl
theorem turn_second (elt t0 i0 t1 i1 : Expr) (ifs0 ifs1 : List Expr) (scope : Scope) (pos : Pos) (it acc : Value) (env : Env) :
    compTurn (.SetComp elt [⟨t0, i0, ifs0, 0⟩, ⟨t1, i1, ifs1, 0⟩] scope pos) 1 it acc env = (do
      standAt i1.pos
      match ← pyNext it with
      | none => pure (.done .next)
      | some v =>
        letOwnedTupleGo t1 it v
        assign t1 env v
        let mut ok := true
        for c in ifs1 do
          if ok then ok ← isTrue c env (eval c env)
        if ok then
          (do let v ← eval elt env; standAt elt.pos; let _ ← call (.builtin "set.add") [acc, v])
        again (.compLoop (.SetComp elt [⟨t0, i0, ifs0, 0⟩, ⟨t1, i1, ifs1, 0⟩] scope pos) 1 it acc env)) := by rfl
/-- a raise out of the block -/
abbrev Out (prog : Program) (w : World) (A : Around) (env : Env) (R : Result → Shared → Prop) : Value → Shared → Prop := notedBy (model prog w) A env fun e s' => R (.error e) s'
/-- the tests of a clause -/
abbrev oks (ifs : List Expr) (env : Env) : Sem Bool := forIn ifs true fun c r => if r = true then do let ok ← isTrue c env (eval c env); pure (ForInStep.yield ok) else pure (ForInStep.yield r)
theorem loop_first (hs : ∀ x, foldedSetIterable i1 env x = pure x) (I : Nat → Shared → Prop)
    (turn : ∀ n s, I n s → wpAny (model prog w) A (pyNext it) (fun r s₁ => match r with
      | none => R (.ok .next) s₁
      | some v => wpAny (model prog w) A (letOwnedTupleGo t0 it v) (fun _ s₂ => wpAny (model prog w) A (assign t0 env v) (fun _ s₃ => wpAny (model prog w) A (oks ifs0 env) (fun ok s₄ =>
            if ok = true then wpAny (model prog w) A (eval i1 env) (fun x s₅ => wpAny (model prog w) A (pyIter x) (fun it1 s₆ =>
              codeAny (model prog w) A (.compStart (.SetComp elt [⟨t0, i0, ifs0, 0⟩, ⟨t1, i1, ifs1, 0⟩] scope pos) 1 it1 acc env) (fun r s' => match r with
                | .ok _ => ∃ m, m < n ∧ I m s'
                | .error _ => False) s₆) (Out prog w A env R) s₅) (Out prog w A env R) s₄
            else ∃ m, m < n ∧ I m s₄) (Out prog w A env R) s₃) (Out prog w A env R) s₂) (Out prog w A env R) s₁) (Out prog w A env R) s)
    (n : Nat) (h : I n s) : codeAny (model prog w) A (.compLoop (.SetComp elt [⟨t0, i0, ifs0, 0⟩, ⟨t1, i1, ifs1, 0⟩] scope pos) 0 it acc env) R s := by
  refine codeAny_loop rfl I (fun n s hI => ?_) n h
  show wpAny _ A ((compTurn (.SetComp elt [⟨t0, i0, ifs0, 0⟩, ⟨t1, i1, ifs1, 0⟩] scope pos) 0 it acc env).onRaise (fun x => do noteFrame x env; theTreesLotGoes x)) _ _ s
  refine wpAny_noted ?_
  rw [turn_first]
  refine wpAny_bind (wpAny_standAt (wpAny_bind (wpAny_mono (turn n s hI) (fun r s₁ h₁ => ?_) fun _ _ z => z)))
  cases r with
  | none => exact wpAny_pure h₁
  | some v =>
    refine wpAny_bind (wpAny_mono h₁ (fun _ s₂ h₂ => wpAny_bind (wpAny_mono h₂ (fun _ s₃ h₃ => wpAny_bind (wpAny_mono h₃ (fun ok s₄ h₄ => ?_) fun _ _ z => z)) fun _ _ z => z)) fun _ _ z => z)
    cases ok with
    | false => exact wpAny_pure ⟨rfl, h₄⟩
    | true =>
      refine wpAny_bind (wpAny_mono h₄ (fun x s₅ h₅ => wpAny_bind (wpAny_standAt (wpAny_bind (wpAny_of_eq (hs x) (wpAny_bind (wpAny_holding (wpAny_mono h₅ (fun it1 s₆ h₆ => wpAny_bind (wpAny_runOwn ?_)) fun _ _ z => z))))))) fun _ _ z => z)
      rw [Around.mark_none]
      refine codeAny_mono h₆ fun r s' hr => ?_
      cases r with
      | error e => exact hr.elim
      | ok f => first | exact wpAny_pure ⟨rfl, hr⟩ | exact wpAny_bind (wpAny_pure (wpAny_pure ⟨rfl, hr⟩))
theorem loop_second (I : Nat → Shared → Prop)
    (turn : ∀ n s, I n s → wpAny (model prog w) A (pyNext it) (fun r s₁ => match r with
      | none => R (.ok .next) s₁
      | some v => wpAny (model prog w) A (letOwnedTupleGo t1 it v) (fun _ s₂ => wpAny (model prog w) A (assign t1 env v) (fun _ s₃ => wpAny (model prog w) A (oks ifs1 env) (fun ok s₄ =>
            if ok = true then wpAny (model prog w) A (eval elt env) (fun x s₅ => wpAny (model prog w) A (call (.builtin "set.add") [acc, x]) (fun _ s₆ => ∃ m, m < n ∧ I m s₆) (Out prog w A env R) s₅) (Out prog w A env R) s₄
            else ∃ m, m < n ∧ I m s₄) (Out prog w A env R) s₃) (Out prog w A env R) s₂) (Out prog w A env R) s₁) (Out prog w A env R) s)
    (n : Nat) (h : I n s) : codeAny (model prog w) A (.compLoop (.SetComp elt [⟨t0, i0, ifs0, 0⟩, ⟨t1, i1, ifs1, 0⟩] scope pos) 1 it acc env) R s := by
  refine codeAny_loop rfl I (fun n s hI => ?_) n h
  show wpAny _ A ((compTurn (.SetComp elt [⟨t0, i0, ifs0, 0⟩, ⟨t1, i1, ifs1, 0⟩] scope pos) 1 it acc env).onRaise (fun x => do noteFrame x env; theTreesLotGoes x)) _ _ s
  refine wpAny_noted ?_
  rw [turn_second]
  refine wpAny_bind (wpAny_standAt (wpAny_bind (wpAny_mono (turn n s hI) (fun r s₁ h₁ => ?_) fun _ _ z => z)))
  cases r with
  | none => exact wpAny_pure h₁
  | some v =>
    refine wpAny_bind (wpAny_mono h₁ (fun _ s₂ h₂ => wpAny_bind (wpAny_mono h₂ (fun _ s₃ h₃ => wpAny_bind (wpAny_mono h₃ (fun ok s₄ h₄ => ?_) fun _ _ z => z)) fun _ _ z => z)) fun _ _ z => z)
    cases ok with
    | false => exact wpAny_pure ⟨rfl, h₄⟩
    | true => exact wpAny_bind (wpAny_bind (wpAny_mono h₄ (fun x s₅ h₅ => wpAny_bind (wpAny_standAt (wpAny_bind (wpAny_mono h₅ (fun _ s₆ h₆ => wpAny_pure (wpAny_pure ⟨rfl, h₆⟩)) fun _ _ z => z)))) fun _ _ z => z))
theorem start_second (h0 : codeAny (model prog w) A (.compLoop (.SetComp elt [⟨t0, i0, ifs0, 0⟩, ⟨t1, i1, ifs1, 0⟩] scope pos) 1 it acc env) R s)
    (h : wpAny (model prog w) A (pyIter it) (fun it' s' => codeAny (model prog w) A (.compLoop (.SetComp elt [⟨t0, i0, ifs0, 0⟩, ⟨t1, i1, ifs1, 0⟩] scope pos) 1 it' acc env) R s') (Out prog w A env R) s) :
    codeAny (model prog w) A (.compStart (.SetComp elt [⟨t0, i0, ifs0, 0⟩, ⟨t1, i1, ifs1, 0⟩] scope pos) 1 it acc env) R s := by
  refine codeAny_of_tree ?_
  show wpAny _ _ ((compStart (.SetComp elt [⟨t0, i0, ifs0, 0⟩, ⟨t1, i1, ifs1, 0⟩] scope pos) 1 it acc env).onRaise (fun x => do noteFrame x env; standAt theWindowsPlace)) _ _ s
  refine wpAny_notedAt ?_
  unfold compStart
  show wpAny _ _ (ask >>= _) _ _ s
  refine wpAny_bind (wpAny_askSetting (wpAny_ite ?_))
  split
  · first
      | exact wpAny_bind (wpAny_pure (wpAny_pure (And.intro rfl h0)))
      | exact wpAny_pure (And.intro rfl h0)
  · first
      | exact wpAny_bind (wpAny_rule (wpAny_bind (wpAny_standAt (wpAny_bind (wpAny_mono h (fun it' s' h' => wpAny_pure (And.intro rfl h')) fun _ _ x => x)))))
      | (refine wpAny_bind (wpAny_rule ?_); show wpAny _ _ (standAt i1.pos >>= _) _ _ s; exact wpAny_bind (wpAny_standAt (wpAny_bind (wpAny_mono h (fun it' s' h' => wpAny_pure (And.intro rfl h')) fun _ _ x => x))))
end
section
variable {X : Cx} {nw : Addr → HO} {ad : Addr → HO → V → HO → Prop}
/-- what a rule of a block's part tells at each of its contexts -/
abbrev InBlk (X : Cx) (scope : Scope) (G : Cx → Prop) : Prop := ∀ (s : Shared) (H : Hp) (C : Addr) (cl : List (PySem.Str × Addr)) (fp : List Addr), G (X.blk s H scope (compEnvC scope cl C X.env) fp)
/-- the block's frame stands: H3 what is there, D the set, s3 the state ahead of the frame, ce its names -/
structure Frame (X : Cx) (pins : List (Addr × Obj)) (σ : L2.St) (vs : List Nat) (scope : Scope) (H3 : Hp) (s3 s4 : Shared) (ce : Env) (fp : List Addr) : Prop where
  loc : ce.locals = s3.heap.objs.size
  inv : Inv X pins σ H3 s3
  fps : ∀ b ∈ fp, FpOk X pins H3 b ∧ b < s3.heap.objs.size
  blk : Inv (X.blk s3 H3 scope ce fp) [] (wipe σ vs) H3 s4
/-- the source's objects at a turn -/
theorem Frame.stat {pins : List (Addr × Obj)} {σ σ' : L2.St} {vs : List Nat} {scope : Scope} {H3 H' : Hp} {s3 s4 s' : Shared} {ce : Env} {fp : List Addr} (F : Frame X pins σ vs scope H3 s3 s4 ce fp) (I : Inv (X.blk s3 H3 scope ce fp) [] σ' H' s') (hn : ∀ b ∈ fp, H' b = none) : ∀ b ∈ fp, FpOk (X.blk s3 H3 scope ce fp) [] H' b := fun b hb =>
  ⟨hn b hb, (I.ok.exf b hb).1, I.ok.exfs b hb, .inl hb, fun x c e => (I.ok.exf b hb).2 x c e, fun p hp => absurd (show p ∈ ([] : List (Addr × Obj)) ++ [] from hp) (by simp)⟩
/-- the block's frame goes -/
theorem Frame.leave {pins : List (Addr × Obj)} {σ σ' : L2.St} {vs : List Nat} {scope : Scope} {H3 H' : Hp} {s3 s4 s' : Shared} {ce : Env} {fp : List Addr} {Q : V → Prop} {D : Addr} {use : Option (Value → Sem Unit)} {Qf : Value → Shared → Prop} (F : Frame X pins σ vs scope H3 s3 s4 ce fp) (I : Inv (X.blk s3 H3 scope ce fp) [] σ' H' s')
    (k : ∀ m, Inv X pins σ H' s' → s'.heap.Ns s3.heap.objs.size m → FpOk X pins H' s3.heap.objs.size → compPost (model X.prog X.w) X.A X.xe use Qf (.ref D) s3.heap.objs.size (.ok .next) s') : compPost (model X.prog X.w) X.A X.xe use Qf (.ref D) s3.heap.objs.size (.ok .next) s' := by
  have nC : H' s3.heap.objs.size = none := F.loc ▸ (show H' ce.locals = none from I.free)
  obtain ⟨m, hn, _⟩ := I.loc
  have hn : s'.heap.Ns ce.locals m := hn
  rw [F.loc] at hn
  refine k m (F.inv.call' (ch := fp) I.os I.base I.hok I.bare fun b hb => ?_) hn (F.inv.fpOk (Nat.le_refl _) nC)
  obtain ⟨⟨_, a1, a2, a3, a4, a5⟩, _⟩ := F.fps b hb
  exact ⟨a3, a1, a4, a5⟩
/-- the way into the block: the first source, the empty set, the block's frame. What is left is the loop. -/
theorem set_in {pins : List (Addr × Obj)} {s : Shared} {σ : L2.St} {H : Hp} {elt tg iter : Expr} {ifs : List Expr} {more : List Comprehension} {scope : Scope} {own : List (PySem.Str × Nat)} {pos pos' : Pos} {wi : TI} {use : Option (Value → Sem Unit)} {Qf : Value → Shared → Prop} {KJ : It → Hp → Prop}
    (fl : Fill X.prog X.w nw ad) (hN : X.N.Nodup) (I : Inv X pins σ H s) (hi : PI X tg iter wi) (ok : BlkOk X.N X.env.scope scope own) (hs : ∀ x, foldedSetIterable iter X.env x = pure x) (h : wi σ H KJ)
    (loop : ∀ (J : It) (H2 H3 : Hp) (s3 s4 : Shared) (D it : Addr) (fp : List Addr) (tn : Nat → Heap → Prop) (cl : List (PySem.Str × Addr)), KJ J H2 → H2 D = none → H3 = upd H2 D (nw D) → Frame X pins σ (own.map (·.2)) scope H3 s3 s4 (compEnvC scope cl s3.heap.objs.size X.env) fp → Turn X.prog X.w X.K tg J fp it tn → tn 0 s4.heap →
      codeAny (model X.prog X.w) X.A (.compLoop (.SetComp elt (⟨tg, iter, ifs, 0⟩ :: more) scope pos) 0 (.ref it) (.ref D) (compEnvC scope cl s3.heap.objs.size X.env)) (compPost (model X.prog X.w) X.A X.xe use Qf (.ref D) s3.heap.objs.size) s4) :
    wpAny (model X.prog X.w) X.A (comprehension (.SetComp elt (⟨tg, iter, ifs, 0⟩ :: more) scope pos) scope X.env pos' (newSet (.type "set")) false (eval iter X.env) use) Qf X.xe s := by
  have hfree : ∀ y ∈ scope.names, y.2 = .free → ∃ c, X.env.cells.lookup y.1 = some c := fun y hy e => (ok.free y hy e).elim (fun k => I.ok.has _ (.inl k)) fun k => I.ok.has _ (.inr k)
  refine wpAny_comprehension_free (use := use) rfl hs (closure_ok hfree) ok.kind (fun y hy e => by rw [ok.uniq y hy, e]) (thn (hi.run pins s σ H _ I h) fun xv s1 hx => thn hx fun itv s2 h2 => ?_)
  obtain ⟨it, fp, tn, J, H2, rfl, I2, T, st2, f2, q⟩ := h2
  refine PpSet.newSet_ok (newEnv_comp ?_)
  have none2 : H2 s2.heap.objs.size = none := I2.hok.fresh (Nat.le_refl _)
  have I3 := I2.laid (t' := s2.toks) (fun b o e => Heap.get?_push_of_some (so X.w) e) (Nat.le_refl _) (fl.new _ s2.heap)
  have old : ∀ b ∈ fp, b < s2.heap.objs.size := fun b hb => by
    obtain ⟨o, e, _⟩ := T.obj _ _ st2 b hb
    exact Heap.lt_size e
  have f3 : ∀ b ∈ fp, FpOk X pins (upd H2 s2.heap.objs.size (nw s2.heap.objs.size)) b ∧ b < (s2.heap.push (so X.w)).objs.size := fun b hb => by
    refine ⟨⟨?_, (f2 b hb).2⟩, by rw [Heap.size_push]; exact Nat.lt_succ_of_lt (old b hb)⟩
    rw [upd_ne (Nat.ne_of_lt (old b hb))]
    exact (f2 b hb).1
  have st3 : tn 0 (s2.heap.push (so X.w)) := T.keep _ _ _ st2 fun b _ o e => Heap.get?_push_of_some _ e
  have I4 := block_start I3 ok hN f3
  have st4 : tn 0 (pushCells ((s2.heap.push (so X.w)).push { cls := .type "dict", data := .dict #[] }) scope.names) := T.keep _ _ _ st3 fun b _ o e => pushCells_keeps _ _ _ _ (Heap.get?_push_of_some _ e)
  have L := loop J H2 _ { s2 with heap := s2.heap.push (so X.w) } _ s2.heap.objs.size it fp tn _ q none2 rfl ⟨rfl, I3, f3, I4⟩ T st4
  exact PpSet.codeAny_compStart_set L (T.self X.A 0 _ _ _ st4 L)
/-- what is pinned behind a turn's store stands behind the turn -/
theorem turn_end {Y : Cx} {pins : List (Addr × Obj)} {fp : List Addr} {h7 : Heap} {σ8 σ0 : L2.St} {H' : Hp} {s' : Shared} {tg : Expr} {J : It} {it : Addr} {tn : Nat → Heap → Prop} {i : Nat} (T : Turn Y.prog Y.w Y.K tg J fp it tn) (st : tn i h7)
    (I : Inv Y (pins ++ pinsAt fp h7) σ8 H' s') (hl : σ0.length = σ8.length) (hk : ∀ (j : Nat) v, σ0[j]? = some (some v) → σ8[j]? = some (some v)) : Inv Y pins σ0 H' s' ∧ tn i s'.heap ∧ ∀ b ∈ fp, H' b = none := by
  have pin' : ∀ b ∈ fp, ∀ o, h7.get? b = some o → s'.heap.get? b = some o ∧ H' b = none := fun b hb o e =>
    let z := I.pin (b, o) (List.mem_append_right _ (List.mem_append_right _ (mem_pinsAt hb e)))
    ⟨z.1, z.2.1⟩
  refine ⟨I.unpinned.weak hl hk, T.keep _ _ _ st fun b hb o e => (pin' b hb o e).1, fun b hb => ?_⟩
  obtain ⟨o, e, _⟩ := T.obj _ _ st b hb
  exact (pin' b hb o e).2
theorem set_one {pins : List (Addr × Obj)} {s : Shared} {σ : L2.St} {H : Hp} {Q : VK} {elt tg iter : Expr} {ifs : List Expr} {scope : Scope} {own : List (PySem.Str × Nat)} {pos pos' : Pos} {wi : TI} {g : TG} {tt : TT} {te : TE} {use : Option (Value → Sem Unit)} {Qf : Value → Shared → Prop}
    (fl : Fill X.prog X.w nw ad) (hc : X.calm = true) (hN : X.N.Nodup) (I : Inv X pins σ H s) (hi : PI X tg iter wi) (ok : BlkOk X.N X.env.scope scope own) (hg : InBlk X scope fun Y => PG Y tg g) (ht : InBlk X scope fun Y => PTs Y ifs tt) (he : InBlk X scope fun Y => PE Y elt te)
    (hs : ∀ x, foldedSetIterable iter X.env x = pure x) (h : tSet nw ad wi g tt te (own.map (·.2)) σ H Q)
    (fin : ∀ D C s' m H', Inv X pins σ H' s' → Q (.ref D) H' → s'.heap.Ns C m → FpOk X pins H' C → compPost (model X.prog X.w) X.A X.xe use Qf (.ref D) C (.ok .next) s') :
    wpAny (model X.prog X.w) X.A (comprehension (.SetComp elt [⟨tg, iter, ifs, 0⟩] scope pos) scope X.env pos' (newSet (.type "set")) false (eval iter X.env) use) Qf X.xe s := by
  refine set_in fl hN I hi ok hs h fun J H2 H3 s3 s4 D it fp tn cl q none2 e3 F T st4 => ?_
  obtain ⟨W, ⟨m0, w0⟩, turn⟩ := q D none2
  rw [← e3] at w0
  have pg := hg s3 H3 s3.heap.objs.size cl fp
  have pt := ht s3 H3 s3.heap.objs.size cl fp
  have pe := he s3 H3 s3.heap.objs.size cl fp
  generalize compEnvC scope cl s3.heap.objs.size X.env = ce at F pg pt pe ⊢
  refine PpSet.compLoopS_any (fun n s' => ∃ i H', Inv (X.blk s3 H3 scope ce fp) [] (wipe σ (own.map (·.2))) H' s' ∧ tn i s'.heap ∧ (∀ b ∈ fp, H' b = none) ∧ W i n H') ?_ m0 ⟨0, H3, F.blk, st4, fun b hb => (F.fps b hb).1.1, w0⟩
  rintro n s5 ⟨i, H5, I5, st5, n5, w5⟩
  rcases turn i n H5 w5 with ⟨stop, qq⟩ | ⟨go, Z, hZ, step⟩
  · refine thnF (T.done (X.blk s3 H3 scope ce fp) rfl rfl rfl hc i [] s5 _ H5 (fun _ _ => False) I5 (F.stat I5 n5) st5 stop) fun r s6 ⟨hr, I6⟩ => ?_
    subst hr
    exact F.leave (Q := fun _ => True) I6 fun m I7 hn hf => fin D _ s6 m H5 I7 qq hn hf
  · refine thnF (T.item (X.blk s3 H3 scope ce fp) rfl rfl rfl hc i [] s5 _ H5 (fun _ _ => False) I5 (F.stat I5 n5) st5 go) fun r s6 ⟨u, hr, h6⟩ => ?_
    subst hr
    refine thnF h6 fun _ s7 ⟨x, H7, I7, r7, y7, st7, n7⟩ => ?_
    refine thnF (pg.run _ s7 _ H7 x u _ (I7.pinned (F.stat I7 n7) (T.obj _ _ st7)) r7 (step x H7 y7)) fun _ s8 ⟨σ8, H8, I8, hw8, q8⟩ => ?_
    refine thnF (pt.run _ s8 σ8 H8 _ I8 q8) fun b s9 ⟨H9, I9, q9⟩ => ?_
    have back : ∀ {s' : Shared} {H' : Hp}, Inv (X.blk s3 H3 scope ce fp) ([] ++ pinsAt fp s7.heap) σ8 H' s' → Z H' → ∃ m, m < n ∧ ∃ i H', Inv (X.blk s3 H3 scope ce fp) [] (wipe σ (own.map (·.2))) H' s' ∧ tn i s'.heap ∧ (∀ b ∈ fp, H' b = none) ∧ W i m H' := fun {s' H'} I' z => by
      obtain ⟨m', hm, w'⟩ := hZ H' z
      obtain ⟨a1, a2, a3⟩ := turn_end (Y := X.blk s3 H3 scope ce fp) (σ0 := wipe σ (own.map (·.2))) T st7 I' (by rw [← hw8, wipe_length]) fun j v e => by
        rw [← hw8] at e
        exact (wipe_some e).1
      exact ⟨m', hm, i + 1, H', a1, a2, a3, w'⟩
    cases b with
    | false =>
      simp only [Bool.false_eq_true, if_false] at q9 ⊢
      exact back I9 q9
    | true =>
      simp only [if_true] at q9 ⊢
      refine thnF (pe.run _ s9 σ8 H9 _ I9 q9) fun z s10 ⟨y, H10, I10, r10, o, o', ho, hy, nx⟩ => ?_
      exact fl.add (X.blk s3 H3 scope ce fp) rfl rfl _ _ _ _ _ _ _ _ _ _ _ I10 ho hy r10 fun s11 I11 => back I11 nx
theorem set_two {pins : List (Addr × Obj)} {s : Shared} {σ : L2.St} {H : Hp} {Q : VK} {elt tg iter tg1 iter1 : Expr} {ifs ifs1 : List Expr} {scope : Scope} {own : List (PySem.Str × Nat)} {vs1 : List Nat} {pos pos' : Pos} {wi wi1 : TI} {g g1 : TG} {tt tt1 : TT} {te : TE} {use : Option (Value → Sem Unit)} {Qf : Value → Shared → Prop}
    (fl : Fill X.prog X.w nw ad) (hc : X.calm = true) (hN : X.N.Nodup) (I : Inv X pins σ H s) (hi : PI X tg iter wi) (ok : BlkOk X.N X.env.scope scope own) (hv : ∀ i ∈ vs1, i ∈ own.map (·.2)) (hg : InBlk X scope fun Y => PG Y tg g) (ht : InBlk X scope fun Y => PTs Y ifs tt)
    (hi1 : InBlk X scope fun Y => PI Y tg1 iter1 wi1) (hg1 : InBlk X scope fun Y => PG Y tg1 g1) (ht1 : InBlk X scope fun Y => PTs Y ifs1 tt1) (he : InBlk X scope fun Y => PE Y elt te)
    (hs : ∀ x, foldedSetIterable iter X.env x = pure x) (hs1 : ∀ env x, foldedSetIterable iter1 env x = pure x) (h : tSet2 nw ad wi g tt wi1 g1 tt1 te (own.map (·.2)) vs1 σ H Q)
    (fin : ∀ D C s' m H', Inv X pins σ H' s' → Q (.ref D) H' → s'.heap.Ns C m → FpOk X pins H' C → compPost (model X.prog X.w) X.A X.xe use Qf (.ref D) C (.ok .next) s') :
    wpAny (model X.prog X.w) X.A (comprehension (.SetComp elt [⟨tg, iter, ifs, 0⟩, ⟨tg1, iter1, ifs1, 0⟩] scope pos) scope X.env pos' (newSet (.type "set")) false (eval iter X.env) use) Qf X.xe s := by
  refine set_in fl hN I hi ok hs h fun J H2 H3 s3 s4 D it fp tn cl q none2 e3 F T st4 => ?_
  obtain ⟨W, ⟨m0, w0⟩, turn⟩ := q D none2
  rw [← e3] at w0
  have pg := hg s3 H3 s3.heap.objs.size cl fp
  have pt := ht s3 H3 s3.heap.objs.size cl fp
  have pe := he s3 H3 s3.heap.objs.size cl fp
  have pi1 := hi1 s3 H3 s3.heap.objs.size cl fp
  have pg1 := hg1 s3 H3 s3.heap.objs.size cl fp
  have pt1 := ht1 s3 H3 s3.heap.objs.size cl fp
  generalize compEnvC scope cl s3.heap.objs.size X.env = ce at F pg pt pe pi1 pg1 pt1 ⊢
  refine loop_first (hs1 ce) (fun n s' => ∃ i H', Inv (X.blk s3 H3 scope ce fp) [] (wipe σ (own.map (·.2))) H' s' ∧ tn i s'.heap ∧ (∀ b ∈ fp, H' b = none) ∧ W i n H') ?_ m0 ⟨0, H3, F.blk, st4, fun b hb => (F.fps b hb).1.1, w0⟩
  rintro n s5 ⟨i, H5, I5, st5, n5, w5⟩
  rcases turn i n H5 w5 with ⟨stop, qq⟩ | ⟨go, Z, hZ, step⟩
  · refine thnF (T.done (X.blk s3 H3 scope ce fp) rfl rfl rfl hc i [] s5 _ H5 (fun _ _ => False) I5 (F.stat I5 n5) st5 stop) fun r s6 ⟨hr, I6⟩ => ?_
    subst hr
    exact F.leave (Q := fun _ => True) I6 fun m I7 hn hf => fin D _ s6 m H5 I7 qq hn hf
  · refine thnF (T.item (X.blk s3 H3 scope ce fp) rfl rfl rfl hc i [] s5 _ H5 (fun _ _ => False) I5 (F.stat I5 n5) st5 go) fun r s6 ⟨u, hr, h6⟩ => ?_
    subst hr
    refine thnF h6 fun _ s7 ⟨x, H7, I7, r7, y7, st7, n7⟩ => ?_
    refine thnF (pg.run _ s7 _ H7 x u _ (I7.pinned (F.stat I7 n7) (T.obj _ _ st7)) r7 (step x H7 y7)) fun _ s8 ⟨σ8, H8, I8, hw8, q8⟩ => ?_
    refine thnF (pt.run _ s8 σ8 H8 _ I8 q8) fun b s9 ⟨H9, I9, q9⟩ => ?_
    have back : ∀ {σ9 : L2.St} {s' : Shared} {H' : Hp}, Inv (X.blk s3 H3 scope ce fp) ([] ++ pinsAt fp s7.heap) σ9 H' s' → (wipe σ (own.map (·.2))).length = σ9.length → (∀ (j : Nat) v, (wipe σ (own.map (·.2)))[j]? = some (some v) → σ9[j]? = some (some v)) → Z H' →
        ∃ m, m < n ∧ ∃ i H', Inv (X.blk s3 H3 scope ce fp) [] (wipe σ (own.map (·.2))) H' s' ∧ tn i s'.heap ∧ (∀ b ∈ fp, H' b = none) ∧ W i m H' := fun {σ9 s' H'} I' hl hk z => by
      obtain ⟨m', hm, w'⟩ := hZ H' z
      obtain ⟨a1, a2, a3⟩ := turn_end (Y := X.blk s3 H3 scope ce fp) T st7 I' hl hk
      exact ⟨m', hm, i + 1, H', a1, a2, a3, w'⟩
    have len8 : (wipe σ (own.map (·.2))).length = σ8.length := by rw [← hw8, wipe_length]
    have kept8 : ∀ (j : Nat) v, (wipe σ (own.map (·.2)))[j]? = some (some v) → σ8[j]? = some (some v) ∧ j ∉ vs1 := fun j v e => by
      rw [← hw8] at e
      obtain ⟨e1, e2⟩ := wipe_some e
      exact ⟨e1, fun z => e2 (hv j z)⟩
    cases b with
    | false =>
      simp only [Bool.false_eq_true, if_false] at q9 ⊢
      exact back I9 len8 (fun j v e => (kept8 j v e).1) q9
    | true =>
      simp only [if_true] at q9 ⊢
      refine thnF (pi1.run _ s9 σ8 H9 _ I9 q9) fun xv s10 hx => thnF hx fun itv s11 h11 => ?_
      obtain ⟨it1, fp1, tn1, J1, H11, rfl, I11, T1, st11, f11, W1, ⟨m1, w1⟩, turn1⟩ := h11
      have inner : codeAny (model X.prog X.w) X.A (.compLoop (.SetComp elt [⟨tg, iter, ifs, 0⟩, ⟨tg1, iter1, ifs1, 0⟩] scope pos) 1 (.ref it1) (.ref D) ce)
          (fun r s' => match r with
            | .ok _ => ∃ m, m < n ∧ ∃ i H', Inv (X.blk s3 H3 scope ce fp) [] (wipe σ (own.map (·.2))) H' s' ∧ tn i s'.heap ∧ (∀ b ∈ fp, H' b = none) ∧ W i m H'
            | .error _ => False) s11 := by
        have stat1 : ∀ {H' : Hp}, (∀ b ∈ fp1, H' b = none) → ∀ b ∈ fp1, FpOk (X.blk s3 H3 scope ce fp) ([] ++ pinsAt fp s7.heap) H' b := fun hn b hb => ⟨hn b hb, (f11 b hb).2⟩
        refine loop_second (fun k s' => ∃ j H', Inv (X.blk s3 H3 scope ce fp) ([] ++ pinsAt fp s7.heap) (wipe σ8 vs1) H' s' ∧ tn1 j s'.heap ∧ (∀ b ∈ fp1, H' b = none) ∧ W1 j k H') ?_ m1 ⟨0, H11, I11.weak (wipe_length _ _) (fun j v e => (wipe_some e).1), st11, fun b hb => (f11 b hb).1, w1⟩
        rintro k s12 ⟨j, H12, I12, st12, n12, w12⟩
        rcases turn1 j k H12 w12 with ⟨stop1, z1⟩ | ⟨go1, Z1, hZ1, step1⟩
        · refine thnF (T1.done (X.blk s3 H3 scope ce fp) rfl rfl rfl hc j _ s12 (wipe σ8 vs1) H12 (fun _ _ => False) I12 (stat1 n12) st12 stop1) fun r s13 ⟨hr, I13⟩ => ?_
          subst hr
          exact back I13 (len8.trans (wipe_length σ8 vs1).symm) (fun j v e => by rw [wipe_out (kept8 j v e).2]; exact (kept8 j v e).1) z1
        · refine thnF (T1.item (X.blk s3 H3 scope ce fp) rfl rfl rfl hc j _ s12 (wipe σ8 vs1) H12 (fun _ _ => False) I12 (stat1 n12) st12 go1) fun r s13 ⟨u1, hr, h13⟩ => ?_
          subst hr
          refine thnF h13 fun _ s14 ⟨x1, H14, I14, r14, y14, st14, n14⟩ => ?_
          refine thnF (pg1.run _ s14 (wipe σ8 vs1) H14 x1 u1 _ (I14.pinned (stat1 n14) (T1.obj _ _ st14)) r14 (step1 x1 H14 y14)) fun _ s15 ⟨σ15, H15, I15, hw15, q15⟩ => ?_
          refine thnF (pt1.run _ s15 σ15 H15 _ I15 q15) fun b1 s16 ⟨H16, I16, q16⟩ => ?_
          have back1 : ∀ {s' : Shared} {H' : Hp}, Inv (X.blk s3 H3 scope ce fp) (([] ++ pinsAt fp s7.heap) ++ pinsAt fp1 s14.heap) σ15 H' s' → Z1 H' → ∃ m, m < k ∧ ∃ j H', Inv (X.blk s3 H3 scope ce fp) ([] ++ pinsAt fp s7.heap) (wipe σ8 vs1) H' s' ∧ tn1 j s'.heap ∧ (∀ b ∈ fp1, H' b = none) ∧ W1 j m H' := fun {s' H'} I' z => by
            obtain ⟨m', hm, w'⟩ := hZ1 H' z
            obtain ⟨a1, a2, a3⟩ := turn_end (Y := X.blk s3 H3 scope ce fp) (σ0 := wipe σ8 vs1) T1 st14 I' (by rw [← hw15, wipe_length]) fun j v e => by
              rw [← hw15] at e
              exact (wipe_some e).1
            exact ⟨m', hm, j + 1, H', a1, a2, a3, w'⟩
          cases b1 with
          | false =>
            simp only [Bool.false_eq_true, if_false] at q16 ⊢
            exact back1 I16 q16
          | true =>
            simp only [if_true] at q16 ⊢
            refine thnF (pe.run _ s16 σ15 H16 _ I16 q16) fun z s17 ⟨y, H17, I17, r17, o, o', ho, hy, nx⟩ => ?_
            exact fl.add (X.blk s3 H3 scope ce fp) rfl rfl _ _ _ _ _ _ _ _ _ _ _ I17 ho hy r17 fun s18 I18 => back1 I18 nx
      exact start_second inner (T1.self X.A 0 _ _ _ st11 inner)
/-- as a value, one clause -/
theorem pe_set {elt tg iter : Expr} {ifs : List Expr} {scope : Scope} {own : List (PySem.Str × Nat)} {pos : Pos} {wi : TI} {g : TG} {tt : TT} {te : TE} (fl : Fill X.prog X.w nw ad) (hc : X.calm = true) (hN : X.N.Nodup) (hi : PI X tg iter wi) (ok : BlkOk X.N X.env.scope scope own)
    (hg : InBlk X scope fun Y => PG Y tg g) (ht : InBlk X scope fun Y => PTs Y ifs tt) (he : InBlk X scope fun Y => PE Y elt te) (hs : ∀ x, foldedSetIterable iter X.env x = pure x := by intro _; rfl) : PE X (.SetComp elt [⟨tg, iter, ifs, 0⟩] scope pos) (tSet nw ad wi g tt te (own.map (·.2))) := by
  refine ⟨fun pins s σ H Q I h => ?_⟩
  rw [PpSet.eval_SetComp]
  refine set_one fl hc hN I hi ok hg ht he hs h fun D C s' m H' I' q hn ⟨f0, f1, f2, f3, f4, f5⟩ => ⟨m, hn, fun h'' sb => ?_⟩
  exact ⟨.ref D, H', I'.turned (t' := s'.toks) (fun b o hb e => (sb.2 b hb).trans e) f0 f1 f3 f4 f5, rfl, q⟩
/-- as a value, two clauses -/
theorem pe_set2 {elt tg iter tg1 iter1 : Expr} {ifs ifs1 : List Expr} {scope : Scope} {own : List (PySem.Str × Nat)} {vs1 : List Nat} {pos : Pos} {wi wi1 : TI} {g g1 : TG} {tt tt1 : TT} {te : TE} (fl : Fill X.prog X.w nw ad) (hc : X.calm = true) (hN : X.N.Nodup) (hi : PI X tg iter wi) (ok : BlkOk X.N X.env.scope scope own) (hv : ∀ i ∈ vs1, i ∈ own.map (·.2))
    (hg : InBlk X scope fun Y => PG Y tg g) (ht : InBlk X scope fun Y => PTs Y ifs tt) (hi1 : InBlk X scope fun Y => PI Y tg1 iter1 wi1) (hg1 : InBlk X scope fun Y => PG Y tg1 g1) (ht1 : InBlk X scope fun Y => PTs Y ifs1 tt1) (he : InBlk X scope fun Y => PE Y elt te)
    (hs : ∀ x, foldedSetIterable iter X.env x = pure x := by intro _; rfl) (hs1 : ∀ env x, foldedSetIterable iter1 env x = pure x := by intro _ _; rfl) : PE X (.SetComp elt [⟨tg, iter, ifs, 0⟩, ⟨tg1, iter1, ifs1, 0⟩] scope pos) (tSet2 nw ad wi g tt wi1 g1 tt1 te (own.map (·.2)) vs1) := by
  refine ⟨fun pins s σ H Q I h => ?_⟩
  rw [PpSet.eval_SetComp]
  refine set_two fl hc hN I hi ok hv hg ht hi1 hg1 ht1 he hs hs1 h fun D C s' m H' I' q hn ⟨f0, f1, f2, f3, f4, f5⟩ => ⟨m, hn, fun h'' sb => ?_⟩
  exact ⟨.ref D, H', I'.turned (t' := s'.toks) (fun b o hb e => (sb.2 b hb).trans e) f0 f1 f3 f4 f5, rfl, q⟩
end
end Ws
set_option Elab.async false
set_option linter.all false
set_option maxRecDepth 100000
set_option maxHeartbeats 4000000
/-! set comprehensions of texts and of numbers; sorted of them; len of a set of texts; set(tuple of texts) -/
namespace Ws
open PySem PySem.Spec PyProof.Rows L2 Evl Wc Wt Wg Wd
/-- one text more, if it is not there yet -/
def addX (l : List Tx) (x : Tx) : List Tx := if x ∈ l then l else x :: l
def setX (l : List Tx) : List Tx := l.foldl addX []
theorem mem_addX {l : List Tx} {x y : Tx} : y ∈ addX l x ↔ y ∈ l ∨ y = x := by
  unfold addX
  split
  · rename_i h
    exact ⟨.inl, fun z => z.elim id fun e => e ▸ h⟩
  · rw [List.mem_cons]
    exact Or.comm
theorem addX_nodup {l : List Tx} {x : Tx} (h : l.Nodup) : (addX l x).Nodup := by
  unfold addX
  split
  · exact h
  · rename_i hx
    exact List.nodup_cons.mpr ⟨hx, h⟩
theorem addX_len (l : List Tx) (x : Tx) : (addX l x).length ≤ l.length + 1 := by
  unfold addX
  split
  · omega
  · simp
theorem fold_addX : ∀ (xs l : List Tx), (∀ y, y ∈ xs.foldl addX l ↔ y ∈ l ∨ y ∈ xs) ∧ (l.Nodup → (xs.foldl addX l).Nodup) ∧ (xs.foldl addX l).length ≤ l.length + xs.length
  | [], l => ⟨fun y => ⟨.inl, fun z => z.elim id fun h => nomatch h⟩, id, Nat.le_refl _⟩
  | x :: xs, l => by
    obtain ⟨h1, h2, h3⟩ := fold_addX xs (addX l x)
    refine ⟨fun y => ?_, fun h => h2 (addX_nodup h), ?_⟩
    · show y ∈ xs.foldl addX (addX l x) ↔ _
      rw [h1, mem_addX, List.mem_cons, or_assoc]
    · have := addX_len l x
      show (xs.foldl addX (addX l x)).length ≤ _
      rw [List.length_cons]
      omega
theorem mem_setX {l : List Tx} {y : Tx} : y ∈ setX l ↔ y ∈ l := ((fold_addX l []).1 y).trans ⟨fun z => z.elim (fun h => nomatch h) id, .inr⟩
theorem setX_nodup (l : List Tx) : (setX l).Nodup := (fold_addX l []).2.1 List.nodup_nil
theorem setX_len (l : List Tx) : (setX l).length ≤ l.length := by
  have := (fold_addX l []).2.2
  rwa [List.length_nil, Nat.zero_add] at this
theorem setX_snoc (l : List Tx) (x : Tx) : setX (l ++ [x]) = addX (setX l) x := List.foldl_append
/-- the texts without repetition, ascending -/
def setS (l : List Tx) : List Tx := sortT (setX l)
theorem mem_setS {l : List Tx} {y : Tx} : y ∈ setS l ↔ y ∈ l := sortT_mem.trans mem_setX
theorem setS_nodup (l : List Tx) : (setS l).Nodup := (sortT_perm _).nodup_iff.mpr (setX_nodup l)
theorem setS_len (l : List Tx) : (setS l).length ≤ l.length := by
  unfold setS
  rw [sortT_len]
  exact setX_len l
theorem sortT_of_perm {a b : List Tx} (h : a.Perm b) : sortT a = sortT b := (((sortT_perm a).trans h).trans (sortT_perm b).symm).eq_of_pairwise (fun x y _ _ h1 h2 => List.le_antisymm h1 h2) (sortT_pw a) (sortT_pw b)
theorem sortT_same {a b : List Tx} (ha : a.Nodup) (hb : b.Nodup) (h : ∀ x, x ∈ a ↔ x ∈ b) : sortT a = sortT b := sortT_of_perm ((List.perm_ext_iff_of_nodup ha hb).mpr h)
theorem setS_uniq {l ys : List Tx} (u : Uniq l ys) : sortT ys = setS l := sortT_same u.nd (setX_nodup l) fun x => (u.mem x).trans mem_setX.symm
theorem setS_same {a b : List Tx} (h : ∀ x, x ∈ a ↔ x ∈ b) : setS a = setS b := sortT_same (setX_nodup a) (setX_nodup b) fun x => mem_setX.trans ((h x).trans mem_setX.symm)
theorem setX_map_add (l : List Tx) (x : Tx) : (if SX.S x ∈ l.map SX.S then l.map SX.S else SX.S x :: l.map SX.S) = (addX l x).map SX.S := by
  have e : SX.S x ∈ l.map SX.S ↔ x ∈ l := by
    rw [List.mem_map]
    exact ⟨fun ⟨y, hy, q⟩ => S_inj q ▸ hy, fun h => ⟨x, h, rfl⟩⟩
  unfold addX
  by_cases h : x ∈ l
  · rw [if_pos (e.mpr h), if_pos h]
  · rw [if_neg fun z => h (e.mp z), if_neg h]
    rfl
section
variable {P : Program} {w : World} {A : Around} {E : Value → Shared → Prop} {s : Shared} {a : Addr} {l : List Str}
theorem SetX.typeIs (R : SetX P w s.heap a l) : s.TypeIs (.ref a) "set" := by
  obtain ⟨o, _, _, _, ho, hx, _⟩ := R
  exact ⟨o, ho, hx.1⟩
/-- a.add(k) -/
theorem addText {k : Str} {u : Tok} {Q : Value → Shared → Prop} (R : SetX P w s.heap a l) (room : l.length + 1 < scanBound)
    (hQ : ∀ h', Heap.SameBut a s.heap h' → SetX P w h' a (if k ∈ l then l else k :: l) → Q .none { s with heap := h', toks := s.toks + 1 }) : wpAny (model P w) A (call (.builtin "set.add") [.ref a, .str k u]) Q E s := by
  refine wpAny_call_entry F.slot_set_add (SetX.typeIs R) F.entry_set_add ?_ (F.args_set_add_2 _ _)
  unfold Builtin.«set.add» Builtin.Frozenset.oneOther
  simp only [List.isEmpty_nil, bind_assoc]
  unfold Builtin.Frozenset.addrOf setAdd
  refine wpAny_bind (wpAny_pure ?_)
  try dsimp only
  refine wpAny_bind (wpAny_pure ?_)
  try dsimp only
  refine wpAny_bind (wpAny_holding (wpAny_bind ((PySem.strKind P w).pyHash (k := k) (PySem.strKind_is _ _ _ _) ?_)))
  refine add_text (s := { s with toks := s.toks + 1 }) R room fun h' b sb r => ?_
  show wpAny _ _ (ret Value.none) _ _ _
  exact wpAny_pure ⟨_, rfl, hQ h' sb r⟩
end
def nwX (P : Program) (w : World) (D : Addr) : HO := SetXO P w D []
def adX (P : Program) (w : World) (D : Addr) (o : HO) (y : V) (o' : HO) : Prop := ∃ (l : List Tx) (x : Tx), o = SetXO P w D (l.map SX.S) ∧ y = T x ∧ l.length + 1 < scanBound ∧ o' = SetXO P w D ((addX l x).map SX.S)
theorem fillX (P : Program) (w : World) : Fill P w (nwX P w) (adX P w) := by
  refine ⟨fun H h => setXO_new (SetX.new (Heap.get?_push_size _ rfl)), ?_⟩
  rintro X rfl rfl pins σ H s E D o o' y v Q I hD ⟨l, x, rfl, rfl, room, rfl⟩ r k
  obtain ⟨t, rfl⟩ := r
  refine addText (I.hok D _ hD).1 (by rw [List.length_map]; exact room) fun h' sb R => ?_
  rw [setX_map_add] at R
  have he : ∃ u, h'.get? D = some u := by
    have ⟨o, _, _, _, ho, _⟩ := R
    exact ⟨o, ho⟩
  exact k _ (I.write (e := D) (t' := s.toks + 1) (by rw [hD]; trivial) (.inl rfl) (fun b u hb hu => (sb.2 b hb).trans hu) he (setXO_new R))
def nwN (w : World) (D : Addr) : HO := SetO w D (fun _ => false) 0
def adN (w : World) (D : Addr) (o : HO) (y : V) (o' : HO) : Prop := ∃ (S : Int → Bool) (n : Nat) (k : Int), o = SetO w D S n ∧ y = .int k ∧ n + 1 < scanBound ∧ o' = SetO w D (fun j => S j || decide (j = k)) (if S k = true then n else n + 1)
theorem fillN (P : Program) (w : World) : Fill P w (nwN w) (adN w) := by
  refine ⟨fun H h => setO_new (setR_fresh w), ?_⟩
  rintro X rfl rfl pins σ H s E D o o' y v Q I hD ⟨S, n, k, rfl, rfl, room, rfl⟩ r kk
  obtain ⟨t, rfl⟩ := r
  refine setR_add (setO_get I hD) room fun h' sb R => ?_
  have he : ∃ u, h'.get? D = some u := by
    have ⟨o, _, _, _, ho, _⟩ := R
    exact ⟨o, ho⟩
  exact kk _ (I.write (e := D) (t' := s.toks + 1) (by rw [hD]; trivial) (.inl rfl) (fun b u hb hu => (sb.2 b hb).trans hu) he (setO_new R))
section
variable {K : PySem.W.Frag} {P : Program} {w : World} {σ : L2.St} {H : Hp} {te : TE} {tt : TT} {Q : VK}
/-- what a comprehension of texts leaves, one clause, no test -/
theorem el_setX {α : Type} {wi : TI} {j : Nat} {vs : List Nat} {own : Addr → Prop} {f : α → V} {g : α → Tx} (xs : List α) (hs : Src wi σ H xs.length own (fun i v _ => (xs.map f)[i]? = some v)) (hz : xs.length ≤ 4000) (hw : ∀ x, wipe ((wipe σ vs).set j (some x)) vs = wipe σ vs)
    (he : ∀ a H1, Ex H H1 → a ∈ xs → Ev te ((wipe σ vs).set j (some (f a))) H1 (T (g a)))
    (k : ∀ d H2, H d = none → Ex H H2 → H2 d = some (SetXO P w d ((setX (xs.map g)).map SX.S)) → Q (.ref d) H2) : tSet (nwX P w) (adX P w) wi (gName j) tYes te vs σ H Q :=
  hs H (Ex.refl H) _ fun J H1 S e1 wk hS => fun D hD => by
    refine ⟨fun i m Hi => m = xs.length - i ∧ i ≤ xs.length ∧ Ex H1 Hi ∧ Hi D = some (SetXO P w D ((setX ((xs.take i).map g)).map SX.S)), ⟨xs.length, by simp, Nat.zero_le _, Ex.new hD, upd_same⟩, ?_⟩
    rintro i m Hi ⟨rfl, hi, hE, hL⟩
    have hG : S Hi := hS (fun _ => False) Hi (fun b z => z.elim) (.of hE)
    by_cases hlt : i < xs.length
    · refine .inr ⟨wk.goes i Hi hlt hG, fun H' => Ex H1 H' ∧ H' D = some (SetXO P w D ((setX ((xs.take (i + 1)).map g)).map SX.S)), fun H' p' => ⟨xs.length - (i + 1), by omega, rfl, hlt, p'.1, p'.2⟩, fun x H' y => ?_⟩
      obtain ⟨ey, hP⟩ := wk.yields i Hi x H' hlt hG y
      obtain ⟨a, ha, rfl⟩ := at_map hP
      refine ⟨hw _, ?_⟩
      unfold tYes
      dsimp only
      rw [if_pos rfl]
      refine he a H' ((e1.trans hE).trans ey) (List.mem_of_getElem? ha) H' (Ex.refl _) _ fun H4 e4 => ?_
      refine ⟨_, _, e4 _ _ (ey _ _ hL), ⟨_, _, rfl, rfl, ?_, rfl⟩, Ex.mut (hE.trans (ey.trans e4)) hD, ?_⟩
      · have := setX_len ((xs.take i).map g)
        rw [List.length_map, List.length_take] at this
        unfold scanBound
        omega
      · rw [upd_same, List.take_add_one, ha, List.map_append]
        show some (SetXO P w D ((addX (setX ((xs.take i).map g)) (g a)).map SX.S)) = some (SetXO P w D ((setX ((xs.take i).map g ++ [g a])).map SX.S))
        rw [setX_snoc]
    · have e : i = xs.length := by omega
      subst e
      rw [List.take_length] at hL
      exact .inl ⟨wk.stops Hi hG, k D Hi (fresh_back e1 hD) (e1.trans hE) hL⟩
/-- what a comprehension of numbers leaves, one clause, no test -/
theorem el_setN {α : Type} {wi : TI} {j : Nat} {vs : List Nat} {own : Addr → Prop} {f : α → V} {g : α → Int} (xs : List α) (hs : Src wi σ H xs.length own (fun i v _ => (xs.map f)[i]? = some v)) (hz : xs.length ≤ 4000) (hw : ∀ x, wipe ((wipe σ vs).set j (some x)) vs = wipe σ vs)
    (he : ∀ a H1, Ex H H1 → a ∈ xs → Ev te ((wipe σ vs).set j (some (f a))) H1 (.int (g a)))
    (k : ∀ d H2 S c, H d = none → Ex H H2 → (∀ z, S z = true ↔ z ∈ xs.map g) → c ≤ xs.length → H2 d = some (SetO w d S c) → Q (.ref d) H2) : tSet (nwN w) (adN w) wi (gName j) tYes te vs σ H Q :=
  hs H (Ex.refl H) _ fun J H1 S e1 wk hS => fun D hD => by
    refine ⟨fun i m Hi => m = xs.length - i ∧ i ≤ xs.length ∧ Ex H1 Hi ∧ ∃ B c, Hi D = some (SetO w D B c) ∧ c ≤ i ∧ ∀ z, B z = true ↔ z ∈ (xs.take i).map g, ⟨xs.length, by simp, Nat.zero_le _, Ex.new hD, _, _, upd_same, Nat.le_refl _, fun z => by simp⟩, ?_⟩
    rintro i m Hi ⟨rfl, hi, hE, B, c, hL, hc, hB⟩
    have hG : S Hi := hS (fun _ => False) Hi (fun b z => z.elim) (.of hE)
    by_cases hlt : i < xs.length
    · refine .inr ⟨wk.goes i Hi hlt hG, fun H' => Ex H1 H' ∧ ∃ B c, H' D = some (SetO w D B c) ∧ c ≤ i + 1 ∧ ∀ z, B z = true ↔ z ∈ (xs.take (i + 1)).map g, fun H' p' => ⟨xs.length - (i + 1), by omega, rfl, hlt, p'.1, p'.2⟩, fun x H' y => ?_⟩
      obtain ⟨ey, hP⟩ := wk.yields i Hi x H' hlt hG y
      obtain ⟨a, ha, rfl⟩ := at_map hP
      refine ⟨hw _, ?_⟩
      unfold tYes
      dsimp only
      rw [if_pos rfl]
      refine he a H' ((e1.trans hE).trans ey) (List.mem_of_getElem? ha) H' (Ex.refl _) _ fun H4 e4 => ?_
      refine ⟨_, _, e4 _ _ (ey _ _ hL), ⟨B, c, g a, rfl, rfl, by unfold scanBound; omega, rfl⟩, Ex.mut (hE.trans (ey.trans e4)) hD, _, _, upd_same, by split <;> omega, fun z => ?_⟩
      rw [List.take_add_one, ha, List.map_append, List.mem_append, Bool.or_eq_true, decide_eq_true_eq, hB]
      simp
    · have e : i = xs.length := by omega
      subst e
      rw [List.take_length] at hB
      exact .inl ⟨wk.stops Hi hG, k D Hi B c (fresh_back e1 hD) (e1.trans hE) hB hc hL⟩
/-- what a comprehension of texts leaves, two clauses, the second with a test -/
theorem el_setX2 {α β : Type} {wi wi1 : TI} {j j1 : Nat} {vs vs1 : List Nat} {own : Addr → Prop} {own1 : α → Addr → Prop} {f : α → V} {h : β → V} {p : α → β → Bool} {g : α → β → Tx} (xs : List α) (ys : α → List β) (hs : Src wi σ H xs.length own (fun i v _ => (xs.map f)[i]? = some v))
    (hs1 : ∀ a H1, Ex H H1 → a ∈ xs → Src wi1 ((wipe σ vs).set j (some (f a))) H1 (ys a).length (own1 a) (fun i v _ => ((ys a).map h)[i]? = some v))
    (ho : ∀ a c, own1 a c → H c ≠ none) (hz : (xs.map fun a => (ys a).length).sum ≤ 4000) (hw : ∀ x, wipe ((wipe σ vs).set j (some x)) vs = wipe σ vs) (hw1 : ∀ x y, wipe ((wipe ((wipe σ vs).set j (some x)) vs1).set j1 (some y)) vs1 = wipe ((wipe σ vs).set j (some x)) vs1)
    (ht : ∀ a b H1, Ex H H1 → a ∈ xs → b ∈ ys a → EvT tt ((wipe ((wipe σ vs).set j (some (f a))) vs1).set j1 (some (h b))) H1 (p a b))
    (he : ∀ a b H1, Ex H H1 → a ∈ xs → b ∈ ys a → p a b = true → Ev te ((wipe ((wipe σ vs).set j (some (f a))) vs1).set j1 (some (h b))) H1 (T (g a b)))
    (k : ∀ d H2, H d = none → Ex H H2 → H2 d = some (SetXO P w d ((setX (xs.flatMap fun a => ((ys a).filter (p a)).map (g a))).map SX.S)) → Q (.ref d) H2) :
    tSet2 (nwX P w) (adX P w) wi (gName j) tYes wi1 (gName j1) tt te vs vs1 σ H Q := hs H (Ex.refl H) _ fun J H1 S e1 wk hS => fun D hD => by
  let row := fun a => ((ys a).filter (p a)).map (g a)
  have hrow : ∀ i, ((xs.take i).flatMap row).length ≤ 4000 := fun i => by
    refine Nat.le_trans ?_ hz
    refine Nat.le_trans ?_ (sum_part (fun a => (ys a).length) xs i)
    rw [List.length_flatMap]
    induction xs.take i with
    | nil => exact Nat.le_refl _
    | cons a l ih =>
      rw [List.map_cons, List.map_cons, List.sum_cons, List.sum_cons]
      have h1 : (row a).length ≤ (ys a).length := by
        show (((ys a).filter (p a)).map (g a)).length ≤ _
        rw [List.length_map]
        exact List.length_filter_le _ _
      omega
  refine ⟨fun i m Hi => m = xs.length - i ∧ i ≤ xs.length ∧ Ex H1 Hi ∧ Hi D = some (SetXO P w D ((setX ((xs.take i).flatMap row)).map SX.S)), ⟨xs.length, by simp, Nat.zero_le _, Ex.new hD, upd_same⟩, ?_⟩
  rintro i m Hi ⟨rfl, hi, hE, hL⟩
  have hG : S Hi := hS (fun _ => False) Hi (fun b z => z.elim) (.of hE)
  by_cases hlt : i < xs.length
  · refine .inr ⟨wk.goes i Hi hlt hG, fun H' => Ex H1 H' ∧ H' D = some (SetXO P w D ((setX ((xs.take (i + 1)).flatMap row)).map SX.S)), fun H' p' => ⟨xs.length - (i + 1), by omega, rfl, hlt, p'.1, p'.2⟩, fun x H' y => ?_⟩
    obtain ⟨ey, hP⟩ := wk.yields i Hi x H' hlt hG y
    obtain ⟨a, ha, rfl⟩ := at_map hP
    have ham := List.mem_of_getElem? ha
    have hEy := hE.trans ey
    have htk : (xs.take (i + 1)).flatMap row = (xs.take i).flatMap row ++ row a := by
      rw [List.take_add_one, ha, List.flatMap_append]
      simp
    have hbig := hrow (i + 1)
    rw [htk] at hbig
    refine ⟨hw _, ?_⟩
    unfold tYes
    dsimp only
    rw [if_pos rfl]
    refine hs1 a H' ((e1.trans hE).trans ey) ham H' (Ex.refl _) _ fun J1 H4 S1 e4 w1 hS1 => ?_
    refine ⟨fun t m Ht => m = (ys a).length - t ∧ t ≤ (ys a).length ∧ Ex H1 Ht ∧ Exc (fun c => c = D) H4 Ht ∧ Ht D = some (SetXO P w D ((setX ((xs.take i).flatMap row ++ (((ys a).take t).filter (p a)).map (g a))).map SX.S)), ⟨(ys a).length, by simp, Nat.zero_le _, hEy.trans e4, Exc.refl _, by
      rw [e4 _ _ (ey _ _ hL), List.take_zero, List.filter_nil, List.map_nil, List.append_nil]⟩, ?_⟩
    rintro t m Ht ⟨rfl, htl, p1, p2, p3⟩
    have hG1 : S1 Ht := by
      refine hS1 (fun c => c = D) Ht (fun b z => ?_) p2
      subst z
      exact ⟨(by rw [ey _ _ hL]; exact fun z => nomatch z), fun z => ho a b z (fresh_back e1 hD)⟩
    by_cases hlt1 : t < (ys a).length
    · refine .inr ⟨w1.goes t Ht hlt1 hG1, fun Hn => Ex H1 Hn ∧ Exc (fun c => c = D) H4 Hn ∧ Hn D = some (SetXO P w D ((setX ((xs.take i).flatMap row ++ (((ys a).take (t + 1)).filter (p a)).map (g a))).map SX.S)), fun Hn q => ⟨(ys a).length - (t + 1), by omega, rfl, hlt1, q⟩, fun y Hu yy => ?_⟩
      obtain ⟨eu, hy⟩ := w1.yields t Ht y Hu hlt1 hG1 yy
      obtain ⟨b, hb, rfl⟩ := at_map hy
      have hbm := List.mem_of_getElem? hb
      have eH : Ex H Hu := e1.trans (p1.trans eu)
      refine ⟨hw1 _ _, ?_⟩
      refine ht a b Hu eH ham hbm Hu (Ex.refl _) _ fun H6 e6 => ?_
      by_cases hp : p a b = true
      · rw [if_pos hp]
        refine he a b H6 (eH.trans e6) ham hbm hp H6 (Ex.refl _) _ fun H7 e7 => ?_
        have e47 := eu.trans (e6.trans e7)
        refine ⟨_, _, e47 _ _ p3, ⟨_, _, rfl, rfl, ?_, rfl⟩, Ex.mut (p1.trans e47) hD, (p2.then e47).upd (.inl rfl), ?_⟩
        · refine Nat.lt_of_le_of_lt (Nat.succ_le_succ (Nat.le_trans (setX_len _) (Nat.le_trans ?_ hbig))) (by decide)
          rw [List.length_append, List.length_append, List.length_map]
          show _ ≤ _ + (((ys a).filter (p a)).map (g a)).length
          rw [List.length_map]
          exact Nat.add_le_add_left ((List.Sublist.filter _ (List.take_sublist _ _)).length_le) _
        · rw [upd_same, List.take_add_one, hb, List.filter_append, List.map_append, ← List.append_assoc]
          show some (SetXO P w D _) = some (SetXO P w D ((setX (_ ++ ((([b] : List β)).filter (p a)).map (g a))).map SX.S))
          rw [List.filter_cons_of_pos hp, List.filter_nil, List.map_cons, List.map_nil, setX_snoc]
      · rw [if_neg hp]
        have e46 := eu.trans e6
        refine ⟨p1.trans e46, p2.then e46, ?_⟩
        rw [e46 _ _ p3, List.take_add_one, hb, List.filter_append]
        show _ = some (SetXO P w D ((setX (_ ++ (_ ++ ([b] : List β).filter (p a)).map (g a))).map SX.S))
        rw [List.filter_cons_of_neg hp, List.filter_nil, List.append_nil]
    · have e : t = (ys a).length := by omega
      subst e
      rw [List.take_length] at p3
      exact .inl ⟨w1.stops Ht hG1, p1, by rw [p3, htk]⟩
  · have e : i = xs.length := by omega
    subst e
    rw [List.take_length] at hL
    exact .inl ⟨wk.stops Hi hG, k D Hi (fresh_back e1 hD) (e1.trans hE) hL⟩
/-- sorted(..) of a new set of texts -/
theorem el_sortX {ts : TE} {l : List Tx} (h : ∀ Q : VK, (∀ d H2, H d = none → Ex H H2 → H2 d = some (SetXO P w d ((setX l).map SX.S)) → Q (.ref d) H2) → ts σ H Q) (Q : VK) (k : ∀ q H2, H q = none → Ex H H2 → H2 q = some (.lst ((setS l).map T)) → Q (.ref q) H2) : tCB (rSortX K P w) (tCons ts tNil) σ H Q :=
  h _ fun d H2 hd e2 h2 => .inr ⟨d, _, rfl, h2, fun zs q pz hq => k q _ (fresh_back e2 hq) (e2.trans (Ex.new hq)) (by rw [upd_same, sortT_of_perm pz]; rfl)⟩
end
end Ws
set_option Elab.async false
set_option linter.all false
set_option maxRecDepth 100000
set_option maxHeartbeats 2000000
/-! zip(a, t) of a text and a tuple -/
namespace Ws
open PySem PySem.Spec PyProof.Rows L2 Evl Wc Wt Wg Wd
def ItzM (K : PySem.W.Frag) (a : Tx) (b : Addr) : It :=
  ⟨fun i H => i < a.length ∧ ∃ ys, SqT K H b ys ∧ i < ys.length, fun i H v H' => ∃ t c y, v = .ref t ∧ H t = none ∧ H' = upd H t (.tup [T [c], y]) ∧ a[i]? = some c ∧ ∀ ys, SqT K H b ys → ys[i]? = some y,
    fun i H => ∃ ys, SqT K H b ys ∧ i = min a.length ys.length⟩
theorem turn_zipM {P : Program} {w : World} {K : PySem.W.Frag} {elts : List Expr} {kk : Nat} {tpos : Pos} {a : Tx} {b : Addr} {ta : Tok} {z TI TO i1 i2 : Addr} (D : ZipSep2 z TI TO i1 i2 [i1] [i2, b]) (hne : b ≠ i2) :
    Turn P w K (.Tuple elts kk tpos) (ItzM K a b) [z, TI, TO, i1, i2] z (fun i h => IsZip h z TI TO .none ∧ IsTupOf2 h TI (.ref i1) (.ref i2) ∧ (∃ x y, IsTupOf2 h TO x y) ∧ h.IsStrIter i1 (strIterType (SX.S a)) (SX.S a) ta i ∧ h.IsTupleIter i2 b i) where
  mem := by simp
  obj := fun i h st c hc => by
    obtain ⟨hz, hTI, ⟨x, y, hTO⟩, ⟨o1, e1, _, d1⟩, ⟨o2, e2, _, d2⟩⟩ := st
    have e' : c = z ∨ c = TI ∨ c = TO ∨ c = i1 ∨ c = i2 := by simpa using hc
    rcases e' with q | q | q | q | q
    · rw [q]; exact ⟨_, hz, fun v q => nomatch q⟩
    · rw [q]; exact ⟨_, hTI, fun v q => nomatch q⟩
    · rw [q]; exact ⟨_, hTO, fun v q => nomatch q⟩
    · rw [q]; exact ⟨o1, e1, fun v q => by rw [d1] at q; cases q⟩
    · rw [q]; exact ⟨o2, e2, fun v q => by rw [d2] at q; cases q⟩
  keep := fun i h h' st k => by
    obtain ⟨hz, hTI, ⟨x, y, hTO⟩, ⟨o1, e1, f1⟩, h2⟩ := st
    exact ⟨k z (by simp) _ hz, k TI (by simp) _ hTI, ⟨x, y, k TO (by simp) _ hTO⟩, ⟨o1, k i1 (by simp) _ e1, f1⟩, h2.at fun o q => k i2 (by simp) o q⟩
  item := by
    intro X hP hw hK hc i pins s σ H E I hf st hg
    subst hP hw hK
    obtain ⟨hz, hTI, ⟨x0, y0, hTO⟩, h1, h2⟩ := st
    obtain ⟨hlt, ys, hqy, hly⟩ := hg
    obtain ⟨its, rv, p, _⟩ := I.tuple hqy
    have D1 := Draws.text (prog := X.prog) (w := X.w) (A := X.A.in1) (I.ok.hd hc) i1 (SX.S a) ta
    have D2 := Draws.tuple (prog := X.prog) (w := X.w) (A := X.A.in1) (I.ok.hd hc) i2 b hne its.toArray
    have s1 : (SX.S a).cps.size = a.length := by simp [SX.S]
    have s2 : its.toArray.size = ys.length := by simp [rv.length]
    have hzl : z < s.heap.objs.size := Heap.lt_size hz
    refine wpAny_pyNext_zipD2_item D D1 D2 hz hTI hTO h1 ⟨h2, p⟩ (by omega) (by omega) fun u u2 h' tk p1 p2 z' TO' h1' h2' hT hsz hk => ?_
    obtain ⟨c, hcx, ru⟩ := sgn p1
    obtain ⟨y, hy, ru2⟩ : ∃ y, ys[i]? = some y ∧ RelV y u2 := by
      obtain ⟨v, hv, rr⟩ := rv.get (List.getElem?_eq_getElem hly)
      have e : its.toArray[i]? = some v := by simpa using hv
      rw [p2] at e
      cases e
      exact ⟨_, List.getElem?_eq_getElem hly, rr⟩
    refine ⟨_, rfl, wpAny_letOwnedTupleGo_zip (s := { s with heap := h', toks := tk }) z' fun h'' z'' sb => ?_⟩
    have hT2 : h''.get? s.heap.objs.size = some { cls := .type "tuple", data := .seq #[u, u2] } := (sb.2 _ (Nat.ne_of_gt hzl)).trans hT
    have new : ObjOk X.prog X.w (upd H s.heap.objs.size (.tup [T [c], y])) h'' s.heap.objs.size (.tup [T [c], y]) :=
      ⟨by show 2 ≤ sizeLine; decide, [u, u2], .cons ru (.cons ru2 .nil), ⟨_, hT2, rfl, _, rfl⟩⟩
    have I1 : Inv X pins σ (upd H s.heap.objs.size (.tup [T [c], y])) { s with heap := h'', toks := tk } :=
      I.turnedNew (ch := [z, TI, TO, i1, i2]) (fun c o hb q => (sb.2 c (fun q' => hb (by simp [q']))).trans (hk c o (fun q' => hb (by simp [q'])) (fun q' => hb (by simp [q'])) (fun q' => hb (by simp [q'])) (fun q' => hb (by simp [q'])) q)) hf (Nat.le_refl _) new
    refine ⟨.ref s.heap.objs.size, _, I1, rfl, ⟨_, c, y, rfl, I.hok.fresh (Nat.le_refl _), rfl, hcx, fun l hl => by rw [I.tuple_inj hl hqy]; exact hy⟩, ⟨z'', ?_, ⟨u, u2, ?_⟩, ?_, ?_⟩, fun c hcm => ?_⟩
    · exact (sb.2 _ D.TIz).trans (hk _ _ D.TIz D.TITO D.TIi1 D.TIi2 hTI)
    · exact (sb.2 _ D.TOz).trans TO'
    · obtain ⟨o1, e1, f1⟩ := h1'
      exact ⟨o1, (sb.2 _ (Ne.symm D.zi1)).trans e1, f1⟩
    · exact h2'.1.at fun o q => (sb.2 _ (Ne.symm D.zi2)).trans q
    · have hlt : c < s.heap.objs.size := by
        have e' : c = z ∨ c = TI ∨ c = TO ∨ c = i1 ∨ c = i2 := by simpa using hcm
        rcases e' with q | q | q | q | q
        · rw [q]; exact hzl
        · rw [q]; exact Heap.lt_size hTI
        · rw [q]; exact Heap.lt_size hTO
        · rw [q]; obtain ⟨_, e1, _⟩ := h1; exact Heap.lt_size e1
        · rw [q]; obtain ⟨_, e2, _⟩ := h2; exact Heap.lt_size e2
      rw [upd_ne (Nat.ne_of_lt hlt)]
      exact (hf c hcm).1
  done := by
    intro X hP hw hK hc i pins s σ H E I hf st hg
    subst hP hw hK
    obtain ⟨hz, hTI, ⟨x0, y0, hTO⟩, h1, h2⟩ := st
    obtain ⟨ys, hqy, hend⟩ := hg
    obtain ⟨its, rv, p, _⟩ := I.tuple hqy
    have D1 := Draws.text (prog := X.prog) (w := X.w) (A := X.A.in1) (I.ok.hd hc) i1 (SX.S a) ta
    have D2 := Draws.tuple (prog := X.prog) (w := X.w) (A := X.A.in1) (I.ok.hd hc) i2 b hne its.toArray
    have s1 : (SX.S a).cps.size = a.length := by simp [SX.S]
    have s2 : its.toArray.size = ys.length := by simp [rv.length]
    exact wpAny_pyNext_zipD2_end D D1 D2 hz hTI hTO h1 ⟨h2, p⟩ (by omega) (by omega) (by omega) fun h' tk hk => ⟨rfl, I.turnedL (t' := tk) (ch := [z, TI, TO, i1, i2]) (fun c o hb q =>
      hk c o (fun q' => hb (by simp [q'])) (fun q' => hb (by simp [q'])) (fun q' => hb (by simp [q'])) (fun q' => hb (by simp [q'])) q) hf⟩
  self := fun A i s Q E st h => wpAny_pyIter_zip st.1 h
def iZipM (K : PySem.W.Frag) (ta : TA) : TI := fun σ H R => ta σ H fun vs H1 => ∃ (a : Tx) (b : Addr) (ys : List V), vs = [T a, .ref b] ∧ SqT K H1 b ys ∧ R (ItzM K a b) H1
theorem pi_zipM {X : Cx} {e e2 : Expr} {ta : TA} {p pos tpos : Pos} {elts : List Expr} {kk : Nat} (hg : Gl X "zip") (hm : X.mg "zip" = none) (ha : PA X [e, e2] ta)
    (hs : starEach [e, e2] X.env = (false, eval e X.env) :: starEach [e2] X.env := by rfl) (hpl : (backTo pos (starEach [e2] X.env)).any (·.1) = false := by rfl) :
    PI X (.Tuple elts kk tpos) (.Call (.Name "zip" p) [e, e2] [] pos) (iZipM X.K ta) := by
  refine ⟨fun pins s σ H R I h => ?_⟩
  refine Call_ (ld_blt I hg hm PyProof.Rows.boot_zip (PyProof.Rows.callWith_type1 (thn (ha.run pos pins s σ H _ I h) fun us s1 ⟨vs, H1, I1, r1, q1⟩ => ?_) hs hpl))
  obtain ⟨a, b, ys, ex, hqy, q⟩ := q1
  subst ex
  cases r1 with
  | cons r rr =>
    cases rr with
    | cons r' rr =>
      cases rr
      obtain ⟨ta, rfl⟩ := r
      cases r'
      obtain ⟨its, rv, p, _⟩ := I1.tuple hqy
      obtain ⟨o2, ho2, _⟩ := id p
      have hlt := Heap.lt_size ho2
      have fresh5 : ∀ c, c ∈ [s1.heap.objs.size + 4, s1.heap.objs.size + 2, s1.heap.objs.size + 3, s1.heap.objs.size, s1.heap.objs.size + 1] → FpOk X pins H1 c := fun c hcm => by
        have e' : c = s1.heap.objs.size + 4 ∨ c = s1.heap.objs.size + 2 ∨ c = s1.heap.objs.size + 3 ∨ c = s1.heap.objs.size ∨ c = s1.heap.objs.size + 1 := by simpa using hcm
        have hle : s1.heap.objs.size ≤ c := by omega
        exact I1.fpOk hle (I1.hok.fresh hle)
      refine zip_begins2 (begins_text (SX.S a) ta) (begins_tuple b its.toArray) trivial p fun h' hz hTI hTO h1 h2 hsz hk => wpAny_pyIter_zip hz ?_
      have I2 : Inv X pins σ H1 { s1 with heap := h' } := I1.kept (t' := s1.toks) hk
      exact ⟨s1.heap.objs.size + 4, [s1.heap.objs.size + 4, s1.heap.objs.size + 2, s1.heap.objs.size + 3, s1.heap.objs.size, s1.heap.objs.size + 1], _, _, H1, rfl, I2, turn_zipM (ta := ta) (zip_sep2 (fun b hb => by cases hb) (fun c hb => by rw [List.mem_singleton.mp hb]; exact hlt)) (Nat.ne_of_lt (Nat.lt_succ_of_lt hlt)), ⟨hz, hTI, ⟨_, _, hTO⟩, ⟨_, h1, rfl, rfl⟩, ⟨_, h2, rfl, rfl⟩⟩, fresh5, q⟩
section
variable {K : PySem.W.Frag} {σ : L2.St} {H : Hp}
theorem kizm {X : Cx} {tg iter : Expr} {ta : TA} (h : PI X tg iter (iZipM X.K ta)) (hK : X.K = K := by rfl) : PI X tg iter (iZipM K ta) := hK ▸ h
theorem src_zipM {a : Tx} {b : Addr} {ys : List V} {tl tr : TE} (h : Ev tl σ H (T a)) (h2 : Ev tr σ H (.ref b)) (hq : SqT K H b ys) : Src (iZipM K (tCons tl (tCons tr tNil))) σ H (min a.length ys.length) (fun c => c = b) (fun i v Hb => ∃ p c y, v = .ref p ∧ a[i]? = some c ∧ ys[i]? = some y ∧ Hb p = some (.tup [T [c], y])) := fun H1 e R q =>
  h H1 e _ fun H2 e2 => h2 H2 (e.trans e2) _ fun H3 e3 => by
    have e13 := e.trans (e2.trans e3)
    refine ⟨a, b, ys, rfl, ex_t e13 hq, q _ H3 (fun Ha => SqT K Ha b ys) (e2.trans e3) ⟨fun i Ha hi hs => ⟨by omega, ys, hs, by omega⟩, fun Ha hs => ⟨ys, hs, rfl⟩, fun i Ha v Hb hi hs y => ?_⟩ fun B Ha hB ea => ?_⟩
    · obtain ⟨t, c, y, rfl, hn, rfl, h1, h2⟩ := y
      exact ⟨Ex.new hn, t, c, y, rfl, h1, h2 ys hs, upd_same⟩
    · exact ea.tp (fun z => (hB b z).2 rfl) (ex_t e13 hq)
end
end Ws
set_option Elab.async false
set_option linter.all false
set_option maxRecDepth 100000
set_option maxHeartbeats 4000000
/-! dicts as sets of texts; set(tuple of texts), len of a set of texts -/
namespace Ws
open PySem PySem.Spec PyProof.Rows L2 Evl Wc Wt Wg Wd
/-- a text as a key -/
abbrev kx (t : Tx) : Key := Sum.inr (SX.S t)
def DX (ks : List Tx) : List (Key × V) := ks.map fun t => (kx t, V.bl true)
def addT (ks : List Tx) (t : Tx) : List Tx := if t ∈ ks then ks else ks ++ [t]
theorem mem_addT {ks : List Tx} {n m : Tx} : m ∈ addT ks n ↔ m ∈ ks ∨ m = n := by
  unfold addT
  split
  · rename_i h
    exact ⟨.inl, fun z => z.elim id fun e => e ▸ h⟩
  · rw [List.mem_append, List.mem_singleton]
theorem addT_nodup {ks : List Tx} {n : Tx} (h : ks.Nodup) : (addT ks n).Nodup := by
  unfold addT
  split
  · exact h
  · rename_i hn
    refine List.nodup_append.mpr ⟨h, List.pairwise_singleton _ _, fun a ha b hb => ?_⟩
    rw [List.mem_singleton.mp hb]
    exact fun z => hn (z ▸ ha)
theorem addT_len (ks : List Tx) (n : Tx) : (addT ks n).length ≤ ks.length + 1 := by
  unfold addT
  split
  · omega
  · simp
theorem kx_inj {a b : Tx} (h : kx a = kx b) : a = b := S_inj (Sum.inr.inj h)
theorem val_DX (ks : List Tx) (n : Tx) : valV (DX ks) (kx n) = if n ∈ ks then some (.bl true) else none := by
  induction ks with
  | nil => rfl
  | cons m ks ih =>
    by_cases h : m = n
    · subst h
      show valV ((kx m, V.bl true) :: DX ks) _ = _
      rw [valV_pos rfl, if_pos List.mem_cons_self]
    · show valV ((kx m, V.bl true) :: DX ks) _ = _
      rw [valV_neg (fun z => h (kx_inj z)), ih]
      by_cases h2 : n ∈ ks
      · rw [if_pos h2, if_pos (List.mem_cons_of_mem _ h2)]
      · rw [if_neg h2, if_neg fun z => (List.mem_cons.mp z).elim (fun e => h e.symm) h2]
theorem put_DX (ks : List Tx) (n : Tx) : putK (DX ks) (kx n) (.bl true) = DX (addT ks n) := by
  have ha := valV_any (kx n) (DX ks)
  rw [val_DX] at ha
  unfold putK addT
  by_cases h : n ∈ ks
  · rw [if_pos h] at ha
    rw [if_pos (show ((DX ks).any fun kv => decide (kv.1 = kx n)) = true from ha), if_pos h]
    unfold DX
    rw [List.map_map]
    refine List.map_congr_left fun m _ => ?_
    show (if kx m = kx n then _ else _) = _
    split <;> rfl
  · rw [if_neg h] at ha
    rw [if_neg (show ¬ ((DX ks).any fun kv => decide (kv.1 = kx n)) = true from fun z => Bool.false_ne_true (ha.symm.trans z)), if_neg h]
    unfold DX
    rw [List.map_append]
    rfl
theorem DX_len (ks : List Tx) : (DX ks).length = ks.length := by unfold DX; rw [List.length_map]
def addAllT (ks ns : List Tx) : List Tx := ns.foldl addT ks
theorem mem_addAllT {m : Tx} : ∀ {ns ks : List Tx}, m ∈ addAllT ks ns ↔ m ∈ ks ∨ m ∈ ns
  | [], ks => ⟨.inl, fun z => z.elim id fun h => nomatch h⟩
  | n :: ns, ks => by
    show m ∈ addAllT (addT ks n) ns ↔ _
    rw [mem_addAllT, mem_addT, List.mem_cons, or_assoc]
theorem addAllT_nodup : ∀ {ns ks : List Tx}, ks.Nodup → (addAllT ks ns).Nodup
  | [], _, h => h
  | n :: ns, ks, h => addAllT_nodup (ns := ns) (addT_nodup h)
theorem addAllT_len : ∀ (ns ks : List Tx), (addAllT ks ns).length ≤ ks.length + ns.length
  | [], _ => Nat.le_refl _
  | n :: ns, ks => by
    have h1 := addAllT_len ns (addT ks n)
    have h2 := addT_len ks n
    show (addAllT (addT ks n) ns).length ≤ _
    rw [List.length_cons]
    omega
theorem addAllT_succ {ns : List Tx} {i : Nat} {n : Tx} (h : ns[i]? = some n) : addAllT [] (ns.take (i + 1)) = addT (addAllT [] (ns.take i)) n := by
  rw [List.take_add_one, h]
  unfold addAllT
  rw [List.foldl_append]
  rfl
theorem addAllT_id : ∀ {ns ks : List Tx}, (ks ++ ns).Nodup → addAllT ks ns = ks ++ ns
  | [], ks, _ => (List.append_nil ks).symm
  | n :: ns, ks, h => by
    have hn : n ∉ ks := fun z => (List.nodup_append.mp h).2.2 n z n List.mem_cons_self rfl
    show addAllT (addT ks n) ns = _
    have e : addT ks n = ks ++ [n] := by unfold addT; rw [if_neg hn]
    rw [e, addAllT_id (by rw [List.append_assoc]; exact h), List.append_assoc]
    rfl
section
variable {K : PySem.W.Frag} {w : World} {P : Program} {σ : L2.St} {H : Hp} {ta td ty tv te : TE} {D : Ends} {Q : VK}
/-- d[t] = True -/
theorem s_putX {d : Addr} {ks : List Tx} {n : Tx} (hd : Ev td σ H (.ref d)) (hn : Ev ty σ H (T n)) (h : H d = some (.dK (DX ks))) (hl : ks.length ≤ 10000) (k : ∀ H1, Ex H H1 → D.nx σ (upd H1 d (.dK (DX (addT ks n))))) : sDPut td ty (tC (.bl true)) D σ H :=
  hd H (Ex.refl H) _ fun H2 e2 => hn H2 e2 _ fun H3 e3 => ⟨d, _, rfl, DPut.k (k := kx n) ((e2.trans e3) _ _ h) (by rw [DX_len]; unfold sizeLine; omega), by rw [put_DX]; exact k H3 (e2.trans e3)⟩
theorem q_putX {tz : TS} {d : Addr} {ks : List Tx} {n : Tx} (hd : Ev td σ H (.ref d)) (hn : Ev ty σ H (T n)) (h : H d = some (.dK (DX ks))) (hl : ks.length ≤ 10000) (k : ∀ H1, Ex H H1 → tz D σ (upd H1 d (.dK (DX (addT ks n))))) : tSeq (sDPut td ty (tC (.bl true))) tz D σ H := s_putX (D := { D with nx := tz D }) hd hn h hl k
theorem ev_inX {d : Addr} {ks : List Tx} {n : Tx} (hn : Ev ty σ H (T n)) (hd : Ev td σ H (.ref d)) (h : H d = some (.dK (DX ks))) : Ev (tDIn ty td) σ H (.bl (decide (n ∈ ks))) := fun H1 e Q q =>
  hn H1 e _ fun H2 e2 => hd H2 (e.trans e2) _ fun H3 e3 => ⟨d, _, rfl, DGet.k (k := kx n) (((e.trans e2).trans e3) _ _ h), by rw [val_DX, some_if]; exact q H3 (e2.trans e3)⟩
theorem ev_notinX {d : Addr} {ks : List Tx} {n : Tx} (hn : Ev ty σ H (T n)) (hd : Ev td σ H (.ref d)) (h : H d = some (.dK (DX ks))) : Ev (tDNotIn ty td) σ H (.bl (!decide (n ∈ ks))) := fun H1 e Q q =>
  hn H1 e _ fun H2 e2 => hd H2 (e.trans e2) _ fun H3 e3 => ⟨d, _, rfl, DGet.k (k := kx n) (((e.trans e2).trans e3) _ _ h), by rw [val_DX, some_if]; exact q H3 (e2.trans e3)⟩
/-- list(d) -/
theorem el_listX {d : Addr} {ks : List Tx} (hd : Ev td σ H (.ref d)) (h : H d = some (.dK (DX ks))) : EvL (tCB rListD (tCons td tNil)) σ H (ks.map T) := fun H1 e Q q =>
  hd H1 e _ fun H2 e2 => ⟨d, DX ks, rfl, (e.trans e2) _ _ h, fun r hr => q r _ (fresh_back e2 hr) (e2.trans (Ex.new hr)) (by
    rw [upd_same]
    unfold DX
    rw [List.map_map]
    rfl)⟩
/-- {t: True for t in ns} -/
theorem dc_texts {wi : TI} {j : Nat} {vs : List Nat} {own : Addr → Prop} (ns : List Tx) (hs : Src wi σ H ns.length own (fun i v _ => (ns.map T)[i]? = some v)) (hn : ns.length ≤ 4000) (hw : ∀ x, wipe ((wipe σ vs).set j (some x)) vs = wipe σ vs) (hj : ∀ x, ((wipe σ vs).set j (some x))[j]? = some (some x))
    (k : ∀ d H2, H d = none → Ex H H2 → H2 d = some (.dK (DX (addAllT [] ns))) → Q (.ref d) H2) : tDc wi (gName j) tYes (tVar j) (tC (.bl true)) vs σ H Q :=
  hs H (Ex.refl H) _ fun J H1 S e1 wk hS => fun Dl hD => by
    refine dc_it wk (Qd := fun H3 => Q (.ref Dl) H3) (fun i Hi => Ex H1 Hi ∧ Hi Dl = some (.dK (DX (addAllT [] (ns.take i))))) ?_ (fun i Hi hi p => hS (fun _ => False) Hi (fun b z => z.elim) (.of p.1)) ?_ ?_
    · exact ⟨Ex.new hD, upd_same⟩
    · rintro i x Ha Hb hi ⟨R, h1⟩ ⟨ey, hP⟩
      obtain ⟨n, hn1, rfl⟩ := at_map hP
      refine ⟨hw _, ?_⟩
      unfold tYes
      dsimp only
      rw [if_pos rfl]
      refine ⟨T n, hj _, ?_⟩
      have hl := addAllT_len (ns.take i) []
      refine ⟨DX (addAllT [] (ns.take i)), kx n, rfl, ey _ _ h1, ?_, Ex.mut (R.trans ey) hD, ?_⟩
      · rw [DX_len]
        rw [List.length_take] at hl
        have : ([] : List Tx).length = 0 := rfl
        unfold sizeLine
        omega
      · show (upd Hb Dl (.dK (putK (DX (addAllT [] (ns.take i))) (kx n) (.bl true)))) Dl = _
        rw [upd_same, put_DX, addAllT_succ hn1]
    · rintro H3 ⟨R, h1⟩
      rw [List.take_length] at h1
      exact k Dl H3 (fresh_back e1 hD) (e1.trans R) h1
theorem merge_DX : ∀ (xs : List Tx) (ks : List Tx), mergeK (DX ks) (xs.map fun x => (kx x, V.bl true)) = DX (addAllT ks xs)
  | [], ks => rfl
  | x :: xs, ks => by
    show mergeK (putK (DX ks) (kx x) (.bl true)) (xs.map fun x => (kx x, V.bl true)) = DX (addAllT (addT ks x) xs)
    rw [put_DX, merge_DX xs]
end
/-! ### set(tuple of texts), its len -/
section
variable {P : Program} {w : World} {A : Around} {E : Value → Shared → Prop} {s : Shared}
set_option maxHeartbeats 3200000 in
theorem call_setT {src : Addr} {its : Array Value} {xs : List Str} {Q : Value → Shared → Prop} (noH : A.handled = none) (isl : s.heap.IsTuple src its) (hit : StrsAre its.toList xs) (room : xs.length + 1 < scanBound)
    (fin : ∀ (h2 : Heap) (tk : Nat) (l : List Str), Met xs xs.length l → SetX P w h2 s.heap.objs.size l → (∀ b o, s.heap.get? b = some o → h2.get? b = some o) → Q (.ref s.heap.objs.size) { s with heap := h2, toks := tk }) :
    wpAny (model P w) A (call (.type "set") [.ref src]) Q E s := by
  have lx : xs.length = its.size := by rw [← Array.length_toList, hit.len_eq]
  obtain ⟨c, tl, q0⟩ := PySem.F.called_set.mro
  have q1 := PySem.F.called_set.made; have q2 := PySem.F.called_set.sub
  refine wpAny_call (codeAny_of_tree (wpAny_pure ⟨Code.quiet_builtin _ (by decide +kernel), codeAny_builtin PySem.F.entry_type_call ?_⟩))
  rw [Around.under_plain (weight_type_call_type "set" [.ref src] []) rfl]
  have q3 := PySem.F.called_set.notType; have q4 := PySem.F.called_set.canCreate
  have q5 := PySem.F.typeCall_set_1 (.ref src)
  repeat (any_goals (first | assumption | wp_step))
  refine codeAny_mono (code_set_led1 (.ref src) (E := E) (Q₁ := fun ob t1 => ob = .ref s.heap.objs.size ∧ t1 = { s with heap := s.heap.push (so w) }) ⟨rfl, rfl⟩) fun r t1 hr => ?_
  match r, hr with
  | .error e, hr => exact hr
  | .ok (.ret ob), hr =>
    obtain ⟨rfl, rfl⟩ := hr
    have atS : (s.heap.push (so w)).get? s.heap.objs.size = some (so w) := Heap.get?_push_size _ rfl
    have tyS : Shared.TypeIs { s with heap := s.heap.push (so w) } (.ref s.heap.objs.size) "set" := ⟨_, atS, rfl⟩
    have q6 := PySem.F.called_set.init.lookup
    have q7 := PySem.F.called_set.init.bind (.ref s.heap.objs.size)
    repeat (any_goals (first | assumption | wp_step))
    refine codeAny_mono (codeAny_call_builtin (R := wants (fun r t2 => r = .none ∧ ∃ h2 tk l, t2 = { s with heap := h2, toks := tk } ∧ Met xs xs.length l ∧ SetX P w h2 s.heap.objs.size l ∧ ∀ b o, s.heap.get? b = some o → h2.get? b = some o) E) PySem.F.called_set.init.plain PySem.F.entry_set_init (check_set_init_1 tyS ?_)) fun r2 t2 hr2 => ?_
    · obtain ⟨ol, atl, cl, nl, dl⟩ := isl
      obtain ⟨ocls, odict, odata, oslots⟩ := ol
      simp only at cl dl
      subst cl; subst dl
      have lt := Heap.lt_size atl
      have isl2 : (s.heap.push (so w)).IsTuple src its := ⟨_, Heap.get?_push_of_some _ atl, rfl, nl, rfl⟩
      have q8 := PySem.F.sub_tuple_set; have q9 := PySem.F.sub_tuple_frozenset
      have q10 : (Value.type "tuple" == Value.type "dict") = false := by decide
      have atl2 : (s.heap.push (so w)).get? src = some { cls := .type "tuple", dict := odict, data := .seq its nl, slots := oslots } := Heap.get?_push_of_some _ atl
      unfold Builtin.«set.__init__» noKeywords Builtin.Frozenset.updateFrom
      generalize hI : pyIter = iter
      wp_walk
      subst hI
      refine wpAny_pyIter_tuple isl2 (wpAny_bind (wpAny_runValue ?_))
      have no3 : A.in1.in1.in1.handled = none := by simp [noH]
      have zI : (s.heap.push (so w)).objs.size = s.heap.objs.size + 1 := Heap.size_push ..
      have ne1 : src ≠ (s.heap.push (so w)).objs.size := by rw [zI]; exact Nat.ne_of_lt (Nat.lt_succ_of_lt lt)
      have out1 : s.heap.objs.size ∉ [(s.heap.push (so w)).objs.size, src] := by
        rw [zI]
        intro z
        rcases List.mem_cons.mp z with z | z
        · exact absurd z (Nat.ne_of_lt (Nat.lt_succ_self _))
        · exact absurd (List.mem_singleton.mp z) (Nat.ne_of_gt lt)
      refine fill_texts (P := P) (xs := xs) ((Walks.tuple no3 _ src ne1 its).toS) out1 lx (by rw [← lx]; exact room) (fun i v hv => ?_) its.size 0 _ [] (by omega) ⟨⟨_, Heap.get?_push_size _ rfl, rfl, rfl⟩, isl2.push _⟩ ⟨List.nodup_nil, fun x => by simp, Nat.le_refl _⟩ (SetX.new (Heap.get?_push_of_some _ atS)) fun s2 l2 mv m2 X2 => ?_
      · obtain ⟨y, u, h1, h2⟩ := hit.item i v (by rw [Array.getElem?_toList]; exact hv)
        exact ⟨y, u, h2, h1⟩
      · obtain ⟨h2, g2, d2, tk2, os2⟩ := s2
        obtain rfl : g2 = s.gens := mv.gens
        obtain rfl : d2 = s.drawn := mv.drawn
        obtain rfl : os2 = s.os := mv.os
        rw [← lx] at m2
        show wpAny _ _ (Bind.bind (pure _) _) _ _ _
        refine wpAny_pure (wpAny_pure ⟨rfl, h2, tk2, l2, rfl, m2, X2, fun b o e => ?_⟩)
        have hb := Heap.lt_size e
        refine mv.heap b o (fun z => ?_) (Heap.get?_push_of_some _ (Heap.get?_push_of_some _ e))
        rw [zI] at z
        rcases List.mem_cons.mp z with z | z
        · exact absurd z (Nat.ne_of_lt hb)
        · exact absurd (List.mem_singleton.mp z) (Nat.ne_of_lt (Nat.lt_succ_of_lt hb))
    · match r2, hr2 with
      | .error e, hr2 => exact hr2
      | .ok (.ret v2), hr2 =>
        obtain ⟨rfl, h2, tk, l, rfl, m, X, k⟩ := hr2
        repeat (any_goals (first | assumption | wp_step))
        exact fin _ _ _ m X k
end
section
variable {X : Cx}
def rSetTup (K : PySem.W.Frag) (P : Program) (w : World) : List V → Hp → VK → Prop := fun vs H Q => ∃ (p : Addr) (xs : List Tx), vs = [.ref p] ∧ SqT K H p (xs.map T) ∧ xs.length ≤ 4000 ∧ ∀ q ys, Uniq xs ys → ys.length ≤ xs.length → H q = none → Q (.ref q) (upd H q (SetXO P w q (ys.map SX.S)))
theorem cr_setTup (hc : X.calm = true) : CallR X (.type "set") (rSetTup X.K X.prog X.w) := by
  intro pins s σ H vs us Q I r h
  obtain ⟨p, xs, rfl, hp, hl, q⟩ := h
  rw [Vals.ref1 r]
  obtain ⟨its, rv, pl, hz⟩ := I.tuple hp
  refine call_setT (P := X.prog) (xs := xs.map SX.S) (I.ok.hd hc) pl (by simpa using strs_of_each (each_of_vals rv)) (by rw [List.length_map]; unfold scanBound; omega) fun h2 tk l m R k => ?_
  obtain ⟨ys, rfl, u, hly⟩ := uniq_of m
  have hn : H s.heap.objs.size = none := I.hok.fresh (Nat.le_refl _)
  exact ⟨.ref _, upd H s.heap.objs.size (SetXO X.prog X.w s.heap.objs.size (ys.map SX.S)), I.laid (t' := tk) k (Nat.le_refl _) (setXO_new R), rfl, q _ ys u hly hn⟩
theorem ksetTup {K : PySem.W.Frag} {P : Program} {w : World} (hc : X.calm = true := by rfl) (hK : X.K = K := by rfl) (hP : X.prog = P := by rfl) (hw : X.w = w := by rfl) : CallR X (.type "set") (rSetTup K P w) := by
  subst hK hP hw
  exact cr_setTup hc
def rLenX (P : Program) (w : World) : List V → Hp → VK → Prop := fun vs H Q => ∃ (p : Addr) (l : List Tx), vs = [.ref p] ∧ H p = some (SetXO P w p (l.map SX.S)) ∧ l.length ≤ 4000 ∧ Q (.int (l.length : Int)) H
theorem cr_lenX : CallR X (.builtin "len") (rLenX X.prog X.w) := by
  intro pins s σ H vs us Q I r h
  obtain ⟨p, l, rfl, hp, hl, q⟩ := h
  rw [Vals.ref1 r]
  obtain ⟨o, es, ep, t, ho, hex, hd, py⟩ := (I.hok p _ hp).1
  have hn := py.size
  rw [List.length_map] at hn
  exact call_len_set ho hex hd py.fit (by omega) ⟨.int (l.length : Int), H, I.tok _, ⟨_, by rw [hn]⟩, q⟩
theorem kLenX {P : Program} {w : World} (hP : X.prog = P := by rfl) (hw : X.w = w := by rfl) : CallR X (.builtin "len") (rLenX P w) := by
  subst hP hw
  exact cr_lenX
end
section
variable {K : PySem.W.Frag} {w : World} {P : Program} {σ : L2.St} {H : Hp} {ta : TE}
theorem uniq_len {xs ys : List Tx} (u : Uniq xs ys) : ys.length = (setX xs).length := len_nodup' u.nd (setX_nodup xs) fun x => (u.mem x).trans mem_setX.symm
where len_nodup' {l l' : List Tx} (h1 : l.Nodup) (h2 : l'.Nodup) (h : ∀ a, a ∈ l ↔ a ∈ l') : l.length = l'.length := ((List.perm_ext_iff_of_nodup h1 h2).mpr h).length_eq
/-- len(set(tuple of texts)) -/
theorem ev_lenSetT {p : Addr} {xs : List Tx} (h : Ev ta σ H (.ref p)) (hp : SqT K H p (xs.map T)) (hl : xs.length ≤ 4000) : Ev (tCB (rLenX P w) (tCons (tCB (rSetTup K P w) (tCons ta tNil)) tNil)) σ H (.int ((setX xs).length : Int)) := fun H1 e Q q =>
  h H1 e _ fun H2 e2 => ⟨p, xs, rfl, ex_t (e.trans e2) hp, hl, fun r ys u hle hr => ⟨r, ys, rfl, upd_same, by omega, by rw [uniq_len u]; exact q _ (e2.trans (Ex.new hr))⟩⟩
end
end Ws
set_option Elab.async false
set_option linter.all false
set_option maxRecDepth 100000
set_option maxHeartbeats 4000000
/-! sorted(tuple of texts); the place of a sign in "abcd" -/
namespace Ws
open PySem PySem.Spec PyProof.Rows L2 Evl Wc Wt Wg Wd
section
variable {P : Program} {w : World} {A : Around} {E : Value → Shared → Prop} {s : Shared}
/-- the items of a tuple; the heap only grows -/
theorem collectTup {it : Addr} {items : Array Value} {Q : List Value → Shared → Prop} (hl : s.heap.IsTuple it items) (hsz : items.size ≤ sizeLine)
    (hQ : ∀ h', (∀ b o', s.heap.get? b = some o' → h'.get? b = some o') → s.heap.objs.size ≤ h'.objs.size → Q items.toList { s with heap := h' }) : wpAny (model P w) A (collect (.ref it)) Q E s := by
  obtain ⟨o, ho, hc, n, hd⟩ := hl
  have atL : (s.heap.push { cls := .type "list", data := .seq ([] : List Value).toArray }).get? s.heap.objs.size = some { cls := .type "list", data := .seq #[] 0 } := Heap.get?_push_size _ rfl
  have at2 := Heap.get?_update_self (Obj.mapSeq (· ++ items)) atL rfl
  have big : s.heap.objs.size ≤ ((s.heap.push { cls := .type "list", data := .seq ([] : List Value).toArray }).update s.heap.objs.size (Obj.mapSeq (· ++ items))).objs.size := by
    rw [Heap.size_update, Heap.size_push]
    exact Nat.le_succ _
  unfold collect
  refine wpAny_bind (wpAny_runValue (codeAny_builtin F.entry_proto_collect ?_))
  rw [Around.under_plainId F.plain_proto_collect _]
  show wpAny _ A.in1 (newList [] >>= fun l => again (.builtin "list.__iadd__" ⟨[l, .ref it], []⟩)) _ _ s
  refine wpAny_bind (wpAny_newObj_type (wpAny_pure ⟨plainId_quiet F.plain_list_iadd _, codeAny_builtin F.entry_list_iadd ?_⟩))
  rw [Around.under_plainId F.plain_list_iadd _]
  show wpAny _ A.in1 (Builtin.List.listExtendWith (.ref s.heap.objs.size) (.ref it) (.ref s.heap.objs.size)) _ _ _
  have last : wpAny (model P w) A (match Value.ref s.heap.objs.size with
      | Value.ref a => do
        match (← load a).data with
          | Data.seq xs _ => pure xs.toList
          | _ => unsupported "internal:collect"
      | _ => unsupported "internal:collect") Q E { s with heap := (s.heap.push { cls := .type "list", data := .seq ([] : List Value).toArray }).update s.heap.objs.size (Obj.mapSeq (· ++ items)) } := by
    show wpAny _ A (load s.heap.objs.size >>= _) _ _ _
    refine wpAny_bind (wpAny_load at2 (wpAny_pure ?_))
    show Q ((#[] : Array Value) ++ items).toList _
    rw [show ((#[] : Array Value) ++ items).toList = items.toList from by simp]
    exact hQ _ (fun b o' hb => (Heap.get?_update_other _ _ (Nat.ne_of_gt (Heap.lt_size hb))).trans (Heap.get?_push_of_some _ hb)) big
  refine wpAny_mono (wpAny_extend_seq (hsz := hsz) (A := A) (R := fun r s' => r = .ok (.ret (.ref s.heap.objs.size)) ∧ s' = { s with heap := (s.heap.push { cls := .type "list", data := .seq ([] : List Value).toArray }).update s.heap.objs.size (Obj.mapSeq (· ++ items)) })
    (s := { s with heap := s.heap.push { cls := .type "list", data := .seq ([] : List Value).toArray } }) _ it _ 0 (.inr rfl) atL (Heap.get?_push_of_some _ ho) hc hd ⟨rfl, rfl⟩) (fun fin s' h => ?_) (fun e s' h => absurd h.1 (by simp))
  cases fin with
  | done f =>
    obtain ⟨e, rfl⟩ := h
    cases e
    exact last
  | again c' => exact ⟨h.1, codeAny_mono h.2 fun r s'' hr => by obtain ⟨rfl, rfl⟩ := hr; exact last⟩
end
section
variable {X : Cx}
def rSortTup (K : PySem.W.Frag) : List V → Hp → VK → Prop := fun vs H Q => ∃ (p : Addr) (xs : List Tx), vs = [.ref p] ∧ SqT K H p (xs.map T) ∧ ∀ q, H q = none → Q (.ref q) (upd H q (.lst ((sortT xs).map T)))
theorem cr_sortTup (hu : X.A.units + 64 < cLine) : CallR X (.builtin "sorted") (rSortTup X.K) := by
  intro pins s σ H vs us Q I r h
  obtain ⟨p, xs, rfl, hp, q⟩ := h
  rw [Vals.ref1 r]
  obtain ⟨its, rv, pl, hz⟩ := I.tuple hp
  obtain ⟨o, ho, hc, n, hd⟩ := id pl
  have ez := each_of_vals rv
  rw [List.length_map] at hz
  have li := ez.length
  refine Calls.call_function_entry kind_sorted plain_sorted entry_sorted (args_sorted1 _) ?_
  unfold Builtin.«sorted»
  refine wpAny_bind (m := checkCount "sorted" 1 1 _) (wpAny_pure (wpAny_bind (collectTup (A := X.A.in1) pl (by simp; omega) fun h' k1 sz => ?_)))
  rw [List.toList_toArray]
  have small : its.length ≤ sizeLine := by omega
  refine wpAny_bind (wpAny_newList ?_ small)
  have atL : (h'.push (seqObj "list" its.toArray 0)).get? h'.objs.size = some (seqObj "list" its.toArray 0) := Heap.get?_push_size _ rfl
  refine wpAny_bind (wpAny_holding (PySem.W.list_sort_data (s := { s with heap := h'.push (seqObj "list" its.toArray 0) }) (R := IsT) (enc := fun b : Tx => PyData.str (SX.S b)) atL ez (reads_out ez) (alike_tx xs) (sortable_tx xs) (by omega) (fun b _ => ?_) fun out hlen eo => ?_))
  · show X.A.in1.units + 1 + _ < cLine
    have h1 : X.A.in1.units ≤ X.A.units + 8 := by
      show X.A.units + _ ≤ _
      first | omega | exact Nat.add_le_add_left (by decide) _
    have : (PyData.str (SX.S b)).depth ≤ 1 := by simp [PyData.depth]
    omega
  · rw [enc_le] at eo
    obtain ⟨c, hc2⟩ := sortedHeap_at (vs := its) (out := out.toArray) atL
    have kk : ∀ b u, s.heap.get? b = some u → (sortedHeap (h'.push (seqObj "list" its.toArray 0)) h'.objs.size its out.toArray).get? b = some u := fun b u e => by
      have lt := Heap.lt_size (k1 b u e)
      rw [sortedHeap_old (Nat.ne_of_lt lt) (by rw [size_push']; exact Nat.lt_succ_of_lt lt)]
      exact Heap.get?_push_of_some _ (k1 b u e)
    have hn : H h'.objs.size = none := I.hok.fresh sz
    refine wpAny_pure ⟨_, rfl, .ref h'.objs.size, _, ?_, rfl, q _ hn⟩
    exact I.laid (t' := s.toks) kk sz ⟨by rw [List.length_map, sortT_len]; omega, out, c, vals_of_each eo, hc2⟩
theorem ksortTup {K : PySem.W.Frag} (hu : X.A.units + 64 < cLine) (hK : X.K = K := by rfl) : CallR X (.builtin "sorted") (rSortTup K) := by
  subst hK
  exact cr_sortTup hu
/-- the letters -/
abbrev AB : Tx := [97, 98, 99, 100]
theorem at_AB {c : Nat} (h1 : 97 ≤ c) (h2 : c ≤ 100) : c = 97 ∨ c = 98 ∨ c = 99 ∨ c = 100 := by omega
def rIndexA : V → List V → Hp → VK → Prop := fun x xs H Q => ∃ c : Nat, 97 ≤ c ∧ c ≤ 100 ∧ x = T AB ∧ xs = [T [c]] ∧ Q (.int ((c - 97 : Nat) : Int)) H
theorem mt_indexA : MtR X "str.index" rIndexA := by
  intro pins s σ H x xs v us Q I rx r h
  obtain ⟨c, h1, h2, rfl, rfl, q⟩ := h
  refine mt_sindex pins s σ H _ _ v us Q I rx r ?_
  rcases at_AB h1 h2 with rfl | rfl | rfl | rfl
  · exact ⟨_, _, 0, [], rfl, rfl, by decide +kernel, q⟩
  · exact ⟨_, _, 1, [], rfl, rfl, by decide +kernel, q⟩
  · exact ⟨_, _, 2, [], rfl, rfl, by decide +kernel, q⟩
  · exact ⟨_, _, 3, [], rfl, rfl, by decide +kernel, q⟩
end
section
variable {K : PySem.W.Frag} {σ : L2.St} {H : Hp} {te : TE}
theorem rm_indexA {c : Nat} (h1 : 97 ≤ c) (h2 : c ≤ 100) : RM rIndexA (T AB) [T [c]] H (.int ((c - 97 : Nat) : Int)) := fun H1 e Q q => ⟨c, h1, h2, rfl, rfl, q H1 (Ex.refl _)⟩
theorem el_sortTup {p : Addr} {xs : List Tx} (h : Ev te σ H (.ref p)) (hp : SqT K H p (xs.map T)) : EvL (tCB (rSortTup K) (tCons te tNil)) σ H ((sortT xs).map T) := fun H1 e _ q => h H1 e _ fun H2 e2 => ⟨p, xs, rfl, ex_t (e.trans e2) hp, fun r hr => q r _ (fresh_back e2 hr) (e2.trans (Ex.new hr)) upd_same⟩
end
end Ws
set_option Elab.async false
set_option linter.all false
set_option maxRecDepth 100000
set_option maxHeartbeats 2000000
/-! startswith and endswith; comprehensions that make an object for some of the things; comprehensions over things that stand -/
namespace Ws
open PySem PySem.Spec PyProof.Rows L2 Evl Wc Wt Wg Wd
def rStartT : V → List V → Hp → VK → Prop := fun x xs H Q => ∃ (a b : Tx), x = T a ∧ xs = [T b] ∧ Q (.bl (decide (a.take b.length = b))) H
theorem mt_startT {X : Cx} : MtR X "str.startswith" rStartT := by
  intro pins s σ H x xs v us Q I rx r h
  obtain ⟨a, b, rfl, rfl, q⟩ := h
  refine mt_startswith pins s σ H _ _ v us Q I rx r ⟨_, _, rfl, rfl, ?_⟩
  unfold Txt.startswith
  rw [S_length, S_length, subAt_T, ← Bool.decide_and]
  have e : decide (0 + b.length ≤ a.length ∧ StAt a b 0) = decide (a.take b.length = b) := decide_eq_decide.mpr ⟨fun h => h.2, fun h => ⟨by have := congrArg List.length h; rw [List.length_take] at this; omega, h⟩⟩
  rw [e]
  exact q
def rEndT : V → List V → Hp → VK → Prop := fun x xs H Q => ∃ (a b : Tx), x = T a ∧ xs = [T b] ∧ Q (.bl (decide (b.length ≤ a.length ∧ a.drop (a.length - b.length) = b))) H
theorem mt_endT {X : Cx} : MtR X "str.endswith" rEndT := by
  intro pins s σ H x xs v us Q I rx r h
  obtain ⟨a, b, rfl, rfl, q⟩ := h
  refine mt_endswith pins s σ H _ _ v us Q I rx r ⟨_, _, rfl, rfl, ?_⟩
  unfold Txt.endswith
  rw [S_length, S_length, subAt_T, ← Bool.decide_and]
  have e : decide (0 + b.length ≤ a.length ∧ StAt a b (a.length - b.length)) = decide (b.length ≤ a.length ∧ a.drop (a.length - b.length) = b) := decide_eq_decide.mpr (by
    rw [Nat.zero_add]
    refine and_congr_right fun hl => ?_
    show (a.drop (a.length - b.length)).take b.length = b ↔ _
    rw [List.take_of_length_le (by rw [List.length_drop]; omega)])
  rw [e]
  exact q
section
variable {K : PySem.W.Frag} {σ : L2.St} {H : Hp} {te : TE} {t : TT}
theorem rm_startT {a b : Tx} : RM rStartT (T a) [T b] H (.bl (decide (a.take b.length = b))) := fun H1 _ _ q => ⟨a, b, rfl, rfl, q H1 (Ex.refl _)⟩
theorem rm_start3T {a b : Tx} {i : Nat} : RM rStart3T (T a) [T b, .int (i : Int)] H (.bl (decide (i + b.length ≤ a.length ∧ StAt a b i))) := fun H1 _ _ q => ⟨a, b, i, rfl, rfl, q H1 (Ex.refl _)⟩
theorem rm_endT {a b : Tx} : RM rEndT (T a) [T b] H (.bl (decide (b.length ≤ a.length ∧ a.drop (a.length - b.length) = b))) := fun H1 _ _ q => ⟨a, b, rfl, rfl, q H1 (Ex.refl _)⟩
/-- a new object for each thing that is kept -/
theorem lcO {α : Type} {wi : TI} {g : TG} {vs : List Nat} {n : Nat} {own : Addr → Prop} {P : Nat → V → Hp → Prop} {Q : VK} {p : α → Bool} (xs : List α) (st : α → L2.St) (o : α → HO) (R : α → V → Hp → Prop) (hs : Src wi σ H n own P) (hn : n ≤ 40000) (hx : xs.length = n)
    (hP : ∀ i x H1, Ex H H1 → P i x H1 → ∃ a, xs[i]? = some a ∧ R a x H1) (hg : ∀ a x H1 (Q' : L2.St → Hp → Prop), R a x H1 → Q' (st a) H1 → g x (wipe σ vs) H1 Q') (hw : ∀ a, wipe (st a) vs = wipe σ vs)
    (ht : ∀ a H1, Ex H H1 → a ∈ xs → EvT t (st a) H1 (p a)) (he : ∀ a H1, Ex H H1 → a ∈ xs → p a = true → ∀ Q' : VK, (∀ q H2, H1 q = none → Ex H1 H2 → H2 q = some (o a) → Q' (.ref q) H2) → te (st a) H1 Q')
    (k : ∀ q H2 ps, H q = none → Ex H H2 → H2 q = some (.lst (ps.map V.ref)) → All2 (fun b a => H2 b = some (o a) ∧ H b = none ∧ b ≠ q) ps (xs.filter p) → Q (.ref q) H2) : tLc wi g t te vs σ H Q :=
  hs H (Ex.refl H) _ fun J H1 S e1 w hS => fun Dl hD => by
    have hDH : H Dl = none := fresh_back e1 hD
    have ftk : ∀ {i a}, xs[i]? = some a → (xs.take (i + 1)).filter p = (xs.take i).filter p ++ if p a = true then [a] else [] := fun {i a} ha => by
      rw [List.take_add_one, ha, List.filter_append]
      congr 1
      cases z : p a with
      | true => simp [z]
      | false => simp [z]
    refine lc_it w (Qd := fun H3 => Q (.ref Dl) H3) (fun i Hi => Ex H1 Hi ∧ ∃ ps : List Addr, Hi Dl = some (.lst (ps.map V.ref)) ∧ ps.length ≤ i ∧ All2 (fun b a => Hi b = some (o a) ∧ H b = none ∧ b ≠ Dl) ps ((xs.take i).filter p)) ?_ (fun i Hi hi p => hS (fun _ => False) Hi (fun b z => z.elim) (.of p.1)) ?_ ?_
    · exact ⟨Ex.new hD, [], upd_same, Nat.le_refl _, .nil⟩
    · rintro i x Ha Hb hi ⟨R1, ps, h1, h2, h3⟩ ⟨ey, hPi⟩
      have eB : Ex H Hb := e1.trans (R1.trans ey)
      obtain ⟨a, ha, hr⟩ := hP i x Hb eB hPi
      have hm := List.mem_of_getElem? ha
      refine hg a x Hb _ hr ⟨hw a, ht a Hb eB hm Hb (Ex.refl _) _ fun H3 e3 => ?_⟩
      have hft := ftk ha
      cases hp : p a with
      | true =>
        rw [hp, if_pos rfl] at hft
        show te (st a) H3 fun y H4 => ∃ acc, H4 Dl = some (.lst acc) ∧ acc.length < sizeLine ∧ _
        refine he a H3 (eB.trans e3) hm hp _ fun q H4 hq e4 h4 => ?_
        have hDl4 : H4 Dl = some (.lst (ps.map V.ref)) := e4 _ _ (e3 _ _ (ey _ _ h1))
        have nqD : q ≠ Dl := fun z => by rw [z, e3 _ _ (ey _ _ h1)] at hq; cases hq
        have eM : Ex H1 (upd H4 Dl (.lst (ps.map V.ref ++ [.ref q]))) := Ex.mut (((R1.trans ey).trans e3).trans e4) hD
        refine ⟨ps.map V.ref, hDl4, sz_lt (by rw [List.length_map]; omega), eM, ps ++ [q], by rw [upd_same, List.map_append]; rfl, by rw [List.length_append, List.length_singleton]; omega, ?_⟩
        rw [hft]
        exact (h3.mono fun b a' r => ⟨by rw [upd_ne r.2.2]; exact e4 _ _ (e3 _ _ (ey _ _ r.1)), r.2⟩).push ⟨by rw [upd_ne nqD]; exact h4, fresh_back (eB.trans e3) hq, nqD⟩
      | false =>
        rw [hp, if_neg Bool.false_ne_true, List.append_nil] at hft
        show Ex H1 H3 ∧ _
        refine ⟨(R1.trans ey).trans e3, ps, e3 _ _ (ey _ _ h1), by omega, ?_⟩
        rw [hft]
        exact h3.mono fun b a' r => ⟨e3 _ _ (ey _ _ r.1), r.2⟩
    · rintro H3 ⟨R1, ps, h1, h2, h3⟩
      rw [← hx, List.take_length] at h3
      exact k Dl H3 ps hDH (e1.trans R1) h1 h3
/-- as el_lcG, the heap of each turn known to be a greater one -/
theorem el_lcE {α : Type} {wi : TI} {g : TG} {vs : List Nat} {n : Nat} {own : Addr → Prop} {P : Nat → V → Hp → Prop} {gv : α → V} {p : α → Bool} (xs : List α) (st : α → L2.St) (hs : Src wi σ H n own P) (hn : n ≤ 40000) (hx : xs.length = n)
    (hP : ∀ i x H1, Ex H H1 → P i x H1 → ∃ a, xs[i]? = some a ∧ ∀ Q' : L2.St → Hp → Prop, Q' (st a) H1 → g x (wipe σ vs) H1 Q') (hw : ∀ a, wipe (st a) vs = wipe σ vs)
    (ht : ∀ a H1, Ex H H1 → a ∈ xs → EvT t (st a) H1 (p a)) (he : ∀ a H1, Ex H H1 → a ∈ xs → p a = true → Ev te (st a) H1 (gv a)) : EvL (tLc wi g t te vs) σ H ((xs.filter p).map gv) := fun H0 e Q q => by
  have hgm := given_map xs p gv (fun i => match xs[i]? with | some a => p a | none => false) (fun i => match xs[i]? with | some a => gv a | none => .non) (fun i a ha => by simp only [ha]) (fun i a ha => by simp only [ha])
  rw [hx] at hgm
  generalize hf : (fun (i : Nat) => match xs[i]? with | some a => p a | none => false) = f at hgm
  generalize hv : (fun (i : Nat) => match xs[i]? with | some a => gv a | none => V.non) = v at hgm
  exact hs H0 e _ fun J H1 S e1 w hS => fun Dl hD =>
    lc_it w (Qd := fun H3 => Q (.ref Dl) H3) (Cw H1 f v Dl) ⟨hD, Ex.new hD, upd_same⟩ (fun i Hi _ c => hS (fun _ => False) Hi (fun _ z => z.elim) (.of c.2.1)) (fun i x Hi Hj hi c hy => by
      obtain ⟨ey, hPi⟩ := hy
      have c' : Cw H1 f v Dl i Hj := ⟨c.1, c.2.1.trans ey, ey _ _ c.2.2⟩
      have eAll : Ex H Hj := (e.trans e1).trans c'.2.1
      obtain ⟨a, ha, hg⟩ := hP i x Hj eAll hPi
      have hm : a ∈ xs := List.mem_of_getElem? ha
      have fa : f i = p a := by rw [← hf]; simp only [ha]
      have va : v i = gv a := by rw [← hv]; simp only [ha]
      obtain ⟨c1, c2, c3⟩ := c'
      refine hg _ ⟨hw a, ht a Hj eAll hm Hj (Ex.refl _) _ fun H3 e3 => ?_⟩
      cases hp : p a with
      | true =>
        show te (st a) H3 fun y H4 => ∃ acc, H4 Dl = some (.lst acc) ∧ acc.length < sizeLine ∧ Cw H1 f v Dl (i + 1) (upd H4 Dl (.lst (acc ++ [y])))
        refine he a Hj eAll hm hp H3 e3 _ fun H4 e4 => ⟨given i f v, e4 Dl _ (e3 Dl _ c3), sz_lt (by have := given_len i f v; omega), c1, Ex.mut ((c2.trans e3).trans e4) c1, ?_⟩
        rw [given_yes (fa.trans hp), va]
        exact upd_same
      | false =>
        show Cw H1 f v Dl (i + 1) H3
        refine ⟨c1, c2.trans e3, ?_⟩
        rw [given_no (fa.trans hp)]
        exact e3 Dl _ c3) (fun H3 c => by
      refine q Dl H3 (fresh_back e1 c.1) (e1.trans c.2.1) ?_
      rw [← hgm]
      exact c.2.2)
/-- x in ts, of texts -/
theorem inV_T (x : Tx) (ts : List Tx) : inV (T x) (ts.map T) = decide (x ∈ ts) := by
  unfold inV
  rw [List.any_map]
  rw [Bool.eq_iff_iff, List.any_eq_true, decide_eq_true_eq]
  constructor
  · rintro ⟨y, hy, h⟩
    have h : eqV (T y) (T x) = true := h
    unfold eqV at h
    have := eq_of_beq h
    rw [SX.S_inj this] at hy
    exact hy
  · intro h
    refine ⟨x, h, ?_⟩
    show eqV (T x) (T x) = true
    unfold eqV
    exact beq_self_eq_true _
theorem flat_T (ts : List Tx) : (ts.map T).all flatV = true := by
  rw [List.all_map, List.all_eq_true]
  intro x _
  rfl
end
end Ws
set_option Elab.async false
set_option linter.all false
set_option maxRecDepth 100000
set_option maxHeartbeats 2000000
/-! name = {k: v for ..} on one line, the name a local -/
namespace Ws
open PySem PySem.Spec PyProof.Rows L2 Evl Wc Wt Wg Wd
def rNotInT : R2 := fun x y H Q => ∃ (c : Nat) (z : Tx), x = T [c] ∧ y = T z ∧ Q (.bl (!decide (c ∈ z))) H
theorem op_notInT {X : Cx} : OpR X (compareOp .NotIn) rNotInT := by
  intro pins s σ H x y v u Q I rx ry h
  obtain ⟨c, z, rfl, rfl, q⟩ := h
  exact op_notIn_sign pins s σ H _ _ v u Q I rx ry ⟨c, SX.S z, rfl, rfl, q⟩
theorem rv_notInT {H : Hp} {c : Nat} {b : Tx} : RV rNotInT (T [c]) (T b) H (.bl (!decide (c ∈ b))) := rv_val fun H1 _ Q q => ⟨c, b, rfl, rfl, q⟩
/-- one named value -/
def sw1 {α : Type} : List α → List α → List α
  | [], [a] => [a]
  | _, _ => []
theorem sw1_rel {vs zs : List V} {us ws : List Value} (r : Vals vs us) (rz : Vals zs ws) : Vals (sw1 vs zs) (sw1 us ws) := by
  cases r with
  | cons => exact .nil
  | nil =>
    match zs, ws, rz with
    | [], _, .nil => exact .nil
    | [_], _, .cons h1 .nil => exact .cons h1 .nil
    | _ :: _ :: _, _, .cons _ (.cons _ _) => exact .nil
theorem kb1 {x : PySem.Str} {st : Stmt} {ps ks : List PySem.Str} (hp : ps.length = 1)
    (h : ∀ (kV doc pm : Value) (an : Option Addr) (cdv ct a : Value), bindArgs (PySem.W.fnOf x x (defArgs st) (defBody st) (defScope st) .none kV doc pm an cdv ct) ⟨[], ks.zip [a]⟩ = pure (ps.zip (sw1 [] [a]))) : KB x st 0 ps ks sw1 sw1 := by
  intro K f fd F
  obtain ⟨oc, od, kV, doc, pm, an, cdv, ct, osl, rfl, lk, hcd⟩ := F.ex
  refine ⟨fun s us ws _ hl => ?_, fun r rz => sw1_rel r rz⟩
  rw [hp] at hl
  match us, ws, hl with
  | [], [a], _ => exact .of_eq (h kV doc pm an cdv ct a)
  | [], [], hl => exact absurd hl (by simp [sw1])
  | [], _ :: _ :: _, hl => exact absurd hl (by simp [sw1])
  | _ :: _, ws, hl => exact absurd hl (by simp [sw1])
section
variable {X : Cx}
theorem sw_trueD {kx vx : Expr} {gs : List Comprehension} {scope : Scope} {pos py : Pos} {y : PySem.Str} {l : Nat} {env : Env} (hk : env.scope.kind = .function) (hy : env.scope.names.lookup y = some .local) (hl : (py.line == pos.line) = true)
    (ha : (scope.names.any fun (n, k) => n == y && (k == .local || k == .cell)) = false) : swapsWith (.DictComp kx vx gs scope pos) (some (.Name y py)) l env = pure true := by
  have ky : env.kindOf y = some .local := hy
  have hb : env.blockKind = .function := by unfold Env.blockKind; rw [hk]; rfl
  unfold swapsWith
  simp only [hb, ky, ha, Expr.pos, hl]
  rfl
theorem ps_setDc {i : Nat} {y : PySem.Str} {py : Pos} {kx vx tg iter : Expr} {ifs : List Expr} {scope : Scope} {own : List (PySem.Str × Nat)} {pos spos : Pos} {wi : TI} {g : TG} {tt : TT} {tk tv : TE} (hc : X.calm = true) (hN : X.N.Nodup) (hy : X.N[i]? = some y) (hyl : X.env.scope.names.lookup y = some .local)
    (hsw : swapsWith (.DictComp kx vx [⟨tg, iter, ifs, 0⟩] scope pos) (some (.Name y py)) spos.line X.env = pure true) (hi : PI X tg iter wi) (ok : BlkOk X.N X.env.scope scope own)
    (hg : ∀ (s : Shared) (H : Hp) (C : Addr) (cl : List (PySem.Str × Addr)) (fp : List Addr), PG (X.blk s H scope (compEnvC scope cl C X.env) fp) tg g) (ht : ∀ (s : Shared) (H : Hp) (C : Addr) (cl : List (PySem.Str × Addr)) (fp : List Addr), PTs (X.blk s H scope (compEnvC scope cl C X.env) fp) ifs tt)
    (hk : ∀ (s : Shared) (H : Hp) (C : Addr) (cl : List (PySem.Str × Addr)) (fp : List Addr), PE (X.blk s H scope (compEnvC scope cl C X.env) fp) kx tk)
    (he : ∀ (s : Shared) (H : Hp) (C : Addr) (cl : List (PySem.Str × Addr)) (fp : List Addr), PE (X.blk s H scope (compEnvC scope cl C X.env) fp) vx tv) (hs : ∀ x, foldedSetIterable iter X.env x = pure x := by intro _; rfl) :
    PS X (.Assign [.Name y py] (.DictComp kx vx [⟨tg, iter, ifs, 0⟩] scope pos) spos) (tAsg (tDc wi g tt tk tv (own.map (·.2))) (gName i)) := by
  refine ⟨fun pins s σ H D I h => ?_⟩
  rw [exec_Assign_Name_used _ _ _ _ hsw]
  refine wpAny_bind (wpAny_standAt (wpAny_bind ?_))
  show wpAny _ X.A (do let _ ← comprehension (.DictComp kx vx [⟨tg, iter, ifs, 0⟩] scope pos) scope X.env (firstIterPos [⟨tg, iter, ifs, 0⟩] pos) newDict false (eval iter X.env) (some (assign (.Name y py) X.env))) _ _ s
  have h : tDc wi g tt tk tv (own.map (·.2)) σ H (fun x H1 => gName i x σ H1 D.nx) := h
  refine wpAny_bind (thn (dc_core (Qf := fun _ s' => SP X pins D .next s') hc hN I hi ok hg ht hk he hs h fun L C s' m H' I' q hn f => ?_) fun _ s' hq => wpAny_pure (wpAny_pure hq))
  show wpAny _ _ (assign (.Name y py) X.env (.ref L)) _ _ _
  refine wpAny_assign_Name (store_ok2 (v := V.ref L) I' hN hy (.inl hyl) rfl (fun s2 I2 ⟨a, sb, ha⟩ => ?_) (.inr hyl))
  obtain ⟨f0, f1, f2, f3, f4, f5⟩ := f
  have haC : C ≠ a := by
    rcases ha with z | z
    · rw [z]; exact f1
    · exact fun e => f4 y a z e.symm
  refine ⟨m, hn.sameBut sb haC, fun h3 sb3 => ?_⟩
  exact ⟨_, H', I2.turned (t' := s2.toks) (fun b o hb e => (sb3.2 b hb).trans e) f0 f1 f3 f4 f5, q⟩
end
end Ws
set_option Elab.async false
set_option linter.all false
set_option maxRecDepth 100000
set_option maxHeartbeats 2000000
/-! list(text); a text or a list of one-sign texts -/
namespace Ws
open PySem PySem.Spec PyProof.Rows L2 Evl Wc Wt Wg Wd
def rListT : List V → Hp → VK → Prop := fun xs H Q => ∃ s : Tx, xs = [T s] ∧ s.length ≤ 16777216 ∧ ∀ l, H l = none → Q (.ref l) (upd H l (.lst (s.map fun c => T [c])))
theorem call_list_T {X : Cx} (hc : X.calm = true) : CallR X (.type "list") rListT := by
  intro pins s σ H xs us Q I r h
  obtain ⟨a, rfl, hz, q⟩ := h
  obtain ⟨u, rfl, t, rfl⟩ := vals1 r
  have hz' : a.length ≤ sizeLine := by rw [sizeLine_eq]; omega
  refine call_list_str (I.ok.hd hc) _ t (fun h' tk acc c' hk e hi => ?_) (by show (SX.S a).length ≤ _; rw [S_length]; exact hz')
  refine ⟨.ref s.heap.objs.size, upd H s.heap.objs.size (.lst (a.map fun c => T [c])), I.laid hk (Nat.le_refl _) ⟨by rw [List.length_map]; exact hz', acc.toList, c', ?_, by rw [Array.toArray_toList]; exact e⟩, rfl, q _ (I.hok.fresh (Nat.le_refl _))⟩
  refine vals_of_idx _ _ (by rw [List.length_map, Array.length_toList, hi.1]; exact S_length a) fun j u hj => ?_
  obtain ⟨c, t', hc, rfl⟩ := hi.2 j u (by rw [← Array.getElem?_toList]; exact hj)
  have hc' : a[j]? = some c := by
    have : (a.toArray)[j]? = some c := hc
    simpa using this
  exact ⟨T [c], by rw [List.getElem?_map, hc']; rfl, ⟨_, rfl⟩⟩
def rListAny (K : PySem.W.Frag) : List V → Hp → VK → Prop := fun xs H Q => rListT xs H Q ∨ rListS K xs H Q
theorem call_list_any {X : Cx} (hc : X.calm = true) : CallR X (.type "list") (fun xs H Q => rListT xs H Q ∨ (∃ p ys, xs = [.ref p] ∧ (SqL X.K H p ys ∨ SqT X.K H p ys) ∧ ∀ l, H l = none → Q (.ref l) (upd H l (.lst ys)))) := CallR.or (call_list_T hc) call_list_of
def iAny (K : PySem.W.Frag) (tl : TE) : TI := fun σ H R => iStr tl σ H R ∨ iList K tl σ H R
theorem pi_any {X : Cx} {K : PySem.W.Frag} {tg l : Expr} {tl : TE} (hl : PE X l tl) (hK : X.K = K := by rfl) : PI X tg l (iAny K tl) := hK ▸ pi_or (pi_str hl) (pi_list hl)
/-- signs, as a text or as a list of them -/
def Sgn (H : Hp) (fa : Addr) (v : V) (s : Tx) : Prop := v = T s ∨ ∃ p, v = .ref p ∧ H p = some (.lst (s.map fun c => T [c])) ∧ p ≠ fa
section
variable {K : PySem.W.Frag} {fa : Addr} {σ : L2.St} {H H1 : Hp} {te : TE} {v : V} {s : Tx} {m i : Nat} {Q : VK}
theorem Sgn.ex (h : Sgn H fa v s) (e : Ex H H1) : Sgn H1 fa v s := h.imp id fun ⟨p, h1, h2, h3⟩ => ⟨p, h1, e _ _ h2, h3⟩
theorem Sgn.rf (h : Sgn H fa v s) (R : Rf fa m H H1) : Sgn H1 fa v s := h.imp id fun ⟨p, h1, h2, h3⟩ => ⟨p, h1, R.at_ h2 h3, h3⟩
theorem Sgn.exc {B : Addr → Prop} (h : Sgn H fa v s) (R : Exc B H H1) (hB : ∀ c, c ≠ fa → H c ≠ none → ¬ B c) : Sgn H1 fa v s := h.imp id fun ⟨p, h1, h2, h3⟩ => ⟨p, h1, R p _ (hB p h3 (by rw [h2]; exact fun z => nomatch z)) h2, h3⟩
theorem ev_lenAny (h : Ev te σ H v) (hs : Sgn H fa v s) (hl : s.length ≤ 16777216) : Ev (tCB (rLenAny K) (tCons te tNil)) σ H (.int (s.length : Int)) := by
  rcases hs with rfl | ⟨p, rfl, h2, _⟩
  · exact fun H1 e Q q => h H1 e _ fun H2 e2 => .inl ⟨s, rfl, hl, q H2 e2⟩
  · refine fun H1 e Q q => h H1 e _ fun H2 e2 => .inr ⟨p, _, rfl, .inl (sq_of (e2 _ _ (e _ _ h2))), ?_⟩
    rw [List.length_map]
    exact q H2 e2
theorem el_listAny (h : Ev te σ H v) (hs : Sgn H fa v s) (hl : s.length ≤ 16777216) : EvL (tCB (rListAny K) (tCons te tNil)) σ H (s.map fun c => T [c]) := by
  rcases hs with rfl | ⟨p, rfl, h2, _⟩
  · exact fun H1 e Q q => h H1 e _ fun H2 e2 => .inl ⟨s, rfl, hl, fun l hl => q l _ (fresh_back e2 hl) (e2.trans (Ex.new hl)) upd_same⟩
  · exact fun H1 e Q q => h H1 e _ fun H2 e2 => .inr ⟨p, _, rfl, .inl (sq_of (e2 _ _ (e _ _ h2))), fun l hl => q l _ (fresh_back e2 hl) (e2.trans (Ex.new hl)) upd_same⟩
theorem Src.own {wi : TI} {n : Nat} {own own' : Addr → Prop} {P : Nat → V → Hp → Prop} (h : Src wi σ H n own P) (k : ∀ b, own b → own' b) : Src wi σ H n own' P := fun H1 e R q => h H1 e R fun J H2 S e2 w h2 => q J H2 S e2 w fun B Ha hB ea => h2 B Ha (fun b hb => ⟨(hB b hb).1, fun z => (hB b hb).2 (k b z)⟩) ea
theorem src_any (h : Ev te σ H v) (hs : Sgn H fa v s) (hl : s.length ≤ 40000) : Src (iAny K te) σ H s.length (fun b => v = .ref b) (fun i v _ => (s.map fun c => T [c])[i]? = some v) := by
  rcases hs with rfl | ⟨p, rfl, h2, _⟩
  · exact src_orL (Src.own (src_str h) fun b z => z.elim)
  · exact src_orR (by
      have := src_list (K := K) h (sq_of h2)
      rw [List.length_map] at this
      exact Src.own this fun b z => by rw [z])
theorem wp_oneAny {B : Nat} (h0 : σ[i]? = some (some (.ref fa))) (h : Ev te σ H v) (hs : Sgn H fa v s) (G : GF fa B H) (hn : s ≠ []) (hl : s.length ≤ 16777216) (k : ∀ c H', c ∈ s → Rf fa 1 H H' → Q (T [c]) H') (hB : 1 ≤ B := by omega) : tCall (sp_one K) [] E0 (tCons (tVar i) (tCons te tNil)) σ H Q := by
  rcases hs with rfl | ⟨p, rfl, h2, h3⟩
  · exact wp_oneT h0 h G hn hl k hB
  · refine wp_oneS h0 h (.inl (sq_of h2)) h3 G (fun z => hn (List.map_eq_nil_iff.mp z)) (by rw [List.length_map]; exact hl) (fun v H' hv R => ?_) hB
    obtain ⟨c, hc, rfl⟩ := List.mem_map.mp hv
    exact k c H' hc R
end
end Ws
set_option Elab.async false
set_option linter.all false
set_option maxRecDepth 100000
set_option maxHeartbeats 4000000
/-! t[::-1] of a tuple -/
namespace HT
open PySem PySem.Spec PyProof.Rows
section
variable {prog : Program} {w : World} {A : Around} {E : Value → Shared → Prop} {s : Shared}
theorem adjust_rev (n : Nat) (hn : 1 ≤ n) : Builtin.Slice.sliceAdjust none none (-1) (n : Int) = ((n : Int) - 1, -1) := by
  unfold Builtin.Slice.sliceAdjust
  simp
theorem places_rev (n : Nat) (hn : 1 ≤ n) : Builtin.Slice.slicePlaces ((n : Int) - 1) (-1) (-1) = n := by
  unfold Builtin.Slice.slicePlaces
  have h1 : ¬ ((-1 : Int) > 0) := by decide
  simp only [h1, if_false]
  rw [if_pos (by omega), show (- -1 : Int) = 1 by decide, Int.ediv_one]
  omega
theorem sliceApplied_rev {sl : Addr} {u : Tok} {n : Nat} {Q : Int × Int × Nat → Shared → Prop} (hn : 1 ≤ n) (hs : s.heap.IsSliceOf sl .none .none (.int (-1) u))
    (h : Q ((n : Int) - 1, -1, n) s) : wpAny (model prog w) A (Builtin.Slice.sliceApplied (.ref sl) (pure (n : Int))) Q E s := by
  obtain ⟨os, hos, hcs, hds⟩ := id hs
  unfold Builtin.Slice.sliceApplied Builtin.Slice.sliceFields
  refine wpAny_bind (wpAny_bind (wpAny_field hos hds (x := .none) rfl (wpAny_bind (wpAny_field hos hds (x := .none) rfl (wpAny_bind (wpAny_field hos hds (x := .int (-1) u) rfl (wpAny_pure ?_)))))))
  refine wpAny_bind (slicePart_int ?_)
  show wpAny _ _ (if ((-1 : Int) == 0) = true then _ else _) _ _ s
  rw [if_neg (by decide)]
  refine wpAny_bind (slicePart_none (wpAny_bind (slicePart_none (wpAny_bind (wpAny_pure ?_)))))
  show wpAny _ _ (match Builtin.Slice.sliceAdjust none none (-1) (n : Int) with | (lo, hi) => pure (lo, (-1 : Int), Builtin.Slice.slicePlaces lo hi (-1))) _ _ s
  rw [adjust_rev n hn]
  show wpAny _ _ (pure ((n : Int) - 1, (-1 : Int), Builtin.Slice.slicePlaces ((n : Int) - 1) (-1) (-1))) _ _ s
  rw [places_rev n hn]
  exact wpAny_pure h
theorem fmap_congr {α β : Type} {f g : α → Option β} : ∀ {l : List α}, (∀ a ∈ l, f a = g a) → l.filterMap f = l.filterMap g
  | [], _ => rfl
  | a :: l, h => by
    rw [List.filterMap_cons, List.filterMap_cons, h a List.mem_cons_self, fmap_congr fun b hb => h b (List.mem_cons_of_mem _ hb)]
theorem pick_rev (xs : Array Value) : ((List.range xs.size).filterMap fun (m : Nat) => xs[(((xs.size : Int) - 1) + (m : Int) * -1).toNat]?).toArray = xs.toList.reverse.toArray := by
  congr 1
  rw [← PySem.W.krv_all xs, ← List.filterMap_reverse, ← PySem.W.krv_range, List.filterMap_map]
  refine fmap_congr fun m hm => ?_
  show xs[_]? = xs[xs.size - 1 - m]?
  congr 1
  omega
theorem getItem_tuple_rev {t sl : Addr} {items : Array Value} {u : Tok} {Q : Value → Shared → Prop} (ht : IsTup s.heap t items) (hs : s.heap.IsSliceOf sl .none .none (.int (-1) u)) (hn : 1 ≤ items.size)
    (h : Q (.ref s.heap.objs.size) { s with heap := s.heap.push { cls := .type "tuple", data := .seq items.toList.reverse.toArray } })
    (hsz : items.size ≤ sizeLine) : wpAny (model prog w) A (getItem (.ref t) (.ref sl)) Q E s := by
  have htake : sizeOk (.seq items.toList.reverse.toArray) := by
    show items.toList.reverse.toArray.size ≤ sizeLine
    rw [List.size_toArray, List.length_reverse, Array.length_toList]
    omega
  obtain ⟨os, hos, hcs, hds⟩ := id hs
  have hTs : s.TypeIs (.ref sl) "slice" := ⟨os, hos, hcs⟩
  unfold getItem
  try with_reducible refine wpAny_holding ?_
  first | refine wpAny_bind (wpAny_pure ?_) | skip
  refine wpAny_bind (wpAny_sequenceKey ht.typeIs (by decide) ?_)
  refine wpAny_bind (wpAny_callSpecial?_slot (name := Str.ofString "__getitem__") ht.typeIs PyProof.Rows.slot_tuple_getitem
    (wpAny_call_entry PyProof.Rows.slot_tuple_getitem ht.typeIs entry_tuple_getitem ?_ (args_tuple_getitem _ _)))
  show wpAny _ _ (Builtin.Tuple.tupleItemsOf (.ref t) >>= _) _ _ s
  refine wpAny_bind (tupleItemsOf_ ht ?_)
  refine wpAny_bind (wpAny_typeOf hTs ?_)
  rw [if_pos (by decide)]
  refine wpAny_bind (sliceApplied_rev hn hs ?_)
  have hno : ¬ ((((items.size : Int) - 1) == 0 && (-1 : Int) == 1 && items.size == items.size) = true) := by
    intro q
    rw [Bool.and_eq_true, Bool.and_eq_true] at q
    exact absurd q.1.2 (by decide)
  show wpAny _ _ (if (((items.size : Int) - 1) == 0 && (-1 : Int) == 1 && items.size == items.size) = true then _ else _) _ _ s
  rw [if_neg hno, pick_rev]
  first
    | exact wpAny_bind (m := Builtin.Tuple.tupleExact _) (wpAny_newObj_type (wpAny_pure ⟨_, rfl, wpAny_pure h⟩) htake)
    | exact wpAny_bind (m := Builtin.Tuple.tupleExact _) (wpAny_newObj_type (wpAny_bind (wpAny_pure (wpAny_pure ⟨_, rfl, wpAny_pure h⟩))) htake)
    | exact wpAny_bind (wpAny_bind (m := Builtin.Tuple.tupleExact _) (wpAny_newObj_type (wpAny_pure (wpAny_pure ⟨_, rfl, wpAny_pure h⟩)) htake))
    | exact wpAny_bind (wpAny_bind (m := Builtin.Tuple.tupleExact _) (wpAny_newObj_type (wpAny_pure ⟨_, rfl, wpAny_pure h⟩) htake))
end
end HT
namespace Ws
open PySem PySem.Spec PyProof.Rows L2 Evl Wc Wt Wg Wd
def tRevU (K : PySem.W.Frag) (te : TE) : TE := fun σ H Q => te σ H fun x H1 => ∃ a xs, x = .ref a ∧ SqT K H1 a xs ∧ xs ≠ [] ∧ ∀ p, H1 p = none → Q (.ref p) (upd H1 p (.tup xs.reverse))
theorem pe_revU {X : Cx} {K : PySem.W.Frag} {e : Expr} {te : TE} {k : Nat} {p1 p2 p3 pos : Pos} (he : PE X e te) (hK : X.K = K := by rfl) : PE X (.Subscript e (.Slice none none (some (.UnaryOp .USub (.Constant (.int 1) k p1) p2)) p3) pos) (tRevU K te) := by
  subst hK
  refine ⟨fun pins s σ H Q I h => ?_⟩
  refine Subscript_ (thn (he.run pins s σ H _ I h) fun v s1 ⟨x, H1, I1, r1, q1⟩ => ?_)
  obtain ⟨a, xs, ex, hx, hne, q⟩ := q1
  subst ex
  cases r1
  have hst : PO X (some (.UnaryOp .USub (.Constant (.int 1) k p1) p2)) (tPart (tUn (rU fun i => .int (-i)) (tC (.int 1)))) := po_some (pe_un un_neg pe_int)
  refine wpAny_Slice (thn (po_none.run pins s1 σ H1 (fun o H2 => o = none ∧ H2 = H1) I1 ⟨rfl, rfl⟩) fun vl s2 ⟨l, H2, I2, pl, el, e2⟩ => ?_)
  subst el e2
  refine thn (po_none.run pins s2 σ H2 (fun o H3 => o = none ∧ H3 = H2) I2 ⟨rfl, rfl⟩) fun vu s3 ⟨u, H3, I3, pu, eu, e3⟩ => ?_
  subst eu e3
  refine thn (hst.run pins s3 σ H3 (fun o H4 => o = some (-1) ∧ H4 = H3) I3 ⟨1, rfl, -1, rfl, rfl, rfl⟩) fun vs s4 ⟨o, H4, I4, ps, eo, e4⟩ => ?_
  subst eo e4
  cases pl
  cases pu
  cases ps with
  | int i tk =>
  have I5 : Inv X pins σ H4 { s4 with heap := s4.heap.push { cls := .type "slice", data := .fields #[.none, .none, .int (-1) tk] } } := I4.kept (t' := s4.toks) fun b ob q => Heap.get?_push_of_some _ q
  obtain ⟨its, r, ht, hz⟩ := I5.tuple hx
  have hlen := r.length
  show wpAny (model X.prog X.w) X.A (subscriptTail e (.Slice none none (some (.UnaryOp .USub (.Constant (.int 1) k p1) p2)) p3) (.ref a) (.ref s4.heap.objs.size)) (EP X pins σ Q) X.xe { s4 with heap := s4.heap.push { cls := .type "slice", data := .fields #[.none, .none, .int (-1) tk] } }
  refine tail_any (ops := [.ref a, .ref s4.heap.objs.size]) ht.typeIs (PyProof.Rows.slot_tuple_getitem.lookup) ?_ (by with_unfolding_all rfl)
  refine HT.getItem_tuple_rev ht (Heap.IsSliceOf.new _ .none .none (.int (-1) tk)) (by rw [List.size_toArray, ← hlen]; exact List.length_pos_iff.mpr hne) ?_ (by rw [List.size_toArray]; omega)
  refine ⟨.ref _, _, I5.laid (t' := s4.toks) (o := .tup xs.reverse) (fun b ob q => Heap.get?_push_of_some _ q) (Nat.le_refl _) ?_, rfl, q _ (I5.hok.fresh (Nat.le_refl _))⟩
  exact ⟨by rw [List.length_reverse]; exact hz, _, r.reverse, IsTup.new _ _⟩
section
variable {K : PySem.W.Frag} {σ : L2.St} {H : Hp} {te tb : TE}
theorem eu_revU {p : Addr} {xs : List V} (h : Ev te σ H (.ref p)) (hp : H p = some (.tup xs)) (hne : xs ≠ []) : EvU (tRevU K te) σ H xs.reverse := fun H1 e Q q => h H1 e _ fun H2 e2 => ⟨p, xs, rfl, st_of ((e.trans e2) _ _ hp), hne, fun r hr => q r _ (fresh_back e2 hr) (e2.trans (Ex.new hr)) upd_same⟩
/-- t * 2 of a new tuple -/
theorem eu_mul {xs : List V} {n : Nat} (h : EvU te σ H xs) (hn : Ev tb σ H (.int (n : Int))) (hne : xs ≠ []) (h2 : 2 ≤ n) (h3 : n ≤ 1000) (hl : xs.length ≤ 1000) : EvU (tOp (rRepT K) te tb) σ H (List.replicate n xs).flatten := fun H1 e Q q => h H1 e _ fun p H2 hp e2 hp2 => hn H2 (e.trans e2) _ fun H3 e3 => ⟨p, (n : Int), xs, rfl, rfl, st_of (e3 _ _ hp2), hne, by omega, by omega, hl, fun r hr => by
  rw [Int.toNat_natCast]
  exact q r _ (fresh_back (e2.trans e3) hr) ((e2.trans e3).trans (Ex.new hr)) upd_same⟩
/-- t + u, both not empty, u new -/
theorem eu_catA {p : Addr} {xs ys : List V} (h : Ev te σ H (.ref p)) (hp : H p = some (.tup xs)) (hb : EvU tb σ H ys) (hx : xs ≠ []) (hy : ys ≠ []) (hl : xs.length + ys.length ≤ 100000) : EvU (tOp (rCatA K) te tb) σ H (xs ++ ys) := fun H1 e Q q => h H1 e _ fun H2 e2 => hb H2 (e.trans e2) _ fun r H3 hr e3 h3 => ⟨p, r, xs, ys, rfl, rfl, st_of (((e.trans e2).trans e3) _ _ hp), st_of h3, sz_of hl, fun z => absurd z hx, fun _ z => absurd z hy, fun _ _ n hn => q n _ (fresh_back (e2.trans e3) hn) ((e2.trans e3).trans (Ex.new hn)) upd_same⟩
/-- list(t) -/
theorem el_listU {p : Addr} {xs : List V} (h : Ev te σ H (.ref p)) (hp : H p = some (.tup xs)) : EvL (tCB (rListS K) (tCons te tNil)) σ H xs := fun H1 e Q q => h H1 e _ fun H2 e2 => ⟨p, xs, rfl, .inr (st_of ((e.trans e2) _ _ hp)), fun r hr => q r _ (fresh_back e2 hr) (e2.trans (Ex.new hr)) upd_same⟩
theorem krepT {X : Cx} {K : PySem.W.Frag} (hK : X.K = K := by rfl) : OpR X (binaryOp .Mult) (rRepT K) := hK ▸ op_repT
end
end Ws
set_option Elab.async false
set_option linter.all false
set_option maxRecDepth 100000
set_option maxHeartbeats 4000000
/-! an error that is kept behind its except suite; isinstance of it -/
namespace We
open PySem PySem.Spec PyProof.Rows L2 Evl Wc Wt Wg
/-- the error at a -/
def ExO (cls : Value) (d : Option Addr) (a : Addr) : HO := .ext fun h => ∃ (oe : Obj) (vs : Array Value), h.get? a = some oe ∧ oe.cls = cls ∧ oe.dict = d ∧ oe.data = .fields vs
section
variable {X : Cx} {pins : List (Addr × Obj)} {σ : L2.St} {H : Hp} {s : Shared} {a : Addr}
theorem exO_ok {P : Program} {w : World} {H : Hp} {h : Heap} {cls : Value} {d : Option Addr} {oe : Obj} (he : h.get? a = some oe) (hz : Zc cls d oe) (hd : ∃ vs, oe.data = .fields vs) : ObjOk P w H h a (ExO cls d a) := by
  obtain ⟨vs, hd⟩ := hd
  exact ⟨⟨oe, vs, he, hz.1, hz.2, hd⟩, ⟨oe, he⟩, fun h1 h2 ⟨o, v, x1, x2⟩ k => ⟨o, v, k o x1, x2⟩⟩
/-- an object that stands is looked after from now on -/
theorem track {o : HO} (I : Inv X pins σ H s) (na : H a = none) (nL : a ≠ X.env.locals) (nC : ∀ x c, X.env.cells.lookup x = some c → c ≠ a) (nP : ∀ p ∈ X.pn ++ pins, p.1 ≠ a) (n0 : X.s_0.heap.get? a = none) (new : ObjOk X.prog X.w (upd H a o) s.heap a o) : Inv X pins σ (upd H a o) s where
  ok := I.ok
  os := I.os
  bare := I.bare
  base := ⟨I.base.keep, I.base.slot, fun b u e n hx => by rw [upd_ne (fun z => by rw [z, n0] at e; cases e)]; exact I.base.free b u e n hx, I.base.there, fun b xs e => by have := I.base.tups b xs e; rw [upd_ne (fun z => by rw [z, na] at this; cases this)]; exact this, fun b u v e => by have := I.base.frzs b u v e; rw [upd_ne (fun z => by rw [z, na] at this; cases this)]; exact this, fun b ps e => by
    obtain ⟨more, hm⟩ := I.base.tbls b ps e
    exact ⟨more, by rw [upd_ne (fun z => by rw [z, na] at hm; cases hm)]; exact hm⟩⟩
  loc := I.loc
  cell := I.cell
  free := by rw [upd_ne (Ne.symm nL)]; exact I.free
  freeC := fun x c e => by rw [upd_ne (nC x c e)]; exact I.freeC x c e
  pin := fun p hp => by
    obtain ⟨h1, h2, h3⟩ := I.pin p hp
    exact ⟨h1, by rw [upd_ne (nP p hp)]; exact h2, h3⟩
  hok := fun b u e => by
    by_cases hb : b = a
    · subst hb
      rw [upd_same] at e
      cases e
      exact new
    · rw [upd_ne hb] at e
      exact (I.hok b u e).stay (fun c v _ q => q) (fun c q => by rw [upd_ne (ne_of_none q na)]; exact q) fun c xs q => by rw [upd_ne (ne_of_none q na)]; exact q
  len := I.len
/-- isinstance of a kept error -/
def rIsK (K : PySem.W.Frag) : List V → Hp → VK → Prop := fun xs H Q => ∃ (a D : Addr) (c : V) (cv : Value) (b : Bool), xs = [.ref a, c] ∧ H a = some (ExO (.ref D) none a) ∧ ExcC K D ∧ (∀ u, RelV c u → u = cv) ∧ PySem.W.kitOne K (.ref D) cv = some b ∧ Q (.bl b) H
theorem cr_isK : CallR X (.builtin "isinstance") (rIsK X.K) := by
  intro pins s σ H xs us Q I r h
  obtain ⟨a, D, c, cv, b, rfl, hx, C, hcv, e, q⟩ := h
  cases r with
  | cons rx rr =>
    cases rr with
    | cons rt rr =>
      cases rr
      cases rx
      have ec := hcv _ rt
      subst ec
      obtain ⟨⟨oe, vs, hget, h1, h2, hv⟩, _⟩ := (I.hok a _ hx : ObjOk X.prog X.w H s.heap a (ExO (.ref D) none a))
      have J : PySem.W.InstAt s.heap a oe D none := by
        obtain ⟨oc, od, oda, osl⟩ := oe
        dsimp only at h1 h2 hv
        subst h1 h2 hv
        exact ⟨hget, rfl, rfl, trivial⟩
      exact PySem.W.kia_one (PySem.W.handS_kitx_exc C.hg C.hk C.hs C.hd C.ha C.hn C.ht C.hm) I.kIn J e (fun z => nomatch z) fun tk => ⟨.bl b, H, I.kept (t' := tk) fun _ _ z => z, rfl, q⟩
end
theorem kisK {X : Cx} {K : PySem.W.Frag} (hK : X.K = K := by rfl) : CallR X (.builtin "isinstance") (rIsK K) := hK ▸ cr_isK
/-- as wAs of HandS, the error looked after behind the suite -/
def wKeep (K : PySem.W.Frag) (c : Value) (i : Nat) (ts : Addr → Value → Option Addr → TS) (Wout : WX) (D : Ends) : WX := fun cls d σ H =>
  ∃ b, PySem.W.exmOne K cls c = some b ∧ (b = true → ∀ a, H a = none → ts a cls d { nx := fun σ' H' => H' a = none → D.nx (σ'.set i none) (upd H' a (ExO cls d a)), rt := fun _ _ => False, bk := fun _ _ => False, ct := fun _ _ => False } (σ.set i (some (.ref a))) H) ∧ (b = false → Wout cls d σ H)
section
variable {X : Cx} {x n : Str} {c : Value} {i : Nat} {body suite : List Stmt} {b₀ : Stmt} {np pos pos' : Pos} {tb : WX → TS} {ts : Addr → Value → Option Addr → TS} {Wout : WX}
theorem ps_try_keep (hs : X.stack = X.env :: X.outer) (hf : X.env.frame = some X.env.locals) (hN : X.N.Nodup) (hi : X.N[i]? = some n) (hln : X.env.kindOf n = some .local) (hc : Names X x c) (tk : Takes X Wout) (hex : X.ex = [])
    (hb : ∀ (W : WX) (pn : List (Addr × Obj)) (xe : Value → Shared → Prop), Takes (X.tr pn xe) W → PassesOwn (model X.prog X.w) X.A X.env xe → PSs (X.tr pn xe) body (tb W))
    (hsu : ∀ (a : Addr) (oe : Obj) (cls : Value) (d : Option Addr) (pn : List (Addr × Obj)), Zc cls d oe → (∃ vs, oe.data = .fields vs) → PSs (X.suite a ((a, oe) :: pn)) (b₀ :: suite) (ts a cls d)) :
    PS X (.Try body [.ExceptHandler (some (.Name x np)) (some n) (b₀ :: suite) pos'] [] [] pos) (fun D σ H => tb (wKeep X.K c i ts Wout D) D σ H) := by
  refine ⟨fun pins s σ H D I h => ?_⟩
  have ok := I.ok
  have hfr : X.A.frames = some (X.env :: X.outer) := by rw [ok.frames, hs]
  refine wpAny_Try_except ?_
  refine wpAny_mono ((hb (wKeep X.K c i ts Wout D) (X.pn ++ pins) (fun e s₁ => wpAny (model X.prog X.w) X.A (noteFrame e X.env) (fun _ s₂ => wpAny (model X.prog X.w) X.A (setFlight e none) (fun _ s₃ =>
    wpAny (model X.prog X.w) X.A (handleBy e X.env [.ExceptHandler (some (.Name x np)) (some n) (b₀ :: suite) pos']) (SP X pins D) X.xe s₃) X.xe s₂) X.xe s₁) (fun u s' xx => ?_) PassesOwn.looking).run [] s σ H D (I.toTry _) h) (fun f s1 hsp => ?_) (fun e s1 he => he)
  · obtain ⟨a, B, sI, pins', σ', H', cls, d, rfl, J', nb, up, sky, na, os, ag, b, hb1, hyes, hno⟩ := xx
    have J : Inv X pins σ' H' sI := J'.ofTry ok
    show wpAny (model X.prog X.w) X.A (noteFrame (.ref a) X.env) _ _ _
    refine Sky.land Zc.steady hfr hf (by rw [← hs]; exact sky) fun h3 fl3 up3 => ?_
    have J3 : Inv X pins σ' H' { s' with heap := h3 } := J.landed nb fl3.1 (up.trans up3) os ag
    obtain ⟨oe3, vs3, he3, hz3, hd3⟩ := fl3.there
    have nfr : a ∉ frs (X.env :: X.outer) := fun hm => by
      obtain ⟨_, o', e', hnf⟩ := fl3.2.2.1.mem hm
      rw [he3] at e'
      cases e'
      exact hnf _ hd3
    have nI : sI.heap.get? a = none := by
      cases e : sI.heap.get? a with
      | none => rfl
      | some o =>
        have e1 := nb a o e (by rw [hs]; exact nfr)
        rw [fl3.2.1] at e1
        cases e1
    have n0 : X.s_0.heap.get? a = none := by
      cases e : X.s_0.heap.get? a with
      | none => rfl
      | some o =>
        obtain ⟨o', e1⟩ := J.base.there a o e (by rw [hex]; exact fun z => nomatch z)
        rw [nI] at e1
        cases e1
    have nL : a ≠ X.env.locals := fun z => nfr (List.mem_filterMap.mpr ⟨X.env, List.mem_cons_self, by rw [hf, z]⟩)
    have nF : a ∉ X.fs := fun hm => by
      obtain ⟨e, he, q⟩ := List.mem_filterMap.mp hm
      exact nfr (List.mem_filterMap.mpr ⟨e, List.mem_cons_of_mem _ he, q⟩)
    have nP : ∀ p ∈ X.pn ++ pins, p.1 ≠ a := fun p hp z => by
      have := (J.pin p hp).1
      rw [z, nI] at this
      cases this
    have S3 := J3.suite he3 hd3 na nL nF
    refine wpAny_handleBy_cons (codeAny_handlers_test ?_) (by intro q; cases q)
    have LM := PySem.W.exm_one (M := model X.prog X.w) (J3.kIn) (fun A Q E s k q => wpAny_typeOf_ref (k _ _ he3) (by rw [hz3.1]; exact q) : PySem.W.Looks (model X.prog X.w) h3 (typeOf (.ref a)) cls) hb1
    have test : ∀ {Q : Value → Shared → Prop} {E : Value → Shared → Prop}, Q c { s' with heap := h3 } → wpAny (model X.prog X.w) (X.A.mark (some (.ref a))) (eval (.Name x np) X.env) Q E { s' with heap := h3 } := fun {Q E} q => by
      obtain ⟨hg, hdbg, hm | ⟨hm, hv, hnn⟩⟩ := hc
      · exact ld_glob (X := X.suite a ((a, oe3) :: (X.pn ++ pins))) S3 hg hm q hdbg
      · exact ld_blt (X := X.suite a ((a, oe3) :: (X.pn ++ pins))) S3 hg hm hv q hnn hdbg
    refine test (LM.here ?_)
    cases b with
    | true =>
      refine codeAny_handlers_suite_as ?_
      refine HandSPX.lands_againZ fl3 fun h4 fl4 up4 => ?_
      have J4 : Inv X pins σ' H' { s' with heap := h4 } := J.landed nb fl4.1 ((up.trans up3).trans up4) os ag
      obtain ⟨oe4, vs4, he4, hz4, hd4⟩ := fl4.there
      have S4 := J4.suite he4 hd4 na nL nF
      refine store_ok (X := X.suite a ((a, oe4) :: (X.pn ++ pins))) (v := .ref a) S4 hN hi (.inl hln) rfl (fun s5 S5 => ?_) (.inr hln)
      refine wpAny_mono ((hsu a oe4 cls d (X.pn ++ pins) hz4 ⟨_, hd4⟩).run [] s5 _ H' _ S5 (hyes rfl a na)) (fun f s6 hsp => ?_) (fun _ _ z => False.elim z)
      cases f with
      | next =>
        obtain ⟨σ6, H6, S6, q6⟩ := hsp
        obtain ⟨g1, g2, _⟩ := S6.pin (a, oe4) (List.mem_append.mpr (.inl List.mem_cons_self))
        have U6 : Inv X pins σ6 H6 s6 := S6.unsuite ok
        have T6 := track U6 g2 nL (fun y cc hy z => by
          obtain ⟨v, hv⟩ := U6.cell y cc hy
          rw [z] at hv
          obtain ⟨ob, e1, e2⟩ := hv
          rw [g1] at e1
          cases e1
          rw [hd4] at e2
          cases e2) nP n0 (exO_ok (cls := cls) (d := d) g1 hz4 ⟨_, hd4⟩)
        exact gone_ok T6 hN hi hln fun s7 J7 => ⟨_, _, J7, q6 g2⟩
      | brk =>
        obtain ⟨σ6, H6, S6, q6⟩ := hsp
        exact False.elim q6
      | cont =>
        obtain ⟨σ6, H6, S6, q6⟩ := hsp
        exact False.elim q6
      | ret u =>
        obtain ⟨v6, σ6, H6, S6, r6, q6⟩ := hsp
        exact False.elim q6
    | false =>
      show wpAny _ X.A (handleBy (.ref a) X.env []) _ _ _
      refine wpAny_handleBy_nil ?_
      obtain ⟨k1, k2, k3, oe, vs, T, oT, ts', he, hz, hd, h1, hr⟩ := id fl3
      unfold PySem.passOn
      refine wpAny_bind (wpAny_field he hd h1 ?_)
      rw [if_neg (show ¬ ((Value.ref T == Value.none) = true) from by simp)]
      have fin : wpAny (model X.prog X.w) X.A (setFlight (.ref a) X.env.frame) (fun _ s4 => wpAny (model X.prog X.w) X.A (throw (.ref a) : Sem Flow) (SP X pins D) X.xe s4) X.xe { s' with heap := h3 } := by
        rw [hf]
        refine HandSPX.setFlight_upZ fl3 fun h4 hh4 up4 => wpAny_throw (tk _ _ ?_)
        exact ⟨a, B, sI, pins, σ', H', cls, d, rfl, J, nb, (up.trans up3).trans up4, .inr (.inr (by rw [hs]; exact hh4)), na, os, ag, hno rfl⟩
      first
        | exact wpAny_bind (wpAny_pure (wpAny_bind fin))
        | exact wpAny_bind fin
  · cases f with
    | next =>
      obtain ⟨σ', H', J', q⟩ := hsp
      exact wpAny_execs_nil ⟨σ', H', J'.ofTry ok, q⟩
    | brk =>
      obtain ⟨σ', H', J', q⟩ := hsp
      exact ⟨σ', H', J'.ofTry ok, q⟩
    | cont =>
      obtain ⟨σ', H', J', q⟩ := hsp
      exact ⟨σ', H', J'.ofTry ok, q⟩
    | ret u =>
      obtain ⟨v, σ', H', J', r, q⟩ := hsp
      exact ⟨v, σ', H', J'.ofTry ok, r, q⟩
end
section
variable {K : PySem.W.Frag} {σ : L2.St} {H : Hp}
theorem rc_isK {a D : Addr} {c : V} {cv : Value} {b : Bool} (hx : H a = some (ExO (.ref D) none a)) (C : ExcC K D) (hcv : ∀ u, RelV c u → u = cv) (e : PySem.W.kitOne K (.ref D) cv = some b) : RC (rIsK K) [.ref a, c] H (.bl b) := fun H1 e1 _ q => ⟨a, D, c, cv, b, rfl, e1 _ _ hx, C, hcv, e, q H1 (Ex.refl H1)⟩
end
end We
set_option Elab.async false
set_option linter.all false
set_option maxRecDepth 100000
set_option maxHeartbeats 4000000
/-! rests: what comes of ends of words by words; lists and dicts of texts -/
namespace Wr
open PySem PySem.Spec PyProof.Rows L2 Evl Wc Wt Wg Ws Wd
/-- what comes of the rest r by the word w -/
def behO (r w : Tx) : List Tx := if w.take r.length = r then [w.drop r.length] else if r.take w.length = w then [r.drop w.length] else []
def behT (lot : List Tx) (r : Tx) : List Tx := lot.flatMap (behO r)
/-- a first rest -/
def Fst (lot : List Tx) (x : Tx) : Prop := ∃ w ∈ lot, ∃ o ∈ lot, w ≠ o ∧ w.take o.length = o ∧ x = w.drop o.length
/-- what comes of those of F, by words -/
inductive Rch (lot : List Tx) (F : Tx → Prop) : Tx → Prop
  | base {x : Tx} : F x → Rch lot F x
  | step {r x : Tx} : Rch lot F r → r ≠ [] → x ∈ behT lot r → Rch lot F x
theorem Rch.mono {lot : List Tx} {F G : Tx → Prop} (h : ∀ x, F x → Rch lot G x) {x : Tx} (hx : Rch lot F x) : Rch lot G x := by
  induction hx with
  | base f => exact h _ f
  | step _ hn hb ih => exact .step ih hn hb
/-- the ends of words -/
def sufs (lot : List Tx) : List Tx := lot.flatMap fun w => (List.range (w.length + 1)).map fun n => w.drop n
theorem mem_sufs {lot : List Tx} {x : Tx} : x ∈ sufs lot ↔ ∃ w ∈ lot, ∃ n, x = w.drop n := by
  unfold sufs
  rw [List.mem_flatMap]
  constructor
  · rintro ⟨w, hw, hx⟩
    obtain ⟨n, _, rfl⟩ := List.mem_map.mp hx
    exact ⟨w, hw, n, rfl⟩
  · rintro ⟨w, hw, n, rfl⟩
    refine ⟨w, hw, List.mem_map.mpr ?_⟩
    by_cases hn : n ≤ w.length
    · exact ⟨n, List.mem_range.mpr (by omega), rfl⟩
    · exact ⟨w.length, List.mem_range.mpr (by omega), by rw [List.drop_length, List.drop_eq_nil_of_le (by omega)]⟩
theorem sufs_len {m : Nat} : ∀ {lot : List Tx}, (∀ w ∈ lot, w.length ≤ m) → (sufs lot).length ≤ lot.length * (m + 1)
  | [], _ => Nat.zero_le _
  | w :: lot, h => by
    have h1 := sufs_len (lot := lot) fun x hx => h x (List.mem_cons_of_mem _ hx)
    have h2 := h w List.mem_cons_self
    have e : sufs (w :: lot) = ((List.range (w.length + 1)).map fun n => w.drop n) ++ sufs lot := rfl
    rw [e, List.length_append, List.length_map, List.length_range, List.length_cons, Nat.succ_mul]
    omega
theorem beh_sufs {lot : List Tx} {r x : Tx} (hr : r ∈ sufs lot) (h : x ∈ behT lot r) : x ∈ sufs lot := by
  obtain ⟨w, hw, hx⟩ := List.mem_flatMap.mp h
  unfold behO at hx
  by_cases h1 : w.take r.length = r
  · rw [if_pos h1] at hx
    rw [List.mem_singleton.mp hx]
    exact mem_sufs.mpr ⟨w, hw, _, rfl⟩
  · rw [if_neg h1] at hx
    by_cases h2 : r.take w.length = w
    · rw [if_pos h2] at hx
      rw [List.mem_singleton.mp hx]
      obtain ⟨v, hv, n, rfl⟩ := mem_sufs.mp hr
      exact mem_sufs.mpr ⟨v, hv, n + w.length, by rw [List.drop_drop]⟩
    · rw [if_neg h2] at hx
      cases hx
theorem Rch.sufs {lot : List Tx} {F : Tx → Prop} (hF : ∀ x, F x → x ∈ sufs lot) {x : Tx} (h : Rch lot F x) : x ∈ sufs lot := by
  induction h with
  | base f => exact hF _ f
  | step _ _ hb ih => exact beh_sufs ih hb
theorem fst_sufs {lot : List Tx} {x : Tx} (h : Fst lot x) : x ∈ sufs lot := by
  obtain ⟨w, hw, o, _, _, _, rfl⟩ := h
  exact mem_sufs.mpr ⟨w, hw, _, rfl⟩
theorem fst_ne {lot : List Tx} {x : Tx} (h : Fst lot x) : x ≠ [] := by
  obtain ⟨w, hw, o, _, hn, ht, rfl⟩ := h
  intro z
  refine hn ?_
  have h1 : w.take o.length = w := List.take_of_length_le (List.drop_eq_nil_iff.mp z)
  rw [h1] at ht
  exact ht
theorem suf_le {lot : List Tx} {m : Nat} (h : ∀ w ∈ lot, w.length ≤ m) {x : Tx} (hx : x ∈ sufs lot) : x.length ≤ m := by
  obtain ⟨w, hw, n, rfl⟩ := mem_sufs.mp hx
  have := h w hw
  rw [List.length_drop]
  omega
theorem suf_sign {lot : List Tx} {p : Nat → Prop} (h : ∀ w ∈ lot, ∀ c ∈ w, p c) {x : Tx} (hx : x ∈ sufs lot) : ∀ c ∈ x, p c := by
  obtain ⟨w, hw, n, rfl⟩ := mem_sufs.mp hx
  exact fun c hc => h w hw c (List.mem_of_mem_drop hc)
theorem len_sub : ∀ {ks l : List Tx}, ks.Nodup → (∀ x ∈ ks, x ∈ l) → ks.length ≤ l.length
  | [], _, _, _ => Nat.zero_le _
  | x :: ks, l, hn, hs => by
    have hx := hs x List.mem_cons_self
    have h1 := len_sub (ks := ks) (l := l.erase x) (List.nodup_cons.mp hn).2 fun y hy => (List.mem_erase_of_ne (fun z => (List.nodup_cons.mp hn).1 (by rw [← z]; exact hy))).mpr (hs y (List.mem_cons_of_mem _ hy))
    rw [List.length_erase_of_mem hx] at h1
    have := List.length_pos_of_mem hx
    rw [List.length_cons]
    omega
/-- while rests are found: ks met, wk on the pile -/
structure MetX (lot : List Tx) (F : Tx → Prop) (ks wk : List Tx) : Prop where
  nd : ks.Nodup
  reach : ∀ x ∈ ks, Rch lot F x
  has : ∀ x, F x → x ∈ ks
  wk : ∀ x ∈ wk, x ∈ ks
theorem MetX.few {lot : List Tx} {F : Tx → Prop} {ks wk : List Tx} (h : MetX lot F ks wk) (hF : ∀ x, F x → x ∈ sufs lot) : ks.length ≤ (sufs lot).length := len_sub h.nd fun x hx => (h.reach x hx).sufs hF
def ClosedX (lot ks : List Tx) (r : Tx) : Prop := ∀ x ∈ behT lot r, x ∈ ks
theorem met_all {lot : List Tx} {F : Tx → Prop} {ks : List Tx} (h : MetX lot F ks []) (hc : ∀ x ∈ ks, x ≠ [] → ClosedX lot ks x) (x : Tx) : x ∈ ks ↔ Rch lot F x := by
  refine ⟨h.reach x, fun z => ?_⟩
  induction z with
  | base z => exact h.has _ z
  | step _ hn hb ih => exact hc _ ih hn _ hb
theorem addT_keep {ks : List Tx} {n m : Tx} (h : m ∈ ks) : m ∈ addT ks n := mem_addT.mpr (.inl h)
/-- one more rest y is met, behind r; it goes on the pile or not -/
theorem MetX.add {lot : List Tx} {F : Tx → Prop} {ks wk wk' : List Tx} {r y : Tx} (h : MetX lot F ks wk) (hr : r ∈ ks) (hrn : r ≠ []) (hy : y ∈ behT lot r) (hw : ∀ x ∈ wk', x ∈ wk ∨ x = y) : MetX lot F (addT ks y) wk' := ⟨addT_nodup h.nd, fun m hm => by
    rcases mem_addT.mp hm with z | z
    · exact h.reach m z
    · rw [z]; exact .step (h.reach r hr) hrn hy, fun m hm => addT_keep (h.has m hm), fun m hm => (hw m hm).elim (fun z => addT_keep (h.wk m z)) fun z => mem_addT.mpr (.inr z)⟩
/-! ### lists of texts in the heap -/
theorem sh_T {c : List Tx} (h : ∀ t ∈ c, LowT t) : SeqAt.shaped (.list (c.map dT)) = true := shaped_list (m := 0) (fun x hx => lay_T (h x hx)) (fun _ _ => Nat.le_refl _) (by decide)
section
variable {K : PySem.W.Frag} {σ : L2.St} {H : Hp} {ta : TE}
theorem dp_T {p : Addr} {c : List Tx} (h : H p = some (.lst (c.map T))) : Dp K H (.ref p) (.list (c.map dT)) := dp_list (sq_of h) fun _ _ => .str _
theorem et_eqNilT {p : Addr} {c : List Tx} (h : H p = some (.lst (c.map T))) (hl : ∀ t ∈ c, LowT t) (hv : Ev ta σ H (.ref p)) : EvT (tTest (tOp (rEqD K) ta (tLst tNil))) σ H (decide (c = [])) := fun H2 e2 Q q => by
  refine hv H2 e2 _ fun H3 e3 => ⟨Nat.zero_le _, fun r hr => ?_⟩
  have e4 := Ex.new (o := HO.lst []) hr
  refine ⟨_, .list [], dp_T (((e2.trans e3).trans e4) _ _ h), .lst (sq_of upd_same) .nil, sh_T hl, rfl, decide (c = []), ?_, q _ (e3.trans e4)⟩
  cases c <;> rfl
theorem et_neNilT {p : Addr} {c : List Tx} (h : H p = some (.lst (c.map T))) (hl : ∀ t ∈ c, LowT t) (hv : Ev ta σ H (.ref p)) : EvT (tTest (tOp (rNeD K) ta (tLst tNil))) σ H (!decide (c = [])) := fun H2 e2 Q q => by
  refine hv H2 e2 _ fun H3 e3 => ⟨Nat.zero_le _, fun r hr => ?_⟩
  have e4 := Ex.new (o := HO.lst []) hr
  refine rv_neD (b := decide (c = [])) (fun H5 e5 => dp_T (e5 _ _ (((e2.trans e3).trans e4) _ _ h))) (fun H5 e5 => .lst (sq_of (e5 _ _ upd_same)) .nil) (sh_T hl) (by decide) ?_ _ (Ex.refl _) _ fun H5 e5 => ⟨_, rfl, q _ ((e3.trans e4).trans e5)⟩
  cases c <;> rfl
theorem last_T (c : List Tx) (n : Tx) : ((c ++ [n]).map T)[((c ++ [n]).map T).length - 1]? = some (T n) := by
  rw [List.length_map, List.length_append, List.getElem?_map]
  simp
theorem wp_popT {i : Nat} {pw : Addr} {c : List Tx} {n : Tx} {Q : VK} (h0 : σ[i]? = some (some (.ref pw))) (h : H pw = some (.lst ((c ++ [n]).map T))) (k : Q (T n) (upd H pw (.lst (c.map T)))) : tBM0 K "list" rPop (tVar i) σ H Q := by
  refine ⟨.ref pw, h0, Or.inl ⟨rfl, _, sq_of h⟩, pw, _, T n, rfl, rfl, h, last_T c n, ?_⟩
  have e : ((c ++ [n]).map T).dropLast = c.map T := by rw [List.map_append]; exact List.dropLast_concat
  rw [e]
  exact k
theorem q_popT {i a : Nat} {pw : Addr} {c : List Tx} {n : Tx} {D : Ends} {tz : TS} (h0 : σ[i]? = some (some (.ref pw))) (h : H pw = some (.lst ((c ++ [n]).map T))) (k : tz D (σ.set a (some (T n))) (upd H pw (.lst (c.map T)))) : tSeq (tAsg (tBM0 K "list" rPop (tVar i)) (gName a)) tz D σ H := wp_popT (Q := fun v H1 => tz D (σ.set a (some v)) H1) h0 h k
theorem pairedX {H : Hp} : ∀ {ps : List Addr} {ns : List Tx}, ps.length = ns.length → (∀ (i : Nat) (p : Addr) (n : Tx), ps[i]? = some p → ns[i]? = some n → H p = some (.tup [T n, .bl true])) → Paired (fun p (kv : Key × V) => SqT K H p [kV kv.1, kv.2]) ps (DX ns)
  | [], [], _, _ => .nil
  | p :: ps, n :: ns, hl, h => .cons (st_of (h 0 p n rfl rfl)) (pairedX (by simpa using hl) fun i p' n' h1 h2 => h (i + 1) p' n' (by simpa using h1) (by simpa using h2))
/-- x = {t: True for t in ns} -/
theorem q_dcX {wi : TI} {i j : Nat} {vs : List Nat} {own : Addr → Prop} {D : Ends} {tz : TS} (ns : List Tx) (hs : Src wi σ H ns.length own (fun i v _ => (ns.map T)[i]? = some v)) (hn : ns.length ≤ 4000) (hw : ∀ x, wipe ((wipe σ vs).set j (some x)) vs = wipe σ vs) (hj : ∀ x, ((wipe σ vs).set j (some x))[j]? = some (some x))
    (k : ∀ d H2, H d = none → Ex H H2 → H2 d = some (.dK (DX (addAllT [] ns))) → tz D (σ.set i (some (.ref d))) H2) : tSeq (tAsg (tDc wi (gName j) tYes (tVar j) (tC (.bl true)) vs) (gName i)) tz D σ H := dc_texts (Q := fun v H1 => tz D (σ.set i (some v)) H1) ns hs hn hw hj k
/-- dict([(t, True) for t in ts]) -/
theorem wp_dictX {i j : Nat} {pp : Addr} {ns : List Tx} {Q : VK} (h0 : σ[i]? = some (some (.ref pp))) (h : H pp = some (.lst (ns.map T))) (hl : ns.length ≤ 4000) (hw : ∀ x, wipe ((wipe σ [j]).set j (some x)) [j] = wipe σ [j]) (hj : ∀ x, ((wipe σ [j]).set j (some x))[j]? = some (some x))
    (k : ∀ d H1, H d = none → Ex H H1 → H1 d = some (.dK (DX (addAllT [] ns))) → Q (.ref d) H1) : tCB (rDictP K) (tCons (tLc (iList K (tVar i)) (gName j) tYes (tTup (tCons (tVar j) (tCons (tC (.bl true)) tNil))) [j]) tNil) σ H Q := by
  have key : tLc (iList K (tVar i)) (gName j) tYes (tTup (tCons (tVar j) (tCons (tC (.bl true)) tNil))) [j] σ H (fun v H1 => rDictP K [v] H1 Q) := by
    refine lcN (n := ns.length) (fun t => .tup [T (ns.getD t []), .bl true]) (src_listM (f := T) (ev_var h0) (sq_of h)) (by omega) hw (fun t x H1 ht hx e1 Q' q' => ?_) fun q H2 ps hq e2 h2 hpl hn hnq => ?_
    · obtain ⟨n, hn, rfl⟩ := at_map hx
      refine ⟨_, hj _, by show 2 ≤ sizeLine; decide, fun p hp => q' p _ hp (Ex.new hp) ?_⟩
      rw [upd_same, List.getD_eq_getElem?_getD, hn]
      rfl
    · refine ⟨q, ps, DX ns, rfl, sq_of h2, pairedX hpl fun i p n h3 h4 => ?_, fun d hd => ?_⟩
      · have := hn.at_ i p h3
        rw [List.getD_eq_getElem?_getD, h4] at this
        exact this
      · have : mergeK [] (DX ns) = DX (addAllT [] ns) := merge_DX ns []
        rw [this]
        exact k d _ (fresh_back e2 hd) (e2.trans (Ex.new hd)) upd_same
  exact key
end
end Wr
set_option Elab.async false
set_option linter.all false
set_option maxRecDepth 100000
set_option maxHeartbeats 4000000
/-! dicts from texts to numbers; list(d.values()) -/
namespace Ws
open PySem PySem.Spec PyProof.Rows L2 Evl Wc Wt Wg Wd
def DC (kvs : List (Tx × Nat)) : List (Key × V) := kvs.map fun p => (kx p.1, V.int (p.2 : Int))
def getC (kvs : List (Tx × Nat)) (t : Tx) : Option Nat := (kvs.find? fun p => decide (p.1 = t)).map (·.2)
def putC (kvs : List (Tx × Nat)) (t : Tx) (n : Nat) : List (Tx × Nat) := if (getC kvs t).isSome = true then kvs.map (fun p => if p.1 = t then (p.1, n) else p) else kvs ++ [(t, n)]
theorem getC_pos {p : Tx × Nat} {r : List (Tx × Nat)} {t : Tx} (e : p.1 = t) : getC (p :: r) t = some p.2 := by simp [getC, List.find?_cons, e]
theorem getC_neg {p : Tx × Nat} {r : List (Tx × Nat)} {t : Tx} (e : ¬ p.1 = t) : getC (p :: r) t = getC r t := by simp [getC, List.find?_cons, e]
theorem DC_len (kvs : List (Tx × Nat)) : (DC kvs).length = kvs.length := List.length_map _
theorem val_DC (kvs : List (Tx × Nat)) (t : Tx) : valV (DC kvs) (kx t) = (getC kvs t).map fun (n : Nat) => V.int (n : Int) := by
  induction kvs with
  | nil => rfl
  | cons p kvs ih =>
    show valV ((kx p.1, V.int (p.2 : Int)) :: DC kvs) (kx t) = _
    by_cases h : p.1 = t
    · rw [valV_pos (congrArg kx h), getC_pos h]
      rfl
    · rw [valV_neg (fun z => h (kx_inj z)), getC_neg h, ih]
theorem put_DC (kvs : List (Tx × Nat)) (t : Tx) (n : Nat) : putK (DC kvs) (kx t) (.int (n : Int)) = DC (putC kvs t n) := by
  have ha := valV_any (kx t) (DC kvs)
  rw [val_DC, Option.isSome_map] at ha
  unfold putK putC
  cases hg : (getC kvs t).isSome with
  | true =>
    rw [hg] at ha
    rw [if_pos ha, if_pos rfl]
    unfold DC
    rw [List.map_map, List.map_map]
    refine List.map_congr_left fun p _ => ?_
    show (if kx p.1 = kx t then (kx p.1, V.int (n : Int)) else (kx p.1, V.int (p.2 : Int))) = ((fun p : Tx × Nat => (kx p.1, V.int (p.2 : Int))) (if p.1 = t then (p.1, n) else p))
    by_cases h : p.1 = t
    · rw [if_pos h, if_pos (congrArg kx h)]
    · rw [if_neg h, if_neg (fun z => h (kx_inj z))]
  | false =>
    rw [hg] at ha
    rw [if_neg (by rw [ha]; exact Bool.false_ne_true), if_neg Bool.false_ne_true]
    unfold DC
    rw [List.map_append]
    rfl
section
variable {K : PySem.W.Frag} {σ : L2.St} {H : Hp} {td ty tx tv : TE} {D : Ends} {tz : TS} {d : Addr} {kvs : List (Tx × Nat)} {t : Tx} {n : Nat}
/-- d[t] -/
theorem ev_getC (hd : Ev td σ H (.ref d)) (hk : Ev ty σ H (T t)) (h : H d = some (.dK (DC kvs))) (hg : getC kvs t = some n) : Ev (tDGet td ty) σ H (.int (n : Int)) := fun H1 e Q q =>
  hd H1 e _ fun H2 e2 => hk H2 (e.trans e2) _ fun H3 e3 => ⟨d, _, rfl, by
    have := DGet.k (H := H3) (a := d) (k := kx t) (((e.trans e2).trans e3) _ _ h)
    rw [val_DC, hg] at this
    exact this, q H3 (e2.trans e3)⟩
/-- d.get(t, i) -/
theorem ev_getC2 {i : Int} (hd : Ev td σ H (.ref d)) (hk : Ev ty σ H (T t)) (hx : Ev tx σ H (.int i)) (h : H d = some (.dK (DC kvs))) : Ev (tDGet2 td ty tx) σ H (.int (match getC kvs t with | none => i | some n => (n : Int))) := fun H1 e Q q =>
  hd H1 e _ fun H2 e2 => ⟨d, rfl, .inl ⟨_, Rd.of ((e.trans e2) _ _ h)⟩, hk H2 (e.trans e2) _ fun H3 e3 => hx H3 ((e.trans e2).trans e3) _ fun H4 e4 => ⟨_, DGet.k (k := kx t) ((((e.trans e2).trans e3).trans e4) _ _ h), by
    rw [val_DC]
    have := q H4 ((e2.trans e3).trans e4)
    cases hg : getC kvs t with
    | none => rw [hg] at this; exact this
    | some n => rw [hg] at this; exact this⟩⟩
/-- d[t] = n -/
theorem s_putC (hv : Ev tv σ H (.int (n : Int))) (hd : Ev td σ H (.ref d)) (hk : Ev ty σ H (T t)) (h : H d = some (.dK (DC kvs))) (hl : kvs.length ≤ 10000) (k : ∀ H1, Ex H H1 → D.nx σ (upd H1 d (.dK (DC (putC kvs t n))))) : sDPut td ty tv D σ H :=
  hv H (Ex.refl H) _ fun H1 e1 => hd H1 e1 _ fun H2 e2 => hk H2 (e1.trans e2) _ fun H3 e3 => ⟨d, _, rfl, DPut.k (k := kx t) (((e1.trans e2).trans e3) _ _ h) (by rw [DC_len]; unfold sizeLine; omega), by rw [put_DC]; exact k H3 ((e1.trans e2).trans e3)⟩
end
/-- list(d.values()) -/
def tListVals (te : TE) : TE := fun σ H Q => te σ H fun x H1 => ∃ d kvs, x = .ref d ∧ H1 d = some (.dK kvs) ∧ ∀ p, H1 p = none → Q (.ref p) (upd H1 p (.lst (kvs.map (·.2))))
section
variable {X : Cx} {e : Expr} {te : TE} {p apos cpos pos : Pos}
theorem pe_listVals (hc : X.calm = true) (he : PE X e te) (hg : Gl X "list") (hm : X.mg "list" = none) (hv : bootBuiltins "list" = some (.type "list")) (hbase : attributeBase e "values" X.env (eval e X.env) = eval e X.env := by rfl) (hline : (apos.endLine == cpos.line) = true := by rfl)
    (hs : starEach [.Call (.Attribute e "values" apos) [] [] cpos] X.env = (false, eval (.Call (.Attribute e "values" apos) [] [] cpos) X.env) :: starEach [] X.env := by rfl) :
    PE X (.Call (.Name "list" p) [.Call (.Attribute e "values" apos) [] [] cpos] [] pos) (tListVals te) := by
  refine ⟨fun pins s σ H Q I hq => ?_⟩
  refine wpAny_Call_Name_kw (ld_blt I hg hm hv ?_)
  refine PyProof.Rows.callWith_type1 ?_ hs rfl
  rw [hs]
  show wpAny _ _ (spliced ((false, eval (.Call (.Attribute e "values" apos) [] [] cpos) X.env) :: backTo pos (starEach [] X.env))) _ _ s
  refine Calls.spliced_cons ?_
  refine wpAny_Call_method (T := "dict") (id := "dict.values") hbase rfl hline PySem.F.plainAttrs_dict PySem.F.slot_dict_values PySem.F.type_dict_values (thn (he.run pins s σ H _ I hq) fun u s1 ⟨x, H1, I1, rx, d, kvs, ex, hd, q⟩ => ?_)
  subst ex
  obtain rfl : u = Value.ref d := rx
  obtain ⟨hz, hs0, vs, kv, hdo⟩ := I1.hok d _ hd
  obtain ⟨ep, hat⟩ := hdo.dictAt
  have lk : kvs.length = vs.length := Paired.length kv
  have I2 : Inv X pins σ H1 { s1 with heap := s1.heap.push { cls := .type "dict_values", data := .fields #[.ref d] } } := I1.kept (t' := s1.toks) fun b ob q => Heap.get?_push_of_some _ q
  refine ⟨hdo.typeIs, hdo.mapOf.noDict, ?_⟩
  show wpAny _ _ (callWith cpos (.builtin "dict.values") [.ref d] [] []) _ X.xe s1
  refine method_meetsIn PySem.F.slot_dict_values PySem.F.entry_dict_values rfl (PySem.evalArgs_none ⟨rfl, hdo.typeIs, PySem.F.args_dict_values_1 _, _, meets_dict_values (mixKind X.prog X.w) d hs0, ⟨vs, hdo⟩, ?_⟩)
  refine Calls.spliced_nil ?_
  refine PySem.W.kdl_call (PySem.W.kdl_values (knd := mixKind X.prog X.w) (kvs := vs) (ep := ep)) (I1.ok.hd hc) ⟨⟨_, Heap.get?_push_size _ rfl, rfl, rfl⟩, hat.push _⟩ (by rw [← lk]; exact hz) fun h' tk acc' c' hkeep hS hacc => ?_
  refine ⟨.ref _, upd H1 _ (.lst (kvs.map (·.2))), I2.laid hkeep (Nat.le_refl _) (show ObjOk X.prog X.w _ _ _ (.lst (kvs.map (·.2))) from ⟨?_, acc'.toList, c', ?_, ?_⟩), rfl, q _ (I2.hok.fresh (Nat.le_refl _))⟩
  · rw [List.length_map]; exact hz
  · have el : acc'.toList.length = acc'.size := by simp
    refine vals_of_at (by rw [List.length_map, el, hacc.1, lk]) fun j x w h1 h2 => ?_
    obtain ⟨k, hky⟩ := hacc.2 j w (by rw [← Array.getElem?_toList]; exact h2)
    obtain ⟨y, g1, g2⟩ := KV.at' kv hky
    rw [List.getElem?_map, g1] at h1
    cases h1
    exact g2
  · rw [Array.toArray_toList]; exact hS
end
section
variable {σ : L2.St} {H : Hp} {td : TE} {d : Addr} {kvs : List (Tx × Nat)}
theorem el_valsC (hd : Ev td σ H (.ref d)) (h : H d = some (.dK (DC kvs))) : EvL (tListVals td) σ H (kvs.map fun p => V.int (p.2 : Int)) := fun H1 e Q q => hd H1 e _ fun H2 e2 => ⟨d, _, rfl, (e.trans e2) _ _ h, fun r hr => q r _ (fresh_back e2 hr) (e2.trans (Ex.new hr)) (by
  rw [upd_same]
  unfold DC
  rw [List.map_map]
  rfl)⟩
theorem el_listC (hd : Ev td σ H (.ref d)) (h : H d = some (.dK (DC kvs))) : EvL (tCB rListD (tCons td tNil)) σ H (kvs.map fun p => T p.1) := fun H1 e Q q => hd H1 e _ fun H2 e2 => ⟨d, DC kvs, rfl, (e.trans e2) _ _ h, fun r hr => q r _ (fresh_back e2 hr) (e2.trans (Ex.new hr)) (by
  rw [upd_same]
  unfold DC
  rw [List.map_map]
  rfl)⟩
end
end Ws
set_option Elab.async false
set_option linter.all false
set_option maxRecDepth 100000
set_option maxHeartbeats 2000000
namespace K22
open PySem PySem.Spec PyProof.Rows L2 Evl Wc Wt Wg Ws
/-! the plain law: signs replaced again and again, told by their counts -/
/-- what replaces a sign -/
def im (rep : List Tx) (c : Nat) : Tx := rep.getD (c - 97) []
/-- how many signs c becomes -/
def cR (rep : List Tx) : Nat → Nat → Nat
  | 0, _ => 1
  | t + 1, c => ((im rep c).map fun d => cR rep t d).sum
/-- each sign replaced -/
def phi (rep : List Tx) (t : Tx) : Tx := (t.map (im rep)).flatten
def phiN (rep : List Tx) : Nat → Tx → Tx
  | 0, t => t
  | n + 1, t => phi rep (phiN rep n t)
theorem phi_nil (rep : List Tx) : phi rep [] = [] := rfl
theorem phi_cons (rep : List Tx) (c : Nat) (t : Tx) : phi rep (c :: t) = im rep c ++ phi rep t := by
  unfold phi
  rw [List.map_cons, List.flatten_cons]
theorem phi_app (rep : List Tx) (a b : Tx) : phi rep (a ++ b) = phi rep a ++ phi rep b := by
  unfold phi
  rw [List.map_append, List.flatten_append]
theorem phiN_nil (rep : List Tx) : ∀ n, phiN rep n [] = []
  | 0 => rfl
  | n + 1 => by
    show phi rep (phiN rep n []) = []
    rw [phiN_nil rep n, phi_nil]
theorem phiN_app (rep : List Tx) : ∀ n (a b : Tx), phiN rep n (a ++ b) = phiN rep n a ++ phiN rep n b
  | 0, _, _ => rfl
  | n + 1, a, b => by
    show phi rep (phiN rep n (a ++ b)) = _
    rw [phiN_app rep n, phi_app]
    rfl
theorem phiN_succ (rep : List Tx) : ∀ n (t : Tx), phiN rep (n + 1) t = phiN rep n (phi rep t)
  | 0, _ => rfl
  | n + 1, t => by
    show phi rep (phiN rep (n + 1) t) = phi rep (phiN rep n (phi rep t))
    rw [phiN_succ rep n]
theorem phiN_one (rep : List Tx) (n c : Nat) : phiN rep (n + 1) [c] = phiN rep n (im rep c) := by
  rw [phiN_succ, phi_cons, phi_nil, List.append_nil]
theorem phi_one (rep : List Tx) (c : Nat) : phi rep [c] = im rep c := by
  rw [phi_cons, phi_nil, List.append_nil]
theorem phiN_cons (rep : List Tx) (n c : Nat) (t : Tx) : phiN rep n (c :: t) = phiN rep n [c] ++ phiN rep n t := phiN_app rep n [c] t
/-- the counts are lengths -/
theorem cR_len (rep : List Tx) : ∀ n (t : Tx), (phiN rep n t).length = (t.map (cR rep n)).sum
  | 0, t => by
    show t.length = (t.map fun _ => 1).sum
    induction t with
    | nil => rfl
    | cons c t ih => rw [List.length_cons, ih, List.map_cons, List.sum_cons, Nat.add_comm]
  | n + 1, t => by
    induction t with
    | nil => rw [phiN_nil]; rfl
    | cons c t ih =>
      rw [phiN_cons, List.length_append, ih, phiN_one, cR_len rep n, List.map_cons, List.sum_cons]
      rfl
theorem cR_one (rep : List Tx) (n c : Nat) : (phiN rep n [c]).length = cR rep n c := by
  rw [cR_len, List.map_cons, List.map_nil, List.sum_cons, List.sum_nil, Nat.add_zero]
/-- the sign found by going down -/
def pick (f : Nat → Nat) : Tx → Nat → Nat → Nat × Nat
  | [], c, p => (c, p)
  | d :: t, _, p => if p < f d then (d, p) else pick f t d (p - f d)
theorem pick_cons (f : Nat → Nat) (d : Nat) (t : Tx) (c p : Nat) : pick f (d :: t) c p = if p < f d then (d, p) else pick f t d (p - f d) := rfl
def sgnA (rep : List Tx) : Nat → Nat → Nat → Nat
  | 0, c, _ => c
  | n + 1, c, p => sgnA rep n (pick (cR rep n) (im rep c) c p).1 (pick (cR rep n) (im rep c) c p).2
/-- going down gives the text's own sign -/
theorem pick_at (rep : List Tx) (n : Nat) : ∀ (t : Tx) (c p : Nat), p < (t.map (cR rep n)).sum → (phiN rep n [(pick (cR rep n) t c p).1])[(pick (cR rep n) t c p).2]? = (phiN rep n t)[p]? ∧ (pick (cR rep n) t c p).2 < cR rep n (pick (cR rep n) t c p).1
  | [], c, p, h => absurd h (by simp)
  | d :: t, c, p, h => by
    rw [List.map_cons, List.sum_cons] at h
    rw [phiN_cons rep n d t, pick_cons]
    by_cases hp : p < cR rep n d
    · rw [if_pos hp]
      refine ⟨?_, hp⟩
      show (phiN rep n [d])[p]? = _
      rw [List.getElem?_append_left (by rw [cR_one]; exact hp)]
    · rw [if_neg hp]
      obtain ⟨h1, h2⟩ := pick_at rep n t d (p - cR rep n d) (by omega)
      refine ⟨?_, h2⟩
      rw [h1, List.getElem?_append_right (by rw [cR_one]; omega), cR_one]
theorem sgn_at (rep : List Tx) : ∀ (n c p : Nat), p < cR rep n c → (phiN rep n [c])[p]? = some (sgnA rep n c p)
  | 0, c, p, h => by
    have : p = 0 := by
      have : p < 1 := h
      omega
    subst this
    rfl
  | n + 1, c, p, h => by
    have h1 := pick_at rep n (im rep c) c p h
    rw [phiN_one, ← h1.1]
    exact sgn_at rep n _ _ h1.2
theorem cR_le {rep : List Tx} (h : ∀ t ∈ rep, t.length ≤ 12) : ∀ n c, cR rep n c ≤ 12 ^ n
  | 0, _ => Nat.le_refl _
  | n + 1, c => by
    have hl : (im rep c).length ≤ 12 := by
      unfold im
      rw [List.getD_eq_getElem?_getD]
      cases hq : rep[c - 97]? with
      | none => exact Nat.zero_le _
      | some t => exact h t (List.mem_of_getElem? hq)
    have : ∀ t : Tx, (t.map (cR rep n)).sum ≤ t.length * 12 ^ n := fun t => by
      induction t with
      | nil => exact Nat.zero_le _
      | cons d t ih =>
        rw [List.map_cons, List.sum_cons, List.length_cons, Nat.succ_mul]
        have := cR_le h n d
        omega
    refine Nat.le_trans (this (im rep c)) ?_
    rw [Nat.pow_succ, Nat.mul_comm (12 ^ n)]
    exact Nat.mul_le_mul_right _ hl
/-- a way down: from a place in what a sign becomes to one in what one of its signs becomes -/
theorem pick_way (f : Nat → Nat) : ∀ (t : Tx) (c i d r : Nat), t[i]? = some d → r < f d → pick f t c (((t.take i).map f).sum + r) = (d, r)
  | [], _, _, _, _, h, _ => by simp at h
  | e :: t, c, 0, d, r, h, hr => by
    have : e = d := by simpa using h
    subst this
    have h0 : ((List.take 0 (e :: t)).map f).sum + r = r := Nat.zero_add r
    rw [h0, pick_cons, if_pos hr]
  | e :: t, c, i + 1, d, r, h, hr => by
    rw [List.take_succ_cons, List.map_cons, List.sum_cons]
    rw [pick_cons, if_neg (by omega), show f e + ((t.take i).map f).sum + r - f e = ((t.take i).map f).sum + r by omega]
    exact pick_way f t e i d r (by simpa using h) hr
theorem take_sum_le (f : Nat → Nat) : ∀ (t : Tx) (i d : Nat), t[i]? = some d → ((t.take i).map f).sum + f d ≤ (t.map f).sum
  | [], _, _, h => by simp at h
  | e :: t, 0, d, h => by
    have : e = d := by simpa using h
    subst this
    rw [List.map_cons, List.sum_cons]
    simp
  | e :: t, i + 1, d, h => by
    rw [List.take_succ_cons, List.map_cons, List.sum_cons, List.map_cons, List.sum_cons]
    have := take_sum_le f t i d (by simpa using h)
    omega
/-! ### counts in a dict -/
def wsum (f : Tx → Nat) (kvs : List (Tx × Nat)) : Nat := (kvs.map fun p => p.2 * f p.1).sum
theorem getC_none {kvs : List (Tx × Nat)} {t : Tx} : getC kvs t = none ↔ t ∉ kvs.map (·.1) := by
  induction kvs with
  | nil => exact ⟨(fun _ h => nomatch h), fun _ => rfl⟩
  | cons p kvs ih =>
    rw [List.map_cons, List.mem_cons, not_or]
    by_cases h : p.1 = t
    · rw [getC_pos h]
      exact ⟨(fun z => nomatch z), fun z => absurd h.symm z.1⟩
    · rw [getC_neg h, ih]
      exact ⟨fun z => ⟨fun e => h e.symm, z⟩, fun z => z.2⟩
theorem putC_keys {kvs : List (Tx × Nat)} {t : Tx} {n : Nat} : (putC kvs t n).map (·.1) = if (getC kvs t).isSome = true then kvs.map (·.1) else kvs.map (·.1) ++ [t] := by
  unfold putC
  split
  · rw [List.map_map]
    refine List.map_congr_left fun p _ => ?_
    show (if p.1 = t then (p.1, n) else p).1 = p.1
    split <;> rfl
  · rw [List.map_append]
    rfl
theorem putC_nodup {kvs : List (Tx × Nat)} {t : Tx} {n : Nat} (h : (kvs.map (·.1)).Nodup) : ((putC kvs t n).map (·.1)).Nodup := by
  rw [putC_keys]
  cases hg : getC kvs t with
  | some m => exact h
  | none =>
    rw [if_neg (by simp), List.nodup_append]
    refine ⟨h, by simp, fun a ha b hb => ?_⟩
    rw [List.mem_singleton] at hb
    rintro rfl
    exact getC_none.mp hg (hb ▸ ha)
theorem putC_mem {kvs : List (Tx × Nat)} {t u : Tx} {n : Nat} : u ∈ (putC kvs t n).map (·.1) ↔ u ∈ kvs.map (·.1) ∨ u = t := by
  rw [putC_keys]
  cases hg : getC kvs t with
  | some m =>
    rw [if_pos (show (some m).isSome = true from rfl)]
    refine ⟨.inl, fun z => z.elim id fun e => ?_⟩
    rw [e]
    refine Classical.byContradiction fun hn => ?_
    rw [getC_none.mpr hn] at hg
    cases hg
  | none =>
    rw [if_neg (by simp), List.mem_append, List.mem_singleton]
theorem wsum_same (f : Tx → Nat) (t : Tx) (n : Nat) : ∀ kvs : List (Tx × Nat), t ∉ kvs.map (·.1) → wsum f (kvs.map fun p => if p.1 = t then (p.1, n) else p) = wsum f kvs
  | [], _ => rfl
  | p :: kvs, h => by
    rw [List.map_cons, List.mem_cons, not_or] at h
    unfold wsum
    rw [List.map_cons, List.map_cons, List.sum_cons, List.map_cons, List.sum_cons, if_neg fun e => h.1 e.symm]
    have := wsum_same f t n kvs h.2
    unfold wsum at this
    rw [this]
theorem wsum_put (f : Tx → Nat) {t : Tx} {m : Nat} : ∀ kvs : List (Tx × Nat), (kvs.map (·.1)).Nodup → wsum f (putC kvs t ((getC kvs t).getD 0 + m)) = wsum f kvs + m * f t
  | [], _ => by
    show ([(t, 0 + m)].map fun p : Tx × Nat => p.2 * f p.1).sum = 0 + m * f t
    simp
  | p :: kvs, h => by
    rw [List.map_cons, List.nodup_cons] at h
    by_cases e : p.1 = t
    · have hg : getC (p :: kvs) t = some p.2 := getC_pos e
      unfold putC
      rw [hg, if_pos (show (some p.2).isSome = true from rfl)]
      have h2 := wsum_same f t (p.2 + m) kvs (e ▸ h.1)
      unfold wsum at h2 ⊢
      rw [List.map_cons, List.map_cons, List.sum_cons, if_pos e, List.map_cons, List.sum_cons]
      show (p.2 + m) * f p.1 + (List.map (fun p => p.2 * f p.1) (List.map (fun q => if q.1 = t then (q.1, (some p.2).getD 0 + m) else q) kvs)).sum = _
      have h3 : (some p.2).getD 0 + m = p.2 + m := rfl
      rw [h3, h2, e, Nat.add_mul]
      omega
    · have hg : getC (p :: kvs) t = getC kvs t := getC_neg e
      have ih := wsum_put f (t := t) (m := m) kvs h.2
      have hp : putC (p :: kvs) t ((getC (p :: kvs) t).getD 0 + m) = p :: putC kvs t ((getC kvs t).getD 0 + m) := by
        unfold putC
        rw [hg]
        by_cases hs : (getC kvs t).isSome = true
        · rw [if_pos hs, if_pos hs, List.map_cons, if_neg e]
        · rw [if_neg hs, if_neg hs]
          rfl
      rw [hp]
      unfold wsum at ih ⊢
      rw [List.map_cons, List.sum_cons, ih, List.map_cons, List.sum_cons]
      omega
end K22
set_option Elab.async false
set_option linter.all false
set_option maxRecDepth 100000
set_option maxHeartbeats 2000000
namespace K22
open PySem PySem.Spec PyProof.Rows L2 Evl Wc Wt Wg Ws
def abcd (c : Nat) : Prop := 97 ≤ c ∧ c ≤ 100
def areSigns (a : Tx) (most : Int) : Bool := decide ((a.length : Int) ≤ most) && a.all fun c => decide (c ∈ [97, 98, 99, 100])
theorem areSigns_ok {a : Tx} {m : Nat} (h1 : a.length ≤ m) (h2 : ∀ c ∈ a, abcd c) : areSigns a (m : Int) = true := by
  unfold areSigns
  rw [Bool.and_eq_true, decide_eq_true_eq, List.all_eq_true]
  refine ⟨by omega, fun c hc => decide_eq_true ?_⟩
  have := h2 c hc
  unfold abcd at this
  have h4 : c = 97 ∨ c = 98 ∨ c = 99 ∨ c = 100 := by omega
  rcases h4 with rfl | rfl | rfl | rfl <;> decide
/-- numbers, and what is none -/
inductive Nt (H : Hp) : V → Option Int → Prop
  | int (i : Int) : Nt H (.int i) (some i)
  | bl (b : Bool) : Nt H (.bl b) none
  | non : Nt H .non none
  | str (s : Tx) : Nt H (T s) none
  | tup {a : Addr} {xs : List V} : H a = some (.tup xs) → Nt H (.ref a) none
theorem Nt.ex {H H1 : Hp} {v : V} {o : Option Int} (h : Nt H v o) (e : Ex H H1) : Nt H1 v o := by
  cases h with
  | int i => exact .int i
  | bl b => exact .bl b
  | non => exact .non
  | str s => exact .str s
  | tup h => exact .tup (e _ _ h)
def intB : Option Int → Bool
  | none => false
  | some _ => true
def inB (a b : Int) : Option Int → Bool
  | none => false
  | some i => decide (a ≤ i) && decide (i ≤ b)
/-- parts of what may be a replacing: texts, and what is none -/
inductive El (H : Hp) : V → Option Tx → Prop
  | str (t : Tx) : El H (T t) (some t)
  | lst {a : Addr} {xs : List V} : H a = some (.lst xs) → El H (.ref a) none
  | non : El H .non none
  | int (i : Int) : El H (.int i) none
  | bl (b : Bool) : El H (.bl b) none
theorem El.ex {H H1 : Hp} {v : V} {o : Option Tx} (h : El H v o) (e : Ex H H1) : El H1 v o := by
  cases h with
  | str t => exact .str t
  | lst h => exact .lst (e _ _ h)
  | non => exact .non
  | int i => exact .int i
  | bl b => exact .bl b
/-- things: a tuple of such, or something else -/
inductive Rt (H : Hp) : V → Option (List (Option Tx)) → Prop
  | tup {a : Addr} {vs : List V} {os : List (Option Tx)} : H a = some (.tup vs) → All2 (El H) vs os → Rt H (.ref a) (some os)
  | lst {a : Addr} {xs : List V} : H a = some (.lst xs) → Rt H (.ref a) none
  | dK {a : Addr} {kvs : List (Key × V)} : H a = some (.dK kvs) → Rt H (.ref a) none
  | non : Rt H .non none
  | int (i : Int) : Rt H (.int i) none
  | str (s : Tx) : Rt H (T s) none
theorem Rt.ex {H H1 : Hp} {v : V} {o : Option (List (Option Tx))} (h : Rt H v o) (e : Ex H H1) : Rt H1 v o := by
  cases h with
  | tup h hs => exact .tup (e _ _ h) (hs.mono fun _ _ z => z.ex e)
  | lst h => exact .lst (e _ _ h)
  | dK h => exact .dK (e _ _ h)
  | non => exact .non
  | int i => exact .int i
  | str s => exact .str s
def elB : Option Tx → Bool
  | none => false
  | some t => areSigns t 12
def repB : Option (List (Option Tx)) → Bool
  | none => false
  | some os => (decide (1 ≤ os.length) && decide (os.length ≤ 4)) && os.all elB
theorem repB_some (os : List (Option Tx)) : repB (some os) = ((decide (1 ≤ os.length) && decide (os.length ≤ 4)) && os.all elB) := rfl
/-- the texts of a replacing -/
def txs (os : List (Option Tx)) : List Tx := os.map fun o => o.getD []
/-- own signs alone -/
def ownT (ts : List Tx) : Bool := ts.flatten.all fun c => decide (c ∈ AB.take ts.length)
def ownB : Option (List (Option Tx)) → Bool
  | none => false
  | some os => repB (some os) && ownT (txs os)
theorem ownB_some (os : List (Option Tx)) : ownB (some os) = (repB (some os) && ownT (txs os)) := rfl
def allB : Option (List (Option Tx)) → Bool
  | none => false
  | some os => ownB (some os) && !decide ([] ∈ txs os)
theorem allB_some (os : List (Option Tx)) : allB (some os) = (ownB (some os) && !decide ([] ∈ txs os)) := rfl
/-- of a size to be looked at -/
def Sm : Option (List (Option Tx)) → Prop
  | none => True
  | some os => os.length ≤ 1000 ∧ ∀ t, some t ∈ os → t.length ≤ 20000
structure IsRep (rep : List Tx) : Prop where
  ne : rep ≠ []
  few : rep.length ≤ 4
  short : ∀ t ∈ rep, t.length ≤ 12
  own : ∀ t ∈ rep, ∀ c ∈ t, 97 ≤ c ∧ c < 97 + rep.length
def RepAt (p : Addr) (rep : List Tx) (H : Hp) : Prop := H p = some (.tup (rep.map T)) ∧ IsRep rep
theorem RepAt.ex {p : Addr} {rep : List Tx} {H H1 : Hp} (h : RepAt p rep H) (e : Ex H H1) : RepAt p rep H1 := ⟨e _ _ h.1, h.2⟩
theorem all2_some {H : Hp} : ∀ (ts : List Tx), All2 (El H) (ts.map T) (ts.map some)
  | [] => .nil
  | t :: ts => .cons (.str t) (all2_some ts)
theorem RepAt.rt {p : Addr} {rep : List Tx} {H : Hp} (h : RepAt p rep H) : Rt H (.ref p) (some (rep.map some)) := .tup h.1 (all2_some rep)
theorem txs_some (ts : List Tx) : txs (ts.map some) = ts := by
  unfold txs
  rw [List.map_map]
  exact List.map_id _
theorem mem_AB {c n : Nat} (hn : n ≤ 4) : c ∈ AB.take n ↔ 97 ≤ c ∧ c < 97 + n := by
  have h : n = 0 ∨ n = 1 ∨ n = 2 ∨ n = 3 ∨ n = 4 := by omega
  rcases h with rfl | rfl | rfl | rfl | rfl <;> simp [AB] <;> omega
theorem rep_sm {rep : List Tx} (h : IsRep rep) : Sm (some (rep.map some)) := by
  refine ⟨by rw [List.length_map]; have := h.few; omega, fun t ht => ?_⟩
  obtain ⟨u, hu, e⟩ := List.mem_map.mp ht
  cases e
  have := h.short t hu
  omega
theorem rep_repB {rep : List Tx} (h : IsRep rep) : repB (some (rep.map some)) = true := by
  rw [repB_some, Bool.and_eq_true, Bool.and_eq_true, decide_eq_true_eq, decide_eq_true_eq, List.length_map]
  refine ⟨⟨List.length_pos_iff.mpr h.ne, h.few⟩, List.all_eq_true.mpr fun o ho => ?_⟩
  obtain ⟨t, ht, rfl⟩ := List.mem_map.mp ho
  exact areSigns_ok (m := 12) (h.short t ht) fun c hc => by
    have h1 := h.own t ht c hc
    have h2 := h.few
    unfold abcd
    omega
theorem rep_ownB {rep : List Tx} (h : IsRep rep) : ownB (some (rep.map some)) = true := by
  rw [ownB_some, rep_repB h, txs_some, Bool.true_and]
  refine List.all_eq_true.mpr fun c hc => decide_eq_true ?_
  obtain ⟨t, ht, hct⟩ := List.mem_flatten.mp hc
  exact (mem_AB h.few).mpr (h.own t ht c hct)
section
variable {P : Program} {w : World} {K : PySem.W.Frag} {mg : Str → Option Value} {base : Heap}
def sp_is_integer : Sp := fun vs H Q _ => ∃ (v : V) (o : Option Int), vs = [v] ∧ Nt H v o ∧ RetV (.bl (intB o)) H Q
def sp_is_within : Sp := fun vs H Q _ => ∃ (v : V) (o : Option Int) (a b : Int), vs = [v, .int a, .int b] ∧ Nt H v o ∧ RetV (.bl (inB a b o)) H Q
def sp_need_number (CN : Addr) : Sp := fun vs H Q E => ∃ (v : V) (o : Option Int) (a b : Int), vs = [v, .int a, .int b] ∧ Nt H v o ∧ (inB a b o = true → RetV .non H Q) ∧ (inB a b o = false → ∀ H', Ex H H' → E (.ref CN) none H')
def sp_are_signs : Sp := fun vs H Q _ => ∃ (v : V) (o : Option Tx) (most : Nat), vs = [v, .int (most : Int)] ∧ El H v o ∧ (∀ t, o = some t → t.length ≤ 20000) ∧ most = 12 ∧ RetV (.bl (elB o)) H Q
def sp_is_replacing : Sp := fun vs H Q _ => ∃ (v : V) (o : Option (List (Option Tx))), vs = [v] ∧ Rt H v o ∧ Sm o ∧ RetV (.bl (repB o)) H Q
def sp_need_replacing (CE : Addr) : Sp := fun vs H Q E => ∃ (v : V) (o : Option (List (Option Tx))), vs = [v] ∧ Rt H v o ∧ Sm o ∧ (repB o = true → RetV .non H Q) ∧ (repB o = false → ∀ H', Ex H H' → E (.ref CE) none H')
def sp_need_own (CE : Addr) : Sp := fun vs H Q E => ∃ (v : V) (o : Option (List (Option Tx))), vs = [v] ∧ Rt H v o ∧ Sm o ∧ (ownB o = true → RetV .non H Q) ∧ (ownB o = false → ∀ H', Ex H H' → E (.ref CE) none H')
def sp_need_all (CE : Addr) : Sp := fun vs H Q E => ∃ (v : V) (o : Option (List (Option Tx))), vs = [v] ∧ Rt H v o ∧ Sm o ∧ (allB o = true → RetV .non H Q) ∧ (allB o = false → ∀ H', Ex H H' → E (.ref CE) none H')
theorem ok_is_integer {f : Addr} {fd : FuncData} (F : Fun K "is_integer" "is_integer" st_is_integer f fd) (M : Md K mg) : FnOk P w K mg base CX0 1 f fd ["thing"] sp_is_integer := by
  have nd := sc_is_integer.nd
  refine F.ok sc_is_integer (fun vs H Q E h => ?_) (fun cdv A outer s H vs Q E hr h => ?_)
  · obtain ⟨_, _, rfl, _⟩ := h
    rfl
  · obtain ⟨v, o, rfl, hn, k⟩ := h
    refine ⟨_, (pss_one (ps_ret (pe_and (pe_callB (kcr K (r := rIsiB) cr_isi) (by rfl) M.n_isinstance boot_isinstance (pa_cons (pv 0) (pa_cons (pe_bltn (v := .ty "int") rfl M.n_int boot_int rfl) pa_nil))) (pe_one (pe_not (pe_callB (kcr K (r := rIsiB) cr_isi) (by rfl) M.n_isinstance boot_isinstance (pa_cons (pv 0) (pa_cons (pe_bltn (v := .ty "bool") rfl M.n_bool boot_bool rfl) pa_nil)))))))), ?_⟩
    have hti : ∃ t, (∀ H1 : Hp, Ex H H1 → TyX K H1 v (.type t)) ∧ ∃ b, kitB t "int" = some b ∧ ∃ c, (b = true → kitB t "bool" = some c) ∧ (b && !c) = intB o := by
      cases hn with
      | int i => exact ⟨"int", fun _ _ => .base (.int i), true, k_int_int, false, fun _ => k_int_bool, rfl⟩
      | bl b => exact ⟨"bool", fun _ _ => .base (.bl b), true, k_bool_int, true, fun _ => k_bool_bool, rfl⟩
      | non => exact ⟨"NoneType", fun _ _ => .base .non, false, (by decide +kernel), false, (fun z => by cases z), rfl⟩
      | str s => exact ⟨"str", fun _ _ => .base (.str _), false, (by decide +kernel), false, (fun z => by cases z), rfl⟩
      | tup h => exact ⟨"tuple", fun H1 e => .base (.tup (e _ _ h)), false, (by decide +kernel), false, (fun z => by cases z), rfl⟩
    obtain ⟨t, hty, b, hb, c, hc, e⟩ := hti
    exact s_ret (ev_is (ev_andV (ev_cb (ea_cons (ev_var rfl) (ea_cons ev_c ea_nil)) (rc_isi (b := b) (fun H1 e => hty H1 e) hb)) fun z => ev_notV (ev_cb (ea_cons (ev_var rfl) (ea_cons ev_c ea_nil)) (rc_isi (b := c) (fun H1 e => hty H1 e) (hc z)))) (by rw [e])) k
theorem ok_is_within {f : Addr} {fd : FuncData} (F : Fun K "is_within" "is_within" st_is_within f fd) (M : Md K mg) (C_is_integer : Cal P w K mg base "is_integer" st_is_integer 1 ["thing"] sp_is_integer) : FnOk P w K mg base CX0 2 f fd ["thing", "least", "most"] sp_is_within := by
  have nd := sc_is_within.nd
  refine F.ok sc_is_within (fun vs H Q E h => ?_) (fun cdv A outer s H vs Q E hr h => ?_)
  · obtain ⟨_, _, _, _, rfl, _⟩ := h
    rfl
  · obtain ⟨v, o, a, b, rfl, hn, k⟩ := h
    refine ⟨_, (pss_one (ps_ret (pe_and (pe_cl C_is_integer hr (pa_cons (pv 0) pa_nil)) (pe_one (pe_chain op_le op_le (pv 1) (pv 0) (pv 2)))))), ?_⟩
    cases o with
    | none => exact s_ret (ev_is (w := .bl (inB a b none)) (ev_andV (a := false) (b := false) (ev_call (ea_cons (ev_var rfl) ea_nil) fun H1 e1 Q q E => ⟨v, none, rfl, hn.ex e1, q⟩) fun z => by cases z) rfl) k
    | some i =>
      cases hn
      exact s_ret (ev_is (w := .bl (inB a b (some i))) (ev_andV (a := true) (ev_call (ea_cons (ev_var rfl) ea_nil) fun H1 e1 Q q E => ⟨.int i, some i, rfl, .int i, q⟩) fun _ => ev_chain (ev_var rfl) (ev_var rfl) rv_I0 (ev_var rfl) rv_I0) (by simp [inB])) k
theorem ok_need_number {f CN : Addr} {fd : FuncData} (F : Fun K "need_number" "need_number" st_need_number f fd) (M : Md K mg) (E_BadNumber : Err K mg "BadNumber" CN) (C_is_within : Cal P w K mg base "is_within" st_is_within 2 ["thing", "least", "most"] sp_is_within) : FnOk P w K mg base (L2.CX P w) 3 f fd ["thing", "least", "most"] (sp_need_number CN) := by
  have nd := sc_need_number.nd
  refine F.okX sc_need_number (fun vs H Q E h => ?_) (fun cdv A outer s H vs Q E hr h => ?_)
  · obtain ⟨_, _, _, _, rfl, _⟩ := h
    rfl
  · obtain ⟨v, o, a, b, rfl, hn, k1, k2⟩ := h
    refine ⟨_, (pss_one (ps_if (pt_not (pt_val (pe_cl C_is_within hr (pa_cons (pv 0) (pa_cons (pv 1) (pa_cons (pv 2) pa_nil))))))
  (pss_one (ps_raiseE rfl (takes_of rfl rfl rfl rfl) E_BadNumber))
  pss_nil)), ?_⟩
    refine s_when (et_not (et_B (ev_call (ea_cons (ev_var rfl) (ea_cons (ev_var rfl) (ea_cons (ev_var rfl) ea_nil))) fun H1 e1 Q q E => ⟨v, o, a, b, rfl, hn.ex e1, q⟩))) (fun hb H1 e1 => k2 (by simpa using hb) H1 e1) (fun hb H1 e1 => k1 (by simpa using hb) H1 e1)
theorem ok_are_signs {f : Addr} {fd : FuncData} (F : Fun K "are_signs" "are_signs" st_are_signs f fd) (M : Md K mg) : FnOk P w K mg base CX0 1 f fd ["thing", "most"] sp_are_signs := by
  have nd := sc_are_signs.nd
  refine F.ok sc_are_signs (fun vs H Q E h => ?_) (fun cdv A outer s H vs Q E hr h => ?_)
  · obtain ⟨_, _, _, rfl, _⟩ := h
    rfl
  · obtain ⟨v, o, most, rfl, hv, ha, rfl, k⟩ := h
    refine ⟨_, (pss_one (ps_ret (pe_and (pe_callB (kcr K (r := rIsiB) cr_isi) (by rfl) M.n_isinstance boot_isinstance (pa_cons (pv 0) (pa_cons (pe_bltn (v := .ty "str") rfl M.n_str boot_str rfl) pa_nil))) (pe_and (pe_cmpR op_le (pe_callB cr_lenT (by rfl) M.n_len boot_len (pa_cons (pv 0) pa_nil)) (pv 1) (nomark _)) (pe_one (pe_callB (kcr K (r := rAll) (cr_all rfl)) (by rfl) M.n_all boot_all (pa_cons (pe_lc (own := [("sign", 2)]) rfl nd (pi_str (pv 0)) (blkOk_by (N := N_are_signs) (sc := defScope st_are_signs) (by decide +kernel)) (fun _ _ _ _ _ => (pg_name (i := 2) nd rfl (Or.inl rfl))) (fun _ _ _ _ _ => pts_nil) (fun _ _ _ _ _ => (pe_cmpR op_inT (pv 2) (pe_gT M.c_SIGNS [97, 98, 99, 100]) (by rfl)))) pa_nil))))))), ?_⟩
    cases o with
    | none =>
      have hty : ∃ t, (∀ H1, Ex H H1 → TyX K H1 v (.type t)) ∧ kitB t "str" = some false := by
        cases hv with
        | lst h => exact ⟨"list", fun H1 e => .base (.lst (e _ _ h)), by decide +kernel⟩
        | non => exact ⟨"NoneType", fun _ _ => .base .non, by decide +kernel⟩
        | int i => exact ⟨"int", fun _ _ => .base (.int i), by decide +kernel⟩
        | bl b => exact ⟨"bool", fun _ _ => .base (.bl b), by decide +kernel⟩
      obtain ⟨t, hty, hk⟩ := hty
      exact s_ret (ev_is (w := .bl (elB none)) (ev_andV (a := false) (b := false) (ev_cb (ea_cons (ev_var rfl) (ea_cons ev_c ea_nil)) (rc_isi (b := false) hty hk)) fun z => by cases z) rfl) k
    | some a =>
      cases hv
      have ha := ha a rfl
      exact s_ret (ev_andV (ev_cb (ea_cons (ev_var rfl) (ea_cons ev_c ea_nil)) (rc_isi (b := true) (fun _ _ => .base (.str _)) k_str_str)) fun _ => ev_andV (ev_op (ev_cb (ea_cons (ev_var rfl) ea_nil) (rc_lenT (by omega))) (ev_var rfl) rv_I0) fun _ =>
        ev_cbL (el_lcM a (src_str (ev_var rfl)) (by omega) (fun _ => rfl) fun c H1 e1 hc => ev_op (ev_var rfl) ev_c rv_inT) fun p H1 hp e1 => rc_allM (sq_of hp)) k
theorem all2_at {α β : Type} {R : α → β → Prop} : ∀ {as : List α} {bs : List β} {i : Nat} {a : α}, All2 R as bs → as[i]? = some a → ∃ b, bs[i]? = some b ∧ R a b
  | _, _, 0, _, .cons r _, h => by
    cases h
    exact ⟨_, rfl, r⟩
  | _, _, i + 1, _, .cons _ hs, h => all2_at hs (i := i) h
theorem ok_is_replacing {f : Addr} {fd : FuncData} (F : Fun K "is_replacing" "is_replacing" st_is_replacing f fd) (M : Md K mg) (C_are_signs : Cal P w K mg base "are_signs" st_are_signs 1 ["thing", "most"] sp_are_signs) : FnOk P w K mg base CX0 2 f fd ["thing"] sp_is_replacing := by
  have nd := sc_is_replacing.nd
  refine F.ok sc_is_replacing (fun vs H Q E h => ?_) (fun cdv A outer s H vs Q E hr h => ?_)
  · obtain ⟨_, _, rfl, _⟩ := h
    rfl
  · obtain ⟨v, o, rfl, ht, hs, k⟩ := h
    refine ⟨_, (pss_cons (ps_if (PW.pt (pw_or (pt_not (pt_val (pe_callB (kcr K (r := rIsiB) cr_isi) (by rfl) M.n_isinstance boot_isinstance (pa_cons (pv 0) (pa_cons (pe_bltn (v := .ty "tuple") rfl M.n_tuple boot_tuple rfl) pa_nil))))) (pw_or1 (pt_not (pt_chain op_le op_le pe_int (pe_callB (kcr K (r := rLenS) call_len_seq) (by rfl) M.n_len boot_len (pa_cons (pv 0) pa_nil)) (pe_callB cr_lenT (by rfl) M.n_len boot_len (pa_cons (pe_gT M.c_SIGNS [97, 98, 99, 100]) pa_nil)))))))
  (pss_one (ps_ret pe_bl))
  pss_nil)
  (pss_one (ps_ret (pe_callB (kcr K (r := rAll) (cr_all rfl)) (by rfl) M.n_all boot_all (pa_cons (pe_lc (own := [("text", 1)]) rfl nd (kit K (pi_tup (pv 0))) (blkOk_by (N := N_is_replacing) (sc := defScope st_is_replacing) (by decide +kernel)) (fun _ _ _ _ _ => (pg_name (i := 1) nd rfl (Or.inl rfl))) (fun _ _ _ _ _ => pts_nil) (fun _ _ _ _ _ => (pe_cl C_are_signs hr (pa_cons (pv 1) (pa_cons (pe_gI M.c_MOST_LETTERS) pa_nil))))) pa_nil))))), ?_⟩
    cases o with
    | none =>
      have hty : ∃ t, (∀ H1, Ex H H1 → TyX K H1 v (.type t)) ∧ kitB t "tuple" = some false := by
        cases ht with
        | lst h => exact ⟨"list", fun H1 e => .base (.lst (e _ _ h)), by decide +kernel⟩
        | dK h => exact ⟨"dict", fun H1 e => .base (.dK (e _ _ h)), by decide +kernel⟩
        | non => exact ⟨"NoneType", fun _ _ => .base .non, by decide +kernel⟩
        | int i => exact ⟨"int", fun _ _ => .base (.int i), by decide +kernel⟩
        | str s => exact ⟨"str", fun _ _ => .base (.str _), by decide +kernel⟩
      obtain ⟨t, hty, hk⟩ := hty
      exact q_when (b := true) (et_is (et_or (a := true) (b := true) (et_not (et_B (ev_cb (ea_cons (ev_var rfl) (ea_cons ev_c ea_nil)) (rc_isi (b := false) hty hk)))) fun z => by cases z) rfl) (fun _ H1 e1 => s_ret (v := .bl (repB none)) ev_c (RetV.mono k e1)) (fun z => by cases z)
    | some os =>
      cases ht with
      | @tup p vs _ hp h2 =>
      obtain ⟨hs1, hs2⟩ := hs
      have hlen := h2.len
      refine q_when (b := !(decide (1 ≤ os.length) && decide (os.length ≤ 4))) (et_is (et_or (a := false) (et_not (et_B (ev_cb (ea_cons (ev_var rfl) (ea_cons ev_c ea_nil)) (rc_isi (b := true) (fun H1 e => .base (.tup (e _ _ hp))) k_tuple_tuple)))) fun _ => et_not (et_test (ev_chain ev_c (ev_lenU (ev_var rfl) (st_of hp)) rv_I0 (ev_cb (ea_cons ev_c ea_nil) (rc_lenT (a := AB) (by decide))) rv_I0))) ?_) (fun hb H1 e1 => s_ret (v := .bl (repB (some os))) (ev_is ev_c ?_) (RetV.mono k e1)) (fun hb H1 e1 => ?_)
      · rw [Bool.false_or]
        congr 1
        rw [← hlen]
        congr 1
        · exact decide_eq_decide.mpr (by omega)
        · exact decide_eq_decide.mpr (by show ((vs.length : Int) ≤ 4) ↔ _; omega)
      · have : (decide (1 ≤ os.length) && decide (os.length ≤ 4)) = false := by
          cases h : (decide (1 ≤ os.length) && decide (os.length ≤ 4)) with
          | false => rfl
          | true => rw [h] at hb; cases hb
        rw [repB_some, this]
        rfl
      · have hb' : (decide (1 ≤ os.length) && decide (os.length ≤ 4)) = true := by
          cases h : (decide (1 ≤ os.length) && decide (os.length ≤ 4)) with
          | true => rfl
          | false => rw [h] at hb; cases hb
        refine s_ret (ev_is (w := .bl (repB (some os))) (ev_cbL (xs := os.map fun o => V.bl (elB o)) ?_ fun q H2 hq e2 => rc_allM (sq_of hq)) (by rw [repB_some, hb']; rfl)) (RetV.mono k e1)
        have := el_lcX (σ := start N_is_replacing [.ref p]) (H := H1) (wi := iTup K (tVar 0)) (j := 1) (vs := [1]) (t := tYes) (te := tCall sp_are_signs [] E0 (tCons (tVar 1) (tCons (tC (.int 12)) tNil))) (p := fun _ => true) (g := fun o => V.bl (elB o)) os (fun o x H2 => ∃ i, vs[i]? = some x ∧ os[i]? = some o ∧ True) (src_tup (ev_var rfl) (st_of (e1 _ _ hp))) (by omega) (fun _ => rfl) hlen.symm (fun i x H2 hx => by
          obtain ⟨o, ho, _⟩ := all2_at h2 hx
          exact ⟨o, ho, i, hx, ho, trivial⟩) (fun o x H2 e2 ho hr => et_yes) (fun o x H2 e2 ho hr _ => by
          obtain ⟨i, hx, ho2, _⟩ := hr
          obtain ⟨o', ho', hel⟩ := all2_at h2 hx
          rw [ho2] at ho'
          cases ho'
          exact ev_call (ea_cons (ev_var rfl) (ea_cons ev_c ea_nil)) fun H3 e3 Q3 q3 E => ⟨x, o, 12, rfl, ((hel.ex e1).ex e2).ex e3, fun t ht => hs2 t (ht ▸ ho), rfl, q3⟩)
        rw [List.filter_eq_self.mpr (fun _ _ => rfl)] at this
        exact this
end
end K22
set_option Elab.async false
set_option linter.all false
set_option maxRecDepth 100000
set_option maxHeartbeats 4000000
set_option exponentiation.threshold 5000
namespace K22
open PySem PySem.Spec PyProof.Rows L2 Evl Wc Wt Wg Ws
def numV (c : List Nat) : List V := c.map fun (n : Nat) => V.int (n : Int)
theorem numV_len (c : List Nat) : (numV c).length = c.length := List.length_map _
theorem getD_at {α : Type} {l : List α} {i : Nat} {d : α} (h : i < l.length) : l.getD i d = l[i] := by
  rw [List.getD_eq_getElem?_getD, List.getElem?_eq_getElem h]
  rfl
theorem sum_int {α : Type} (l : List α) (f : α → Nat) : (l.map fun a => ((f a : Nat) : Int)).sum = (((l.map f).sum : Nat) : Int) := by
  induction l with
  | nil => rfl
  | cons a l ih =>
    rw [List.map_cons, List.sum_cons, ih, List.map_cons, List.sum_cons]
    omega
/-- where all parts are texts -/
theorem all_txs {H : Hp} : ∀ {vs : List V} {os : List (Option Tx)}, All2 (El H) vs os → os.all elB = true → ∃ ts : List Tx, os = ts.map some ∧ vs = ts.map T ∧ ∀ t ∈ ts, t.length ≤ 12 ∧ ∀ c ∈ t, abcd c
  | _, _, .nil, _ => ⟨[], rfl, rfl, fun _ h => nomatch h⟩
  | _, _, .cons (b := o) r hs, h => by
    rw [List.all_cons, Bool.and_eq_true] at h
    obtain ⟨ts, rfl, rfl, h3⟩ := all_txs hs h.2
    cases o with
    | none => cases h.1
    | some t =>
      cases r
      have ht : areSigns t 12 = true := h.1
      unfold areSigns at ht
      rw [Bool.and_eq_true, decide_eq_true_eq, List.all_eq_true] at ht
      refine ⟨t :: ts, rfl, rfl, fun u hu => ?_⟩
      rcases List.mem_cons.mp hu with rfl | hu
      · refine ⟨by have := ht.1; omega, fun c hc => ?_⟩
        have := of_decide_eq_true (ht.2 c hc)
        unfold abcd
        simp at this
        omega
      · exact h3 u hu
def signB (n : Nat) : Option Tx → Bool
  | some [c] => decide (c ∈ AB.take n)
  | _ => false
section
variable {K : PySem.W.Frag} {σ : L2.St} {H : Hp}
theorem eo_lenU {i : Nat} {p : Addr} {ts : List Tx} (h0 : σ[i]? = some (some (.ref p))) (h : H p = some (.tup (ts.map T))) : Ev (tCB (rLenS K) (tCons (tVar i) tNil)) σ H (.int (ts.length : Int)) := ev_is (ev_lenU (ev_var h0) (st_of h)) (by rw [List.length_map])
/-- 'abcd'[:len(rep)] -/
theorem ev_own {i : Nat} {p : Addr} {ts : List Tx} (h0 : σ[i]? = some (some (.ref p))) (h : H p = some (.tup (ts.map T))) : Ev (tSl rSlT (tC (T AB)) tNoPart (tPart (tCB (rLenS K) (tCons (tVar i) tNil)))) σ H (T (AB.take ts.length)) := ev_is (ev_slT (a := AB) ev_c eo_none (eo_some (eo_lenU h0 h)) (by decide)) (by rw [cutT_to])
end
section
variable {P : Program} {w : World} {K : PySem.W.Frag} {mg : Str → Option Value} {base : Heap}
def sp_need_sign (CS : Addr) : Sp := fun vs H Q E => ∃ (p : Addr) (rep : List Tx) (v : V) (o : Option Tx), vs = [.ref p, v] ∧ RepAt p rep H ∧ El H v o ∧ (∀ t, o = some t → t.length ≤ 20000) ∧ (signB rep.length o = true → RetV .non H Q) ∧ (signB rep.length o = false → ∀ H', Ex H H' → E (.ref CS) none H')
theorem ok_need_replacing {f CE : Addr} {fd : FuncData} (F : Fun K "need_replacing" "need_replacing" st_need_replacing f fd) (M : Md K mg) (E_BadReplacing : Err K mg "BadReplacing" CE) (C_is_replacing : Cal P w K mg base "is_replacing" st_is_replacing 2 ["thing"] sp_is_replacing) : FnOk P w K mg base (L2.CX P w) 3 f fd ["replacing"] (sp_need_replacing CE) := by
  have nd := sc_need_replacing.nd
  refine F.okX sc_need_replacing (fun vs H Q E h => ?_) (fun cdv A outer s H vs Q E hr h => ?_)
  · obtain ⟨_, _, rfl, _⟩ := h
    rfl
  · obtain ⟨v, o, rfl, ht, hs, k1, k2⟩ := h
    refine ⟨_, (pss_one (ps_if (pt_not (pt_val (pe_cl C_is_replacing hr (pa_cons (pv 0) pa_nil))))
  (pss_one (ps_raiseE rfl (takes_of rfl rfl rfl rfl) E_BadReplacing))
  pss_nil)), ?_⟩
    exact s_when (et_not (et_B (ev_call (ea_cons (ev_var rfl) ea_nil) fun H1 e1 Q q E => ⟨v, o, rfl, ht.ex e1, hs, q⟩))) (fun hb H1 e1 => k2 (by simpa using hb) H1 e1) (fun hb H1 e1 => k1 (by simpa using hb) H1 e1)
theorem ok_need_own {f CE : Addr} {fd : FuncData} (F : Fun K "need_own" "need_own" st_need_own f fd) (M : Md K mg) (E_BadReplacing : Err K mg "BadReplacing" CE) (S_need_replacing : CalS P w K mg base "need_replacing" st_need_replacing 3 ["replacing"] (sp_need_replacing CE)) : FnOk P w K mg base (L2.CX P w) 4 f fd ["replacing"] (sp_need_own CE) := by
  have nd := sc_need_own.nd
  refine F.okX sc_need_own (fun vs H Q E h => ?_) (fun cdv A outer s H vs Q E hr h => ?_)
  · obtain ⟨_, _, rfl, _⟩ := h
    rfl
  · obtain ⟨v, o, rfl, ht, hs, k1, k2⟩ := h
    refine ⟨_, (pss_cons (ps_expr (pe_clS S_need_replacing hr (takes_of rfl rfl rfl rfl) (pa_cons (pv 0) pa_nil)))
  (pss_one (ps_if (pt_not (pt_val (pe_callB (kcr K (r := rAll) (cr_all rfl)) (by rfl) M.n_all boot_all (pa_cons (pe_lc (own := [("sign", 1)]) rfl nd (pi_str (kbm K (pe_bm PySem.F.plainAttrs_str PySem.F.slot_str_join PySem.F.type_str_join (kmt K (r := rJoinT) mt_joinT) (pe_sT []) (pa_cons (pv 0) pa_nil)))) (blkOk_by (N := N_need_own) (sc := defScope st_need_own) (by decide +kernel)) (fun _ _ _ _ _ => (pg_name (i := 1) nd rfl (Or.inl rfl))) (fun _ _ _ _ _ => pts_nil) (fun _ _ _ _ _ => (pe_cmpR op_inT (pv 1) (pe_slice sl_T (pe_gT M.c_SIGNS [97, 98, 99, 100]) po_none (po_some (pe_callB (kcr K (r := rLenS) call_len_seq) (by rfl) M.n_len boot_len (pa_cons (pv 0) pa_nil)))) (by rfl)))) pa_nil))))
  (pss_one (ps_raiseE rfl (takes_of rfl rfl rfl rfl) E_BadReplacing))
  pss_nil))), ?_⟩
    cases o with
    | none => exact ⟨v, rfl, v, none, rfl, ht, hs, (fun z => by cases z), fun _ H' e' => k2 rfl H' e'⟩
    | some os =>
      cases hr : repB (some os) with
      | false => exact ⟨v, rfl, v, some os, rfl, ht, hs, (fun z => by rw [hr] at z; cases z), fun _ H' e' => k2 (by rw [ownB_some, hr]; rfl) H' e'⟩
      | true =>
        refine ⟨v, rfl, v, some os, rfl, ht, hs, (fun _ H1 e1 => ?_), fun z => by rw [hr] at z; cases z⟩
        cases ht with
        | @tup p vs _ hp h2 =>
        have hr' := hr
        rw [repB_some, Bool.and_eq_true, Bool.and_eq_true, decide_eq_true_eq, decide_eq_true_eq] at hr'
        obtain ⟨ts, rfl, rfl, h3⟩ := all_txs h2 hr'.2
        rw [List.length_map] at hr'
        have hsum : (ts.map List.length).sum ≤ ts.length * 12 := by
          have : ∀ l : List Tx, (∀ t ∈ l, t.length ≤ 12) → (l.map List.length).sum ≤ l.length * 12 := fun l => by
            induction l with
            | nil => exact fun _ => Nat.zero_le _
            | cons a l ih =>
              intro h
              rw [List.map_cons, List.sum_cons, List.length_cons, Nat.succ_mul]
              have h1 := h a List.mem_cons_self
              have h2 := ih fun x hx => h x (List.mem_cons_of_mem _ hx)
              omega
          exact this ts fun t ht => (h3 t ht).1
        have hfl : ts.flatten.length = (ts.map List.length).sum := by simp [List.length_flatten]
        have hp1 := e1 _ _ hp
        have hjoin : Ev (tBM K "str" (rJoinT K) (tC (T [])) (tCons (tVar 0) tNil)) (start N_need_own [.ref p]) H1 (T ts.flatten) := ev_bmT (vs := [.ref p]) ev_c (ea_cons (ev_var rfl) ea_nil) (rm_join (.inr (st_of hp1)) (by omega))
        have hown : ownB (some (ts.map some)) = ts.flatten.all fun c => decide (c ∈ AB.take ts.length) := by
          rw [ownB_some, hr, txs_some]
          rfl
        dsimp only
        refine s_when (σ := start N_need_own [.ref p]) (b := !ownB (some (ts.map some))) (et_is (et_not (et_B (ev_cbL (el_lcM (j := 1) (vs := [1]) (f := fun c => T [c]) (g := fun c => V.bl (decide (c ∈ AB.take ts.length))) ts.flatten (src_str hjoin) (by omega) (fun _ => rfl) fun c H2 e2 hc => ev_op (ev_var (i := 1) rfl) (ev_own (i := 0) rfl (e2 _ _ hp1)) rv_inT) fun q H2 hq e2 => rc_allM (sq_of hq)))) (by rw [hown])) (fun hb H2 e2 => ?_) (fun hb H2 e2 => ?_)
        · exact k2 (by simpa using hb) H2 (e1.trans e2)
        · exact k1 (by simpa using hb) H2 (e1.trans e2)
theorem ok_need_all {f CE : Addr} {fd : FuncData} (F : Fun K "need_all" "need_all" st_need_all f fd) (M : Md K mg) (E_BadReplacing : Err K mg "BadReplacing" CE) (S_need_own : CalS P w K mg base "need_own" st_need_own 4 ["replacing"] (sp_need_own CE)) : FnOk P w K mg base (L2.CX P w) 5 f fd ["replacing"] (sp_need_all CE) := by
  have nd := sc_need_all.nd
  refine F.okX sc_need_all (fun vs H Q E h => ?_) (fun cdv A outer s H vs Q E hr h => ?_)
  · obtain ⟨_, _, rfl, _⟩ := h
    rfl
  · obtain ⟨v, o, rfl, ht, hs, k1, k2⟩ := h
    refine ⟨_, (pss_cons (ps_expr (pe_clS S_need_own hr (takes_of rfl rfl rfl rfl) (pa_cons (pv 0) pa_nil)))
  (pss_one (ps_if (pt_cmpR (kop K (r := fun K => rIn K false) op_in_seq) (pe_sT []) (pv 0) (by rfl))
  (pss_one (ps_raiseE rfl (takes_of rfl rfl rfl rfl) E_BadReplacing))
  pss_nil))), ?_⟩
    cases o with
    | none => exact ⟨v, rfl, v, none, rfl, ht, hs, (fun z => by cases z), fun _ H' e' => k2 rfl H' e'⟩
    | some os =>
      cases hr : ownB (some os) with
      | false => exact ⟨v, rfl, v, some os, rfl, ht, hs, (fun z => by rw [hr] at z; cases z), fun _ H' e' => k2 (by rw [allB_some, hr]; rfl) H' e'⟩
      | true =>
        refine ⟨v, rfl, v, some os, rfl, ht, hs, (fun _ H1 e1 => ?_), fun z => by rw [hr] at z; cases z⟩
        cases ht with
        | @tup p vs _ hp h2 =>
        have hr' := hr
        rw [ownB_some, Bool.and_eq_true, repB_some, Bool.and_eq_true] at hr'
        obtain ⟨ts, rfl, rfl, h3⟩ := all_txs h2 hr'.1.2
        have hp1 := e1 _ _ hp
        dsimp only
        refine s_when (σ := start N_need_all [.ref p]) (b := decide ([] ∈ ts)) (et_is (et_test (ev_op ev_c (ev_var (i := 0) rfl) (rv_isT (st_of hp1) rfl (flat_T ts)))) (inV_T [] ts)) (fun hb H2 e2 => ?_) (fun hb H2 e2 => ?_)
        · exact k2 (by rw [allB_some, hr, txs_some, hb]; rfl) H2 (e1.trans e2)
        · exact k1 (by rw [allB_some, hr, txs_some, hb]; rfl) H2 (e1.trans e2)
theorem ok_need_sign {f CS : Addr} {fd : FuncData} (F : Fun K "need_sign" "need_sign" st_need_sign f fd) (M : Md K mg) (E_BadSign : Err K mg "BadSign" CS) : FnOk P w K mg base (L2.CX P w) 1 f fd ["replacing", "sign"] (sp_need_sign CS) := by
  have nd := sc_need_sign.nd
  refine F.okX sc_need_sign (fun vs H Q E h => ?_) (fun cdv A outer s H vs Q E hr h => ?_)
  · obtain ⟨_, _, _, _, rfl, _⟩ := h
    rfl
  · obtain ⟨p, rep, v, o, rfl, hR, hv, hz, k1, k2⟩ := h
    refine ⟨_, (pss_one (ps_if (PW.pt (pw_or (pt_not (pt_val (pe_callB (kcr K (r := rIsiB) cr_isi) (by rfl) M.n_isinstance boot_isinstance (pa_cons (pv 1) (pa_cons (pe_bltn (v := .ty "str") rfl M.n_str boot_str rfl) pa_nil))))) (pw_or (pt_cmpR op_neI (pe_callB cr_lenT (by rfl) M.n_len boot_len (pa_cons (pv 1) pa_nil)) pe_int (nomark _)) (pw_or1 (pt_cmpR op_notInT (pv 1) (pe_slice sl_T (pe_gT M.c_SIGNS [97, 98, 99, 100]) po_none (po_some (pe_callB (kcr K (r := rLenS) call_len_seq) (by rfl) M.n_len boot_len (pa_cons (pv 0) pa_nil)))) (by rfl))))))
  (pss_one (ps_raiseE rfl (takes_of rfl rfl rfl rfl) E_BadSign))
  pss_nil)), ?_⟩
    cases o with
    | none =>
      have hty : ∃ t, (∀ H1, Ex H H1 → TyX K H1 v (.type t)) ∧ kitB t "str" = some false := by
        cases hv with
        | lst h => exact ⟨"list", fun H1 e => .base (.lst (e _ _ h)), by decide +kernel⟩
        | non => exact ⟨"NoneType", fun _ _ => .base .non, by decide +kernel⟩
        | int i => exact ⟨"int", fun _ _ => .base (.int i), by decide +kernel⟩
        | bl b => exact ⟨"bool", fun _ _ => .base (.bl b), by decide +kernel⟩
      obtain ⟨t, hty, hk⟩ := hty
      exact s_when (b := true) (et_is (et_or (a := true) (b := true) (et_not (et_B (ev_cb (ea_cons (ev_var rfl) (ea_cons ev_c ea_nil)) (rc_isi (b := false) hty hk)))) fun z => by cases z) rfl) (fun _ H1 e1 => k2 rfl H1 e1) (fun z => by cases z)
    | some a =>
      cases hv
      have ha := hz a rfl
      have h1 : EvT (tNot (tB (tCB (rIsiB K) (tCons (tVar 1) (tCons (tC (.ty "str")) tNil))))) (start N_need_sign [.ref p, T a]) H false := et_not (et_B (ev_cb (ea_cons (ev_var rfl) (ea_cons ev_c ea_nil)) (rc_isi (b := true) (fun _ _ => .base (.str _)) k_str_str)))
      have hs1 : ∀ b, (b = true ↔ signB rep.length (some a) = false) → b = false → signB rep.length (some a) = true := fun b hb z => by
        cases hs : signB rep.length (some a) with
        | true => rfl
        | false => rw [hb.mpr hs] at z; cases z
      by_cases hl : a.length = 1
      · obtain ⟨c, rfl⟩ := List.length_eq_one_iff.mp hl
        have hb : (!decide (c ∈ AB.take rep.length)) = true ↔ signB rep.length (some [c]) = false := by
          show _ ↔ decide _ = false
          simp
        refine s_when (b := !decide (c ∈ AB.take rep.length)) (et_is (et_or (a := false) h1 fun _ => et_or (a := false) (et_is (et_test (ev_op (ev_cb (ea_cons (ev_var rfl) ea_nil) (rc_lenT (by omega))) ev_c rv_I0)) (by simp)) fun _ => et_test (ev_op (ev_var rfl) (ev_own (i := 0) rfl hR.1) rv_notInT)) rfl) (fun z H1 e1 => ?_) (fun z H1 e1 => ?_)
        · exact k2 (hb.mp z) H1 e1
        · exact k1 (hs1 _ hb z) H1 e1
      · have hb : signB rep.length (some a) = false := by
          cases a with
          | nil => rfl
          | cons c r =>
            cases r with
            | nil => exact absurd rfl hl
            | cons d r => rfl
        refine s_when (b := true) (et_is (et_or (a := false) (b := true) h1 fun _ => et_is (et_or (a := true) (b := true) (et_is (et_test (ev_op (ev_cb (ea_cons (ev_var rfl) ea_nil) (rc_lenT (by omega))) ev_c rv_I0)) (by simp; omega)) fun z => by cases z) rfl) rfl) (fun _ H1 e1 => ?_) (fun z => by cases z)
        exact k2 hb H1 e1
end
end K22
set_option Elab.async false
set_option linter.all false
set_option maxRecDepth 100000
set_option maxHeartbeats 4000000
set_option exponentiation.threshold 5000
namespace K22
open PySem PySem.Spec PyProof.Rows L2 Evl Wc Wt Wg Ws
def alikeSigns : Tx → Tx → Nat
  | x :: a, y :: b => if x = y then alikeSigns a b + 1 else 0
  | _, _ => 0
theorem alikeSigns_le : ∀ (a b : Tx), alikeSigns a b ≤ a.length ∧ alikeSigns a b ≤ b.length
  | [], b => ⟨Nat.zero_le _, Nat.zero_le _⟩
  | x :: a, [] => ⟨Nat.zero_le _, Nat.zero_le _⟩
  | x :: a, y :: b => by
    have := alikeSigns_le a b
    unfold alikeSigns
    split
    · simp only [List.length_cons]
      omega
    · exact ⟨Nat.zero_le _, Nat.zero_le _⟩
theorem alikeSigns_at : ∀ (a b : Tx) (i : Nat), i < alikeSigns a b → a[i]? = b[i]?
  | x :: a, y :: b, i, h => by
    unfold alikeSigns at h
    split at h
    · rename_i e
      cases i with
      | zero => simp [e]
      | succ i => simpa using alikeSigns_at a b i (by omega)
    · omega
  | [], b, i, h => by simp [alikeSigns] at h
  | x :: a, [], i, h => by simp [alikeSigns] at h
theorem alikeSigns_end : ∀ (a b : Tx) (x y : Nat), a[alikeSigns a b]? = some x → b[alikeSigns a b]? = some y → x ≠ y
  | u :: a, v :: b, x, y, h1, h2 => by
    unfold alikeSigns at h1 h2
    split at h1
    · rename_i e
      rw [if_pos e] at h2
      exact alikeSigns_end a b x y (by simpa using h1) (by simpa using h2)
    · rename_i e
      rw [if_neg e] at h2
      simp at h1 h2
      subst h1 h2
      exact e
  | [], b, x, y, h1, h2 => by simp at h1
  | u :: a, [], x, y, h1, h2 => by simp at h2
theorem at_T {a : Tx} {i : Nat} (h : i < a.length) : atI a (i : Int) = some a[i] := atI_nat (List.getElem?_eq_getElem h)
theorem im_own {rep : List Tx} (h : IsRep rep) (c : Nat) : (im rep c).length ≤ 12 ∧ ∀ d ∈ im rep c, 97 ≤ d ∧ d < 97 + rep.length := by
  unfold im
  rw [List.getD_eq_getElem?_getD]
  cases hq : rep[c - 97]? with
  | none => exact ⟨Nat.zero_le _, fun _ z => nomatch z⟩
  | some t => exact ⟨h.short t (List.mem_of_getElem? hq), h.own t (List.mem_of_getElem? hq)⟩
theorem im_at {rep : List Tx} {c : Nat} (h1 : 97 ≤ c) (h2 : c < 97 + rep.length) : rep[c - 97]? = some (im rep c) := by
  have hi : c - 97 < rep.length := by omega
  unfold im
  rw [List.getElem?_eq_getElem hi, List.getD_eq_getElem?_getD, List.getElem?_eq_getElem hi]
  rfl
theorem phi_len {rep : List Tx} (h : IsRep rep) : ∀ t : Tx, (phi rep t).length ≤ 12 * t.length
  | [] => Nat.le_refl _
  | c :: t => by
    have := phi_len h t
    have := (im_own h c).1
    rw [phi_cons, List.length_append, List.length_cons]
    omega
theorem phi_own {rep : List Tx} (h : IsRep rep) (t : Tx) : ∀ d ∈ phi rep t, 97 ≤ d ∧ d < 97 + rep.length := by
  intro d hd
  unfold phi at hd
  obtain ⟨u, hu, hdu⟩ := List.mem_flatten.mp hd
  obtain ⟨c, _, rfl⟩ := List.mem_map.mp hu
  exact (im_own h c).2 d hdu
/-- the signs that grow -/
def growB (rep : List Tx) (i : Nat) : Bool := decide (1 < (rep.getD i []).length) && decide ((rep.getD i [])[0]? = some (97 + i))
def growL (rep : List Tx) : List Tx := ((List.range rep.length).filter (growB rep)).map fun i => [97 + i]
section
variable {K : PySem.W.Frag} {σ : L2.St} {H : Hp} {te : TE}
theorem eu_tupL {xs : List V} (h : EvL te σ H xs) : EvU (tCB (rTupS K) (tCons te tNil)) σ H xs := fun H1 e1 Q q => h H1 e1 _ fun p H2 hp e2 h2 => ⟨p, xs, rfl, .inl ⟨sq_of h2, fun l hl => q l _ (fresh_back e2 hl) (e2.trans (Ex.new hl)) upd_same⟩⟩
end
section
variable {P : Program} {w : World} {K : PySem.W.Frag} {mg : Str → Option Value} {base : Heap}
def sp_replaced_text : Sp := fun vs H Q _ => ∃ (p : Addr) (rep : List Tx) (t : Tx), vs = [.ref p, T t] ∧ RepAt p rep H ∧ t.length ≤ 20000 ∧ (∀ c ∈ t, 97 ≤ c ∧ c < 97 + rep.length) ∧ RetV (T (phi rep t)) H Q
theorem ok_replaced_text {f : Addr} {fd : FuncData} (F : Fun K "replaced_text" "replaced_text" st_replaced_text f fd) (M : Md K mg) : FnOk P w K mg base CX0 1 f fd ["replacing", "text"] sp_replaced_text := by
  have nd := sc_replaced_text.nd
  refine F.ok sc_replaced_text (fun vs H Q E h => ?_) (fun cdv A outer s H vs Q E hr h => ?_)
  · obtain ⟨_, _, _, rfl, _⟩ := h
    rfl
  · obtain ⟨p, rep, t, rfl, hR, hl, ho, k⟩ := h
    refine ⟨_, (pss_one (ps_ret (kbm K (pe_bm PySem.F.plainAttrs_str PySem.F.slot_str_join PySem.F.type_str_join (kmt K (r := rJoinT) mt_joinT) (pe_sT []) (pa_cons (pe_lc (own := [("sign", 2)]) rfl nd (pi_str (pv 1)) (blkOk_by (N := N_replaced_text) (sc := defScope st_replaced_text) (by decide +kernel)) (fun _ _ _ _ _ => (pg_name (i := 2) nd rfl (Or.inl rfl))) (fun _ _ _ _ _ => pts_nil) (fun _ _ _ _ _ => (pe_ix (kix K (r := L2.rIxT) ix_tup) (pv 0) (kbm K (pe_bm PySem.F.plainAttrs_str PySem.F.slot_str_index PySem.F.type_str_index mt_indexA (pe_gT M.c_SIGNS [97, 98, 99, 100]) (pa_cons (pv 2) pa_nil))) (fun _ _ => rfl)))) pa_nil))))), ?_⟩
    have hsum : ((t.map (im rep)).map List.length).sum ≤ 16777216 := by
      have h1 := phi_len hR.2 t
      unfold phi at h1
      rw [List.length_flatten] at h1
      omega
    have hlc : EvL (tLc (iStr (tVar 1)) (gName 2) tYes (tOp (L2.rIxT K) (tVar 0) (tBM K "str" rIndexA (tC (T AB)) (tCons (tVar 2) tNil))) [2]) (start N_replaced_text [.ref p, T t]) H ((t.map (im rep)).map T) := by
      rw [List.map_map]
      exact el_lcM (j := 2) (vs := [2]) (f := fun c => T [c]) (g := fun c => T (im rep c)) t (src_str (ev_var rfl)) (by omega) (fun _ => rfl) fun c H1 e1 hc => by
        have hcc := ho c hc
        exact ev_op (ev_var rfl) (ev_bmT ev_c (ea_cons (ev_var rfl) ea_nil) (rm_indexA hcc.1 (by have := hR.2.few; omega))) (rv_ixT (st_of (e1 _ _ hR.1)) (atI_nat (by rw [List.getElem?_map, im_at hcc.1 hcc.2]; rfl)))
    exact s_ret (ev_bmTL ev_c hlc fun q H1 hq e1 => rm_join (.inl (sq_of hq)) hsum) k
def sp_alike_signs : Sp := fun vs H Q _ => ∃ (a b : Tx), vs = [T a, T b] ∧ a.length ≤ 20000 ∧ b.length ≤ 20000 ∧ RetV (.int (alikeSigns a b : Nat)) H Q
theorem ok_alike_signs {f : Addr} {fd : FuncData} (F : Fun K "alike_signs" "alike_signs" st_alike_signs f fd) (M : Md K mg) : FnOk P w K mg base CX0 1 f fd ["one", "other"] sp_alike_signs := by
  have nd := sc_alike_signs.nd
  refine F.ok sc_alike_signs (fun vs H Q E h => ?_) (fun cdv A outer s H vs Q E hr h => ?_)
  · obtain ⟨_, _, rfl, _⟩ := h
    rfl
  · obtain ⟨a, b, rfl, ha, hb, k⟩ := h
    refine ⟨_, (pss_cons (ps_set (i := 2) nd rfl (Or.inl rfl) pe_int)
  (pss_cons (ps_while PassesOwn.never (PW.pt (pw_and (pt_cmpR op_lt (pv 2) (pe_callB cr_lenT (by rfl) M.n_len boot_len (pa_cons (pv 0) pa_nil)) (nomark _)) (pw_and (pt_cmpR op_lt (pv 2) (pe_callB cr_lenT (by rfl) M.n_len boot_len (pa_cons (pv 1) pa_nil)) (nomark _)) (pw_and1 (pt_cmpR op_eqT (pe_ix ix_T (pv 0) (pv 2) (fun _ _ => rfl)) (pe_ix ix_T (pv 1) (pv 2) (fun _ _ => rfl)) (nomark _))))))
  (pss_one (ps_aug (i := 2) nd rfl (Or.inl rfl) pe_int ip_add)))
  (pss_one (ps_ret (pv 2))))), ?_⟩
    refine q_asg ev_c fun H1 e1 => ?_
    have hle := alikeSigns_le a b
    refine q_while (fun m σ' H' => ∃ i : Nat, m = alikeSigns a b - i ∧ i ≤ alikeSigns a b ∧ σ' = [some (T a), some (T b), some (.int (i : Int))] ∧ Ex H H') (alikeSigns a b) ⟨0, rfl, Nat.zero_le _, rfl, e1⟩ ?_
    rintro m σ' H' ⟨i, rfl, hi, rfl, e2⟩
    have hla : ∀ H0, Ev (tCB rLenT (tCons (tVar 0) tNil)) [some (T a), some (T b), some (.int (i : Int))] H0 (.int (a.length : Int)) := fun H0 => ev_cb (ea_cons (ev_var rfl) ea_nil) (rc_lenT (by omega))
    have hlb : ∀ H0, Ev (tCB rLenT (tCons (tVar 1) tNil)) [some (T a), some (T b), some (.int (i : Int))] H0 (.int (b.length : Int)) := fun H0 => ev_cb (ea_cons (ev_var rfl) ea_nil) (rc_lenT (by omega))
    refine ⟨decide (i < alikeSigns a b), ?_, fun ht H3 e3 => ?_, fun hf H3 e3 => ?_⟩
    · by_cases h1 : i < a.length
      · by_cases h2 : i < b.length
        · refine et_is (et_and (et_test (ev_op (ev_var rfl) (hla _) rv_I0)) fun _ => et_and (et_test (ev_op (ev_var rfl) (hlb _) rv_I0)) fun _ => et_test (ev_op (ev_op (ev_var rfl) (ev_var rfl) (rv_ixT (by omega) (at_T h1))) (ev_op (ev_var rfl) (ev_var rfl) (rv_ixT (by omega) (at_T h2))) rv_eqT)) ?_
          rw [decide_eq_true (show ((i : Int) < (a.length : Int)) by omega), decide_eq_true (show ((i : Int) < (b.length : Int)) by omega), Bool.true_and, Bool.true_and]
          by_cases h3 : i < alikeSigns a b
          · have h4 := alikeSigns_at a b i h3
            rw [List.getElem?_eq_getElem h1, List.getElem?_eq_getElem h2] at h4
            rw [decide_eq_true h3, decide_eq_true (by rw [Option.some.inj h4])]
          · have h5 : i = alikeSigns a b := by omega
            subst h5
            have h4 := alikeSigns_end a b _ _ (List.getElem?_eq_getElem h1) (List.getElem?_eq_getElem h2)
            rw [decide_eq_false h3, decide_eq_false (fun z => h4 (by simpa using z))]
        · refine et_is (et_and (et_test (ev_op (ev_var rfl) (hla _) rv_I0)) fun _ => et_and (b := false) (et_test (ev_op (ev_var rfl) (hlb _) rv_I0)) fun hz => ?_) ?_
          · exact absurd (of_decide_eq_true hz) (by omega)
          · rw [decide_eq_false (show ¬ ((i : Int) < (b.length : Int)) by omega), decide_eq_false (show ¬ i < alikeSigns a b by omega)]
            simp
      · refine et_is (et_and (b := false) (et_test (ev_op (ev_var rfl) (hla _) rv_I0)) fun hz => ?_) ?_
        · exact absurd (of_decide_eq_true hz) (by omega)
        · rw [decide_eq_false (show ¬ ((i : Int) < (a.length : Int)) by omega), decide_eq_false (show ¬ i < alikeSigns a b by omega)]
          simp
    · have h3 := of_decide_eq_true ht
      refine ⟨fun σ2 H2 => σ2 = [some (T a), some (T b), some (.int ((i + 1 : Nat) : Int))] ∧ Ex H H2, fun σ2 H2 q => ⟨alikeSigns a b - (i + 1), by omega, i + 1, rfl, by omega, q.1, q.2⟩, ?_⟩
      exact s_aug rfl ev_c fun H4 e4 => ⟨rfl, (e2.trans e3).trans e4⟩
    · have h3 := of_decide_eq_false hf
      have h5 : i = alikeSigns a b := by omega
      rw [h5]
      exact s_ret (ev_var rfl) (RetV.mono k (e2.trans e3))
def sp_growing : Sp := fun vs H Q _ => ∃ (p : Addr) (rep : List Tx), vs = [.ref p] ∧ RepAt p rep H ∧ RetU ((growL rep).map T) H Q
theorem AB_at {i c : Nat} (h : AB[i]? = some c) : c = 97 + i := by
  have hl := (List.getElem?_eq_some_iff.mp h).1
  have : i = 0 ∨ i = 1 ∨ i = 2 ∨ i = 3 := by have : i < 4 := hl; omega
  rcases this with rfl | rfl | rfl | rfl <;> (cases h; rfl)
theorem ok_growing {f : Addr} {fd : FuncData} (F : Fun K "growing" "growing" st_growing f fd) (M : Md K mg) : FnOk P w K mg base CX0 1 f fd ["replacing"] sp_growing := by
  have nd := sc_growing.nd
  refine F.ok sc_growing (fun vs H Q E h => ?_) (fun cdv A outer s H vs Q E hr h => ?_)
  · obtain ⟨_, _, rfl, _⟩ := h
    rfl
  · obtain ⟨p, rep, rfl, hR, k⟩ := h
    refine ⟨_, (pss_one (ps_ret (pe_callTy (kcr K (r := rTupS) call_tuple_of) (by rfl) M.n_tuple boot_tuple (pa_cons (pe_lc (own := [("sign", 1), ("text", 2)]) rfl nd (kizm (K := K) (pi_zipM (by rfl) M.n_zip (pa_cons (pe_gT M.c_SIGNS [97, 98, 99, 100]) (pa_cons (pv 0) pa_nil)))) (blkOk_by (N := N_growing) (sc := defScope st_growing) (by decide +kernel)) (fun _ _ _ _ _ => (kgt K (n := 2) (pg_tup rfl (pgs_cons (pg_name (i := 1) nd rfl (Or.inl rfl)) (pgs_cons (pg_name (i := 2) nd rfl (Or.inl rfl)) pgs_nil))))) (fun _ _ _ _ _ => (pts_one (PW.pt (pw_and (pt_cmpR op_gt (pe_callB cr_lenT (by rfl) M.n_len boot_len (pa_cons (pv 2) pa_nil)) pe_int (nomark _)) (pw_and1 (pt_cmpR op_eqT (pe_ix ix_T (pv 2) pe_int (fun _ _ => rfl)) (pv 1) (nomark _))))))) (fun _ _ _ _ _ => (pv 1))) pa_nil)))), ?_⟩
    refine s_retU (xs := (growL rep).map T) (eu_tupL ?_) k
    have e : (growL rep).map T = ((List.range rep.length).filter (growB rep)).map fun i => T [97 + i] := by
      unfold growL
      rw [List.map_map]
      rfl
    rw [e]
    refine el_lcG (n := min AB.length (rep.map T).length) (gv := fun i => T [97 + i]) (p := growB rep) (List.range rep.length) (fun i => [some (.ref p), some (T [97 + i]), some (T (rep.getD i []))]) (fun i x H1 => i < rep.length ∧ ∃ q, x = .ref q ∧ H1 q = some (.tup [T [97 + i], T (rep.getD i [])]))
      (src_zipM (a := AB) (ys := rep.map T) ev_c (ev_var (i := 0) rfl) (st_of hR.1)) (by have : AB.length = 4 := rfl; omega) (by rw [List.length_range, List.length_map]; have := hR.2.few; show _ = min 4 _; omega) ?_ ?_ (fun _ => rfl) ?_ (fun i Ha ea hi hg => ev_var rfl)
    · rintro j x Ha ⟨q, c, yv, rfl, hc, hyv, hq⟩
      obtain ⟨wd, hw1, rfl⟩ : ∃ wd, rep[j]? = some wd ∧ yv = T wd := by
        rw [List.getElem?_map] at hyv
        cases hz : rep[j]? with
        | none => rw [hz] at hyv; cases hyv
        | some wd => rw [hz] at hyv; cases hyv; exact ⟨wd, rfl, rfl⟩
      have hcj := AB_at hc
      subst hcj
      have hjl := (List.getElem?_eq_some_iff.mp hw1).1
      exact ⟨j, List.getElem?_range hjl, hjl, q, rfl, by rw [hq, List.getD_eq_getElem?_getD, hw1]; rfl⟩
    · rintro idx x Ha Q' ⟨hidx, q, rfl, hq⟩ k'
      exact ⟨q, _, rfl, st_of hq, rfl, _, _, rfl, _, [], rfl, rfl, k'⟩
    · intro i Ha ea hi
      have hil := List.mem_range.mp hi
      have hgd : rep.getD i [] = rep[i] := by rw [List.getD_eq_getElem?_getD, List.getElem?_eq_getElem hil]; rfl
      have hlw : rep[i].length ≤ 12 := hR.2.short _ (List.getElem_mem hil)
      unfold growB
      rw [hgd]
      refine et_andI (et_is (et_test (ev_op (ev_cb (ea_cons (ev_var rfl) ea_nil) (rc_lenT (by omega))) ev_c rv_I0)) (decide_eq_decide.mpr (by omega))) fun hn => ?_
      have hn := of_decide_eq_true hn
      refine et_is (et_test (ev_op (ev_op (ev_var rfl) ev_c (rv_ixT (by omega) (atI_nat (List.getElem?_eq_getElem (show 0 < rep[i].length by omega))))) (ev_var rfl) rv_eqT)) ?_
      rw [List.getElem?_eq_getElem (show 0 < rep[i].length by omega)]
      exact decide_eq_decide.mpr ⟨fun z => congrArg some (by simpa using z), fun z => by rw [Option.some.inj z]⟩
end
end K22
set_option Elab.async false
set_option linter.all false
set_option maxRecDepth 100000
set_option maxHeartbeats 4000000
set_option exponentiation.threshold 5000
namespace K22
open PySem PySem.Spec PyProof.Rows L2 Evl Wc Wt Wg Ws
abbrev sc_after : Scope := { kind := .function, names := [(".0", .local), ("text", .local), ("sum", .globalImplicit), ("last", .cell)], isGenerator := false, isCoroutine := false }
/-- how many signs each becomes -/
def rowC (rep : List Tx) (t : Nat) : List Nat := (List.range rep.length).map fun i => cR rep t (97 + i)
theorem rowC_len (rep : List Tx) (t : Nat) : (rowC rep t).length = rep.length := by
  unfold rowC
  rw [List.length_map, List.length_range]
theorem rowC_at {rep : List Tx} {t c : Nat} (h1 : 97 ≤ c) (h2 : c < 97 + rep.length) : (numV (rowC rep t))[c - 97]? = some (.int ((cR rep t c : Nat) : Int)) := by
  unfold numV rowC
  rw [List.getElem?_map, List.getElem?_map, List.getElem?_range (by omega)]
  show some (V.int ((cR rep t (97 + (c - 97)) : Nat) : Int)) = _
  rw [show 97 + (c - 97) = c by omega]
theorem rowC_zero (rep : List Tx) : numV (rowC rep 0) = List.replicate rep.length (V.int 1) := by
  unfold numV rowC
  rw [List.map_map]
  refine List.ext_getElem (by simp) fun i h1 h2 => ?_
  simp [cR]
theorem rowC_succ (rep : List Tx) (t : Nat) : rowC rep (t + 1) = rep.map fun u => (u.map (cR rep t)).sum := by
  refine List.ext_getElem? fun i => ?_
  unfold rowC
  rw [List.getElem?_map, List.getElem?_map]
  by_cases hi : i < rep.length
  · rw [List.getElem?_range hi, List.getElem?_eq_getElem hi]
    show some ((im rep (97 + i)).map fun d => cR rep t d).sum = some _
    unfold im
    rw [show 97 + i - 97 = i by omega, getD_at hi]
  · rw [List.getElem?_eq_none (by rw [List.length_range]; omega), List.getElem?_eq_none (by omega)]
    rfl
theorem cR_big {rep : List Tx} (h : IsRep rep) {t : Nat} (ht : t ≤ 60) (c : Nat) : cR rep t c ≤ 12 ^ 60 :=
  Nat.le_trans (cR_le h.short t c) (Nat.pow_le_pow_right (by decide) ht)
/-- the rows in the heap, all times up to n -/
def LenAt (pf : Addr) (rep : List Tx) (n : Nat) (H : Hp) : Prop := ∃ rs : List Addr, H pf = some (.lst (rs.map V.ref)) ∧ rs.length = n + 1 ∧ ∀ t r, rs[t]? = some r → H r = some (.lst (numV (rowC rep t))) ∧ r ≠ pf
theorem LenAt.ex {pf : Addr} {rep : List Tx} {n : Nat} {H H1 : Hp} (h : LenAt pf rep n H) (e : Ex H H1) : LenAt pf rep n H1 := by
  obtain ⟨rs, h1, h2, h3⟩ := h
  exact ⟨rs, e _ _ h1, h2, fun t r hr => ⟨e _ _ (h3 t r hr).1, (h3 t r hr).2⟩⟩
/-- the row t -/
theorem LenAt.row {pf : Addr} {rep : List Tx} {n t : Nat} {H : Hp} (h : LenAt pf rep n H) (ht : t ≤ n) : ∃ (r : Addr) (xs : List V), H pf = some (.lst xs) ∧ xs[t]? = some (.ref r) ∧ xs.length = n + 1 ∧ H r = some (.lst (numV (rowC rep t))) ∧ (t = n → atI xs (-1) = some (.ref r)) := by
  obtain ⟨rs, h1, h2, h3⟩ := h
  obtain ⟨r, hr⟩ : ∃ r, rs[t]? = some r := ⟨_, List.getElem?_eq_getElem (by omega)⟩
  refine ⟨r, rs.map V.ref, h1, by rw [List.getElem?_map, hr]; rfl, by rw [List.length_map]; exact h2, (h3 t _ hr).1, fun e => ?_⟩
  subst e
  have hne : rs ≠ [] := fun z => by rw [z] at h2; simp at h2
  have hl : rs.getLast? = some r := by
    rw [List.getLast?_eq_getElem?, h2]
    exact hr
  obtain ⟨l, rfl⟩ : ∃ l, rs = l ++ [r] := List.getLast?_eq_some_iff.mp hl
  rw [List.map_append]
  exact atI_last _ _
section
variable {P : Program} {w : World} {K : PySem.W.Frag} {mg : Str → Option Value} {base : Heap}
def sp_lengths_after : Sp := fun vs H Q _ => ∃ (p : Addr) (rep : List Tx) (n : Nat), vs = [.ref p, .int (n : Int)] ∧ RepAt p rep H ∧ n ≤ 60 ∧ ∀ pf H', H pf = none → Ex H H' → LenAt pf rep n H' → Q (.ref pf) H'
theorem ok_lengths_after {f : Addr} {fd : FuncData} (F : Fun K "lengths_after" "lengths_after" st_lengths_after f fd) (M : Md K mg) : FnOk P w K mg base CX0 1 f fd ["replacing", "times"] sp_lengths_after := by
  have nd := sc_lengths_after.nd
  refine F.ok sc_lengths_after (fun vs H Q E h => ?_) (fun cdv A outer s H vs Q E hr h => ?_)
  · obtain ⟨_, _, _, rfl, _⟩ := h
    rfl
  · obtain ⟨p, rep, n, rfl, hR, hn, k⟩ := h
    refine ⟨_, (pss_cons (ps_set (i := 2) nd rfl (Or.inl rfl) (pe_lst (pa_cons (pe_op op_rep (pe_lst (pa_cons pe_int pa_nil)) (pe_callB (kcr K (r := rLenS) call_len_seq) (by rfl) M.n_len boot_len (pa_cons (pv 0) pa_nil))) pa_nil)))
  (pss_cons (ps_for PassesOwn.never rfl (pi_range1 (by rfl) M.n_range (pa_cons (pv 1) pa_nil)) (pg_name (i := 3) nd rfl (Or.inl rfl))
  (pss_cons (ps_set (i := 4) nd rfl (Or.inr rfl) (pe_ix (kix K (r := L2.rIxL) ix_list) (pv 2) (pe_un un_neg pe_int) (fun _ _ => rfl)))
  (pss_one (ps_expr (kbm K (pe_bm PySem.F.plainAttrs_list PySem.F.slot_list_append PySem.F.type_list_append mt_append (pv 2) (pa_cons (pe_lc (own := [("text", 6)]) rfl nd (kit K (pi_tup (pv 0))) (blkOk_by (N := N_lengths_after) (sc := defScope st_lengths_after) (by decide +kernel)) (fun _ _ _ _ _ => (pg_name (i := 6) nd rfl (Or.inl rfl))) (fun _ _ _ _ _ => pts_nil) (fun _ _ _ _ _ => (pe_callB (kcr K (r := rSum) (cr_sum rfl)) (by rfl) M.n_sum boot_sum (pa_cons (pe_lc (own := [("sign", 5)]) rfl nd (pi_str (pv 6)) (blkOk_by (N := N_lengths_after) (sc := sc_after) (by decide +kernel)) (fun _ _ _ _ _ => (pg_name (i := 5) nd rfl (Or.inl rfl))) (fun _ _ _ _ _ => pts_nil) (fun _ _ _ _ _ => (pe_ix (kix K (r := L2.rIxL) ix_list) (pv 4) (kbm K (pe_bm PySem.F.plainAttrs_str PySem.F.slot_str_index PySem.F.type_str_index mt_indexA (pe_gT M.c_SIGNS [97, 98, 99, 100]) (pa_cons (pv 5) pa_nil))) (fun _ _ => rfl)))) pa_nil)))) pa_nil)))))))
  (pss_one (ps_ret (pv 2))))), ?_⟩
    have hfew := hR.2.few
    have hrow0 : EvL (tOp rRep (tLst (tCons (tC (.int 1)) tNil)) (tCB (rLenS K) (tCons (tVar 0) tNil))) (start N_lengths_after [.ref p, .int (n : Int)]) H (numV (rowC rep 0)) := by
      have := el_rep (el_lst (ea_cons (ev_c (v := V.int 1)) ea_nil) (by show 1 ≤ 100000; decide)) (eo_lenU (K := K) (σ := start N_lengths_after [.ref p, .int (n : Int)]) (i := 0) rfl hR.1) (by simp; omega) (by omega)
      rw [rep_one] at this
      rw [rowC_zero]
      exact this
    refine hrow0 H (Ex.refl _) _ fun r0 H1 hr0 e1 h1 => ⟨by show 1 ≤ sizeLine; decide, fun pf hpf => ?_⟩
    have hpf0 : H pf = none := fresh_back e1 hpf
    have e2 : Ex H1 (upd H1 pf (.lst [.ref r0])) := Ex.new hpf
    have nr0 : r0 ≠ pf := fun z => by rw [z, hpf] at h1; cases h1
    have hL0 : LenAt pf rep 0 (upd H1 pf (.lst [.ref r0])) := by
      refine ⟨[r0], upd_same, rfl, fun t r hr => ?_⟩
      cases t with
      | zero =>
        cases hr
        exact ⟨by rw [upd_ne nr0]; exact h1, nr0⟩
      | succ t => simp at hr
    generalize upd H1 pf (.lst [.ref r0]) = H2 at e2 hL0 ⊢
    have e12 := e1.trans e2
    have hpf2 : H2 pf ≠ none := by
      obtain ⟨rs, g1, _⟩ := hL0
      rw [g1]
      exact fun z => nomatch z
    show tSeq _ _ _ [some (.ref p), some (.int (n : Int)), some (.ref pf), none, none, none, none] H2
    refine q_forW (fun c => c = pf) (src_range1 (n := n) (ea_cons (ev_var rfl) ea_nil) (by omega)) ?_
      (fun Hs i σ' H' => ∃ (v3 v4 : Option V), σ' = [some (.ref p), some (.int (n : Int)), some (.ref pf), v3, v4, none, none] ∧ Exc (fun c => c = pf) Hs H' ∧ Exc (fun c => c = pf) H2 H' ∧ LenAt pf rep i H') ?_ ?_ ?_ ?_ ?_
    · rintro c rfl
      exact ⟨hpf2, fun z => z⟩
    · intro Hs e
      exact ⟨none, none, rfl, Exc.refl _, Exc.of e, hL0.ex e⟩
    · rintro Hs i σ' H' ⟨_, _, _, h, _⟩
      exact h
    · rintro Hs i σ' Ha Hb ⟨v3, v4, h0, h2, h3, h4⟩ e
      exact ⟨v3, v4, h0, h2.then e, h3.then e, h4.ex e⟩
    · rintro Hs i x σ' H' e hi ⟨v3, v4, rfl, h2, h3, h4⟩ rfl
      have hR' : RepAt p rep H' := ⟨h3 _ _ (fun z => by rw [← z, hR.1] at hpf0; cases hpf0) (e12 _ _ hR.1), hR.2⟩
      obtain ⟨rl, xs, hx, _, hxl, hrl, hlast⟩ := h4.row (Nat.le_refl i)
      refine q_asg (v := .ref rl) (ev_op (ev_var rfl) (ev_un ev_c ru_neg) (rv_ixL (sq_of hx) (hlast rfl))) fun H3 e3 => ?_
      have hlc : EvL (tLc (iTup K (tVar 0)) (gName 6) tYes (tCB (rSum K) (tCons (tLc (iStr (tVar 6)) (gName 5) tYes (tOp (L2.rIxL K) (tVar 4) (tBM K "str" rIndexA (tC (T AB)) (tCons (tVar 5) tNil))) [5]) tNil)) [6]) [some (.ref p), some (.int (n : Int)), some (.ref pf), some (.int (i : Int)), some (.ref rl), none, none] H3 (numV (rowC rep (i + 1))) := by
        have := el_lcM (wi := iTup K (tVar 0)) (σ := [some (.ref p), some (.int (n : Int)), some (.ref pf), some (.int (i : Int)), some (.ref rl), none, none]) (H := H3) (j := 6) (vs := [6]) (te := tCB (rSum K) (tCons (tLc (iStr (tVar 6)) (gName 5) tYes (tOp (L2.rIxL K) (tVar 4) (tBM K "str" rIndexA (tC (T AB)) (tCons (tVar 5) tNil))) [5]) tNil)) (f := T) (g := fun u => V.int (((u.map (cR rep i)).sum : Nat) : Int)) rep (src_tupM (ev_var rfl) (st_of (e3 _ _ hR'.1))) (by omega) (fun _ => rfl) fun u H4 e4 hu => by
          have hu2 := hR.2.own u hu
          have hu3 := hR.2.short u hu
          refine ev_is (ev_cbL (el_lcM (j := 5) (vs := [5]) (f := fun c => T [c]) (g := fun c => V.int ((cR rep i c : Nat) : Int)) u (src_str (ev_var rfl)) (by omega) (fun _ => rfl) fun c H5 e5 hc => ?_) fun q H5 hq e5 => rc_sumM (f := fun c => ((cR rep i c : Nat) : Int)) (sq_of hq)) (by rw [sum_int])
          have hcc := hu2 c hc
          exact ev_op (ev_var rfl) (ev_bmT ev_c (ea_cons (ev_var rfl) ea_nil) (rm_indexA hcc.1 (by omega))) (rv_ixL (sq_of (e5 _ _ (e4 _ _ (e3 _ _ hrl)))) (atI_nat (rowC_at hcc.1 hcc.2)))
        rw [rowC_succ]
        unfold numV
        rw [List.map_map]
        exact this
      refine s_appL (e3 _ _ hx) (ev_var rfl) hlc (by omega) fun q H4 hq e4 h5 => ?_
      obtain ⟨rs, g1, g2, g3⟩ := h4
      have hxs : xs = rs.map V.ref := by
        rw [hx] at g1
        cases g1
        rfl
      subst hxs
      have e34 := e3.trans e4
      have nq : q ≠ pf := fun z => by rw [z, e3 _ _ hx] at hq; cases hq
      refine ⟨some (.int (i : Int)), some (.ref rl), rfl, (h2.then e34).upd (.inl rfl), (h3.then e34).upd (.inl rfl), rs ++ [q], by rw [upd_same, List.map_append]; rfl, by rw [List.length_append, g2]; rfl, fun t r hr => ?_⟩
      by_cases ht : t < rs.length
      · rw [List.getElem?_append_left ht] at hr
        obtain ⟨g4, g5⟩ := g3 t r hr
        exact ⟨by rw [upd_ne g5]; exact e34 _ _ g4, g5⟩
      · have ht2 : t = rs.length := by
          have := (List.getElem?_eq_some_iff.mp hr).1
          rw [List.length_append] at this
          simp at this
          omega
        subst ht2
        rw [List.getElem?_append_right (Nat.le_refl _), Nat.sub_self] at hr
        cases hr
        exact ⟨by rw [upd_ne nq, g2]; exact h5, nq⟩
    · rintro Hs σ' H' e ⟨v3, v4, rfl, h2, h3, h4⟩
      refine s_ret (ev_var rfl) fun H3 e3 => k pf H3 hpf0 (fun b o hb => e3 _ _ (h3 _ _ (fun z => by rw [z, hpf0] at hb; cases hb) (e12 _ _ hb))) (h4.ex e3)
end
end K22
set_option Elab.async false
set_option linter.all false
set_option maxRecDepth 100000
set_option maxHeartbeats 4000000
set_option exponentiation.threshold 5000
namespace K22
open PySem PySem.Spec PyProof.Rows L2 Evl Wc Wt Wg Ws
theorem own_is {H : Hp} {v : V} {o : Option (List (Option Tx))} (ht : Rt H v o) (hb : ownB o = true) : ∃ (p : Addr) (rep : List Tx), v = .ref p ∧ RepAt p rep H ∧ o = some (rep.map some) := by
  cases o with
  | none => cases hb
  | some os =>
    cases ht with
    | @tup p vs _ hp h2 =>
    rw [ownB_some, Bool.and_eq_true, repB_some, Bool.and_eq_true, Bool.and_eq_true, decide_eq_true_eq, decide_eq_true_eq] at hb
    obtain ⟨⟨⟨h3, h4⟩, h5⟩, h6⟩ := hb
    obtain ⟨ts, rfl, rfl, h7⟩ := all_txs h2 h5
    rw [List.length_map] at h3 h4
    rw [txs_some] at h6
    refine ⟨p, ts, rfl, ⟨hp, ⟨List.length_pos_iff.mp h3, h4, fun t ht => (h7 t ht).1, fun t ht c hc => ?_⟩⟩, rfl⟩
    have := of_decide_eq_true (List.all_eq_true.mp h6 c (List.mem_flatten.mpr ⟨t, ht, hc⟩))
    exact (mem_AB h4).mp this
theorem sign_is {H : Hp} {v : V} {o : Option Tx} {n : Nat} (hn : n ≤ 4) (hv : El H v o) (h : signB n o = true) : ∃ c, o = some [c] ∧ v = T [c] ∧ 97 ≤ c ∧ c < 97 + n := by
  cases o with
  | none => cases h
  | some a =>
    match a, h with
    | [], h => cases h
    | _ :: _ :: _, h => cases h
    | [c], h =>
      cases hv
      exact ⟨c, rfl, rfl, (mem_AB hn).mp (of_decide_eq_true h)⟩
theorem num_is {v : V} {o : Option Int} {a b : Nat} {H : Hp} (hv : Nt H v o) (h : inB (a : Int) (b : Int) o = true) : ∃ n : Nat, o = some (n : Int) ∧ v = .int (n : Int) ∧ a ≤ n ∧ n ≤ b := by
  cases o with
  | none => cases h
  | some i =>
    cases hv
    unfold inB at h
    rw [Bool.and_eq_true, decide_eq_true_eq, decide_eq_true_eq] at h
    obtain ⟨n, rfl⟩ : ∃ n : Nat, i = (n : Int) := ⟨i.toNat, by omega⟩
    exact ⟨n, rfl, rfl, by omega, by omega⟩
section
variable {K : PySem.W.Frag} {σ : L2.St} {H : Hp}
/-- range(n, 0, -1) -/
theorem src_to0 {tq : TA} {n : Nat} (h : EvA tq σ H [.int (n : Int), .int 0, .int (-1)]) (hn : n ≤ 1000000000) : Src (iRng3 tq) σ H n (fun _ => False) (fun i v _ => v = .int ((n : Int) - (i : Int))) := fun H1 e R q =>
  h H1 e _ fun H2 e2 => ⟨_, _, _, n, rfl, by
    have := RgC.neg (i := (n : Int)) (j := 0) (by omega) (by omega) (by decide) (by decide)
    have e : ((n : Int) - 0).toNat = n := by omega
    rw [e] at this
    exact this, by
    have w := (walk_rangeC (lo := (n : Int)) (c := -1) (n := n)).mono (fun _ z => z) (Y' := fun i Ha v Hb => Ex Ha Hb ∧ v = .int ((n : Int) - (i : Int))) (fun i Ha v Hb _ _ hy => by
      obtain ⟨rfl, rfl⟩ := hy
      exact ⟨Ex.refl _, by show V.int ((n : Int) + ((i : Nat) : Int) * -1) = _; congr 1; omega⟩)
    exact q _ H2 _ e2 w fun _ _ _ _ => True.intro⟩
end
section
variable {P : Program} {w : World} {K : PySem.W.Frag} {mg : Str → Option Value} {base : Heap}
def sp_sign_after : Sp := fun vs H Q _ => ∃ (p : Addr) (rep : List Tx) (c n q : Nat), vs = [.ref p, T [c], .int (n : Int), .int (q : Int)] ∧ RepAt p rep H ∧ n ≤ 60 ∧ 97 ≤ c ∧ c < 97 + rep.length ∧ q < cR rep n c ∧ RetV (T [sgnA rep n c q]) H Q
theorem ok_sign_after {f : Addr} {fd : FuncData} (F : Fun K "sign_after" "sign_after" st_sign_after f fd) (M : Md K mg) (C_lengths_after : Cal P w K mg base "lengths_after" st_lengths_after 1 ["replacing", "times"] sp_lengths_after) : FnOk P w K mg base CX0 2 f fd ["replacing", "sign", "times", "place"] sp_sign_after := by
  have nd := sc_sign_after.nd
  refine F.ok sc_sign_after (fun vs H Q E h => ?_) (fun cdv A outer s H vs Q E hr h => ?_)
  · obtain ⟨_, _, _, _, _, rfl, _⟩ := h
    rfl
  · obtain ⟨p, rep, c0, n, q0, rfl, hR, hn, hc1, hc2, hq0, k⟩ := h
    refine ⟨_, (pss_cons (ps_set (i := 4) nd rfl (Or.inl rfl) (pe_cl C_lengths_after hr (pa_cons (pv 0) (pa_cons (pv 2) pa_nil))))
  (pss_cons (ps_for PassesOwn.never rfl (pi_range3 (by rfl) M.n_range (pa_cons (pv 2) (pa_cons pe_int (pa_cons (pe_un un_neg pe_int) pa_nil)))) (pg_name (i := 5) nd rfl (Or.inl rfl))
  (pss_cons (ps_for PassesOwn.never rfl (pi_str (pe_ix (kix K (r := L2.rIxT) ix_tup) (pv 0) (kbm K (pe_bm PySem.F.plainAttrs_str PySem.F.slot_str_index PySem.F.type_str_index mt_indexA (pe_gT M.c_SIGNS [97, 98, 99, 100]) (pa_cons (pv 1) pa_nil))) (fun _ _ => rfl))) (pg_name (i := 6) nd rfl (Or.inl rfl))
  (pss_cons (ps_set (i := 7) nd rfl (Or.inl rfl) (pe_ix (kix K (r := L2.rIxL) ix_list) (pe_ix (kix K (r := L2.rIxL) ix_list) (pv 4) (pe_op op_sub (pv 5) pe_int) (fun _ _ => rfl)) (kbm K (pe_bm PySem.F.plainAttrs_str PySem.F.slot_str_index PySem.F.type_str_index mt_indexA (pe_gT M.c_SIGNS [97, 98, 99, 100]) (pa_cons (pv 6) pa_nil))) (fun _ _ => rfl)))
  (pss_cons (ps_if (pt_cmpR op_lt (pv 3) (pv 7) (nomark _))
  (pss_one ps_break)
  pss_nil)
  (pss_one (ps_set (i := 3) nd rfl (Or.inl rfl) (pe_op op_sub (pv 3) (pv 7)))))))
  (pss_one (ps_set (i := 1) nd rfl (Or.inl rfl) (pv 6)))))
  (pss_one (ps_ret (pv 1))))), ?_⟩
    have hfew := hR.2.few
    refine ⟨.ref p, rfl, .int (n : Int), rfl, p, rep, n, rfl, hR, hn, fun pl H1 hpl e1 hL => ?_⟩
    show tSeq _ _ _ [some (.ref p), some (T [c0]), some (.int (n : Int)), some (.int (q0 : Int)), some (.ref pl), none, none, none] H1
    refine q_forW (fun _ => False) (src_to0 (n := n) (ea_cons (ev_var rfl) (ea_cons ev_c (ea_cons (ev_un ev_c ru_neg) ea_nil))) (by omega)) (fun _ z => z.elim)
      (fun Hs i σ' H' => ∃ (c q : Nat) (v5 v6 v7 : Option V), σ' = [some (.ref p), some (T [c]), some (.int (n : Int)), some (.int (q : Int)), some (.ref pl), v5, v6, v7] ∧ Exc (fun _ => False) Hs H' ∧ 97 ≤ c ∧ c < 97 + rep.length ∧ q < cR rep (n - i) c ∧ sgnA rep (n - i) c q = sgnA rep n c0 q0) ?_ ?_ ?_ ?_ ?_
    · intro Hs e
      exact ⟨c0, q0, none, none, none, rfl, Exc.refl _, hc1, hc2, hq0, rfl⟩
    · rintro Hs i σ' H' ⟨_, _, _, _, _, _, h, _⟩
      exact h
    · rintro Hs i σ' Ha Hb ⟨c, q, v5, v6, v7, h0, h2, h3⟩ e
      exact ⟨c, q, v5, v6, v7, h0, h2.then e, h3⟩
    · rintro Hs i x σ' H' e hi ⟨c, q, v5, v6, v7, rfl, h2, hd1, hd2, hq, hsg⟩ rfl
      obtain ⟨m, hm⟩ : ∃ m, n - i = m + 1 := ⟨n - i - 1, by omega⟩
      have hm2 : n - (i + 1) = m := by omega
      rw [hm] at hq hsg
      have hmi : (n : Int) - (i : Int) = ((m + 1 : Nat) : Int) := by omega
      have eH := e1.trans (e.trans h2.ex)
      have hL' := hL.ex (e.trans h2.ex)
      have him := im_own hR.2 c
      show tSeq _ _ _ [some (.ref p), some (T [c]), some (.int (n : Int)), some (.int (q : Int)), some (.ref pl), some (.int ((n : Int) - (i : Int))), v6, v7] H'
      rw [hmi, hm2]
      refine q_forW (fun _ => False) (src_str (a := im rep c) (ev_op (ev_var rfl) (ev_bmT ev_c (ea_cons (ev_var rfl) ea_nil) (rm_indexA hd1 (by omega))) (rv_ixT (st_of (eH _ _ hR.1)) (atI_nat (by rw [List.getElem?_map, im_at hd1 hd2]; rfl))))) (fun _ z => z.elim)
        (fun Hs2 j σ2 H2 => ∃ (q' : Nat) (u6 u7 : Option V), σ2 = [some (.ref p), some (T [c]), some (.int (n : Int)), some (.int (q' : Int)), some (.ref pl), some (.int ((m + 1 : Nat) : Int)), u6, u7] ∧ Exc (fun _ => False) Hs2 H2 ∧ q' < (((im rep c).drop j).map (cR rep m)).sum ∧ pick (cR rep m) ((im rep c).drop j) c q' = pick (cR rep m) (im rep c) c q) ?_ ?_ ?_ ?_ ?_
      · intro Hs2 e2
        exact ⟨q, v6, v7, rfl, Exc.refl _, hq, rfl⟩
      · rintro Hs2 j σ2 H2 ⟨_, _, _, _, h, _⟩
        exact h
      · rintro Hs2 j σ2 Ha Hb ⟨q', u6, u7, g0, g1, g2⟩ e2
        exact ⟨q', u6, u7, g0, g1.then e2, g2⟩
      · rintro Hs2 j x σ2 H2 e2 hj ⟨q', u6, u7, rfl, g1, g2, g3⟩ hx
        obtain ⟨d, hd, rfl⟩ : ∃ d, (im rep c)[j]? = some d ∧ x = T [d] := by
          rw [List.getElem?_map] at hx
          cases hz : (im rep c)[j]? with
          | none => rw [hz] at hx; cases hx
          | some d => rw [hz] at hx; cases hx; exact ⟨d, rfl, rfl⟩
        have hdm := him.2 d (List.mem_of_getElem? hd)
        have hdrop : (im rep c).drop j = d :: (im rep c).drop (j + 1) := by
          obtain ⟨hj2, hj3⟩ := List.getElem?_eq_some_iff.mp hd
          rw [List.drop_eq_getElem_cons hj2, hj3]
        rw [hdrop, List.map_cons, List.sum_cons] at g2
        rw [hdrop, pick_cons] at g3
        obtain ⟨r, xs, hx1, hx2, _, hr, _⟩ := (hL'.ex (e2.trans g1.ex)).row (show m ≤ n by omega)
        refine q_asg (v := .int ((cR rep m d : Nat) : Int)) (ev_op (ev_op (ev_var rfl) (ev_op (ev_var rfl) ev_c rv_I0) (rv_ixL (v := .ref r) (sq_of hx1) (by rw [show ((m + 1 : Nat) : Int) - 1 = (m : Int) by omega]; exact atI_nat hx2))) (ev_bmT ev_c (ea_cons (ev_var rfl) ea_nil) (rm_indexA hdm.1 (by omega))) (rv_ixL (sq_of hr) (atI_nat (rowC_at hdm.1 hdm.2)))) fun H3 e3 => ?_
        refine q_when (b := decide (q' < cR rep m d)) (et_is (et_test (ev_op (ev_var rfl) (ev_var rfl) rv_I0)) (decide_eq_decide.mpr (by omega))) (fun hb H4 e4 => ?_) (fun hb H4 e4 => ?_)
        · have hb := of_decide_eq_true hb
          rw [if_pos hb] at g3
          refine s_asg (σ := [some (.ref p), some (T [c]), some (.int (n : Int)), some (.int (q' : Int)), some (.ref pl), some (.int ((m + 1 : Nat) : Int)), some (T [d]), some (.int ((cR rep m d : Nat) : Int))]) (ev_var rfl) fun H5 e5 => ⟨d, q', _, _, _, rfl, ((((h2.then e2).trans g1).then e3).then e4).then e5, hdm.1, hdm.2, hb, ?_⟩
          rw [← hsg]
          show _ = sgnA rep m (pick (cR rep m) (im rep c) c q).1 (pick (cR rep m) (im rep c) c q).2
          rw [← g3]
        · have hb := of_decide_eq_false hb
          rw [if_neg hb] at g3
          refine s_asg (σ := [some (.ref p), some (T [c]), some (.int (n : Int)), some (.int (q' : Int)), some (.ref pl), some (.int ((m + 1 : Nat) : Int)), some (T [d]), some (.int ((cR rep m d : Nat) : Int))]) (ev_op (ev_var rfl) (ev_var rfl) rv_I0) fun H5 e5 => ⟨q' - cR rep m d, _, _, by
            rw [show ((q' : Int) - ((cR rep m d : Nat) : Int)) = ((q' - cR rep m d : Nat) : Int) by omega]
            rfl, ((g1.then e3).then e4).then e5, by omega, ?_⟩
          rw [← g3]
          cases hdd : (im rep c).drop (j + 1) with
          | nil =>
            rw [hdd] at g2
            simp at g2
            omega
          | cons a l => rw [pick_cons, pick_cons]
      · rintro Hs2 σ2 H2 e2 ⟨q', u6, u7, rfl, g1, g2, g3⟩
        rw [List.drop_eq_nil_of_le (by first | exact Nat.le_refl _ | simp)] at g2
        simp at g2
    · rintro Hs σ' H' e ⟨c, q, v5, v6, v7, rfl, h2, hd1, hd2, hq, hsg⟩
      rw [Nat.sub_self] at hsg
      have hsg : c = sgnA rep n c0 q0 := hsg
      rw [hsg]
      exact s_ret (ev_var rfl) (RetV.mono k (e1.trans (e.trans h2.ex)))
def sp_again (CE CS CN : Addr) : Sp := fun vs H Q E => ∃ (v : V) (o : Option (List (Option Tx))) (v2 : V) (o2 : Option Tx) (v3 : V) (o3 : Option Int), vs = [v, v2, v3] ∧ Rt H v o ∧ Sm o ∧ El H v2 o2 ∧ (∀ t, o2 = some t → t.length ≤ 20000) ∧ Nt H v3 o3 ∧ (ownB o = false → ∀ H', Ex H H' → E (.ref CE) none H') ∧
  ∀ rep, o = some (rep.map some) → IsRep rep → (signB rep.length o2 = false → ∀ H', Ex H H' → E (.ref CS) none H') ∧ ∀ c, o2 = some [c] → 97 ≤ c → c < 97 + rep.length → (inB 0 60 o3 = false → ∀ H', Ex H H' → E (.ref CN) none H') ∧ ∀ n : Nat, o3 = some (n : Int) → n ≤ 60 → RetV (.int ((cR rep n c : Nat) : Int)) H Q
theorem ok_again {f CE CS CN : Addr} {fd : FuncData} (F : Fun K "again" "again" st_again f fd) (M : Md K mg) (S_need_own : CalS P w K mg base "need_own" st_need_own 4 ["replacing"] (sp_need_own CE)) (S_need_sign : CalS P w K mg base "need_sign" st_need_sign 1 ["replacing", "sign"] (sp_need_sign CS)) (S_need_number : CalS P w K mg base "need_number" st_need_number 3 ["thing", "least", "most"] (sp_need_number CN)) (C_lengths_after : Cal P w K mg base "lengths_after" st_lengths_after 1 ["replacing", "times"] sp_lengths_after) : FnOk P w K mg base (L2.CX P w) 5 f fd ["replacing", "sign", "times"] (sp_again CE CS CN) := by
  have nd := sc_again.nd
  refine F.okX sc_again (fun vs H Q E h => ?_) (fun cdv A outer s H vs Q E hr h => ?_)
  · obtain ⟨_, _, _, _, _, _, rfl, _⟩ := h
    rfl
  · obtain ⟨v, o, v2, o2, v3, o3, rfl, ht, hs, hv2, hz2, hv3, k1, k2⟩ := h
    refine ⟨_, (pss_cons (ps_expr (pe_clS S_need_own hr (takes_of rfl rfl rfl rfl) (pa_cons (pv 0) pa_nil)))
  (pss_cons (ps_expr (pe_clS S_need_sign hr (takes_of rfl rfl rfl rfl) (pa_cons (pv 0) (pa_cons (pv 1) pa_nil))))
  (pss_cons (ps_expr (pe_clS S_need_number hr (takes_of rfl rfl rfl rfl) (pa_cons (pv 2) (pa_cons pe_int (pa_cons (pe_gI M.c_MOST_TIMES) pa_nil)))))
  (pss_one (ps_ret (pe_ix (kix K (r := L2.rIxL) ix_list) (pe_ix (kix K (r := L2.rIxL) ix_list) (pe_cl C_lengths_after hr (pa_cons (pv 0) (pa_cons (pv 2) pa_nil))) (pe_un un_neg pe_int) (fun _ _ => rfl)) (kbm K (pe_bm PySem.F.plainAttrs_str PySem.F.slot_str_index PySem.F.type_str_index mt_indexA (pe_gT M.c_SIGNS [97, 98, 99, 100]) (pa_cons (pv 1) pa_nil))) (fun _ _ => rfl))))))), ?_⟩
    refine ⟨v, rfl, v, o, rfl, ht, hs, (fun hb H1 e1 => ?_), fun hb H' e' => k1 hb H' e'⟩
    obtain ⟨p, rep, rfl, hR, rfl⟩ := own_is ht hb
    obtain ⟨k2, k3⟩ := k2 rep rfl hR.2
    have hfew := hR.2.few
    refine ⟨.ref p, rfl, v2, rfl, p, rep, v2, o2, rfl, hR.ex e1, hv2.ex e1, hz2, (fun hb2 H2 e2 => ?_), fun hb2 H' e' => k2 hb2 H' (e1.trans e')⟩
    obtain ⟨c, rfl, rfl, hc1, hc2⟩ := sign_is hfew hv2 hb2
    obtain ⟨k3, k4⟩ := k3 c rfl hc1 hc2
    have e12 := e1.trans e2
    refine ⟨v3, rfl, v3, o3, 0, 60, rfl, hv3.ex e12, (fun hb3 H3 e3 => ?_), fun hb3 H' e' => k3 hb3 H' (e12.trans e')⟩
    obtain ⟨n, rfl, rfl, _, hn⟩ := num_is (a := 0) (b := 60) hv3 hb3
    have e13 := e12.trans e3
    refine ⟨.ref p, rfl, .int (n : Int), rfl, p, rep, n, rfl, hR.ex e13, hn, fun pl H4 hpl e4 hL => ?_⟩
    obtain ⟨r, xs, hx1, hx2, _, hr, hlast⟩ := hL.row (Nat.le_refl n)
    have hev : Ev (tOp (L2.rIxL K) (tC (.ref r)) (tBM K "str" rIndexA (tC (T AB)) (tCons (tVar 1) tNil))) (start N_again [.ref p, T [c], .int (n : Int)]) H4 (.int ((cR rep n c : Nat) : Int)) := ev_op ev_c (ev_bmT ev_c (ea_cons (ev_var rfl) ea_nil) (rm_indexA hc1 (by omega))) (rv_ixL (sq_of hr) (atI_nat (rowC_at hc1 hc2)))
    exact ⟨1, rfl, pl, xs, -1, .ref r, rfl, rfl, sq_of hx1, hlast rfl, hev H4 (Ex.refl _) _ fun H5 e5 => k4 n rfl hn H5 ((e13.trans e4).trans e5)⟩
end
end K22
set_option Elab.async false
set_option linter.all false
set_option maxRecDepth 100000
set_option maxHeartbeats 2000000
namespace K22
open PySem PySem.Spec PyProof.Rows L2 Evl Wc Wt Wg Ws
/-! the plain law: what grows for ever -/
/-- no text empty, and the sign stays -/
structure Grows (rep : List Tx) (c : Nat) : Prop where
  is : IsRep rep
  full : ∀ t ∈ rep, t ≠ []
  lo : 97 ≤ c
  hi : c < 97 + rep.length
  stay : ∃ u, u ≠ [] ∧ im rep c = c :: u
theorem im_full {rep : List Tx} (h : ∀ t ∈ rep, t ≠ []) {c : Nat} (h1 : 97 ≤ c) (h2 : c < 97 + rep.length) : 0 < (im rep c).length :=
  List.length_pos_iff.mpr (h _ (List.mem_of_getElem? (im_at h1 h2)))
def OwnT (rep : List Tx) (t : Tx) : Prop := ∀ c ∈ t, 97 ≤ c ∧ c < 97 + rep.length
theorem phi_grow {rep : List Tx} (h : ∀ t ∈ rep, t ≠ []) : ∀ {t : Tx}, OwnT rep t → t.length ≤ (phi rep t).length
  | [], _ => Nat.zero_le _
  | c :: t, ho => by
    have h1 := phi_grow h (t := t) fun d hd => ho d (List.mem_cons_of_mem _ hd)
    have h2 := im_full h (ho c List.mem_cons_self).1 (ho c List.mem_cons_self).2
    rw [phi_cons, List.length_append, List.length_cons]
    omega
/-- from a text that begins with c more signs come -/
theorem phi_more {rep : List Tx} {c : Nat} (h : Grows rep c) {t : Tx} (ho : OwnT rep (c :: t)) : (c :: t).length < (phi rep (c :: t)).length := by
  obtain ⟨u, hu, e⟩ := h.stay
  have h1 := phi_grow h.full (t := t) fun d hd => ho d (List.mem_cons_of_mem _ hd)
  have h2 := List.length_pos_iff.mpr hu
  rw [phi_cons, e, List.length_append, List.length_cons, List.length_cons]
  omega
theorem phi_pre {rep : List Tx} {a b : Tx} (h : a <+: b) : phi rep a <+: phi rep b := by
  obtain ⟨r, rfl⟩ := h
  rw [phi_app]
  exact List.prefix_append _ _
theorem phiN_pre {rep : List Tx} {c : Nat} (h : Grows rep c) : ∀ n, phiN rep n [c] <+: phiN rep (n + 1) [c]
  | 0 => by
    obtain ⟨u, _, e⟩ := h.stay
    show [c] <+: phi rep [c]
    rw [phi_one, e]
    exact ⟨u, rfl⟩
  | n + 1 => phi_pre (phiN_pre h n)
theorem phiN_le {rep : List Tx} {c : Nat} (h : Grows rep c) (n : Nat) : ∀ k, phiN rep n [c] <+: phiN rep (n + k) [c]
  | 0 => List.prefix_refl _
  | k + 1 => (phiN_le h n k).trans (phiN_pre h (n + k))
theorem phiN_own {rep : List Tx} {c : Nat} (h : Grows rep c) : ∀ n, OwnT rep (phiN rep n [c])
  | 0 => fun d hd => by
    have : d = c := by simpa [phiN] using hd
    subst this
    exact ⟨h.lo, h.hi⟩
  | n + 1 => phi_own h.is _
/-- beginnings of what grows -/
def Gd (rep : List Tx) (c : Nat) (t : Tx) : Prop := ∃ n, t <+: phiN rep n [c]
theorem Gd.one {rep : List Tx} {c : Nat} : Gd rep c [c] := ⟨0, List.prefix_refl _⟩
theorem Gd.take {rep : List Tx} {c : Nat} {t : Tx} (h : Gd rep c t) (m : Nat) : Gd rep c (t.take m) := by
  obtain ⟨n, hn⟩ := h
  exact ⟨n, (List.take_prefix m t).trans hn⟩
theorem Gd.phi {rep : List Tx} {c : Nat} {t : Tx} (h : Gd rep c t) : Gd rep c (phi rep t) := by
  obtain ⟨n, hn⟩ := h
  exact ⟨n + 1, phi_pre hn⟩
theorem Gd.own {rep : List Tx} {c : Nat} {t : Tx} (hg : Grows rep c) (h : Gd rep c t) : OwnT rep t := by
  obtain ⟨n, hn⟩ := h
  exact fun d hd => phiN_own hg n d (hn.subset hd)
theorem Gd.head {rep : List Tx} {c : Nat} {t : Tx} (hg : Grows rep c) (h : Gd rep c t) (h0 : 0 < t.length) : ∃ u, t = c :: u := by
  obtain ⟨n, hn⟩ := h
  have h1 := phiN_le hg 0 n
  rw [Nat.zero_add] at h1
  obtain ⟨r, hr⟩ := h1
  obtain ⟨s, hs⟩ := hn
  have h2 : [c] ++ r = t ++ s := by rw [hs]; exact hr
  cases t with
  | nil => simp at h0
  | cons d u =>
    have : c = d := by
      have := congrArg List.head? h2
      simpa using this
    subst this
    exact ⟨u, rfl⟩
/-- beginnings as long are the same -/
theorem Gd.same {rep : List Tx} {c : Nat} {a b : Tx} (hg : Grows rep c) (ha : Gd rep c a) (hb : Gd rep c b) (hl : a.length = b.length) : a = b := by
  obtain ⟨n, hn⟩ := ha
  obtain ⟨m, hm⟩ := hb
  have h1 := hn.trans (phiN_le hg n m)
  have h2 := hm.trans (phiN_le hg m n)
  rw [Nat.add_comm] at h2
  exact (List.prefix_of_prefix_length_le h1 h2 (by omega)).eq_of_length hl
/-- one step of reading on: each read sign puts its text behind -/
theorem read_on {rep : List Tx} {c : Nat} (hg : Grows rep c) {t : Tx} {k : Nat} (hk : 0 < k) (hG : Gd rep c t) (ht : t = phi rep (t.take k)) (hn : 0 < t.length) : k < t.length ∧ ∀ d, t[k]? = some d → Gd rep c (t ++ im rep d) ∧ t ++ im rep d = phi rep ((t ++ im rep d).take (k + 1)) := by
  have hlt : k < t.length := by
    refine Classical.byContradiction fun z => ?_
    have htk : t.take k = t := List.take_of_length_le (by omega)
    rw [htk] at ht
    obtain ⟨u, rfl⟩ := hG.head hg hn
    have := phi_more hg (hG.own hg)
    rw [← ht] at this
    omega
  refine ⟨hlt, fun d hd => ?_⟩
  have h1 : t ++ im rep d = phi rep (t.take (k + 1)) := by
    rw [List.take_add_one, hd, phi_app, ← ht]
    congr 1
    show _ = phi rep [d]
    rw [phi_one]
  refine ⟨h1 ▸ (hG.take _).phi, ?_⟩
  rw [List.take_append_of_le_length (by omega)]
  exact h1
theorem first_on {rep : List Tx} {c : Nat} (hg : Grows rep c) : Gd rep c (im rep c) ∧ im rep c = phi rep ((im rep c).take 1) ∧ 1 < (im rep c).length := by
  obtain ⟨u, hu, e⟩ := hg.stay
  have h2 := List.length_pos_iff.mpr hu
  refine ⟨by rw [← phi_one]; exact Gd.one.phi, ?_, by rw [e, List.length_cons]; omega⟩
  conv => rhs; rw [e]
  show _ = phi rep [c]
  rw [phi_one]
theorem Grows.of {rep : List Tx} {c : Nat} (h : IsRep rep) (hf : ∀ t ∈ rep, t ≠ []) (h1 : 97 ≤ c) (h2 : c < 97 + rep.length) (hg : growB rep (c - 97) = true) : Grows rep c := by
  refine ⟨h, hf, h1, h2, ?_⟩
  unfold growB at hg
  rw [Bool.and_eq_true, decide_eq_true_eq, decide_eq_true_eq] at hg
  have e : im rep c = rep.getD (c - 97) [] := rfl
  rw [← e, show 97 + (c - 97) = c by omega] at hg
  cases him : im rep c with
  | nil => rw [him] at hg; simp at hg
  | cons d u =>
    rw [him] at hg
    have : d = c := by simpa using hg.2
    subst this
    exact ⟨u, fun z => by rw [z] at hg; simp at hg, rfl⟩
end K22
set_option Elab.async false
set_option linter.all false
set_option maxRecDepth 100000
set_option maxHeartbeats 4000000
set_option exponentiation.threshold 5000
namespace K22
open PySem PySem.Spec PyProof.Rows L2 Evl Wc Wt Wg Ws
section
variable {P : Program} {w : World} {K : PySem.W.Frag} {mg : Str → Option Value} {base : Heap}
def sp_grown : Sp := fun vs H Q _ => ∃ (p : Addr) (rep : List Tx) (c most : Nat), vs = [.ref p, T [c], .int (most : Int)] ∧ RepAt p rep H ∧ Grows rep c ∧ 1 ≤ most ∧ most ≤ 4000 ∧ ∀ g, Gd rep c g → g.length = most → RetV (T g) H Q
theorem ok_grown {f : Addr} {fd : FuncData} (F : Fun K "grown" "grown" st_grown f fd) (M : Md K mg) (C_replaced_text : Cal P w K mg base "replaced_text" st_replaced_text 1 ["replacing", "text"] sp_replaced_text) : FnOk P w K mg base CX0 2 f fd ["replacing", "sign", "most"] sp_grown := by
  have nd := sc_grown.nd
  refine F.ok sc_grown (fun vs H Q E h => ?_) (fun cdv A outer s H vs Q E hr h => ?_)
  · obtain ⟨_, _, _, _, rfl, _⟩ := h
    rfl
  · obtain ⟨p, rep, c, most, rfl, hR, hG, hm1, hm2, k⟩ := h
    refine ⟨_, (pss_cons (ps_set (i := 3) nd rfl (Or.inl rfl) (pv 1))
  (pss_cons (ps_while PassesOwn.never (pt_cmpR op_lt (pe_callB cr_lenT (by rfl) M.n_len boot_len (pa_cons (pv 3) pa_nil)) (pv 2) (nomark _))
  (pss_one (ps_set (i := 3) nd rfl (Or.inl rfl) (pe_slice sl_T (pe_cl C_replaced_text hr (pa_cons (pv 0) (pa_cons (pv 3) pa_nil))) po_none (po_some (pe_op op_mulB pe_int (pv 2)))))))
  (pss_one (ps_ret (pe_slice sl_T (pv 3) po_none (po_some (pv 2))))))), ?_⟩
    refine q_asg (ev_var rfl) fun H1 e1 => ?_
    refine q_while (fun m σ' H' => ∃ t : Tx, m = most - t.length ∧ σ' = [some (.ref p), some (T [c]), some (.int (most : Int)), some (T t)] ∧ Gd rep c t ∧ 0 < t.length ∧ t.length ≤ 2 * most ∧ Ex H H') (most - 1) ⟨[c], rfl, rfl, Gd.one, Nat.one_pos, (by show 1 ≤ _; omega), e1⟩ ?_
    rintro m σ' H' ⟨t, rfl, rfl, hgt, ht0, htl, e2⟩
    refine ⟨decide (t.length < most), et_is (et_test (ev_op (ev_cb (ea_cons (ev_var rfl) ea_nil) (rc_lenT (by omega))) (ev_var rfl) rv_I0)) (decide_eq_decide.mpr (by omega)), fun ht H3 e3 => ?_, fun hf H3 e3 => ?_⟩
    · have h3 := of_decide_eq_true ht
      have hown := hgt.own hG
      obtain ⟨u, hu⟩ := hgt.head hG ht0
      have hmore : t.length < (phi rep t).length := by
        subst hu
        exact phi_more hG hown
      have hphl := phi_len hG.is t
      have htk : ((phi rep t).take (2 * most)).length = min (2 * most) (phi rep t).length := List.length_take
      refine ⟨fun σ2 H2 => σ2 = [some (.ref p), some (T [c]), some (.int (most : Int)), some (T ((phi rep t).take (2 * most)))] ∧ Ex H H2, fun σ2 H2 q => ⟨most - ((phi rep t).take (2 * most)).length, by omega, _, rfl, q.1, hgt.phi.take _, by omega, by omega, q.2⟩, ?_⟩
      refine s_asg (v := T ((phi rep t).take (2 * most))) (ev_is (ev_slT (a := phi rep t) (ev_call (ea_cons (ev_var rfl) (ea_cons (ev_var rfl) ea_nil)) fun H4 e4 Q q E => ⟨p, rep, t, rfl, hR.ex ((e2.trans e3).trans e4), by omega, hown, q⟩) eo_none (eo_some (ev_op ev_c (ev_var rfl) (rv_I (C := CMulB) (g := fun i j => .int (i * j)) (mulB (a := 10) (b := 20) (by decide) (by rw [Int.natAbs_natCast]; omega) (by decide) (by decide) (by decide))))) (by omega)) ?_) fun H4 e4 => ⟨rfl, (e2.trans e3).trans e4⟩
      rw [show (2 : Int) * (most : Int) = ((2 * most : Nat) : Int) by omega, cutT_to]
    · have h3 := of_decide_eq_false hf
      refine s_ret (v := T (t.take most)) (ev_is (ev_slT (ev_var rfl) eo_none (eo_some (ev_var rfl)) (by omega)) (by rw [cutT_to])) ?_
      exact RetV.mono (k _ (hgt.take _) (by rw [List.length_take]; omega)) (e2.trans e3)
def sp_stays (CE : Addr) : Sp := fun vs H Q E => ∃ (v : V) (o : Option (List (Option Tx))), vs = [v] ∧ Rt H v o ∧ Sm o ∧ (allB o = false → ∀ H', Ex H H' → E (.ref CE) none H') ∧ ∀ rep, o = some (rep.map some) → IsRep rep → (∀ t ∈ rep, t ≠ []) → RetU ((growL rep).map T) H Q
theorem all_is {H : Hp} {v : V} {o : Option (List (Option Tx))} (ht : Rt H v o) (hb : allB o = true) : ∃ (p : Addr) (rep : List Tx), v = .ref p ∧ RepAt p rep H ∧ o = some (rep.map some) ∧ ∀ t ∈ rep, t ≠ [] := by
  cases o with
  | none => cases hb
  | some os =>
    rw [allB_some, Bool.and_eq_true] at hb
    obtain ⟨p, rep, h1, h2, h3⟩ := own_is ht hb.1
    have h3' := Option.some.inj h3
    subst h3'
    refine ⟨p, rep, h1, h2, rfl, fun t ht e => ?_⟩
    subst e
    have h4 := hb.2
    rw [txs_some] at h4
    simp [ht] at h4
theorem ok_stays {f CE : Addr} {fd : FuncData} (F : Fun K "stays" "stays" st_stays f fd) (M : Md K mg) (S_need_all : CalS P w K mg base "need_all" st_need_all 5 ["replacing"] (sp_need_all CE)) (C_growing : Cal P w K mg base "growing" st_growing 1 ["replacing"] sp_growing) : FnOk P w K mg base (L2.CX P w) 6 f fd ["replacing"] (sp_stays CE) := by
  have nd := sc_stays.nd
  refine F.okX sc_stays (fun vs H Q E h => ?_) (fun cdv A outer s H vs Q E hr h => ?_)
  · obtain ⟨_, _, rfl, _⟩ := h
    rfl
  · obtain ⟨v, o, rfl, ht, hs, k1, k2⟩ := h
    refine ⟨_, (pss_cons (ps_expr (pe_clS S_need_all hr (takes_of rfl rfl rfl rfl) (pa_cons (pv 0) pa_nil)))
  (pss_one (ps_ret (pe_cl C_growing hr (pa_cons (pv 0) pa_nil))))), ?_⟩
    refine ⟨v, rfl, v, o, rfl, ht, hs, (fun hb H1 e1 => ?_), fun hb H' e' => k1 hb H' e'⟩
    obtain ⟨p, rep, rfl, hR, rfl, hf⟩ := all_is ht hb
    exact ⟨.ref p, rfl, p, rep, rfl, hR.ex e1, RetU.mono (k2 rep rfl hR.2 hf) e1⟩
def sp_sign_at (CE CS CN : Addr) : Sp := fun vs H Q E => ∃ (v : V) (o : Option (List (Option Tx))) (v2 : V) (o2 : Option Tx) (v3 : V) (o3 : Option Int) (v4 : V) (o4 : Option Int), vs = [v, v2, v3, v4] ∧ Rt H v o ∧ Sm o ∧ El H v2 o2 ∧ (∀ t, o2 = some t → t.length ≤ 20000) ∧ Nt H v3 o3 ∧ Nt H v4 o4 ∧ (ownB o = false → ∀ H', Ex H H' → E (.ref CE) none H') ∧
  ∀ rep, o = some (rep.map some) → IsRep rep → (signB rep.length o2 = false → ∀ H', Ex H H' → E (.ref CS) none H') ∧ ∀ c, o2 = some [c] → 97 ≤ c → c < 97 + rep.length → (inB 0 60 o3 = false → ∀ H', Ex H H' → E (.ref CN) none H') ∧ ∀ n : Nat, o3 = some (n : Int) → n ≤ 60 → (inB 0 (((cR rep n c : Nat) : Int) - 1) o4 = false → ∀ H', Ex H H' → E (.ref CN) none H') ∧ ∀ q : Nat, o4 = some (q : Int) → q < cR rep n c → RetV (T [sgnA rep n c q]) H Q
theorem ok_sign_at {f CE CS CN : Addr} {fd : FuncData} (F : Fun K "sign_at" "sign_at" st_sign_at f fd) (M : Md K mg) (S_need_own : CalS P w K mg base "need_own" st_need_own 4 ["replacing"] (sp_need_own CE)) (S_need_sign : CalS P w K mg base "need_sign" st_need_sign 1 ["replacing", "sign"] (sp_need_sign CS)) (S_need_number : CalS P w K mg base "need_number" st_need_number 3 ["thing", "least", "most"] (sp_need_number CN)) (C_lengths_after : Cal P w K mg base "lengths_after" st_lengths_after 1 ["replacing", "times"] sp_lengths_after) (C_sign_after : Cal P w K mg base "sign_after" st_sign_after 2 ["replacing", "sign", "times", "place"] sp_sign_after) : FnOk P w K mg base (L2.CX P w) 5 f fd ["replacing", "sign", "times", "place"] (sp_sign_at CE CS CN) := by
  have nd := sc_sign_at.nd
  refine F.okX sc_sign_at (fun vs H Q E h => ?_) (fun cdv A outer s H vs Q E hr h => ?_)
  · obtain ⟨_, _, _, _, _, _, _, _, rfl, _⟩ := h
    rfl
  · obtain ⟨v, o, v2, o2, v3, o3, v4, o4, rfl, ht, hs, hv2, hz2, hv3, hv4, k1, k2⟩ := h
    refine ⟨_, (pss_cons (ps_expr (pe_clS S_need_own hr (takes_of rfl rfl rfl rfl) (pa_cons (pv 0) pa_nil)))
  (pss_cons (ps_expr (pe_clS S_need_sign hr (takes_of rfl rfl rfl rfl) (pa_cons (pv 0) (pa_cons (pv 1) pa_nil))))
  (pss_cons (ps_expr (pe_clS S_need_number hr (takes_of rfl rfl rfl rfl) (pa_cons (pv 2) (pa_cons pe_int (pa_cons (pe_gI M.c_MOST_TIMES) pa_nil)))))
  (pss_cons (ps_expr (pe_clS S_need_number hr (takes_of rfl rfl rfl rfl) (pa_cons (pv 3) (pa_cons pe_int (pa_cons (pe_op op_sub (pe_ix (kix K (r := L2.rIxL) ix_list) (pe_ix (kix K (r := L2.rIxL) ix_list) (pe_cl C_lengths_after hr (pa_cons (pv 0) (pa_cons (pv 2) pa_nil))) (pe_un un_neg pe_int) (fun _ _ => rfl)) (kbm K (pe_bm PySem.F.plainAttrs_str PySem.F.slot_str_index PySem.F.type_str_index mt_indexA (pe_gT M.c_SIGNS [97, 98, 99, 100]) (pa_cons (pv 1) pa_nil))) (fun _ _ => rfl)) pe_int) pa_nil)))))
  (pss_one (ps_ret (pe_cl C_sign_after hr (pa_cons (pv 0) (pa_cons (pv 1) (pa_cons (pv 2) (pa_cons (pv 3) pa_nil))))))))))), ?_⟩
    refine ⟨v, rfl, v, o, rfl, ht, hs, (fun hb H1 e1 => ?_), fun hb H' e' => k1 hb H' e'⟩
    obtain ⟨p, rep, rfl, hR, rfl⟩ := own_is ht hb
    obtain ⟨k2, k3⟩ := k2 rep rfl hR.2
    have hfew := hR.2.few
    refine ⟨.ref p, rfl, v2, rfl, p, rep, v2, o2, rfl, hR.ex e1, hv2.ex e1, hz2, (fun hb2 H2 e2 => ?_), fun hb2 H' e' => k2 hb2 H' (e1.trans e')⟩
    obtain ⟨c, rfl, rfl, hc1, hc2⟩ := sign_is hfew hv2 hb2
    obtain ⟨k3, k4⟩ := k3 c rfl hc1 hc2
    have e12 := e1.trans e2
    refine ⟨v3, rfl, v3, o3, 0, 60, rfl, hv3.ex e12, (fun hb3 H3 e3 => ?_), fun hb3 H' e' => k3 hb3 H' (e12.trans e')⟩
    obtain ⟨n, rfl, rfl, _, hn⟩ := num_is (a := 0) (b := 60) hv3 hb3
    obtain ⟨k4, k5⟩ := k4 n rfl hn
    have e13 := e12.trans e3
    have hlen : ∀ (H4 : Hp) (pl : Addr) (Q' : VK), LenAt pl rep n H4 → (∀ H5, Ex H4 H5 → Q' (.int (((cR rep n c : Nat) : Int) - 1)) H5) → True := fun _ _ _ _ _ => True.intro
    refine ⟨v4, rfl, .ref p, rfl, .int (n : Int), rfl, p, rep, n, rfl, hR.ex e13, hn, fun pl H4 hpl e4 hL => ?_⟩
    obtain ⟨r, xs, hx1, hx2, _, hr, hlast⟩ := hL.row (Nat.le_refl n)
    have hev : Ev (tOp (rI0 fun i j => .int (i - j)) (tOp (L2.rIxL K) (tC (.ref r)) (tBM K "str" rIndexA (tC (T AB)) (tCons (tVar 1) tNil))) (tC (.int 1))) (start N_sign_at [.ref p, T [c], .int (n : Int), v4]) H4 (.int (((cR rep n c : Nat) : Int) - 1)) := ev_op (ev_op ev_c (ev_bmT ev_c (ea_cons (ev_var rfl) ea_nil) (rm_indexA hc1 (by omega))) (rv_ixL (sq_of hr) (atI_nat (rowC_at hc1 hc2)))) ev_c rv_I0
    refine ⟨1, rfl, pl, xs, -1, .ref r, rfl, rfl, sq_of hx1, hlast rfl, hev H4 (Ex.refl _) _ fun H5 e5 => ?_⟩
    have e15 := (e13.trans e4).trans e5
    refine ⟨v4, o4, 0, _, rfl, hv4.ex e15, (fun hb4 H6 e6 => ?_), fun hb4 H' e' => k4 hb4 H' (e15.trans e')⟩
    obtain ⟨q, rfl, rfl, hq⟩ : ∃ q : Nat, o4 = some (q : Int) ∧ v4 = .int (q : Int) ∧ q < cR rep n c := by
      cases o4 with
      | none => cases hb4
      | some i =>
        cases hv4
        unfold inB at hb4
        rw [Bool.and_eq_true, decide_eq_true_eq, decide_eq_true_eq] at hb4
        exact ⟨i.toNat, by congr 1; omega, by congr 1; omega, by omega⟩
    have e16 := e15.trans e6
    exact ⟨.ref p, rfl, T [c], rfl, .int (n : Int), rfl, .int (q : Int), rfl, p, rep, c, n, q, rfl, hR.ex e16, hn, hc1, hc2, hq, RetV.mono (k5 q rfl hq) e16⟩
end
end K22
set_option Elab.async false
set_option linter.all false
set_option maxRecDepth 100000
set_option maxHeartbeats 4000000
set_option exponentiation.threshold 5000
namespace K22
open PySem PySem.Spec PyProof.Rows L2 Evl Wc Wt Wg Ws
theorem growL_mem {rep : List Tx} {c : Nat} (h1 : 97 ≤ c) (h2 : c < 97 + rep.length) : decide ([c] ∈ growL rep) = growB rep (c - 97) := by
  have : [c] ∈ growL rep ↔ growB rep (c - 97) = true := by
    unfold growL
    rw [List.mem_map]
    refine ⟨fun ⟨i, hi, e⟩ => ?_, fun h => ⟨c - 97, List.mem_filter.mpr ⟨List.mem_range.mpr (by omega), h⟩, by rw [show 97 + (c - 97) = c by omega]⟩⟩
    have e2 : 97 + i = c := by simpa using e
    rw [show c - 97 = i by omega]
    exact (List.mem_filter.mp hi).2
  cases hb : growB rep (c - 97) with
  | true => exact decide_eq_true (this.mpr hb)
  | false => exact decide_eq_false fun z => by rw [this.mp z] at hb; cases hb
section
variable {K : PySem.W.Frag} {σ : L2.St} {H : Hp}
theorem rv_notIn {x : V} {p : Addr} {xs : List V} (h : SqT K H p xs) (hx : flatV x = true) (ha : xs.all flatV = true) : RV (rIn K true) x (.ref p) H (.bl (!inV x xs)) := fun H1 e Q q => ⟨p, xs, rfl, .inr (ex_t e h), hx, ha, q H1 (Ex.refl _)⟩
theorem et_notGrow {i j : Nat} {p : Addr} {rep : List Tx} {c : Nat} (h0 : σ[i]? = some (some (T [c]))) (h1 : σ[j]? = some (some (.ref p))) (hR : RepAt p rep H) (hc1 : 97 ≤ c) (hc2 : c < 97 + rep.length) : EvT (tTest (tOp (rIn K true) (tVar i) (tCall sp_growing [] E0 (tCons (tVar j) tNil)))) σ H (!growB rep (c - 97)) := by
  have hu : EvU (tCall sp_growing [] E0 (tCons (tVar j) tNil)) σ H ((growL rep).map T) := fun H1 e Q q => ⟨.ref p, h1, p, rep, rfl, hR.ex e, q⟩
  refine et_is (et_test (ev_opU (ev_var h0) hu fun q H1 hq e => rv_notIn (st_of hq) rfl (flat_T _))) ?_
  rw [inV_T, growL_mem hc1 hc2]
end
section
variable {P : Program} {w : World} {K : PySem.W.Frag} {mg : Str → Option Value} {base : Heap}
def sp_alike_for_ever (CE CS CN : Addr) : Sp := fun vs H Q E => ∃ (v : V) (o : Option (List (Option Tx))) (v1 : V) (o1 : Option (List (Option Tx))) (v2 : V) (o2 : Option Tx) (v3 : V) (o3 : Option Int), vs = [v, v1, v2, v3] ∧ Rt H v o ∧ Sm o ∧ Rt H v1 o1 ∧ Sm o1 ∧ El H v2 o2 ∧ (∀ t, o2 = some t → t.length ≤ 20000) ∧ Nt H v3 o3 ∧ (allB o = false → ∀ H', Ex H H' → E (.ref CE) none H') ∧
  ∀ rep, o = some (rep.map some) → IsRep rep → (∀ t ∈ rep, t ≠ []) → (allB o1 = false → ∀ H', Ex H H' → E (.ref CE) none H') ∧ ∀ oth, o1 = some (oth.map some) → IsRep oth → (∀ t ∈ oth, t ≠ []) →
    (oth.length ≠ rep.length → ∀ H', Ex H H' → E (.ref CE) none H') ∧ (oth.length = rep.length → (signB rep.length o2 = false → ∀ H', Ex H H' → E (.ref CS) none H') ∧ ∀ c, o2 = some [c] → 97 ≤ c → c < 97 + rep.length →
      ((growB rep (c - 97) && growB oth (c - 97)) = false → ∀ H', Ex H H' → E (.ref CS) none H') ∧ (Grows rep c → Grows oth c → (inB 1 4000 o3 = false → ∀ H', Ex H H' → E (.ref CN) none H') ∧
        ∀ n : Nat, o3 = some (n : Int) → 1 ≤ n → n ≤ 4000 → (∀ a b, Gd rep c a → Gd oth c b → a.length = n → b.length = n → RetV (.int ((alikeSigns a b : Nat) : Int)) H Q)))
theorem gd_ex {rep : List Tx} {c : Nat} (h : Grows rep c) : ∀ n, ∃ g, Gd rep c g ∧ g.length = n
  | n => by
    have hl : ∀ n, n ≤ (phiN rep n [c]).length := fun n => by
      induction n with
      | zero => exact Nat.zero_le _
      | succ n ih =>
        have hg : Gd rep c (phiN rep n [c]) := ⟨n, List.prefix_refl _⟩
        by_cases h0 : 0 < (phiN rep n [c]).length
        · obtain ⟨u, hu⟩ := hg.head h h0
          have := phi_more h (t := u) (hu ▸ hg.own h)
          rw [← hu] at this
          show n + 1 ≤ (phi rep (phiN rep n [c])).length
          omega
        · have h1 := (phiN_le h 0 n).length_le
          rw [Nat.zero_add] at h1
          have h1 : 1 ≤ (phiN rep n [c]).length := h1
          omega
    exact ⟨(phiN rep n [c]).take n, Gd.take ⟨n, List.prefix_refl _⟩ _, by rw [List.length_take]; have := hl n; omega⟩
theorem ok_alike_for_ever {f CE CS CN : Addr} {fd : FuncData} (F : Fun K "alike_for_ever" "alike_for_ever" st_alike_for_ever f fd) (M : Md K mg) (E_BadReplacing : Err K mg "BadReplacing" CE) (E_BadSign : Err K mg "BadSign" CS) (S_need_all : CalS P w K mg base "need_all" st_need_all 5 ["replacing"] (sp_need_all CE)) (S_need_sign : CalS P w K mg base "need_sign" st_need_sign 1 ["replacing", "sign"] (sp_need_sign CS)) (S_need_number : CalS P w K mg base "need_number" st_need_number 3 ["thing", "least", "most"] (sp_need_number CN)) (C_growing : Cal P w K mg base "growing" st_growing 1 ["replacing"] sp_growing) (C_grown : Cal P w K mg base "grown" st_grown 2 ["replacing", "sign", "most"] sp_grown) (C_alike_signs : Cal P w K mg base "alike_signs" st_alike_signs 1 ["one", "other"] sp_alike_signs) : FnOk P w K mg base (L2.CX P w) 6 f fd ["replacing", "other", "sign", "most"] (sp_alike_for_ever CE CS CN) := by
  have nd := sc_alike_for_ever.nd
  refine F.okX sc_alike_for_ever (fun vs H Q E h => ?_) (fun cdv A outer s H vs Q E hr h => ?_)
  · obtain ⟨_, _, _, _, _, _, _, _, rfl, _⟩ := h
    rfl
  · obtain ⟨v, o, v1, o1, v2, o2, v3, o3, rfl, ht, hs, ht1, hs1, hv2, hz2, hv3, k1, k2⟩ := h
    refine ⟨_, (pss_cons (ps_expr (pe_clS S_need_all hr (takes_of rfl rfl rfl rfl) (pa_cons (pv 0) pa_nil)))
  (pss_cons (ps_expr (pe_clS S_need_all hr (takes_of rfl rfl rfl rfl) (pa_cons (pv 1) pa_nil)))
  (pss_cons (ps_if (pt_cmpR op_neI (pe_callB (kcr K (r := rLenS) call_len_seq) (by rfl) M.n_len boot_len (pa_cons (pv 1) pa_nil)) (pe_callB (kcr K (r := rLenS) call_len_seq) (by rfl) M.n_len boot_len (pa_cons (pv 0) pa_nil)) (nomark _))
  (pss_one (ps_raiseE rfl (takes_of rfl rfl rfl rfl) E_BadReplacing))
  pss_nil)
  (pss_cons (ps_expr (pe_clS S_need_sign hr (takes_of rfl rfl rfl rfl) (pa_cons (pv 0) (pa_cons (pv 2) pa_nil))))
  (pss_cons (ps_if (PW.pt (pw_or (pt_cmpR (kop K (r := fun K => rIn K true) op_notIn_seq) (pv 2) (pe_cl C_growing hr (pa_cons (pv 0) pa_nil)) (by rfl)) (pw_or1 (pt_cmpR (kop K (r := fun K => rIn K true) op_notIn_seq) (pv 2) (pe_cl C_growing hr (pa_cons (pv 1) pa_nil)) (by rfl)))))
  (pss_one (ps_raiseE rfl (takes_of rfl rfl rfl rfl) E_BadSign))
  pss_nil)
  (pss_cons (ps_expr (pe_clS S_need_number hr (takes_of rfl rfl rfl rfl) (pa_cons (pv 3) (pa_cons pe_int (pa_cons (pe_gI M.c_MOST_MADE) pa_nil)))))
  (pss_one (ps_ret (pe_cl C_alike_signs hr (pa_cons (pe_cl C_grown hr (pa_cons (pv 0) (pa_cons (pv 2) (pa_cons (pv 3) pa_nil)))) (pa_cons (pe_cl C_grown hr (pa_cons (pv 1) (pa_cons (pv 2) (pa_cons (pv 3) pa_nil)))) pa_nil))))))))))), ?_⟩
    refine ⟨v, rfl, v, o, rfl, ht, hs, (fun hb H1 e1 => ?_), fun hb H' e' => k1 hb H' e'⟩
    obtain ⟨p, rep, rfl, hR, rfl, hf⟩ := all_is ht hb
    obtain ⟨k2, k3⟩ := k2 rep rfl hR.2 hf
    have hfew := hR.2.few
    refine ⟨v1, rfl, v1, o1, rfl, ht1.ex e1, hs1, (fun hb1 H2 e2 => ?_), fun hb1 H' e' => k2 hb1 H' (e1.trans e')⟩
    obtain ⟨q, oth, rfl, hO, rfl, hfo⟩ := all_is ht1 hb1
    obtain ⟨k3, k4⟩ := k3 oth rfl hO.2 hfo
    have hfewo := hO.2.few
    have e12 := e1.trans e2
    dsimp only
    refine q_when (σ := start N_alike_for_ever [.ref p, .ref q, v2, v3]) (b := !decide (oth.length = rep.length)) (et_is (et_test (ev_op (eo_lenU (i := 1) rfl (e12 _ _ hO.1)) (eo_lenU (i := 0) rfl (e12 _ _ hR.1)) rv_I0)) ?_) (fun hb2 H3 e3 => ?_) (fun hb2 H3 e3 => ?_)
    · by_cases z : oth.length = rep.length
      · simp [z]
      · have : ¬ ((oth.length : Int) = (rep.length : Int)) := by omega
        simp [z, this]
    · exact k3 (by simpa using hb2) H3 (e12.trans e3)
    · have hlen : oth.length = rep.length := by simpa using hb2
      obtain ⟨k4, k5⟩ := k4 hlen
      have e13 := e12.trans e3
      refine ⟨.ref p, rfl, v2, rfl, p, rep, v2, o2, rfl, hR.ex e13, hv2.ex e13, hz2, (fun hb3 H4 e4 => ?_), fun hb3 H' e' => k4 hb3 H' (e13.trans e')⟩
      obtain ⟨c, rfl, rfl, hc1, hc2⟩ := sign_is hfew hv2 hb3
      obtain ⟨k5, k6⟩ := k5 c rfl hc1 hc2
      have e14 := e13.trans e4
      dsimp only
      refine q_when (σ := start N_alike_for_ever [.ref p, .ref q, T [c], v3]) (b := !(growB rep (c - 97) && growB oth (c - 97))) (et_is (et_or (et_notGrow (i := 2) (j := 0) rfl rfl (hR.ex e14) hc1 hc2) fun _ => et_notGrow (i := 2) (j := 1) rfl rfl (hO.ex e14) hc1 (by omega)) (by cases growB rep (c - 97) <;> cases growB oth (c - 97) <;> rfl)) (fun hb4 H5 e5 => k5 (by revert hb4; cases (growB rep (c - 97) && growB oth (c - 97)) <;> simp) H5 (e14.trans e5)) (fun hb4 H5 e5 => ?_)
      rw [Bool.not_eq_false', Bool.and_eq_true] at hb4
      have g1 := Grows.of hR.2 hf hc1 hc2 hb4.1
      have g2 := Grows.of hO.2 hfo hc1 (by omega) hb4.2
      obtain ⟨k6, k7⟩ := k6 g1 g2
      have e15 := e14.trans e5
      refine ⟨v3, rfl, v3, o3, 1, 4000, rfl, hv3.ex e15, (fun hb5 H6 e6 => ?_), fun hb5 H' e' => k6 hb5 H' (e15.trans e')⟩
      obtain ⟨n, rfl, rfl, hn1, hn2⟩ := num_is (a := 1) (b := 4000) hv3 hb5
      have e16 := e15.trans e6
      obtain ⟨a, ha1, ha2⟩ := gd_ex g1 n
      obtain ⟨b, hb1', hb2'⟩ := gd_ex g2 n
      dsimp only
      refine s_ret (σ := start N_alike_for_ever [.ref p, .ref q, T [c], .int (n : Int)]) (v := .int ((alikeSigns a b : Nat) : Int)) (ev_call (ea_cons (ev_call (vs := [.ref p, T [c], .int (n : Int)]) (ea_cons (ev_var rfl) (ea_cons (ev_var rfl) (ea_cons (ev_var rfl) ea_nil))) fun H7 e7 Q q E => ⟨p, rep, c, n, rfl, hR.ex (e16.trans e7), g1, hn1, hn2, fun g hg hl => by
        rw [hg.same g1 ha1 (by omega)]
        exact q⟩) (ea_cons (ev_call (vs := [.ref q, T [c], .int (n : Int)]) (ea_cons (ev_var rfl) (ea_cons (ev_var rfl) (ea_cons (ev_var rfl) ea_nil))) fun H7 e7 Q q' E => ⟨q, oth, c, n, rfl, hO.ex (e16.trans e7), g2, hn1, hn2, fun g hg hl => by
        rw [hg.same g2 hb1' (by omega)]
        exact q'⟩) ea_nil)) fun H7 e7 Q q E => ⟨a, b, rfl, by omega, by omega, q⟩) (RetV.mono (k7 n rfl hn1 hn2 a b ha1 hb1' ha2 hb2') e16)
end
end K22
set_option Elab.async false
set_option linter.all false
set_option maxRecDepth 100000
set_option maxHeartbeats 4000000
set_option exponentiation.threshold 5000
namespace K22
open PySem PySem.Spec PyProof.Rows L2 Evl Wc Wt Wg Ws
theorem phi_OwnT {rep : List Tx} (h : IsRep rep) {t : Tx} (ho : OwnT rep t) : ∀ n, OwnT rep (phiN rep n t)
  | 0 => ho
  | n + 1 => phi_own h _
section
variable {K : PySem.W.Frag} {σ : L2.St} {H : Hp} {te : TE}
theorem el_listTx {s : Tx} (h : Ev te σ H (T s)) (hl : s.length ≤ 16777216) : EvL (tCB rListT (tCons te tNil)) σ H (s.map fun c => T [c]) :=
  fun H1 e Q q => h H1 e _ fun H2 e2 => ⟨s, rfl, hl, fun l hl => q l _ (fresh_back e2 hl) (e2.trans (Ex.new hl)) upd_same⟩
/-- what replaces a sign -/
theorem ev_im {i : Nat} {p : Addr} {rep : List Tx} {c : Nat} {tc : TE} (h0 : σ[i]? = some (some (.ref p))) (hR : RepAt p rep H) (h : Ev tc σ H (T [c])) (h1 : 97 ≤ c) (h2 : c < 97 + rep.length) : Ev (tOp (L2.rIxT K) (tVar i) (tBM K "str" rIndexA (tC (T AB)) (tCons tc tNil))) σ H (T (im rep c)) :=
  ev_op (ev_var h0) (ev_bmT ev_c (ea_cons h ea_nil) (rm_indexA h1 (by have := hR.2.few; omega))) (rv_ixT (st_of hR.1) (atI_nat (by rw [List.getElem?_map, im_at h1 h2]; rfl)))
/-- each sign replaced -/
theorem ev_phi {i j k : Nat} {p : Addr} {rep : List Tx} {t : Tx} (hi : ∀ x, ((wipe σ [j]).set j (some x))[i]? = some (some (.ref p))) (hk : σ[k]? = some (some (T t))) (hw : ∀ x, wipe ((wipe σ [j]).set j (some x)) [j] = wipe σ [j]) (hj : ∀ x, ((wipe σ [j]).set j (some x))[j]? = some (some x)) (hR : RepAt p rep H) (ho : OwnT rep t) (hl : t.length ≤ 20000) : Ev (tBM K "str" (rJoinT K) (tC (T [])) (tCons (tLc (iStr (tVar k)) (gName j) tYes (tOp (L2.rIxT K) (tVar i) (tBM K "str" rIndexA (tC (T AB)) (tCons (tVar j) tNil))) [j]) tNil)) σ H (T (phi rep t)) := by
  have hsum : ((t.map (im rep)).map List.length).sum ≤ 16777216 := by
    have h1 := phi_len hR.2 t
    unfold phi at h1
    rw [List.length_flatten] at h1
    omega
  have hlc : EvL (tLc (iStr (tVar k)) (gName j) tYes (tOp (L2.rIxT K) (tVar i) (tBM K "str" rIndexA (tC (T AB)) (tCons (tVar j) tNil))) [j]) σ H ((t.map (im rep)).map T) := by
    rw [List.map_map]
    exact el_lcM (j := j) (vs := [j]) (f := fun c => T [c]) (g := fun c => T (im rep c)) t (src_str (ev_var hk)) (by omega) hw fun c H1 e1 hc => ev_im (hi _) (hR.ex e1) (ev_var (hj _)) (ho c hc).1 (ho c hc).2
  exact ev_bmTL ev_c hlc fun q H1 hq e1 => rm_join (.inl (sq_of hq)) hsum
end
section
variable {P : Program} {w : World} {K : PySem.W.Frag} {mg : Str → Option Value} {base : Heap}
def sp_done : Sp := fun vs H Q _ => ∃ (p : Addr) (rep : List Tx) (t : Tx) (n : Nat), vs = [.ref p, T t, .int (n : Int)] ∧ RepAt p rep H ∧ t.length ≤ 3000 ∧ OwnT rep t ∧ n ≤ 60 ∧ ∀ v H', Ex H H' → ((v = T (phiN rep n t) ∧ (phiN rep n t).length ≤ 3000) ∨ (v = .non ∧ ∃ j, j ≤ n ∧ 3000 < (phiN rep j t).length)) → Q v H'
theorem ok__law_done {f : Addr} {fd : FuncData} (F : Fun K "_law_done" "_law_done" st__law_done f fd) (M : Md K mg) : FnOk P w K mg base CX0 1 f fd ["replacing", "text", "times"] sp_done := by
  have nd := sc__law_done.nd
  refine F.ok sc__law_done (fun vs H Q E h => ?_) (fun cdv A outer s H vs Q E hr h => ?_)
  · obtain ⟨_, _, _, _, rfl, _⟩ := h
    rfl
  · obtain ⟨p, rep, t, n, rfl, hR, hl, ho, hn, k⟩ := h
    refine ⟨_, (pss_cons (ps_for PassesOwn.never rfl (pi_range1 (by rfl) M.n_range (pa_cons (pv 2) pa_nil)) (pg_name (i := 3) nd rfl (Or.inl rfl))
  (pss_cons (ps_set (i := 1) nd rfl (Or.inl rfl) (kbm K (pe_bm PySem.F.plainAttrs_str PySem.F.slot_str_join PySem.F.type_str_join (kmt K (r := rJoinT) mt_joinT) (pe_sT []) (pa_cons (pe_lc (own := [("sign", 4)]) rfl nd (pi_str (pv 1)) (blkOk_by (N := N__law_done) (sc := defScope st__law_done) (by decide +kernel)) (fun _ _ _ _ _ => (pg_name (i := 4) nd rfl (Or.inl rfl))) (fun _ _ _ _ _ => pts_nil) (fun _ _ _ _ _ => (pe_ix (kix K (r := L2.rIxT) ix_tup) (pv 0) (kbm K (pe_bm PySem.F.plainAttrs_str PySem.F.slot_str_index PySem.F.type_str_index mt_indexA (pe_sT [97, 98, 99, 100]) (pa_cons (pv 4) pa_nil))) (fun _ _ => rfl)))) pa_nil))))
  (pss_one (ps_if (pt_cmpR op_gt (pe_callB cr_lenT (by rfl) M.n_len boot_len (pa_cons (pv 1) pa_nil)) pe_int (nomark _))
  (pss_one (ps_ret pe_non))
  pss_nil))))
  (pss_one (ps_ret (pv 1)))), ?_⟩
    refine q_forW (fun _ => False) (src_range1 (n := n) (ea_cons (ev_var rfl) ea_nil) (by omega)) (fun _ z => z.elim)
      (fun Hs i σ' H' => ∃ v3 : Option V, σ' = [some (.ref p), some (T (phiN rep i t)), some (.int (n : Int)), v3, none] ∧ Exc (fun _ => False) Hs H' ∧ (phiN rep i t).length ≤ 3000) ?_ ?_ ?_ ?_ ?_
    · intro Hs e
      exact ⟨none, rfl, Exc.refl _, hl⟩
    · rintro Hs i σ' H' ⟨_, _, h, _⟩
      exact h
    · rintro Hs i σ' Ha Hb ⟨v3, h0, h2, h3⟩ e
      exact ⟨v3, h0, h2.then e, h3⟩
    · rintro Hs i x σ' H' e hi ⟨v3, rfl, h2, h3⟩ rfl
      have eH := e.trans h2.ex
      have hpl := phi_len hR.2 (phiN rep i t)
      refine q_asg (σ := [some (.ref p), some (T (phiN rep i t)), some (.int (n : Int)), some (.int (i : Int)), none]) (v := T (phiN rep (i + 1) t)) (ev_phi (i := 0) (j := 4) (k := 1) (fun _ => rfl) rfl (fun _ => rfl) (fun _ => rfl) (hR.ex eH) (phi_OwnT hR.2 ho i) (by omega)) fun H3 e3 => ?_
      have hpl' : (phiN rep (i + 1) t).length ≤ 12 * (phiN rep i t).length := hpl
      refine s_when (b := decide (3000 < (phiN rep (i + 1) t).length)) (et_is (et_test (ev_op (ev_cb (ea_cons (ev_var rfl) ea_nil) (rc_lenT (by omega))) ev_c rv_I0)) (decide_eq_decide.mpr (by omega))) (fun hb H4 e4 => ?_) (fun hb H4 e4 => ?_)
      · exact s_ret ev_c fun H5 e5 => k _ H5 (((eH.trans e3).trans e4).trans e5) (.inr ⟨rfl, i + 1, by omega, of_decide_eq_true hb⟩)
      · exact ⟨_, rfl, (h2.then e3).then e4, by have := of_decide_eq_false hb; omega⟩
    · rintro Hs σ' H' e ⟨v3, rfl, h2, h3⟩
      exact s_ret (ev_var rfl) fun H5 e5 => k _ H5 ((e.trans h2.ex).trans e5) (.inl ⟨rfl, h3⟩)
def sp_law_grown : Sp := fun vs H Q _ => ∃ (p : Addr) (rep : List Tx) (c most : Nat), vs = [.ref p, T [c], .int (most : Int)] ∧ RepAt p rep H ∧ Grows rep c ∧ 1 ≤ most ∧ most ≤ 4000 ∧ ∀ g, Gd rep c g → g.length = most → RetL (g.map fun d => T [d]) H Q
theorem ok__law_grown {f : Addr} {fd : FuncData} (F : Fun K "_law_grown" "_law_grown" st__law_grown f fd) (M : Md K mg) : FnOk P w K mg base CX0 1 f fd ["replacing", "sign", "most"] sp_law_grown := by
  have nd := sc__law_grown.nd
  refine F.ok sc__law_grown (fun vs H Q E h => ?_) (fun cdv A outer s H vs Q E hr h => ?_)
  · obtain ⟨_, _, _, _, rfl, _⟩ := h
    rfl
  · obtain ⟨p, rep, c, most, rfl, hR, hG, hm1, hm2, k⟩ := h
    refine ⟨_, (pss_cons (ps_set (i := 3) nd rfl (Or.inl rfl) (pe_callTy (call_list_T rfl) (by rfl) M.n_list boot_list (pa_cons (pe_ix (kix K (r := L2.rIxT) ix_tup) (pv 0) (kbm K (pe_bm PySem.F.plainAttrs_str PySem.F.slot_str_index PySem.F.type_str_index mt_indexA (pe_sT [97, 98, 99, 100]) (pa_cons (pv 1) pa_nil))) (fun _ _ => rfl)) pa_nil)))
  (pss_cons (ps_for PassesOwn.never rfl (pi_range2 (by rfl) M.n_range (pa_cons pe_int (pa_cons (pv 2) pa_nil))) (pg_name (i := 4) nd rfl (Or.inl rfl))
  (pss_cons (ps_if (pt_cmpR op_ge (pe_callB (kcr K (r := rLenS) call_len_seq) (by rfl) M.n_len boot_len (pa_cons (pv 3) pa_nil)) (pv 2) (nomark _))
  (pss_one ps_break)
  pss_nil)
  (pss_one (ps_expr (kbm K (pe_bm PySem.F.plainAttrs_list PySem.F.slot_list_extend PySem.F.type_list_extend mt_extend (pv 3) (pa_cons (pe_callTy (call_list_T rfl) (by rfl) M.n_list boot_list (pa_cons (pe_ix (kix K (r := L2.rIxT) ix_tup) (pv 0) (kbm K (pe_bm PySem.F.plainAttrs_str PySem.F.slot_str_index PySem.F.type_str_index mt_indexA (pe_sT [97, 98, 99, 100]) (pa_cons (pe_ix (kix K (r := L2.rIxL) ix_list) (pv 3) (pv 4) (fun _ _ => rfl)) pa_nil))) (fun _ _ => rfl)) pa_nil)) pa_nil)))))))
  (pss_one (ps_ret (pe_slice (ksl K (r := rSlL) sl_list) (pv 3) po_none (po_some (pv 2))))))), ?_⟩
    obtain ⟨f1, f2, f3⟩ := first_on hG
    have him := fun d => im_own hG.is d
    refine q_asgL (el_listTx (ev_im (i := 0) rfl hR (ev_var (i := 1) rfl) hG.lo hG.hi) (by have := (him c).1; omega)) fun pl H1 hpl e1 h1 => ?_
    show tSeq _ _ _ [some (.ref p), some (T [c]), some (.int (most : Int)), some (.ref pl), none] H1
    have fin : ∀ (t : Tx) (v4 : Option V) (H' : Hp), Exc (fun b => b = pl) H1 H' → H' pl = some (.lst (t.map fun d => T [d])) → Gd rep c t → most ≤ t.length → tRet (tSl (rSlL K) (tVar 3) tNoPart (tPart (tVar 2))) { nx := fun _ H' => Q .non H', rt := Q } [some (.ref p), some (T [c]), some (.int (most : Int)), some (.ref pl), v4] H' := by
      intro t v4 H' x h2 hg hl
      refine s_retL (xs := (t.take most).map fun d => T [d]) ?_ fun q H2 hq e2 h2 => k _ (hg.take most) (by rw [List.length_take]; omega) q H2 ?_ ?_ h2
      · have := el_sl (K := K) (σ := [some (.ref p), some (T [c]), some (.int (most : Int)), some (.ref pl), v4]) (H := H') (te := tVar 3) (ev_var rfl) eo_none (eo_some (te := tVar 2) (i := (most : Int)) (ev_var rfl)) (sq_of h2)
        rw [cutV_to, ← List.map_take] at this
        exact this
      · refine fresh_back (H := H) (fun b o hb => x _ _ (fun z => by rw [z, hpl] at hb; cases hb) (e1 _ _ hb)) hq
      · exact fun b o hb => e2 _ _ (x _ _ (fun z => by rw [z, hpl] at hb; cases hb) (e1 _ _ hb))
    refine q_forW (fun b => b = pl) (src_range2 (lo := 1) (hi := (most : Int)) (n := most - 1) (ea_cons ev_c (ea_cons (ev_var rfl) ea_nil)) (by decide) (by decide) (by omega) (by omega) (by omega)) ?_
      (fun Hs i σ' H' => ∃ (t : Tx) (v4 : Option V), σ' = [some (.ref p), some (T [c]), some (.int (most : Int)), some (.ref pl), v4] ∧ Exc (fun b => b = pl) Hs H' ∧ Exc (fun b => b = pl) H1 H' ∧ H' pl = some (.lst (t.map fun d => T [d])) ∧ Gd rep c t ∧ t = phi rep (t.take (i + 1)) ∧ 1 < t.length ∧ t.length ≤ most + 12) ?_ ?_ ?_ ?_ ?_
    · rintro b rfl
      exact ⟨by rw [h1]; exact fun z => (nomatch z), fun z => z⟩
    · intro Hs e
      exact ⟨im rep c, none, rfl, Exc.refl _, Exc.of e, e _ _ h1, f1, f2, f3, by have := (him c).1; omega⟩
    · rintro Hs i σ' H' ⟨_, _, _, h, _⟩
      exact h
    · rintro Hs i σ' Ha Hb ⟨t, v4, h0, h2, h3, h4, h5⟩ e
      exact ⟨t, v4, h0, h2.then e, h3.then e, e _ _ h4, h5⟩
    · rintro Hs i x σ' H' e hi ⟨t, v4, rfl, h2, h3, h4, h5, h6, h7, h8⟩ rfl
      obtain ⟨hlt, hstep⟩ := read_on hG (Nat.succ_pos i) h5 h6 (by omega)
      have hd : t[i + 1]? = some t[i + 1] := List.getElem?_eq_getElem hlt
      generalize t[i + 1] = d at hd
      obtain ⟨s1, s2⟩ := hstep d hd
      have hdo := h5.own hG d (List.mem_of_getElem? hd)
      have hR' : RepAt p rep H' := ⟨h3 _ _ (fun z => by rw [← z, hR.1] at hpl; cases hpl) (e1 _ _ hR.1), hR.2⟩
      refine q_when (σ := [some (.ref p), some (T [c]), some (.int (most : Int)), some (.ref pl), some (.int (1 + (i : Int)))]) (b := decide (most ≤ t.length)) (et_is (et_test (ev_op (ev_len (ev_var rfl) (sq_of h4)) (ev_var rfl) rv_I0)) ?_) (fun hb H4 e4 => ?_) (fun hb H4 e4 => ?_)
      · rw [List.length_map]
        exact decide_eq_decide.mpr (by omega)
      · exact fin t _ H4 (h3.then e4) (e4 _ _ h4) h5 (of_decide_eq_true hb)
      · have hb := of_decide_eq_false hb
        refine s_ext (e4 _ _ h4) (ev_var rfl) (el_listTx (ev_im (i := 0) (c := d) rfl (hR'.ex e4) (ev_op (ev_var rfl) (ev_var rfl) (rv_ixL (sq_of (e4 _ _ h4)) (by rw [show (1 : Int) + (i : Int) = ((i + 1 : Nat) : Int) by omega]; exact atI_nat (by rw [List.getElem?_map, hd]; rfl)))) hdo.1 hdo.2) (by have := (him d).1; omega)) (by rw [List.length_map, List.length_map]; have := (him d).1; omega) fun H5 e5 => ⟨t ++ im rep d, _, rfl, ((h2.then e4).then e5).upd (.inl rfl), ((h3.then e4).then e5).upd (.inl rfl), ?_, s1, s2, by rw [List.length_append]; omega, by rw [List.length_append]; have := (him d).1; omega⟩
        rw [upd_same, List.map_append]
    · rintro Hs σ' H' e ⟨t, v4, rfl, h2, h3, h4, h5, h6, h7, h8⟩
      have := (read_on hG (Nat.succ_pos _) h5 h6 (by omega)).1
      exact fin t v4 H' h3 h4 h5 (by omega)
end
end K22
set_option Elab.async false
set_option linter.all false
set_option maxRecDepth 100000
set_option maxHeartbeats 4000000
set_option exponentiation.threshold 5000
namespace K22
open PySem PySem.Spec PyProof.Rows L2 Evl Wc Wt Wg Ws _root_.Wd
/-- the count of a sign's text -/
def fC (rep : List Tx) (m : Nat) : Tx → Nat
  | [d] => cR rep m d
  | _ => 0
structure KOk (rep : List Tx) (kvs : List (Tx × Nat)) : Prop where
  nd : (kvs.map (·.1)).Nodup
  ks : ∀ t ∈ kvs.map (·.1), ∃ d, t = [d] ∧ 97 ≤ d ∧ d < 97 + rep.length
theorem KOk.few {rep : List Tx} {kvs : List (Tx × Nat)} (h : KOk rep kvs) (h4 : rep.length ≤ 4) : kvs.length ≤ 4 := by
  have := Wr.len_sub (l := (List.range 4).map fun i => [97 + i]) h.nd fun t ht => by
    obtain ⟨d, rfl, h1, h2⟩ := h.ks t ht
    exact List.mem_map.mpr ⟨d - 97, List.mem_range.mpr (by omega), by rw [show 97 + (d - 97) = d by omega]⟩
  simpa using this
theorem KOk.put {rep : List Tx} {kvs : List (Tx × Nat)} (h : KOk rep kvs) {d n : Nat} (h1 : 97 ≤ d) (h2 : d < 97 + rep.length) : KOk rep (putC kvs [d] n) := by
  refine ⟨putC_nodup h.nd, fun t ht => ?_⟩
  rcases putC_mem.mp ht with ht | rfl
  · exact h.ks t ht
  · exact ⟨d, rfl, h1, h2⟩
theorem getC_at {t : Tx} {x : Nat} : ∀ {kvs : List (Tx × Nat)} {k : Nat}, (kvs.map (·.1)).Nodup → kvs[k]? = some (t, x) → getC kvs t = some x
  | [], _, _, h => by simp at h
  | p :: kvs, 0, hn, h => by
    have : p = (t, x) := by simpa using h
    subst this
    exact getC_pos rfl
  | p :: kvs, k + 1, hn, h => by
    rw [List.map_cons, List.nodup_cons] at hn
    have h' : kvs[k]? = some (t, x) := by simpa using h
    have hm : t ∈ kvs.map (·.1) := List.mem_map.mpr ⟨(t, x), List.mem_of_getElem? h', rfl⟩
    rw [getC_neg (fun e => hn.1 (e ▸ hm))]
    exact getC_at hn.2 h'
theorem wsum_take {f : Tx → Nat} {kvs : List (Tx × Nat)} {k : Nat} {t : Tx} {x : Nat} (h : kvs[k]? = some (t, x)) : wsum f (kvs.take (k + 1)) = wsum f (kvs.take k) + x * f t := by
  unfold wsum
  rw [List.take_add_one, h, List.map_append, List.sum_append]
  simp
section
variable {P : Program} {w : World} {K : PySem.W.Frag} {mg : Str → Option Value} {base : Heap}
def sp_times : Sp := fun vs H Q _ => ∃ (p : Addr) (rep : List Tx) (c n : Nat), vs = [.ref p, T [c], .int (n : Int)] ∧ RepAt p rep H ∧ 97 ≤ c ∧ c < 97 + rep.length ∧ n ≤ 60 ∧ RetV (.int ((cR rep n c : Nat) : Int)) H Q
theorem ok__law_times {f : Addr} {fd : FuncData} (F : Fun K "_law_times" "_law_times" st__law_times f fd) (M : Md K mg) : FnOk P w K mg base CX0 1 f fd ["replacing", "sign", "times"] sp_times := by
  have nd := sc__law_times.nd
  refine F.ok sc__law_times (fun vs H Q E h => ?_) (fun cdv A outer s H vs Q E hr h => ?_)
  · obtain ⟨_, _, _, _, rfl, _⟩ := h
    rfl
  · obtain ⟨p, rep, c, n, rfl, hR, hc1, hc2, hn, k⟩ := h
    refine ⟨_, (pss_cons (ps_set (i := 3) nd rfl (Or.inl rfl) (pe_disp (pps_cons (pv 1) pe_int pps_nil) (by rfl) (by rfl) (fun z => nomatch z) (by decide)))
  (pss_cons (ps_for PassesOwn.never rfl (pi_range1 (by rfl) M.n_range (pa_cons (pv 2) pa_nil)) (pg_name (i := 4) nd rfl (Or.inl rfl))
  (pss_cons (ps_set (i := 5) nd rfl (Or.inl rfl) pe_dnewK)
  (pss_cons (ps_for PassesOwn.never rfl (kil K (pi_list (pe_callTy (call_list_dK rfl) (by rfl) M.n_list boot_list (pa_cons (pv 3) pa_nil)))) (pg_name (i := 6) nd rfl (Or.inl rfl))
  (pss_one (ps_for PassesOwn.never rfl (pi_str (pe_ix (kix K (r := L2.rIxT) ix_tup) (pv 0) (kbm K (pe_bm PySem.F.plainAttrs_str PySem.F.slot_str_index PySem.F.type_str_index mt_indexA (pe_sT [97, 98, 99, 100]) (pa_cons (pv 6) pa_nil))) (fun _ _ => rfl))) (pg_name (i := 7) nd rfl (Or.inl rfl))
  (pss_one (ps_dput (hu1 hr.units) (pv 5) (pv 7) (pe_op op_add (pe_dget2 (hu1 hr.units) (pv 5) (pv 7) pe_int ⟨rfl, rfl, rfl, rfl⟩) (pe_dget (hu1 hr.units) (pv 3) (pv 6) (fun _ _ => rfl))) (by rfl))))))
  (pss_one (ps_set (i := 3) nd rfl (Or.inl rfl) (pv 5))))))
  (pss_one (ps_ret (pe_callB (kcr K (r := rSum) (cr_sum rfl)) (by rfl) M.n_sum boot_sum (pa_cons (pe_listVals rfl (pv 3) (by rfl) M.n_list boot_list) pa_nil)))))), ?_⟩
    have hfew := hR.2.few
    refine fun ph hph => ⟨T [c], rfl, ⟨upd_same, [(kx [c], V.int 1)], rfl, (by show 1 ≤ 15; decide), ?_⟩⟩
    have e1 : Ex H (upd (upd H ph (.dK [])) ph (.dK (mergeK [] [(kx [c], V.int 1)]))) := fun b o hb => by
      have hne : b ≠ ph := fun z => by rw [z, hph] at hb; cases hb
      rw [upd_ne hne, upd_ne hne]
      exact hb
    have h1 : (upd (upd H ph (.dK [])) ph (.dK (mergeK [] [(kx [c], V.int 1)]))) ph = some (.dK (DC [([c], 1)])) := upd_same
    generalize upd (upd H ph (.dK [])) ph (.dK (mergeK [] [(kx [c], V.int 1)])) = H1 at e1 h1 ⊢
    show tSeq _ _ _ [some (.ref p), some (T [c]), some (.int (n : Int)), some (.ref ph), none, none, none, none] H1
    have hk0 : KOk rep [([c], 1)] := ⟨by simp, fun t ht => ⟨c, by simpa using ht, hc1, hc2⟩⟩
    refine q_forW (fun _ => False) (src_range1 (n := n) (ea_cons (ev_var rfl) ea_nil) (by omega)) (fun _ z => z.elim)
      (fun Hs i σ' H' => ∃ (ph : Addr) (kvs : List (Tx × Nat)) (v4 v5 v6 v7 : Option V), σ' = [some (.ref p), some (T [c]), some (.int (n : Int)), some (.ref ph), v4, v5, v6, v7] ∧ Exc (fun _ => False) Hs H' ∧ H' ph = some (.dK (DC kvs)) ∧ KOk rep kvs ∧ wsum (fC rep (n - i)) kvs = cR rep n c) ?_ ?_ ?_ ?_ ?_
    · intro Hs e
      refine ⟨ph, [([c], 1)], none, none, none, none, rfl, Exc.refl _, e _ _ h1, hk0, ?_⟩
      show 1 * cR rep n c + 0 = _
      omega
    · rintro Hs i σ' H' ⟨_, _, _, _, _, _, _, h, _⟩
      exact h
    · rintro Hs i σ' Ha Hb ⟨ph, kvs, v4, v5, v6, v7, h0, h2, h3, h4⟩ e
      exact ⟨ph, kvs, v4, v5, v6, v7, h0, h2.then e, e _ _ h3, h4⟩
    · rintro Hs i x σ' H' e hi ⟨ph, kvs, v4, v5, v6, v7, rfl, h2, h3, h4, h5⟩ rfl
      obtain ⟨m, hm⟩ : ∃ m, n - i = m + 1 := ⟨n - i - 1, by omega⟩
      have hm2 : n - (i + 1) = m := by omega
      rw [hm] at h5
      rw [hm2]
      refine fun pl hpl => ?_
      have e3 : Ex H' (upd H' pl (.dK [])) := Ex.new hpl
      have hpl3 : (upd H' pl (.dK [])) pl = some (.dK (DC [])) := upd_same
      generalize upd H' pl (.dK []) = H3 at e3 hpl3 ⊢
      show tSeq _ _ _ [some (.ref p), some (T [c]), some (.int (n : Int)), some (.ref ph), some (.int (i : Int)), some (.ref pl), v6, v7] H3
      have nph : ph ≠ pl := fun z => by rw [z, hpl] at h3; cases h3
      have eH := e1.trans (e.trans h2.ex)
      have npp : p ≠ pl := fun z => by rw [← z, eH _ _ hR.1] at hpl; cases hpl
      refine q_forW (fun b => b = pl) (src_newLM (f := fun q : Tx × Nat => T q.1) (xs := kvs) (el_listC (ev_var rfl) (e3 _ _ h3))) ?_
        (fun Hs2 k σ2 H2 => ∃ (lv : List (Tx × Nat)) (u6 u7 : Option V), σ2 = [some (.ref p), some (T [c]), some (.int (n : Int)), some (.ref ph), some (.int (i : Int)), some (.ref pl), u6, u7] ∧ Exc (fun b => b = pl) Hs2 H2 ∧ Exc (fun b => b = pl) H3 H2 ∧ H2 pl = some (.dK (DC lv)) ∧ KOk rep lv ∧ wsum (fC rep m) lv = wsum (fC rep (m + 1)) (kvs.take k)) ?_ ?_ ?_ ?_ ?_
      · rintro b rfl
        exact ⟨by rw [hpl3]; exact fun z => (nomatch z), fun z => z⟩
      · intro Hs2 e2
        exact ⟨[], v6, v7, rfl, Exc.refl _, Exc.of e2, e2 _ _ hpl3, ⟨by simp, fun t ht => by simp at ht⟩, rfl⟩
      · rintro Hs2 k σ2 H2 ⟨_, _, _, _, h, _⟩
        exact h
      · rintro Hs2 k σ2 Ha Hb ⟨lv, u6, u7, g0, g1, g2, g3, g4⟩ e2
        exact ⟨lv, u6, u7, g0, g1.then e2, g2.then e2, e2 _ _ g3, g4⟩
      · rintro Hs2 k x σ2 H2 e2 hk ⟨lv, u6, u7, rfl, g1, g2, g3, g4, g5⟩ hx
        obtain ⟨t, y, hkv, rfl⟩ : ∃ t y, kvs[k]? = some (t, y) ∧ x = T t := by
          rw [List.getElem?_map] at hx
          cases hz : kvs[k]? with
          | none => rw [hz] at hx; cases hx
          | some q => rw [hz] at hx; cases hx; exact ⟨q.1, q.2, rfl, rfl⟩
        obtain ⟨d, rfl, hd1, hd2⟩ := h4.ks t (List.mem_map.mpr ⟨_, List.mem_of_getElem? hkv, rfl⟩)
        have hget := getC_at h4.nd hkv
        have him := im_own hR.2 d
        have hR2 : RepAt p rep H2 := ⟨g2 _ _ npp (e3 _ _ (eH _ _ hR.1)), hR.2⟩
        refine s_forW (σ := [some (.ref p), some (T [c]), some (.int (n : Int)), some (.ref ph), some (.int (i : Int)), some (.ref pl), some (T [d]), u7]) (fun b => b = pl) (src_str (a := im rep d) (ev_im (i := 0) rfl hR2 (ev_var (i := 6) rfl) hd1 hd2)) ?_
          (fun Hs3 j σ3 H4 => ∃ (lv : List (Tx × Nat)) (u7 : Option V), σ3 = [some (.ref p), some (T [c]), some (.int (n : Int)), some (.ref ph), some (.int (i : Int)), some (.ref pl), some (T [d]), u7] ∧ Exc (fun b => b = pl) Hs3 H4 ∧ Exc (fun b => b = pl) H2 H4 ∧ H4 pl = some (.dK (DC lv)) ∧ KOk rep lv ∧ wsum (fC rep m) lv = wsum (fC rep (m + 1)) (kvs.take k) + y * (((im rep d).take j).map (cR rep m)).sum) ?_ ?_ ?_ ?_ ?_
        · rintro b rfl
          exact ⟨by rw [g3]; exact fun z => (nomatch z), fun z => z⟩
        · intro Hs3 e4
          exact ⟨lv, u7, rfl, Exc.refl _, Exc.of e4, e4 _ _ g3, g4, by rw [List.take_zero]; exact g5⟩
        · rintro Hs3 j σ3 H4 ⟨_, _, _, h, _⟩
          exact h
        · rintro Hs3 j σ3 Ha Hb ⟨lv, u7, q0, q1, q2, q3, q4⟩ e4
          exact ⟨lv, u7, q0, q1.then e4, q2.then e4, e4 _ _ q3, q4⟩
        · rintro Hs3 j x σ3 H4 e4 hj ⟨lv, u7, rfl, q1, q2, q3, q4, q5⟩ hx
          obtain ⟨a, ha, rfl⟩ : ∃ a, (im rep d)[j]? = some a ∧ x = T [a] := by
            rw [List.getElem?_map] at hx
            cases hz : (im rep d)[j]? with
            | none => rw [hz] at hx; cases hx
            | some a => rw [hz] at hx; cases hx; exact ⟨a, rfl, rfl⟩
          have hao := him.2 a (List.mem_of_getElem? ha)
          refine s_putC (σ := [some (.ref p), some (T [c]), some (.int (n : Int)), some (.ref ph), some (.int (i : Int)), some (.ref pl), some (T [d]), some (T [a])]) (t := [a]) (n := (getC lv [a]).getD 0 + y) (ev_is (ev_op (ev_getC2 (ev_var rfl) (ev_var rfl) ev_c q3) (ev_getC (ev_var rfl) (ev_var rfl) (q2 _ _ nph (g2 _ _ nph (e3 _ _ h3))) hget) rv_I0) ?_) (ev_var rfl) (ev_var rfl) q3 (by have := q4.few hfew; omega) fun H5 e5 => ⟨putC lv [a] _, _, rfl, (q1.then e5).upd (.inl rfl), (q2.then e5).upd (.inl rfl), upd_same, q4.put hao.1 hao.2, ?_⟩
          · cases getC lv [a] <;> simp
          · rw [wsum_put _ _ q4.nd, q5, List.take_add_one, ha, List.map_append, List.sum_append, Nat.mul_add]
            have e0 : fC rep m [a] = (([a] : Tx).map (cR rep m)).sum := by
              show cR rep m a = cR rep m a + 0
              rw [Nat.add_zero]
            rw [e0]
            exact Nat.add_assoc _ _ _
        · rintro Hs3 σ3 H4 e4 ⟨lv, u7, rfl, q1, q2, q3, q4, q5⟩
          refine ⟨lv, _, _, rfl, (g1.then e4 : Exc _ _ _).trans ?_, g2.trans q2, q3, q4, ?_⟩
          · exact q1
          · rw [q5, List.take_length, wsum_take hkv]
            rfl
      · rintro Hs2 σ2 H2 e2 ⟨lv, u6, u7, rfl, g1, g2, g3, g4, g5⟩
        rw [List.take_length] at g5
        refine s_asg (σ := [some (.ref p), some (T [c]), some (.int (n : Int)), some (.ref ph), some (.int (i : Int)), some (.ref pl), u6, u7]) (ev_var rfl) fun H5 e5 => ⟨pl, lv, _, _, _, _, rfl, fun b o nb hb => ?_, e5 _ _ g3, g4, by rw [g5, h5]⟩
        have hb' := h2 _ _ nb hb
        exact e5 _ _ (g2 _ _ (fun z => by rw [z, hpl] at hb'; cases hb') (e3 _ _ hb'))
    · rintro Hs σ' H' e ⟨ph, kvs, v4, v5, v6, v7, rfl, h2, h3, h4, h5⟩
      rw [Nat.sub_self] at h5
      refine s_ret (v := .int ((cR rep n c : Nat) : Int)) (ev_is (ev_cbL (el_valsC (ev_var rfl) h3) fun q H1 hq e => rc_sumM (f := fun q : Tx × Nat => ((q.2 : Nat) : Int)) (sq_of hq)) ?_) (RetV.mono k (e1.trans (e.trans h2.ex)))
      rw [sum_int, ← h5]
      unfold wsum
      congr 3
      refine List.map_congr_left fun q hq => ?_
      obtain ⟨d, hd, _⟩ := h4.ks q.1 (List.mem_map.mpr ⟨q, hq, rfl⟩)
      rw [hd]
      exact (Nat.mul_one _).symm
end
end K22
set_option Elab.async false
set_option linter.all false
set_option maxRecDepth 100000
set_option maxHeartbeats 2000000
set_option exponentiation.threshold 5000
namespace K22
open PySem PySem.Spec PyProof.Rows L2 Evl Wc
section
variable {P : Program} {w : World} {K : PySem.W.Frag} {mg : Str → Option Value} {base : Heap}
theorem ok__law_feed {f : Addr} {fd : FuncData} (F : Fun K "_law_feed" "_law_feed" st__law_feed f fd) (M : Md K mg) : FnOk P w K mg base CX0 1 f fd ["script", "k"] (sp_feed K) := by
  have nd := sc__law_feed.nd
  refine F.ok sc__law_feed (fun vs H Q E h => ?_) (fun cdv A outer s H vs Q E hr h => ?_)
  · obtain ⟨_, _, _, _, rfl, _⟩ := h
    rfl
  · obtain ⟨a, ns, k, e, rfl, hS, hk, he1, he2, hz, kk⟩ := h
    refine ⟨_, (pss_cons (ps_set (i := 2) nd rfl (Or.inl rfl) (pe_op op_add (pe_op op_mulB pe_int (pv 1)) (pe_callB (kcr K (r := rSum) (cr_sum rfl)) (by rfl) M.n_sum boot_sum (pa_cons (pe_slice (ksl K (r := rSlL) sl_list) (pv 0) po_none (po_some pe_int)) pa_nil))))
  (pss_cons (ps_if (pt_cmpR op_lt (pv 1) (pe_callB (kcr K (r := rLenS) call_len_seq) (by rfl) M.n_len boot_len (pa_cons (pv 0) pa_nil)) (nomark _))
  (pss_one (ps_set (i := 2) nd rfl (Or.inl rfl) (pe_ix (kix K (r := L2.rIxL) ix_list) (pv 0) (pv 1) (fun _ _ => rfl))))
  pss_nil)
  (pss_one (ps_ret (pe_lst (pa_cons (pe_callB (call_max2 rfl) (by rfl) M.n_max boot_max (pa_cons pe_int (pa_cons (pe_op op_sub (pv 2) (pe_op op_pow pe_int pe_int)) pa_nil))) (pa_cons (pe_op op_modP (pe_callTy call_int1 (by rfl) M.n_int boot_int (pa_cons (pe_op op_add (pe_op op_mulB (pv 2) pe_int) (pe_op op_mulB pe_int (pv 1))) pa_nil)) (pe_op op_add (pe_op op_pow pe_int pe_int) pe_int)) (pa_cons pe_int pa_nil)))))))), ?_⟩
    have hsum : Ev (tCB (rSum K) (tCons (tSl (rSlL K) (tVar 0) tNoPart (tPart (tC (.int 1)))) tNil)) (start N__law_feed [.ref a, .int (k : Int)]) H (.int (ns.take 1).sum) := by
      refine ev_cbL (el_sl (ev_var rfl) eo_none (eo_some ev_c) hS) fun p H1 hp e1 => rc_sum (ns := ns.take 1) (sq_of ?_)
      have ec : cutV (ns.map V.int) none (some 1) = (ns.take 1).map V.int := by
        rw [List.map_take]
        exact cutV_to _ 1
      rw [hp, ec]
    have hs1 : (ns.take 1).sum.natAbs < 2 ^ e := by
      cases ns with
      | nil => exact Nat.pow_pos (by decide)
      | cons z r =>
        have := hz z List.mem_cons_self
        simpa using this
    refine q_asg (ev_op (ev_op ev_c (ev_var rfl) (rv_I (mulB (a := 20) (b := 20) (by decide) (by simp; omega) (by decide) (by decide) (by decide)))) hsum rv_I0) fun H1 e1 => ?_
    -- what cell is behind the if
    have rest : ∀ (cell : Int) H2, Ex H H2 → cell.natAbs < 2 ^ (e + 72) → ∀ {tz : TS}, (∀ {te : TE}, EvL te [some (.ref a), some (.int (k : Int)), some (.int cell)] H2 [.int (if cell - 10 ^ (18 : Int).toNat > 0 then cell - 10 ^ (18 : Int).toNat else 0), .int ((cell * 19 + 7 * (k : Int)) % (10 ^ (39 : Int).toNat + 23)), .int 0] → tRet te { nx := fun _ H' => Q .non H', rt := Q } [some (.ref a), some (.int (k : Int)), some (.int cell)] H2) := fun cell H2 e2 hc {tz te} h => by
      refine s_retL h fun fa H3 nfa e3 hfa => kk fa H3 (fresh_back e2 nfa) (e2.trans e3) ?_
      have hd : (cell + -(10 : Int) ^ (18 : Int).toNat).natAbs < 2 ^ (e + 72 + 72) := pow_add_small hc (by decide)
      refine ⟨_, _, _, e + 144, hfa, ?_, by omega, by omega, ?_, Int.emod_nonneg _ (by decide), Int.lt_trans (Int.emod_lt_of_pos _ (by decide)) (by decide), Int.le_refl _, Int.le_refl _⟩
      · split
        · omega
        · exact Int.le_refl _
      · split
        · rw [Int.sub_eq_add_neg]
          exact hd
        · exact Nat.pow_pos (by decide)
    have hfin : ∀ (cell : Int) H2, Ex H H2 → cell.natAbs < 2 ^ (e + 72) → EvL _ [some (.ref a), some (.int (k : Int)), some (.int cell)] H2 [.int (if cell - 10 ^ (18 : Int).toNat > 0 then cell - 10 ^ (18 : Int).toNat else 0), .int ((cell * 19 + 7 * (k : Int)) % (10 ^ (39 : Int).toNat + 23)), .int 0] := fun cell H2 e2 hc =>
      el_lst (ea_cons (ev_max2 ev_c (ev_op (ev_var (i := 2) rfl) (ev_op ev_c ev_c (rv_I (C := CPow) (g := fun i j => .int (i ^ j.toNat)) ⟨by decide, by decide, by decide⟩)) (rv_I0 (g := fun i j => .int (i - j))))) (ea_cons (ev_op (ev_cb (ea_cons (ev_op (ev_op (ev_var (i := 2) rfl) ev_c (rv_I (C := CMulB) (g := fun i j => .int (i * j)) (mulB hc (b := 10) (by decide) (by omega) (by decide) (by omega)))) (ev_op ev_c (ev_var (i := 1) rfl) (rv_I (C := CMulB) (g := fun i j => .int (i * j)) (mulB (a := 20) (b := 20) (by decide) (by simp; omega) (by decide) (by decide) (by decide)))) (rv_I0 (g := fun i j => .int (i + j)))) ea_nil) rc_int)
        (ev_op (ev_op ev_c ev_c (rv_I (C := CPow) (g := fun i j => .int (i ^ j.toNat)) ⟨by decide, by decide, by decide⟩)) ev_c (rv_I0 (g := fun i j => .int (i + j)))) (rv_I (C := fun _ j => 0 < j) (g := fun i j => .int (i % j)) (by decide))) (ea_cons ev_c ea_nil))) (by show 3 ≤ 100000; decide)
    refine q_when (et_test (ev_op (ev_var rfl) (ev_len (ev_var rfl) (ex_l e1 hS)) rv_I0)) (fun hb H2 e2 => ?_) (fun hb H2 e2 => ?_)
    · have hlt : k < ns.length := by
        have := of_decide_eq_true hb
        rw [List.length_map] at this
        omega
      refine s_asg (v := .int ns[k]) (ev_op (ev_var rfl) (ev_var rfl) (rv_ixL (ex_l (e1.trans e2) hS) (atI_nat (by rw [List.getElem?_map, List.getElem?_eq_getElem hlt]; rfl)))) fun H3 e3 => ?_
      exact rest ns[k] H3 ((e1.trans e2).trans e3) (Nat.lt_of_lt_of_le (hz _ (List.getElem_mem hlt)) (Nat.pow_le_pow_right (by decide) (by omega))) (tz := tNext) (hfin ns[k] H3 ((e1.trans e2).trans e3) (Nat.lt_of_lt_of_le (hz _ (List.getElem_mem hlt)) (Nat.pow_le_pow_right (by decide) (by omega))))
    · have hc : (977 * (k : Int) + (ns.take 1).sum).natAbs < 2 ^ (e + 72) := by
        rw [Int.add_comm]
        refine pow_add_small hs1 (Nat.le_trans (show (977 * (k : Int)).natAbs ≤ 1000000 by omega) (by decide))
      exact rest _ H2 (e1.trans e2) hc (tz := tNext) (hfin _ H2 (e1.trans e2) hc)
end
end K22
set_option Elab.async false
set_option linter.all false
set_option maxRecDepth 100000
set_option maxHeartbeats 4000000
set_option exponentiation.threshold 5000
namespace K22
open PySem PySem.Spec PyProof.Rows L2 Evl Wc Wt Wg Ws
section
variable {P : Program} {w : World} {K : PySem.W.Frag} {mg : Str → Option Value} {base : Heap}
def sp_image : Sp := fun vs H Q _ => ∃ (fa : Addr) (s hd : Tx), vs = [.ref fa, T s, T hd] ∧ GF fa 13 H ∧ s ≠ [] ∧ s.length ≤ 4 ∧ hd.length ≤ 1 ∧ (∀ c ∈ hd, c ∈ s) ∧ ∀ t H', t ≠ [] → t.length ≤ 12 → (∀ c ∈ t, c ∈ s) → Rf fa 13 H H' → Q (T t) H'
theorem ok__law_image {f : Addr} {fd : FuncData} (F : Fun K "_law_image" "_law_image" st__law_image f fd) (M : Md K mg) (C__law_one : Cal P w K mg base "_law_one" st__law_one 2 ["feed", "things"] (sp_one K)) : FnOk P w K mg base CX0 3 f fd ["feed", "signs", "head"] sp_image := by
  have nd := sc__law_image.nd
  refine F.ok sc__law_image (fun vs H Q E h => ?_) (fun cdv A outer s H vs Q E hr h => ?_)
  · obtain ⟨_, _, _, rfl, _⟩ := h
    rfl
  · obtain ⟨fa, s, hd, rfl, G, hs, hl, hh, hho, k⟩ := h
    refine ⟨_, (pss_cons (ps_set (i := 3) nd rfl (Or.inl rfl) (pe_cl C__law_one hr (pa_cons (pv 0) (pa_cons (pe_lst (pa_cons pe_int (pa_cons pe_int (pa_cons pe_int (pa_cons pe_int (pa_cons pe_int (pa_cons pe_int (pa_cons pe_int pa_nil)))))))) pa_nil))))
  (pss_cons (ps_set (i := 4) nd rfl (Or.inl rfl) (kbm K (pe_bm PySem.F.plainAttrs_str PySem.F.slot_str_join PySem.F.type_str_join (kmt K (r := rJoinT) mt_joinT) (pe_sT []) (pa_cons (pe_lc (own := [("turn", 5)]) rfl nd (pi_range1 (by rfl) M.n_range (pa_cons (pv 3) pa_nil)) (blkOk_by (N := N__law_image) (sc := defScope st__law_image) (by decide +kernel)) (fun _ _ _ _ _ => (pg_name (i := 5) nd rfl (Or.inl rfl))) (fun _ _ _ _ _ => pts_nil) (fun _ _ _ _ _ => (pe_cl C__law_one hr (pa_cons (pv 0) (pa_cons (pv 1) pa_nil))))) pa_nil))))
  (pss_one (ps_ret (pe_ifExp (pt_cmpR op_neT (pv 2) (pe_sT []) (nomark _)) (pe_slice sl_T (pe_op op_addT (pv 2) (pv 4)) po_none (po_some pe_int)) (pv 4)))))), ?_⟩
    refine q_dw (dI_oneL (ns := [1, 1, 2, 2, 3, 4, 12]) (lo := 1) (hi := 12) rfl (fun H => el_lst (ea_cons ev_c (ea_cons ev_c (ea_cons ev_c (ea_cons ev_c (ea_cons ev_c (ea_cons ev_c (ea_cons ev_c ea_nil))))))) (by show 7 ≤ 100000; decide)) (by decide) (by simp) (by decide)) G fun v H1 ⟨many, hv, hm1, hm2⟩ R1 => ?_
    subst hv
    obtain ⟨d, rfl⟩ := Int.eq_ofNat_of_zero_le (show 0 ≤ many by omega)
    have G1 : GF fa 12 H1 := G.go R1 (by omega)
    show tSeq _ _ _ [some (.ref fa), some (T s), some (T hd), some (.int (d : Int)), none, none] H1
    have hw : ∀ Q' : VK, (∀ p H2 acc, H1 p = none → Rf fa (d * 1) H1 H2 → H2 p = some (.lst acc) → acc.length = d → (∀ v ∈ acc, ∃ t, v = T t ∧ (t.length = 1 ∧ ∀ c ∈ t, c ∈ s)) → Q' (.ref p) H2) →
        tLc (iRng1 (tCons (tVar 3) tNil)) (gName 5) tYes (tCall (sp_one K) [] E0 (tCons (tVar 0) (tCons (tVar 1) tNil))) [5] [some (.ref fa), some (T s), some (T hd), some (.int (d : Int)), none, none] H1 Q' := fun Q' k' => by
      refine lcD (fun v => ∃ t, v = T t ∧ (t.length = 1 ∧ ∀ c ∈ t, c ∈ s)) 1 G1.is (src_range1 (n := d) (ea_cons (ev_var rfl) ea_nil) (by omega)) (fun z => z) (by omega) (fun _ => rfl) ?_ k'
      intro i x H2 hi _ R2 Q2 q
      refine wp_oneT (B := 12 - i) rfl (ev_var rfl) (G1.go R2 (by omega)) hs (by omega) (fun c H3 hc R3 => q _ _ ⟨[c], rfl, rfl, fun c' hc' => ?_⟩ R3) (by omega)
      rw [List.mem_singleton.mp hc']
      exact hc
    refine ⟨rfl, hw _ fun p H2 acc hp R2 h2 hal hg => ?_⟩
    obtain ⟨ts, rfl, hts⟩ := texts_of hg
    rw [List.length_map] at hal
    have hsum : (ts.map List.length).sum = ts.length := by
      clear hg h2 hal
      induction ts with
      | nil => rfl
      | cons t ts ih =>
        rw [List.map_cons, List.sum_cons, ih fun x hx => hts x (List.mem_cons_of_mem _ hx), (hts t List.mem_cons_self).1, List.length_cons]
        omega
    refine ⟨[], p, ts, rfl, rfl, .inl (sq_of h2), by simp; omega, ?_⟩
    rw [joinL_nil]
    dsimp only
    have hfl : ts.flatten.length = d := by rw [flat_len, hsum, hal]
    have hfo : ∀ c ∈ ts.flatten, c ∈ s := fun c hc => by
      obtain ⟨t, ht, hct⟩ := List.mem_flatten.mp hc
      exact (hts t ht).2 c hct
    have RR := R1.trans R2
    refine s_ret (σ := [some (.ref fa), some (T s), some (T hd), some (.int (d : Int)), some (T ts.flatten), none]) (H := H2) (v := T (if hd = [] then ts.flatten else (hd ++ ts.flatten).take 12)) (ev_if (b := !decide (hd = [])) (et_test (ev_op (ev_var rfl) ev_c rv_neT)) (fun hb => ?_) (fun hb => ?_)) fun H3 e3 => k _ H3 ?_ ?_ ?_ ((RR.then e3).mono (by omega))
    · have hb : hd ≠ [] := by simpa using hb
      rw [if_neg hb]
      exact ev_is (ev_slT (ev_op (ev_var rfl) (ev_var rfl) (rv_addT (by omega))) eo_none (eo_some (i := ((12 : Nat) : Int)) ev_c) (by rw [List.length_append]; omega)) (by rw [cutT_to])
    · have hb : hd = [] := by simpa using hb
      rw [if_pos hb]
      exact ev_var rfl
    · intro z
      split at z
      · rw [z] at hfl
        simp at hfl
        omega
      · have := congrArg List.length z
        rw [List.length_take, List.length_append] at this
        simp at this
        omega
    · split
      · omega
      · rw [List.length_take]
        omega
    · intro c hc
      split at hc
      · exact hfo c hc
      · rcases List.mem_append.mp (List.mem_of_mem_take hc) with h | h
        · exact hho c h
        · exact hfo c h
end
end K22
set_option Elab.async false
set_option linter.all false
set_option maxRecDepth 100000
set_option maxHeartbeats 4000000
set_option exponentiation.threshold 5000
namespace K22
open PySem PySem.Spec PyProof.Rows L2 Evl Wc Wt Wg Ws
section
variable {P : Program} {w : World} {K : PySem.W.Frag} {mg : Str → Option Value} {base : Heap}
def sp_replacing : Sp := fun vs H Q _ => ∃ (fa : Addr) (many : Nat), vs = [.ref fa, .int (many : Int)] ∧ GF fa 60 H ∧ 1 ≤ many ∧ many ≤ 4 ∧ ∀ q rep H', IsRep rep → (∀ t ∈ rep, t ≠ []) → rep.length = many → H q = none → Rf fa 60 H H' → H' q = some (.tup (rep.map T)) → Q (.ref q) H'
theorem ok__law_replacing {f : Addr} {fd : FuncData} (F : Fun K "_law_replacing" "_law_replacing" st__law_replacing f fd) (M : Md K mg) (C__law_draw : Cal P w K mg base "_law_draw" st__law_draw 1 ["feed", "many"] sp_draw) (C__law_image : Cal P w K mg base "_law_image" st__law_image 3 ["feed", "signs", "head"] sp_image) : FnOk P w K mg base CX0 4 f fd ["feed", "many"] sp_replacing := by
  have nd := sc__law_replacing.nd
  refine F.ok sc__law_replacing (fun vs H Q E h => ?_) (fun cdv A outer s H vs Q E hr h => ?_)
  · obtain ⟨_, _, rfl, _⟩ := h
    rfl
  · obtain ⟨fa, many, rfl, G, hm1, hm2, k⟩ := h
    refine ⟨_, (pss_cons (ps_set (i := 2) nd rfl (Or.inr rfl) (pe_slice sl_T (pe_sT [97, 98, 99, 100]) po_none (po_some (pv 1))))
  (pss_one (ps_ret (pe_callTy (kcr K (r := rTupS) call_tuple_of) (by rfl) M.n_tuple boot_tuple (pa_cons (pe_lc (own := [("sign", 3)]) rfl nd (pi_str (pv 2)) (blkOk_by (N := N__law_replacing) (sc := defScope st__law_replacing) (by decide +kernel)) (fun _ _ _ _ _ => (pg_name (i := 3) nd rfl (Or.inl rfl))) (fun _ _ _ _ _ => pts_nil) (fun _ _ _ _ _ => (pe_cl C__law_image hr (pa_cons (pv 0) (pa_cons (pv 2) (pa_cons (pe_ifExp (pt_cmpR op_gt (pe_cl C__law_draw hr (pa_cons (pv 0) (pa_cons pe_int pa_nil))) pe_int (nomark _)) (pv 3) (pe_sT [])) pa_nil)))))) pa_nil))))), ?_⟩
    have hsl : (AB.take many).length = many := by rw [List.length_take]; show min many 4 = many; omega
    refine q_asg (v := T (AB.take many)) (ev_is (ev_slT (a := AB) ev_c eo_none (eo_some (ev_var (i := 1) rfl)) (by decide)) (by rw [cutT_to])) fun H1 e1 => ?_
    have G1 : GF fa 60 H1 := G.ex e1
    show tRet _ _ [some (.ref fa), some (.int (many : Int)), some (T (AB.take many)), none] H1
    have hw : ∀ Q' : VK, (∀ p H2 acc, H1 p = none → Rf fa (many * 14) H1 H2 → H2 p = some (.lst acc) → acc.length = many → (∀ v ∈ acc, ∃ t, v = T t ∧ (t ≠ [] ∧ t.length ≤ 12 ∧ ∀ c ∈ t, c ∈ AB.take many)) → Q' (.ref p) H2) →
        tLc (iStr (tVar 2)) (gName 3) tYes (tCall sp_image [] E0 (tCons (tVar 0) (tCons (tVar 2) (tCons (tIf (tTest (tOp (rI0 fun i j => .bl (decide (j < i))) (tCall sp_draw [] E0 (tCons (tVar 0) (tCons (tC (.int 3)) tNil))) (tC (.int 0)))) (tVar 3) (tC (T []))) tNil)))) [3] [some (.ref fa), some (.int (many : Int)), some (T (AB.take many)), none] H1 Q' := fun Q' k' => by
      refine lcD (n := many) (own := fun _ => False) (P := fun i v _ => ((AB.take many).map fun c => T [c])[i]? = some v) (fun v => ∃ t, v = T t ∧ (t ≠ [] ∧ t.length ≤ 12 ∧ ∀ c ∈ t, c ∈ AB.take many)) 14 G1.is (by have := src_str (σ := [some (.ref fa), some (.int (many : Int)), some (T (AB.take many)), none]) (H := H1) (tl := tVar 2) (a := AB.take many) (ev_var (i := 2) rfl); rw [hsl] at this; exact this) (fun z => z) (by omega) (fun _ => rfl) ?_ k'
      intro i x H2 hi hx R2 Q2 q
      obtain ⟨c, hc, rfl⟩ : ∃ c, c ∈ AB.take many ∧ x = T [c] := by
        rw [List.getElem?_map] at hx
        cases hz : (AB.take many)[i]? with
        | none => rw [hz] at hx; cases hx
        | some c => rw [hz] at hx; cases hx; exact ⟨c, List.mem_of_getElem? hz, rfl⟩
      have hi14 : i * 14 + 14 ≤ 56 := by omega
      have G2 : GF fa 14 H2 := G1.go R2 (by omega)
      refine ⟨.ref fa, rfl, T (AB.take many), rfl, ?_⟩
      refine (dI_draw (lo := 3) (hi := 3) rfl dI_c : Dw fa [some (.ref fa), some (.int (many : Int)), some (T (AB.take many)), some (T [c])] _ _ _) H2 (G2.mono (by omega)) _ fun v H3 ⟨n, hv, hn1, hn2⟩ R3 => ?_
      subst hv
      have G3 : GF fa 13 H3 := G2.go R3 (by omega)
      refine ⟨n, 0, rfl, rfl, _, rfl, ?_⟩
      have hne : AB.take many ≠ [] := fun z => by rw [z] at hsl; simp at hsl; omega
      have fin : ∀ hd : Tx, hd.length ≤ 1 → (∀ c ∈ hd, c ∈ AB.take many) → sp_image [.ref fa, T (AB.take many), T hd] H3 Q2 E0 := fun hd h1 h2 => ⟨fa, AB.take many, hd, rfl, G3, hne, by omega, h1, h2, fun t H4 t1 t2 t3 R4 => q _ _ ⟨t, rfl, t1, t2, t3⟩ ((R3.trans R4).mono (by omega))⟩
      dsimp only
      by_cases h0 : (0 : Int) < n
      · rw [if_pos (decide_eq_true h0)]
        exact ⟨T [c], rfl, fin [c] (Nat.le_refl _) fun c' hc' => by rw [List.mem_singleton.mp hc']; exact hc⟩
      · rw [if_neg (by rw [decide_eq_false h0]; exact Bool.false_ne_true)]
        exact fin [] (Nat.zero_le _) fun c' hc' => nomatch hc'
    refine hw (fun v H2 => rTupS K [v] H2 Q) fun p H2 acc hp R2 h2 hal hg => ?_
    obtain ⟨ts, rfl, hts⟩ := texts_of hg
    rw [List.length_map] at hal
    refine ⟨p, ts.map T, rfl, .inl ⟨sq_of h2, fun l hl => ?_⟩⟩
    have RR : Rf fa 60 H H2 := ((Rf.pre e1 R2)).mono (by omega)
    refine k l ts _ ⟨fun z => by rw [z] at hal; simp at hal; omega, by omega, fun t ht => (hts t ht).2.1, fun t ht c hc => ?_⟩ (fun t ht => (hts t ht).1) hal (RR.free G.is hl (G.go RR (m' := 0) (by omega)).is) (RR.then (Ex.new hl)) upd_same
    rw [hal]
    exact (mem_AB hm2).mp ((hts t ht).2.2 c hc)
end
end K22
set_option Elab.async false
set_option linter.all false
set_option maxRecDepth 100000
set_option maxHeartbeats 2000000
namespace K22
open PySem PySem.Spec PyProof.Rows L2 Evl Wc Wt Wg Ws
/-! the plain law: a way from a sign down -/
/-- one step down, to the sign at place i of what c is replaced by -/
theorem way_step {rep : List Tx} {n c0 m c pl : Nat} (h1 : ∀ r, r < cR rep (m + 1) c → sgnA rep n c0 (pl + r) = sgnA rep (m + 1) c r) (h2 : pl + cR rep (m + 1) c ≤ cR rep n c0) {i d : Nat} (hd : (im rep c)[i]? = some d) :
    (∀ r, r < cR rep m d → sgnA rep n c0 (pl + (((im rep c).take i).map (cR rep m)).sum + r) = sgnA rep m d r) ∧ pl + (((im rep c).take i).map (cR rep m)).sum + cR rep m d ≤ cR rep n c0 := by
  have hs := take_sum_le (cR rep m) (im rep c) i d hd
  have hc : cR rep (m + 1) c = ((im rep c).map (cR rep m)).sum := rfl
  refine ⟨fun r hr => ?_, by omega⟩
  rw [Nat.add_assoc, h1 _ (by omega)]
  show sgnA rep m (pick (cR rep m) (im rep c) c _).1 (pick (cR rep m) (im rep c) c _).2 = _
  rw [pick_way (cR rep m) (im rep c) c i d r hd hr]
/-- the places at which something comes -/
def someI (rep : List Tx) (m c : Nat) : List Nat := (List.range (im rep c).length).filter fun i => decide (0 < cR rep m ((im rep c).getD i 0))
theorem someI_mem {rep : List Tx} {m c i : Nat} (h : i ∈ someI rep m c) : ∃ d, (im rep c)[i]? = some d ∧ 0 < cR rep m d := by
  obtain ⟨h1, h2⟩ := List.mem_filter.mp h
  have hi := List.mem_range.mp h1
  refine ⟨(im rep c)[i], List.getElem?_eq_getElem hi, ?_⟩
  have := of_decide_eq_true h2
  rw [List.getD_eq_getElem?_getD, List.getElem?_eq_getElem hi] at this
  exact this
theorem sum_zero {l : List Nat} : l.sum = 0 ↔ ∀ x ∈ l, x = 0 := by
  induction l with
  | nil => simp
  | cons a l ih =>
    rw [List.sum_cons]
    constructor
    · intro h x hx
      rcases List.mem_cons.mp hx with rfl | hx
      · omega
      · exact ih.mp (by omega) x hx
    · intro h
      have h1 := h a List.mem_cons_self
      have h2 := ih.mpr fun x hx => h x (List.mem_cons_of_mem _ hx)
      omega
/-- none of them: nothing is left -/
theorem someI_nil {rep : List Tx} {m c : Nat} : someI rep m c = [] ↔ cR rep (m + 1) c = 0 := by
  show _ ↔ ((im rep c).map fun d => cR rep m d).sum = 0
  rw [sum_zero]
  constructor
  · intro h x hx
    obtain ⟨d, hd, rfl⟩ := List.mem_map.mp hx
    obtain ⟨i, hi, e⟩ := List.mem_iff_getElem.mp hd
    refine Classical.byContradiction fun z => ?_
    have : i ∈ someI rep m c := List.mem_filter.mpr ⟨List.mem_range.mpr hi, decide_eq_true (by rw [List.getD_eq_getElem?_getD, List.getElem?_eq_getElem hi, Option.getD_some, e]; omega)⟩
    rw [h] at this
    cases this
  · intro h
    refine List.filter_eq_nil_iff.mpr fun i hi z => ?_
    have := (someI_mem (rep := rep) (m := m) (c := c) (List.mem_filter.mpr ⟨hi, z⟩))
    obtain ⟨d, hd, h0⟩ := this
    have := h _ (List.mem_map.mpr ⟨d, List.mem_of_getElem? hd, rfl⟩)
    omega
end K22
set_option Elab.async false
set_option linter.all false
set_option maxRecDepth 100000
set_option maxHeartbeats 2000000
namespace K22
open PySem PySem.Spec PyProof.Rows L2 Evl Wc Wt Wg Ws _root_.Wd
/-! dict([(text, number) ..]) -/
theorem getC_app_none {kvs l : List (Tx × Nat)} {t : Tx} (h : t ∉ kvs.map (·.1)) : putC kvs t n = kvs ++ [(t, n)] := by
  unfold putC
  rw [getC_none.mpr h]
  rfl
theorem merge_DC : ∀ (kvs l : List (Tx × Nat)), ((l ++ kvs).map (·.1)).Nodup → mergeK (DC l) (DC kvs) = DC (l ++ kvs)
  | [], l, _ => by rw [List.append_nil]; rfl
  | p :: kvs, l, h => by
    have hp : p.1 ∉ l.map (·.1) := fun z => by
      rw [List.map_append, List.nodup_append] at h
      exact h.2.2 _ z p.1 (by simp) rfl
    have e : l ++ p :: kvs = (l ++ [p]) ++ kvs := by simp
    show mergeK (putK (DC l) (kx p.1) (.int (p.2 : Int))) (DC kvs) = _
    rw [put_DC, getC_app_none (l := l) hp, merge_DC kvs _ (by rw [← e]; exact h), e]
theorem pairedC {K : PySem.W.Frag} {H : Hp} : ∀ {ps : List Addr} {kvs : List (Tx × Nat)}, ps.length = kvs.length → (∀ (i : Nat) (p : Addr) (n : Tx × Nat), ps[i]? = some p → kvs[i]? = some n → H p = some (.tup [T n.1, .int (n.2 : Int)])) → Paired (fun p (kv : Key × V) => SqT K H p [kV kv.1, kv.2]) ps (DC kvs)
  | [], [], _, _ => .nil
  | p :: ps, n :: kvs, hl, h => .cons (st_of (h 0 p n rfl rfl)) (pairedC (by simpa using hl) fun i p' n' h1 h2 => h (i + 1) p' n' (by simpa using h1) (by simpa using h2))
/-- the dict of a list of pairs -/
theorem wp_dictC {K : PySem.W.Frag} {H : Hp} {Q : VK} {q : Addr} {ps : List Addr} {kvs : List (Tx × Nat)} (h : H q = some (.lst (ps.map V.ref))) (hl : ps.length = kvs.length) (ha : ∀ (i : Nat) (p : Addr) (n : Tx × Nat), ps[i]? = some p → kvs[i]? = some n → H p = some (.tup [T n.1, .int (n.2 : Int)])) (hn : (kvs.map (·.1)).Nodup)
    (k : ∀ d, H d = none → Q (.ref d) (upd H d (.dK (DC kvs)))) : rDictP K [.ref q] H Q := by
  refine ⟨q, ps, DC kvs, rfl, sq_of h, pairedC hl ha, fun d hd => ?_⟩
  have : mergeK [] (DC kvs) = DC kvs := merge_DC kvs [] hn
  rw [this]
  exact k d hd
end K22
set_option Elab.async false
set_option linter.all false
set_option maxRecDepth 100000
set_option maxHeartbeats 4000000
set_option exponentiation.threshold 5000
namespace K22
open PySem PySem.Spec PyProof.Rows L2 Evl Wc Wt Wg Ws _root_.Wd
abbrev sc_known : Scope := { kind := .function, names := [(".0", .local), ("sign", .local), ("text", .local), ("sum", .globalImplicit), ("known", .cell)], isGenerator := false, isCoroutine := false }
def kvC (rep : List Tx) (t : Nat) : List (Tx × Nat) := (List.range rep.length).map fun i => ([97 + i], cR rep t (97 + i))
theorem kvC_nd (rep : List Tx) (t : Nat) : ((kvC rep t).map (·.1)).Nodup := by
  unfold kvC
  rw [List.map_map]
  exact List.pairwise_map.mpr (List.nodup_range.imp fun h z => h (by simpa using z))
theorem kvC_at {rep : List Tx} {t i : Nat} (h : i < rep.length) : (kvC rep t)[i]? = some ([97 + i], cR rep t (97 + i)) := by
  unfold kvC
  rw [List.getElem?_map, List.getElem?_range h]
  rfl
theorem kvC_get {rep : List Tx} {t c : Nat} (h1 : 97 ≤ c) (h2 : c < 97 + rep.length) : getC (kvC rep t) [c] = some (cR rep t c) := by
  have h := kvC_at (rep := rep) (t := t) (i := c - 97) (by omega)
  rw [show 97 + (c - 97) = c by omega] at h
  exact getC_at (kvC_nd rep t) h
def KnownAt (pf : Addr) (rep : List Tx) (n : Nat) (H : Hp) : Prop := ∃ rs : List Addr, H pf = some (.lst (rs.map V.ref)) ∧ rs.length = n + 1 ∧ ∀ t r, rs[t]? = some r → H r = some (.dK (DC (kvC rep t))) ∧ r ≠ pf
theorem KnownAt.ex {pf : Addr} {rep : List Tx} {n : Nat} {H H1 : Hp} (h : KnownAt pf rep n H) (e : Ex H H1) : KnownAt pf rep n H1 := by
  obtain ⟨rs, h1, h2, h3⟩ := h
  exact ⟨rs, e _ _ h1, h2, fun t r hr => ⟨e _ _ (h3 t r hr).1, (h3 t r hr).2⟩⟩
theorem KnownAt.row {pf : Addr} {rep : List Tx} {n t : Nat} {H : Hp} (h : KnownAt pf rep n H) (ht : t ≤ n) : ∃ (r : Addr) (xs : List V), H pf = some (.lst xs) ∧ xs[t]? = some (.ref r) ∧ xs.length = n + 1 ∧ H r = some (.dK (DC (kvC rep t))) ∧ (t = n → atI xs (-1) = some (.ref r)) := by
  obtain ⟨rs, h1, h2, h3⟩ := h
  obtain ⟨r, hr⟩ : ∃ r, rs[t]? = some r := ⟨_, List.getElem?_eq_getElem (by omega)⟩
  refine ⟨r, rs.map V.ref, h1, by rw [List.getElem?_map, hr]; rfl, by rw [List.length_map]; exact h2, (h3 t _ hr).1, fun e => ?_⟩
  subst e
  have hl : rs.getLast? = some r := by
    rw [List.getLast?_eq_getElem?, h2]
    exact hr
  obtain ⟨l, rfl⟩ : ∃ l, rs = l ++ [r] := List.getLast?_eq_some_iff.mp hl
  rw [List.map_append]
  exact atI_last _ _
section
variable {K : PySem.W.Frag} {σ : L2.St} {H : Hp}
/-- dict([(sign, 1) for sign in 'abcd'[:len(rep)]]) -/
theorem wp_first {p : Addr} {rep : List Tx} {Q : VK} {j : Nat} (h0 : σ[0]? = some (some (.ref p))) (hR : RepAt p rep H) (hw : ∀ x, wipe ((wipe σ [j]).set j (some x)) [j] = wipe σ [j]) (hj : ∀ x, ((wipe σ [j]).set j (some x))[j]? = some (some x)) (k : ∀ d H1, H d = none → Ex H H1 → H1 d = some (.dK (DC (kvC rep 0))) → Q (.ref d) H1) :
    tCB (rDictP K) (tCons (tLc (iStr (tSl rSlT (tC (T AB)) tNoPart (tPart (tCB (rLenS K) (tCons (tVar 0) tNil))))) (gName j) tYes (tTup (tCons (tVar j) (tCons (tC (.int 1)) tNil))) [j]) tNil) σ H Q := by
  have hfew := hR.2.few
  have hsl : (AB.take rep.length).length = rep.length := by rw [List.length_take]; show min rep.length 4 = rep.length; omega
  have key : tLc (iStr (tSl rSlT (tC (T AB)) tNoPart (tPart (tCB (rLenS K) (tCons (tVar 0) tNil))))) (gName j) tYes (tTup (tCons (tVar j) (tCons (tC (.int 1)) tNil))) [j] σ H (fun v H1 => rDictP K [v] H1 Q) := by
    refine lcN (n := rep.length) (P := fun i v _ => ((AB.take rep.length).map fun c => T [c])[i]? = some v) (own := fun _ => False) (fun t => .tup [T [97 + t], .int 1]) (by have := src_str (σ := σ) (H := H) (a := AB.take rep.length) (ev_own (K := K) h0 hR.1); rw [hsl] at this; exact this) (by omega) hw (fun t x H1 ht hx e1 Q' q' => ?_) fun q H2 ps hq e2 h2 hpl hn hnq => ?_
    · obtain ⟨c, hc, rfl⟩ : ∃ c, AB[t]? = some c ∧ x = T [c] := by
        rw [List.getElem?_map, List.getElem?_take_of_lt ht] at hx
        cases hz : AB[t]? with
        | none => rw [hz] at hx; cases hx
        | some c => rw [hz] at hx; cases hx; exact ⟨c, rfl, rfl⟩
      have := AB_at hc
      subst this
      exact ⟨_, hj _, by show 2 ≤ sizeLine; decide, fun p hp => q' p _ hp (Ex.new hp) upd_same⟩
    · refine wp_dictC h2 (by rw [hpl]; unfold kvC; simp) (fun i p n h3 h4 => ?_) (kvC_nd rep 0) fun d hd => k d _ (fresh_back e2 hd) (e2.trans (Ex.new hd)) upd_same
      have hi : i < rep.length := by
        have := (List.getElem?_eq_some_iff.mp h3).1
        omega
      rw [kvC_at hi] at h4
      cases h4
      exact hn.at_ i p h3
  exact key
end
end K22
set_option Elab.async false
set_option linter.all false
set_option maxRecDepth 100000
set_option maxHeartbeats 4000000
set_option exponentiation.threshold 5000
namespace K22
open PySem PySem.Spec PyProof.Rows L2 Evl Wc Wt Wg Ws _root_.Wd
section
variable {P : Program} {w : World} {K : PySem.W.Frag} {mg : Str → Option Value} {base : Heap}
def sp_known : Sp := fun vs H Q _ => ∃ (p : Addr) (rep : List Tx) (n : Nat), vs = [.ref p, .int (n : Int)] ∧ RepAt p rep H ∧ n ≤ 60 ∧ ∀ pf H', H pf = none → Ex H H' → KnownAt pf rep n H' → Q (.ref pf) H'
theorem ok__law_known {f : Addr} {fd : FuncData} (F : Fun K "_law_known" "_law_known" st__law_known f fd) (M : Md K mg) : FnOk P w K mg base CX0 1 f fd ["replacing", "times"] sp_known := by
  have nd := sc__law_known.nd
  refine F.ok sc__law_known (fun vs H Q E h => ?_) (fun cdv A outer s H vs Q E hr h => ?_)
  · obtain ⟨_, _, _, rfl, _⟩ := h
    rfl
  · obtain ⟨p, rep, n, rfl, hR, hn, k⟩ := h
    refine ⟨_, (pss_cons (ps_set (i := 2) nd rfl (Or.inr rfl) (pe_lst (pa_cons (pe_callTy (kDictP (K := K)) (by rfl) M.n_dict boot_dict (pa_cons (pe_lc (own := [("sign", 3)]) rfl nd (pi_str (pe_slice sl_T (pe_sT [97, 98, 99, 100]) po_none (po_some (pe_callB (kcr K (r := rLenS) call_len_seq) (by rfl) M.n_len boot_len (pa_cons (pv 0) pa_nil))))) (blkOk_by (N := N__law_known) (sc := defScope st__law_known) (by decide +kernel)) (fun _ _ _ _ _ => (pg_name (i := 3) nd rfl (Or.inl rfl))) (fun _ _ _ _ _ => pts_nil) (fun _ _ _ _ _ => (pe_tup (pa_cons (pv 3) (pa_cons pe_int pa_nil))))) pa_nil)) pa_nil)))
  (pss_cons (ps_for PassesOwn.never rfl (pi_range1 (by rfl) M.n_range (pa_cons (pv 1) pa_nil)) (pg_name (i := 4) nd rfl (Or.inl rfl))
  (pss_one (ps_expr (kbm K (pe_bm PySem.F.plainAttrs_list PySem.F.slot_list_append PySem.F.type_list_append mt_append (pv 2) (pa_cons (pe_callTy (kDictP (K := K)) (by rfl) M.n_dict boot_dict (pa_cons (pe_lc (own := [("sign", 3), ("text", 6)]) rfl nd (kizm (K := K) (pi_zipM (by rfl) M.n_zip (pa_cons (pe_sT [97, 98, 99, 100]) (pa_cons (pv 0) pa_nil)))) (blkOk_by (N := N__law_known) (sc := defScope st__law_known) (by decide +kernel)) (fun _ _ _ _ _ => (kgt K (n := 2) (pg_tup rfl (pgs_cons (pg_name (i := 3) nd rfl (Or.inl rfl)) (pgs_cons (pg_name (i := 6) nd rfl (Or.inl rfl)) pgs_nil))))) (fun _ _ _ _ _ => pts_nil) (fun _ _ _ _ _ => (pe_tup (pa_cons (pv 3) (pa_cons (pe_callB (kcr K (r := rSum) (cr_sum rfl)) (by rfl) M.n_sum boot_sum (pa_cons (pe_lc (own := [("to", 5)]) rfl nd (pi_str (pv 6)) (blkOk_by (N := N__law_known) (sc := sc_known) (by decide +kernel)) (fun _ _ _ _ _ => (pg_name (i := 5) nd rfl (Or.inl rfl))) (fun _ _ _ _ _ => pts_nil) (fun _ _ _ _ _ => (pe_dget (hu1 hr.units) (pe_ix (kix K (r := L2.rIxL) ix_list) (pv 2) (pe_un un_neg pe_int) (fun _ _ => rfl)) (pv 5) (fun _ _ => rfl)))) pa_nil)) pa_nil))))) pa_nil)) pa_nil))))))
  (pss_one (ps_ret (pv 2))))), ?_⟩
    have hfew := hR.2.few
    refine wp_first (σ := start N__law_known [.ref p, .int (n : Int)]) (j := 3) rfl hR (fun _ => rfl) (fun _ => rfl) fun r0 H1 hr0 e1 h1 => ⟨by show 1 ≤ sizeLine; decide, fun pf hpf => ?_⟩
    have hpf0 : H pf = none := fresh_back e1 hpf
    have e2 : Ex H1 (upd H1 pf (.lst [.ref r0])) := Ex.new hpf
    have nr0 : r0 ≠ pf := fun z => by rw [z, hpf] at h1; cases h1
    have hL0 : KnownAt pf rep 0 (upd H1 pf (.lst [.ref r0])) := by
      refine ⟨[r0], upd_same, rfl, fun t r hr => ?_⟩
      cases t with
      | zero =>
        cases hr
        exact ⟨by rw [upd_ne nr0]; exact h1, nr0⟩
      | succ t => simp at hr
    generalize upd H1 pf (.lst [.ref r0]) = H2 at e2 hL0 ⊢
    have e12 := e1.trans e2
    have hpf2 : H2 pf ≠ none := by
      obtain ⟨rs, g1, _⟩ := hL0
      rw [g1]
      exact fun z => nomatch z
    show tSeq _ _ _ [some (.ref p), some (.int (n : Int)), some (.ref pf), none, none, none, none] H2
    refine q_forW (fun c => c = pf) (src_range1 (n := n) (ea_cons (ev_var rfl) ea_nil) (by omega)) ?_
      (fun Hs i σ' H' => ∃ (v4 : Option V), σ' = [some (.ref p), some (.int (n : Int)), some (.ref pf), none, v4, none, none] ∧ Exc (fun c => c = pf) Hs H' ∧ Exc (fun c => c = pf) H2 H' ∧ KnownAt pf rep i H') ?_ ?_ ?_ ?_ ?_
    · rintro c rfl
      exact ⟨hpf2, fun z => z⟩
    · intro Hs e
      exact ⟨none, rfl, Exc.refl _, Exc.of e, hL0.ex e⟩
    · rintro Hs i σ' H' ⟨_, _, h, _⟩
      exact h
    · rintro Hs i σ' Ha Hb ⟨v4, h0, h2, h3, h4⟩ e
      exact ⟨v4, h0, h2.then e, h3.then e, h4.ex e⟩
    · rintro Hs i x σ' H' e hi ⟨v4, rfl, h2, h3, h4⟩ rfl
      have hR' : RepAt p rep H' := ⟨h3 _ _ (fun z => by rw [← z, hR.1] at hpf0; cases hpf0) (e12 _ _ hR.1), hR.2⟩
      obtain ⟨rl, xs, hx, _, hxl, hrl, hlast⟩ := h4.row (Nat.le_refl i)
      have key : ∀ Q' : VK, (∀ d H4, H' d = none → Ex H' H4 → H4 d = some (.dK (DC (kvC rep (i + 1)))) → Q' (.ref d) H4) → tCB (rDictP K) (tCons (tLc (iZipM K (tCons (tC (T AB)) (tCons (tVar 0) tNil))) (gTup K 2 (gCons (gName 3) (gCons (gName 6) gNil))) tYes (tTup (tCons (tVar 3) (tCons (tCB (rSum K) (tCons (tLc (iStr (tVar 6)) (gName 5) tYes (tDGet (tOp (L2.rIxL K) (tVar 2) (tUn (rU fun i => .int (-i)) (tC (.int 1)))) (tVar 5)) [5]) tNil)) tNil))) [3, 6]) tNil) [some (.ref p), some (.int (n : Int)), some (.ref pf), none, some (.int (i : Int)), none, none] H' Q' := by
        intro Q0 k0
        show tLc (iZipM K (tCons (tC (T AB)) (tCons (tVar 0) tNil))) (gTup K 2 (gCons (gName 3) (gCons (gName 6) gNil))) tYes (tTup (tCons (tVar 3) (tCons (tCB (rSum K) (tCons (tLc (iStr (tVar 6)) (gName 5) tYes (tDGet (tOp (L2.rIxL K) (tVar 2) (tUn (rU fun i => .int (-i)) (tC (.int 1)))) (tVar 5)) [5]) tNil)) tNil))) [3, 6] [some (.ref p), some (.int (n : Int)), some (.ref pf), none, some (.int (i : Int)), none, none] H' (fun v H1 => rDictP K [v] H1 Q0)
        refine lcO (t := tYes) (vs := [3, 6]) (σ := [some (.ref p), some (.int (n : Int)), some (.ref pf), none, some (.int (i : Int)), none, none]) (n := min AB.length (rep.map T).length) (p := fun _ => true) (List.range rep.length) (fun a => [some (.ref p), some (.int (n : Int)), some (.ref pf), some (T [97 + a]), some (.int (i : Int)), none, some (T (rep.getD a []))]) (fun a => .tup [T [97 + a], .int ((cR rep (i + 1) (97 + a) : Nat) : Int)]) (fun a x H1 => a < rep.length ∧ ∃ q, x = .ref q ∧ H1 q = some (.tup [T [97 + a], T (rep.getD a [])]))
          (src_zipM (a := AB) (ys := rep.map T) ev_c (ev_var (i := 0) rfl) (st_of hR'.1)) (by have : AB.length = 4 := rfl; omega) (by rw [List.length_range, List.length_map]; show _ = min 4 _; omega) ?_ ?_ (fun _ => rfl) (fun a H3 e3 ha H4 e4 Q4 q4 => q4 H4 (Ex.refl _)) ?_ fun q H3 ps hq e3 h5 hps => ?_
        · rintro j x Ha ea ⟨q, c, yv, rfl, hc, hyv, hq⟩
          obtain ⟨wd, hw1, rfl⟩ : ∃ wd, rep[j]? = some wd ∧ yv = T wd := by
            rw [List.getElem?_map] at hyv
            cases hz : rep[j]? with
            | none => rw [hz] at hyv; cases hyv
            | some wd => rw [hz] at hyv; cases hyv; exact ⟨wd, rfl, rfl⟩
          have hcj := AB_at hc
          subst hcj
          have hjl := (List.getElem?_eq_some_iff.mp hw1).1
          exact ⟨j, List.getElem?_range hjl, hjl, q, rfl, by rw [hq, List.getD_eq_getElem?_getD, hw1]; rfl⟩
        · rintro a x Ha Q' ⟨ha, q, rfl, hq⟩ k'
          exact ⟨q, _, rfl, st_of hq, rfl, _, _, rfl, _, [], rfl, rfl, k'⟩
        · intro a H3 e3 ha _ Q' q'
          have hal := List.mem_range.mp ha
          have hga : rep.getD a [] = im rep (97 + a) := by
            unfold im
            rw [show 97 + a - 97 = a by omega]
          have him := im_own hR.2 (97 + a)
          have hu : EvU (tTup (tCons (tVar 3) (tCons (tCB (rSum K) (tCons (tLc (iStr (tVar 6)) (gName 5) tYes (tDGet (tOp (L2.rIxL K) (tVar 2) (tUn (rU fun i => .int (-i)) (tC (.int 1)))) (tVar 5)) [5]) tNil)) tNil))) [some (.ref p), some (.int (n : Int)), some (.ref pf), some (T [97 + a]), some (.int (i : Int)), none, some (T (rep.getD a []))] H3 [T [97 + a], .int ((cR rep (i + 1) (97 + a) : Nat) : Int)] := by
            refine eu_tup (ea_cons (ev_var rfl) (ea_cons (ev_is (ev_cbL (el_lcM (j := 5) (vs := [5]) (f := fun c => T [c]) (g := fun c => V.int ((cR rep i c : Nat) : Int)) (im rep (97 + a)) (src_str (ev_var (by rw [hga]; rfl))) (by omega) (fun _ => rfl) fun c H5 e5 hc => ev_getC (ev_op (ev_var rfl) (ev_un ev_c ru_neg) (rv_ixL (sq_of ((e3.trans e5) _ _ hx)) (hlast rfl))) (ev_var rfl) ((e3.trans e5) _ _ hrl) (kvC_get (him.2 c hc).1 (him.2 c hc).2)) fun q H5 hq e5 => rc_sumM (f := fun c => ((cR rep i c : Nat) : Int)) (sq_of hq)) (by rw [sum_int]; rfl)) ea_nil)) (by show 2 ≤ 100000; decide)
          exact hu H3 (Ex.refl _) Q' q'
        · rw [List.filter_eq_self.mpr fun _ _ => rfl] at hps
          have hpl := hps.len
          rw [List.length_range] at hpl
          refine wp_dictC h5 (by rw [hpl]; unfold kvC; simp) (fun j b m hb hm => ?_) (kvC_nd rep (i + 1)) fun d hd => ?_
          · obtain ⟨a, ha, hr, _⟩ := all2_at hps hb
            have hj := (List.getElem?_eq_some_iff.mp ha).1
            rw [List.length_range] at hj
            rw [List.getElem?_range hj] at ha
            cases ha
            rw [kvC_at hj] at hm
            cases hm
            exact hr
          · exact k0 d _ (fresh_back e3 hd) (e3.trans (Ex.new hd)) upd_same
      refine ⟨.ref pf, rfl, Or.inl ⟨rfl, xs, sq_of hx⟩, key _ fun d H4 hd e34 h6 => ?_⟩
      have nd : d ≠ pf := fun z => by rw [z, hx] at hd; cases hd
      obtain ⟨rs, g1, g2, g3⟩ := h4
      have hxs : xs = rs.map V.ref := by
        rw [hx] at g1
        cases g1
        rfl
      subst hxs
      refine ⟨pf, _, .ref d, rfl, rfl, e34 _ _ hx, sz_lt (by rw [List.length_map]; omega), some (.int (i : Int)), rfl, (h2.then e34).upd (.inl rfl), (h3.then e34).upd (.inl rfl), rs ++ [d], by rw [upd_same, List.map_append]; rfl, by rw [List.length_append, g2]; rfl, fun t r hr => ?_⟩
      by_cases ht : t < rs.length
      · rw [List.getElem?_append_left ht] at hr
        obtain ⟨g4, g5⟩ := g3 t r hr
        exact ⟨by rw [upd_ne g5]; exact e34 _ _ g4, g5⟩
      · have ht2 : t = rs.length := by
          have := (List.getElem?_eq_some_iff.mp hr).1
          rw [List.length_append] at this
          simp at this
          omega
        subst ht2
        rw [List.getElem?_append_right (Nat.le_refl _), Nat.sub_self] at hr
        cases hr
        exact ⟨by rw [upd_ne nd, g2]; exact h6, nd⟩
    · rintro Hs σ' H' e ⟨v4, rfl, h2, h3, h4⟩
      refine s_ret (ev_var rfl) fun H3 e3 => k pf H3 hpf0 (fun b o hb => e3 _ _ (h3 _ _ (fun z => by rw [z, hpf0] at hb; cases hb) (e12 _ _ hb))) (h4.ex e3)
end
end K22
set_option Elab.async false
set_option linter.all false
set_option maxRecDepth 100000
set_option maxHeartbeats 4000000
set_option exponentiation.threshold 5000
namespace K22
open PySem PySem.Spec PyProof.Rows L2 Evl Wc Wt Wg Ws _root_.Wd
theorem KnownAt.rf {pf fa : Addr} {rep : List Tx} {n B m : Nat} {H H1 : Hp} (h : KnownAt pf rep n H) (G : GF fa B H) (R : Rf fa m H H1) : KnownAt pf rep n H1 := by
  obtain ⟨rs, h1, h2, h3⟩ := h
  obtain ⟨_, _, a, b, c, e, hf, _⟩ := G
  have n1 : pf ≠ fa := fun z => by
    rw [z, hf] at h1
    cases rs with
    | nil => simp at h2
    | cons r rs => simp at h1
  refine ⟨rs, R.at_ h1 n1, h2, fun t r hr => ?_⟩
  obtain ⟨g1, g2⟩ := h3 t r hr
  exact ⟨R.at_ g1 (fun z => by rw [z, hf] at g1; cases g1), g2⟩
section
variable {K : PySem.W.Frag} {σ : L2.St} {H : Hp} {ta tb te : TE}
theorem et_eqNilN {p : Addr} {c : List Nat} (h : H p = some (.lst (numV c))) (hv : Ev ta σ H (.ref p)) : EvT (tTest (tOp (rEqD K) ta (tLst tNil))) σ H (decide (c = [])) := fun H2 e2 Q q => by
  refine hv H2 e2 _ fun H3 e3 => ⟨Nat.zero_le _, fun r hr => ?_⟩
  have e4 := Ex.new (o := HO.lst []) hr
  refine ⟨.list (c.map fun (n : Nat) => PyData.int (n : Int)), .list [], dp_list (sq_of (((e2.trans e3).trans e4) _ _ h)) (fun _ _ => .int _), .lst (sq_of upd_same) .nil, shaped_list (m := 0) (fun _ _ => rfl) (fun _ _ => Nat.le_refl _) (by decide), rfl, decide (c = []), ?_, q _ (e3.trans e4)⟩
  cases c <;> rfl
theorem s_parVV {D : Ends} {i j : Nat} {v w : V} (ha : Ev ta σ H v) (hb : Ev tb σ H w) (k : ∀ H1, Ex H H1 → D.nx ((σ.set i (some v)).set j (some w)) H1) : tPar i j (tCons ta (tCons tb tNil)) D σ H := ha H (Ex.refl _) _ fun H1 e1 => hb H1 e1 _ fun H2 e2 => ⟨v, w, rfl, k H2 (e1.trans e2)⟩
/-- one of the first, the last, and a drawn one of some numbers -/
theorem wp_some {fa pl : Addr} {S : List Nat} {j B : Nat} {Q : VK} (h0 : σ[0]? = some (some (.ref fa))) (hj : σ[j]? = some (some (.ref pl))) (hp : H pl = some (.lst (numV S))) (hne : S ≠ []) (hl : S.length ≤ 16777216) (G : GF fa B H) (hB : 2 ≤ B) (hpf : pl ≠ fa) (k : ∀ (a : Nat) H2, a ∈ S → Rf fa 2 H H2 → Q (.int (a : Int)) H2) :
    tCall (sp_one K) [] E0 (tCons (tVar 0) (tCons (tLst (tCons (tOp (L2.rIxL K) (tVar j) (tC (.int 0))) (tCons (tOp (L2.rIxL K) (tVar j) (tUn (rU fun i => .int (-i)) (tC (.int 1)))) (tCons (tCall (sp_one K) [] E0 (tCons (tVar 0) (tCons (tVar j) tNil))) tNil)))) tNil)) σ H Q := by
  obtain ⟨a, ha, ham⟩ : ∃ a, atI (numV S) 0 = some (.int ((a : Nat) : Int)) ∧ a ∈ S := by
    cases S with
    | nil => exact absurd rfl hne
    | cons a l => exact ⟨a, atI_nat (j := 0) rfl, List.mem_cons_self⟩
  obtain ⟨b, hb, hbm⟩ : ∃ b, atI (numV S) (-1) = some (.int ((b : Nat) : Int)) ∧ b ∈ S := by
    obtain ⟨l, b, rfl⟩ : ∃ l b, S = l ++ [b] := ⟨S.dropLast, S.getLast hne, (List.dropLast_concat_getLast hne).symm⟩
    refine ⟨b, ?_, by simp⟩
    unfold numV
    rw [List.map_append]
    exact atI_last _ _
  refine ⟨.ref fa, h0, (ev_op (ev_var hj) ev_c (rv_ixL (sq_of hp) ha) : Ev _ σ H _) H (Ex.refl _) _ fun H1 e1 => (ev_op (ev_var hj) (ev_un ev_c ru_neg) (rv_ixL (sq_of (e1 _ _ hp)) hb) : Ev _ σ H1 _) H1 (Ex.refl _) _ fun H2 e2 => ?_⟩
  have e12 := e1.trans e2
  refine wp_oneS (B := 1) h0 (ev_var hj) (.inl (sq_of (e12 _ _ hp))) hpf ((G.ex e12).mono (by omega)) (by unfold numV; simpa using hne) (by rw [numV_len]; exact hl) (fun v H3 hv R3 => ?_)
  refine ⟨by show 3 ≤ sizeLine; decide, fun q hq => ⟨fa, ?_, .inr ⟨q, _, rfl, .inl (sq_of upd_same), ?_, by simp, by show 3 ≤ 16777216; decide, fun u H4 hu R4 => ?_⟩⟩⟩
  · exact (((G.ex e12).go R3 (m' := 1) (by omega)).ex (Ex.new hq))
  · exact fun z => ((G.ex e12).go R3 (m' := 0) (by omega)).is (by rw [← z]; exact hq)
  · have RR : Rf fa 2 H H4 := ((Rf.pre e12 (R3.then (Ex.new hq))).trans R4)
    obtain ⟨c, hc, rfl⟩ : ∃ c, c ∈ S ∧ v = .int ((c : Nat) : Int) := by
      obtain ⟨c, h1, h2⟩ := List.mem_map.mp hv
      exact ⟨c, h1, h2.symm⟩
    simp only [List.mem_cons, List.not_mem_nil, or_false] at hu
    rcases hu with rfl | rfl | rfl
    · exact k a H4 ham RR
    · exact k b H4 hbm RR
    · exact k c H4 hc RR
end
section
variable {P : Program} {w : World} {K : PySem.W.Frag} {mg : Str → Option Value} {base : Heap}
def sp_way : Sp := fun vs H Q _ => ∃ (fa p pf : Addr) (rep : List Tx) (c n : Nat), vs = [.ref fa, .ref p, T [c], .int (n : Int), .ref pf] ∧ GF fa 130 H ∧ RepAt p rep H ∧ 97 ≤ c ∧ c < 97 + rep.length ∧ n ≤ 60 ∧ KnownAt pf rep n H ∧
  ∀ v H', Rf fa 130 H H' → ((v = .non ∧ cR rep n c = 0) ∨ ∃ (q : Addr) (pl d : Nat), v = .ref q ∧ H' q = some (.tup [.int (pl : Int), T [d]]) ∧ pl < cR rep n c ∧ sgnA rep n c pl = d) → Q v H'
theorem ok__law_way_down {f : Addr} {fd : FuncData} (F : Fun K "_law_way_down" "_law_way_down" st__law_way_down f fd) (M : Md K mg) (C__law_one : Cal P w K mg base "_law_one" st__law_one 2 ["feed", "things"] (sp_one K)) : FnOk P w K mg base CX0 3 f fd ["feed", "replacing", "sign", "times", "known"] sp_way := by
  have nd := sc__law_way_down.nd
  refine F.ok sc__law_way_down (fun vs H Q E h => ?_) (fun cdv A outer s H vs Q E hr h => ?_)
  · obtain ⟨_, _, _, _, _, _, rfl, _⟩ := h
    rfl
  · obtain ⟨fa, p, pf, rep, c, n, rfl, G, hR, hc1, hc2, hn, hKn, k⟩ := h
    refine ⟨_, (pss_cons (ps_set (i := 5) nd rfl (Or.inl rfl) pe_int)
  (pss_cons (ps_for PassesOwn.never rfl (pi_range3 (by rfl) M.n_range (pa_cons (pe_op op_sub (pv 3) pe_int) (pa_cons (pe_un un_neg pe_int) (pa_cons (pe_un un_neg pe_int) pa_nil)))) (pg_name (i := 6) nd rfl (Or.inr rfl))
  (pss_cons (ps_set (i := 7) nd rfl (Or.inl rfl) (pe_ix (kix K (r := L2.rIxT) ix_tup) (pv 1) (kbm K (pe_bm PySem.F.plainAttrs_str PySem.F.slot_str_index PySem.F.type_str_index mt_indexA (pe_sT [97, 98, 99, 100]) (pa_cons (pv 2) pa_nil))) (fun _ _ => rfl)))
  (pss_cons (ps_set (i := 8) nd rfl (Or.inr rfl) (pe_lc (own := [("other", 9)]) rfl nd (pi_str (pv 7)) (blkOk_by (N := N__law_way_down) (sc := defScope st__law_way_down) (by decide +kernel)) (fun _ _ _ _ _ => (pg_name (i := 9) nd rfl (Or.inl rfl))) (fun _ _ _ _ _ => pts_nil) (fun _ _ _ _ _ => (pe_dget (hu1 hr.units) (pe_ix (kix K (r := L2.rIxL) ix_list) (pv 4) (pv 6) (fun _ _ => rfl)) (pv 9) (fun _ _ => rfl)))))
  (pss_cons (ps_setLc (i := 10) (own := [("at", 11)]) rfl nd rfl rfl (sw_true rfl rfl rfl (by decide +kernel)) (pi_range1 (by rfl) M.n_range (pa_cons (pe_callB cr_lenT (by rfl) M.n_len boot_len (pa_cons (pv 7) pa_nil)) pa_nil)) (blkOk_by (N := N__law_way_down) (sc := defScope st__law_way_down) (by decide +kernel)) (fun _ _ _ _ _ => (pg_name (i := 11) nd rfl (Or.inl rfl))) (fun _ _ _ _ _ => (pts_one (pt_cmpR op_gt (pe_ix (kix K (r := L2.rIxL) ix_list) (pv 8) (pv 11) (fun _ _ => rfl)) pe_int (nomark _)))) (fun _ _ _ _ _ => (pv 11)))
  (pss_cons (ps_if (pt_cmpR (kop K (r := rEqD) (op_eqD hr.units)) (pv 10) (pe_lst pa_nil) (nomark _))
  (pss_one (ps_ret pe_non))
  pss_nil)
  (pss_cons (ps_set (i := 11) nd rfl (Or.inl rfl) (pe_cl C__law_one hr (pa_cons (pv 0) (pa_cons (pe_lst (pa_cons (pe_ix (kix K (r := L2.rIxL) ix_list) (pv 10) pe_int (fun _ _ => rfl)) (pa_cons (pe_ix (kix K (r := L2.rIxL) ix_list) (pv 10) (pe_un un_neg pe_int) (fun _ _ => rfl)) (pa_cons (pe_cl C__law_one hr (pa_cons (pv 0) (pa_cons (pv 10) pa_nil))) pa_nil)))) pa_nil))))
  (pss_one (ps_par (i := 5) (j := 2) rfl nd rfl rfl (by decide) rfl rfl (pa_cons (pe_op op_add (pv 5) (pe_callB (kcr K (r := rSum) (cr_sum rfl)) (by rfl) M.n_sum boot_sum (pa_cons (pe_slice (ksl K (r := rSlL) sl_list) (pv 8) po_none (po_some (pv 11))) pa_nil))) (pa_cons (pe_ix ix_T (pv 7) (pv 11) (fun _ _ => rfl)) pa_nil)) (by rfl)))))))))
  (pss_one (ps_ret (pe_tup (pa_cons (pv 5) (pa_cons (pv 2) pa_nil))))))), ?_⟩
    have hfew := hR.2.few
    have hpfa : p ≠ fa := G.ofTup hR.1
    show tSeq _ _ _ [some (.ref fa), some (.ref p), some (T [c]), some (.int (n : Int)), some (.ref pf), some (.int 0), none, none, none, none, none, none] H
    refine q_forW (fun b => b = fa) (src_down (n := n) (ea_cons (ev_op (ev_var rfl) ev_c rv_I0) (ea_cons (ev_un ev_c ru_neg) (ea_cons (ev_un ev_c ru_neg) ea_nil))) (by omega)) ?_
      (fun Hs i σ' H' => ∃ (d pl : Nat) (v6 v7 v8 v9 v10 v11 : Option V), σ' = [some (.ref fa), some (.ref p), some (T [d]), some (.int (n : Int)), some (.ref pf), some (.int (pl : Int)), v6, v7, v8, v9, v10, v11] ∧ Exc (fun b => b = fa) Hs H' ∧ Rf fa (2 * i) H H' ∧ 97 ≤ d ∧ d < 97 + rep.length ∧ (∀ r, r < cR rep (n - i) d → sgnA rep n c (pl + r) = sgnA rep (n - i) d r) ∧ pl + cR rep (n - i) d ≤ cR rep n c ∧ (0 < cR rep (n - i) d ∨ (d = c ∧ i = 0))) ?_ ?_ ?_ ?_ ?_
    · rintro b rfl
      exact ⟨G.is, fun z => z⟩
    · intro Hs e
      exact ⟨c, 0, none, none, none, none, none, none, rfl, Exc.refl _, Rf.of_ex e, hc1, hc2, fun r _ => by rw [Nat.zero_add]; rfl, by rw [Nat.zero_add]; exact Nat.le_refl _, .inr ⟨rfl, rfl⟩⟩
    · rintro Hs i σ' H' ⟨_, _, _, _, _, _, _, _, _, h, _⟩
      exact h
    · rintro Hs i σ' Ha Hb ⟨d, pl, v6, v7, v8, v9, v10, v11, h0, h1, h2, h3⟩ e
      exact ⟨d, pl, v6, v7, v8, v9, v10, v11, h0, h1.then e, h2.then e, h3⟩
    · rintro Hs i x σ' H' e hi ⟨d, pl, v6, v7, v8, v9, v10, v11, rfl, hX, hRf, hd1, hd2, hq1, hq2, hpos⟩ rfl
      obtain ⟨m, hm⟩ : ∃ m, n - i = m + 1 := ⟨n - i - 1, by omega⟩
      have hm2 : n - (i + 1) = m := by omega
      rw [hm] at hq1 hq2 hpos
      have hmi : (n : Int) - 1 - (i : Int) = (m : Int) := by omega
      show tSeq _ _ _ [some (.ref fa), some (.ref p), some (T [d]), some (.int (n : Int)), some (.ref pf), some (.int (pl : Int)), some (.int ((n : Int) - 1 - (i : Int))), v7, v8, v9, v10, v11] H'
      rw [hmi, hm2]
      have hRp : RepAt p rep H' := ⟨hRf.at_ hR.1 hpfa, hR.2⟩
      have hK : KnownAt pf rep n H' := hKn.rf G hRf
      have GB : GF fa 10 H' := G.go hRf (by omega)
      have him := im_own hR.2 d
      refine q_asg (v := T (im rep d)) (ev_im rfl hRp (ev_var rfl) hd1 hd2) fun H2 e2 => ?_
      obtain ⟨r, xs, hx1, hx2, hxl, hr, _⟩ := (hK.ex e2).row (show m ≤ n by omega)
      refine q_asgL (xs := (im rep d).map fun c => V.int ((cR rep m c : Nat) : Int)) (el_lcM (j := 9) (vs := [9]) (f := fun c => T [c]) (im rep d) (src_str (ev_var rfl)) (by omega) (fun _ => rfl) fun c H3 e3 hc => ev_getC (ev_op (ev_var rfl) (ev_var rfl) (rv_ixL (sq_of (e3 _ _ hx1)) (atI_nat hx2))) (ev_var rfl) (e3 _ _ hr) (kvC_get (him.2 c hc).1 (him.2 c hc).2)) fun pm H3 hpm e3 h3 => ?_
      have hlcs : EvL (tLc (iRng1 (tCons (tCB rLenT (tCons (tVar 7) tNil)) tNil)) (gName 11) (tTest (tOp (rI0 fun i j => .bl (decide (j < i))) (tOp (L2.rIxL K) (tVar 8) (tVar 11)) (tC (.int 0)))) (tVar 11) [11]) [some (.ref fa), some (.ref p), some (T [d]), some (.int (n : Int)), some (.ref pf), some (.int (pl : Int)), some (.int (m : Int)), some (T (im rep d)), some (.ref pm), v9, v10, v11] H3 (numV (someI rep m d)) :=
        el_lcF (j := 11) (vs := [11]) (f := fun (i : Nat) => V.int (i : Int)) (g := fun (i : Nat) => V.int (i : Int)) (List.range (im rep d).length) (src_range1L (n := (im rep d).length) (ea_cons (ev_cb (ea_cons (ev_var rfl) ea_nil) (rc_lenT (by omega))) ea_nil) (by omega)) (by rw [List.length_range]; omega) (fun _ => rfl) (fun a H4 e4 ha => et_is (et_test (ev_op (ev_op (ev_var rfl) (ev_var rfl) (rv_ixL (v := .int ((cR rep m ((im rep d).getD a 0) : Nat) : Int)) (sq_of (e4 _ _ h3)) (atI_nat (by
          have ha := List.mem_range.mp ha
          rw [List.getElem?_map, List.getElem?_eq_getElem ha, getD_at ha]
          rfl)))) ev_c rv_I0)) (decide_eq_decide.mpr (by omega))) (fun a H4 e4 ha _ => ev_var rfl)
      refine q_asgL (xs := numV (someI rep m d)) hlcs fun ps H4 hps e4 h4 => ?_
      have e14 := (e2.trans e3).trans e4
      refine q_when (b := decide (someI rep m d = [])) (et_eqNilN h4 (ev_var rfl)) (fun hb H5 e5 => ?_) (fun hb H5 e5 => ?_)
      · have hb := someI_nil.mp (of_decide_eq_true hb)
        refine s_ret ev_c fun H6 e6 => k _ H6 (((hRf.then e14).then (e5.trans e6)).mono (by omega)) (.inl ⟨rfl, ?_⟩)
        rcases hpos with h | ⟨rfl, h⟩
        · omega
        · rw [show n = m + 1 by omega]
          exact hb
      · have hb := of_decide_eq_false hb
        have G5 := (GB.ex e14).ex e5
        have hpsf : ps ≠ fa := fun z => by
          rw [z] at hps
          exact (GB.ex (e2.trans e3)).is hps
        refine wp_some (σ := [some (.ref fa), some (.ref p), some (T [d]), some (.int (n : Int)), some (.ref pf), some (.int (pl : Int)), some (.int (m : Int)), some (T (im rep d)), some (.ref pm), v9, some (.ref ps), v11]) (j := 10) rfl rfl (e5 _ _ h4) hb (by unfold someI; exact Nat.le_trans (List.length_filter_le _ _) (by rw [List.length_range]; omega)) G5 (by omega) hpsf fun a H6 ha R6 => ?_
        obtain ⟨d', hd', hpd⟩ := someI_mem ha
        obtain ⟨g1, g2⟩ := way_step hq1 hq2 hd'
        have hpmf : pm ≠ fa := fun z => by
          rw [z] at hpm
          exact (GB.ex e2).is hpm
        have h6 := R6.at_ (e5 _ _ (e4 _ _ h3)) hpmf
        have hdo := him.2 d' (List.mem_of_getElem? hd')
        refine s_parVV (σ := [some (.ref fa), some (.ref p), some (T [d]), some (.int (n : Int)), some (.ref pf), some (.int (pl : Int)), some (.int (m : Int)), some (T (im rep d)), some (.ref pm), v9, some (.ref ps), some (.int (a : Int))]) (v := .int ((pl + (((im rep d).take a).map (cR rep m)).sum : Nat) : Int)) (w := T [d']) (ev_is (ev_op (ev_var rfl) (ev_cbL (xs := ((im rep d).take a).map fun c => V.int ((cR rep m c : Nat) : Int)) (fun H7 e7 Q7 q7 => el_sl (ev_var rfl) eo_none (eo_some (i := (a : Int)) (ev_var rfl)) (sq_of h6) H7 e7 Q7 (by rw [cutV_to, ← List.map_take]; exact q7)) fun q H7 hq e7 => rc_sumM (f := fun c => ((cR rep m c : Nat) : Int)) (sq_of hq)) rv_I0) (by rw [sum_int]; exact congrArg V.int (Int.natCast_add _ _).symm)) (ev_op (ev_var rfl) (ev_var rfl) (rv_ixT (by omega) (atI_nat hd'))) fun H7 e7 => ?_
        have RR : Rf fa 2 H' H7 := (Rf.pre (e14.trans e5) R6).then e7
        exact ⟨d', _, _, _, _, _, _, _, rfl, hX.trans RR.keep, (hRf.trans RR).mono (by omega), hdo.1, hdo.2, g1, g2, .inl hpd⟩
    · rintro Hs σ' H' e ⟨d, pl, v6, v7, v8, v9, v10, v11, rfl, hX, hRf, hd1, hd2, hq1, hq2, hpos⟩
      rw [Nat.sub_self] at hq1 hq2
      have h1 : sgnA rep n c (pl + 0) = d := hq1 0 Nat.one_pos
      have h2 : pl + 1 ≤ cR rep n c := hq2
      refine s_retU (eu_tup (ea_cons (ev_var (i := 5) rfl) (ea_cons (ev_var (i := 2) rfl) ea_nil)) (by show 2 ≤ 100000; decide)) fun q H2 hq e2 h => k _ H2 ((hRf.then e2).mono (by omega)) (.inr ⟨q, pl, d, rfl, h, by omega, h1⟩)
end
end K22
set_option Elab.async false
set_option linter.all false
set_option maxRecDepth 100000
set_option maxHeartbeats 2000000
/-! repr of any plain data -/
namespace Wd
open PySem PySem.Spec PyProof.Rows L2 Evl Wc Wt Wg
section
variable {X : Cx}
def rReprD (K : PySem.W.Frag) : List V → Hp → VK → Prop := fun xs H Q => ∃ (v : V) (d : PyData), xs = [v] ∧ Dp K H v d ∧ d.showable = true ∧ d.hasDict = false ∧ d.depth ≤ 50 ∧ d.shown.length ≤ sizeLine ∧ Q (T d.shown.cps.toList) H
theorem cr_reprD (hgd : X.A.guards = some []) (hu : X.A.units + 64 < cLine) : CallR X (.builtin "repr") (rReprD X.K) := by
  intro pins s σ H xs us Q I r h
  obtain ⟨v, d, rfl, hd, h1, h2, h3, h4, q⟩ := h
  obtain ⟨u, rfl, rv⟩ := vals1 r
  have fin : ∀ (tk : Nat) (t : Tok), EP X pins σ Q (.str d.shown t) { s with toks := tk } := fun tk t => ⟨T d.shown.cps.toList, H, I.tok _, ⟨t, congrArg (fun z => Value.str z t) (SX.S_tl d.shown).symm⟩, q⟩
  cases hd with
  | non =>
    obtain rfl : u = Value.none := rv
    exact PySem.P.repr_of_none (fin _ _)
  | bl b =>
    obtain rfl : u = Value.bool b := rv
    exact PySem.P.repr_of_bool (fin _ _)
  | int i =>
    obtain ⟨t, rfl⟩ := (show ∃ t, u = Value.int i t from rv)
    exact PySem.P.repr_of_int (of_decide_eq_true h1) (fin _ _)
  | str x =>
    obtain ⟨t, rfl⟩ := (show ∃ t, u = Value.str x t from rv)
    exact PySem.P.repr_of_str (fin _ _) h4
  | lst ha hs =>
    obtain ⟨as, rd⟩ := Dp.reads I _ _ _ (.lst ha hs) rv
    obtain rfl : u = Value.ref _ := rv
    refine repr_of_reads' rd h1 (fun z => by rw [h2] at z; cases z) hgd (by omega) (fun b o e => e) (fun h' u tk hk => ?_) h4
    exact ⟨T _, H, I.kept (t' := tk) hk, ⟨u, congrArg (fun z => Value.str z u) (SX.S_tl _).symm⟩, q⟩
  | tup ha hs =>
    obtain ⟨as, rd⟩ := Dp.reads I _ _ _ (.tup ha hs) rv
    obtain rfl : u = Value.ref _ := rv
    refine repr_of_reads' rd h1 (fun z => by rw [h2] at z; cases z) hgd (by omega) (fun b o e => e) (fun h' u tk hk => ?_) h4
    exact ⟨T _, H, I.kept (t' := tk) hk, ⟨u, congrArg (fun z => Value.str z u) (SX.S_tl _).symm⟩, q⟩
end
theorem rc_reprD {K : PySem.W.Frag} {H : Hp} {v : V} {d : PyData} (h : ∀ H1, Ex H H1 → Dp K H1 v d) (h1 : d.showable = true) (h2 : d.hasDict = false) (h3 : d.depth ≤ 50) (h4 : d.shown.length ≤ sizeLine) : RC (rReprD K) [v] H (T d.shown.cps.toList) := fun H1 e Q q => ⟨v, d, rfl, h H1 e, h1, h2, h3, h4, q H1 (Ex.refl _)⟩
end Wd
set_option Elab.async false
set_option linter.all false
set_option maxRecDepth 100000
set_option maxHeartbeats 4000000
namespace We
open PySem PySem.Spec PyProof.Rows L2 Evl Wc Wt Wg _root_.Wd
/-! ### small data, and readings that give it -/
structure Sd (k n : Nat) (d : PyData) : Prop where
  sh : d.showable = true
  nd : d.hasDict = false
  dp : d.depth ≤ k
  ln : d.shown.length ≤ n
theorem sd_all {k n : Nat} : ∀ {ds : List PyData}, (∀ d ∈ ds, Sd k n d) → PyData.showableAll ds = true ∧ PyData.hasDictAll ds = false ∧ PyData.depthAll ds ≤ k ∧ ((PyData.shownAll ds).map (·.length)).sum ≤ ds.length * n ∧ (PyData.shownAll ds).length = ds.length
  | [], _ => ⟨rfl, rfl, Nat.zero_le _, Nat.zero_le _, rfl⟩
  | d :: ds, h => by
    obtain ⟨h1, h2, h3, h4, h5⟩ := sd_all (ds := ds) (fun e he => h e (List.mem_cons_of_mem _ he))
    have g := h d List.mem_cons_self
    refine ⟨?_, ?_, ?_, ?_, ?_⟩
    · rw [PyData.showableAll, g.sh, h1]; rfl
    · rw [PyData.hasDictAll, g.nd, h2]; rfl
    · rw [PyData.depthAll]; exact Nat.max_le.mpr ⟨g.dp, h3⟩
    · rw [PyData.shownAll, List.map_cons, List.sum_cons, List.length_cons, Nat.succ_mul]
      have := g.ln
      omega
    · rw [PyData.shownAll, List.length_cons, List.length_cons, h5]
theorem sd_list {k n : Nat} {ds : List PyData} (h : ∀ d ∈ ds, Sd k n d) (hl : ds.length ≤ 12) : Sd (k + 1) (12 * n + 100) (.list ds) := by
  obtain ⟨h1, h2, h3, h4, h5⟩ := sd_all h
  have h6 : ds.length * n ≤ 12 * n := Nat.mul_le_mul hl (Nat.le_refl _)
  refine ⟨?_, ?_, ?_, ?_⟩
  · rw [PyData.showable]; exact h1
  · rw [PyData.hasDict]; exact h2
  · rw [PyData.depth]; omega
  · rw [PyData.shown]
    refine Nat.le_trans (PySem.listText_len_le _) ?_
    rw [h5]
    omega
theorem sd_tup {k n : Nat} {ds : List PyData} (h : ∀ d ∈ ds, Sd k n d) (hl : ds.length ≤ 12) : Sd (k + 1) (12 * n + 100) (.tuple ds) := by
  obtain ⟨h1, h2, h3, h4, h5⟩ := sd_all h
  have h6 : ds.length * n ≤ 12 * n := Nat.mul_le_mul hl (Nat.le_refl _)
  refine ⟨?_, ?_, ?_, ?_⟩
  · rw [PyData.showable]; exact h1
  · rw [PyData.hasDict]; exact h2
  · rw [PyData.depth]; omega
  · rw [PyData.shown]
    refine Nat.le_trans (PySem.tupleText_len_le _) ?_
    rw [h5]
    omega
theorem Sd.up {k n k' n' : Nat} {d : PyData} (h : Sd k n d) (hk : k ≤ k' := by omega) (hn : n ≤ n' := by omega) : Sd k' n' d := ⟨h.sh, h.nd, Nat.le_trans h.dp hk, Nat.le_trans h.ln hn⟩
theorem sd_list1 {k n : Nat} {d : PyData} (h : Sd k n d) : Sd (k + 1) (12 * n + 100) (.list [d]) := sd_list (fun e he => by rw [List.mem_singleton.mp he]; exact h) (by show 1 ≤ 12; decide)
theorem sd_list2 {k n : Nat} {d e : PyData} (h : Sd k n d) (h' : Sd k n e) : Sd (k + 1) (12 * n + 100) (.list [d, e]) := sd_list (fun x hx => by
  simp only [List.mem_cons, List.not_mem_nil, or_false] at hx
  rcases hx with rfl | rfl
  · exact h
  · exact h') (by show 2 ≤ 12; decide)
theorem sd_tup2 {k n : Nat} {d e : PyData} (h : Sd k n d) (h' : Sd k n e) : Sd (k + 1) (12 * n + 100) (.tuple [d, e]) := sd_tup (fun x hx => by
  simp only [List.mem_cons, List.not_mem_nil, or_false] at hx
  rcases hx with rfl | rfl
  · exact h
  · exact h') (by show 2 ≤ 12; decide)
/-- a number of at most 100 digits -/
theorem sd_big {n : Nat} (h : n < 10 ^ 100) : Sd 0 100 (.int (n : Int)) := by
  refine ⟨?_, rfl, Nat.zero_le _, ?_⟩
  · have h2 : n < 2 ^ 1920 := Nat.lt_trans h (by decide +kernel)
    rw [PyData.showable]
    refine decide_eq_true ?_
    show n.log2 < 1920
    rcases Nat.eq_zero_or_pos n with rfl | hp
    · decide
    · exact (Nat.log2_lt (by omega)).mpr h2
  · exact PyProof.Rows.toString_length_le (by omega) (by decide) (by exact_mod_cast h)
theorem sd_none : Sd 0 20 .none := ⟨rfl, rfl, Nat.zero_le _, by decide +kernel⟩
section
variable {K : PySem.W.Frag} {σ : L2.St} {H H1 : Hp} {te ta tb tc : TE} {tq : TA} {D : Ends} {tz : TS} {v : V} {xs : List V} {Q : VK} {R : List V → Hp → Prop} {d d1 d2 d3 e : PyData}
/-- a reading gives a thing with the data d -/
def EvD (K : PySem.W.Frag) (te : TE) (σ : L2.St) (H : Hp) (d : PyData) : Prop := ∀ H1, Ex H H1 → ∀ Q : VK, (∀ v H2, Ex H1 H2 → (∀ H3, Ex H2 H3 → Dp K H3 v d) → Q v H2) → te σ H1 Q
theorem EvD.ex (h : EvD K te σ H d) (e : Ex H H1) : EvD K te σ H1 d := fun H2 e2 => h H2 (e.trans e2)
theorem evd_ev (h : Ev te σ H v) (hd : ∀ H3, Ex H H3 → Dp K H3 v d) : EvD K te σ H d := fun H1 e Q q => h H1 e Q fun H2 e2 => q v H2 e2 fun H3 e3 => hd H3 ((e.trans e2).trans e3)
/-- a new tuple of things | a new list of things, all flat -/
theorem evd_tup {xs : List V} {ds : List PyData} (h : EvU te σ H xs) (hd : ∀ H3, Ex H H3 → DpAll K H3 xs ds) : EvD K te σ H (.tuple ds) := fun H1 e Q q => h H1 e Q fun p H2 hp e2 h2 => q _ H2 e2 fun H3 e3 => .tup (st_of (e3 _ _ h2)) (hd H3 ((e.trans e2).trans e3))
theorem evd_lst {xs : List V} {ds : List PyData} (h : EvL te σ H xs) (hd : ∀ H3, Ex H H3 → DpAll K H3 xs ds) : EvD K te σ H (.list ds) := fun H1 e Q q => h H1 e Q fun p H2 hp e2 h2 => q _ H2 e2 fun H3 e3 => .lst (sq_of (e3 _ _ h2)) (hd H3 ((e.trans e2).trans e3))
/-- displays -/
theorem evd_tup2 (h1 : EvD K ta σ H d1) (h2 : EvD K tb σ H d2) : EvD K (tTup (tCons ta (tCons tb tNil))) σ H (.tuple [d1, d2]) := fun H1 e Q q => h1 H1 e _ fun x H2 e2 x2 => h2 H2 (e.trans e2) _ fun y H3 e3 y3 => ⟨by show 2 ≤ sizeLine; decide, fun p hp => q _ _ ((e2.trans e3).trans (Ex.new hp)) fun H4 e4 => .tup (st_of (e4 _ _ upd_same)) (.cons (x2 H4 ((e3.trans (Ex.new hp)).trans e4)) (.cons (y3 H4 ((Ex.new hp).trans e4)) .nil))⟩
theorem evd_lst1 (h1 : EvD K ta σ H d1) : EvD K (tLst (tCons ta tNil)) σ H (.list [d1]) := fun H1 e Q q => h1 H1 e _ fun x H2 e2 x2 => ⟨by show 1 ≤ sizeLine; decide, fun p hp => q _ _ (e2.trans (Ex.new hp)) fun H4 e4 => .lst (sq_of (e4 _ _ upd_same)) (.cons (x2 H4 ((Ex.new hp).trans e4)) .nil)⟩
theorem evd_lst2 (h1 : EvD K ta σ H d1) (h2 : EvD K tb σ H d2) : EvD K (tLst (tCons ta (tCons tb tNil))) σ H (.list [d1, d2]) := fun H1 e Q q => h1 H1 e _ fun x H2 e2 x2 => h2 H2 (e.trans e2) _ fun y H3 e3 y3 => ⟨by show 2 ≤ sizeLine; decide, fun p hp => q _ _ ((e2.trans e3).trans (Ex.new hp)) fun H4 e4 => .lst (sq_of (e4 _ _ upd_same)) (.cons (x2 H4 ((e3.trans (Ex.new hp)).trans e4)) (.cons (y3 H4 ((Ex.new hp).trans e4)) .nil))⟩
theorem evd_lst3 (h1 : EvD K ta σ H d1) (h2 : EvD K tb σ H d2) (h3 : EvD K tc σ H d3) : EvD K (tLst (tCons ta (tCons tb (tCons tc tNil)))) σ H (.list [d1, d2, d3]) := fun H1 e Q q => h1 H1 e _ fun x H2 e2 x2 => h2 H2 (e.trans e2) _ fun y H3 e3 y3 => h3 H3 ((e.trans e2).trans e3) _ fun z H4 e4 z4 => ⟨by show 3 ≤ sizeLine; decide, fun p hp => q _ _ (((e2.trans e3).trans e4).trans (Ex.new hp)) fun H5 e5 => .lst (sq_of (e5 _ _ upd_same)) (.cons (x2 H5 (((e3.trans e4).trans (Ex.new hp)).trans e5)) (.cons (y3 H5 ((e4.trans (Ex.new hp)).trans e5)) (.cons (z4 H5 ((Ex.new hp).trans e5)) .nil)))⟩
/-- displays of any length -/
def EvDs (K : PySem.W.Frag) (tq : TA) (σ : L2.St) (H : Hp) (ds : List PyData) : Prop := ∀ H1, Ex H H1 → ∀ Q : List V → Hp → Prop, (∀ vs H2, Ex H1 H2 → (∀ H3, Ex H2 H3 → DpAll K H3 vs ds) → vs.length = ds.length → Q vs H2) → tq σ H1 Q
theorem evds_nil : EvDs K tNil σ H [] := fun H1 _ Q q => q [] H1 (Ex.refl _) (fun _ _ => .nil) rfl
theorem evds_cons {ds : List PyData} (h : EvD K ta σ H d) (hr : EvDs K tq σ H ds) : EvDs K (tCons ta tq) σ H (d :: ds) := fun H1 e Q q => h H1 e _ fun x H2 e2 x2 => hr H2 (e.trans e2) _ fun vs H3 e3 h3 hl => q _ H3 (e2.trans e3) (fun H4 e4 => .cons (x2 H4 (e3.trans e4)) (h3 H4 e4)) (by rw [List.length_cons, List.length_cons, hl])
theorem evd_tupN {ds : List PyData} (h : EvDs K tq σ H ds) (hl : ds.length ≤ 100000) : EvD K (tTup tq) σ H (.tuple ds) := fun H1 e Q q => h H1 e _ fun vs H2 e2 h2 hz => ⟨by rw [hz]; exact sz_of hl, fun p hp => q _ _ (e2.trans (Ex.new hp)) fun H3 e3 => .tup (st_of (e3 _ _ upd_same)) (h2 H3 ((Ex.new hp).trans e3))⟩
theorem evd_lstN {ds : List PyData} (h : EvDs K tq σ H ds) (hl : ds.length ≤ 100000) : EvD K (tLst tq) σ H (.list ds) := fun H1 e Q q => h H1 e _ fun vs H2 e2 h2 hz => ⟨by rw [hz]; exact sz_of hl, fun p hp => q _ _ (e2.trans (Ex.new hp)) fun H3 e3 => .lst (sq_of (e3 _ _ upd_same)) (h2 H3 ((Ex.new hp).trans e3))⟩
theorem evd_c (h : ∀ H3, Dp K H3 v d) : EvD K (tC v) σ H d := evd_ev ev_c fun H3 _ => h H3
theorem evd_var {i : Nat} (h0 : σ[i]? = some (some v)) (h : ∀ H3, Ex H H3 → Dp K H3 v d) : EvD K (tVar i) σ H d := evd_ev (ev_var h0) h
/-- repr(x) != repr(y), of like data -/
theorem et_reprNe {k n : Nat} (hs : Sd k n d) (hk : k ≤ 50) (hn : n ≤ 10000000) (ha : EvD K ta σ H d) (hb : EvD K tb σ H d) : EvT (tTest (tOp rNeT (tCB (rReprD K) (tCons ta tNil)) (tCB (rReprD K) (tCons tb tNil)))) σ H false := by
  have r : ∀ {te : TE}, EvD K te σ H d → Ev (tCB (rReprD K) (tCons te tNil)) σ H (T d.shown.cps.toList) := fun h H1 e Q q => h H1 e _ fun v H2 e2 hv => rc_reprD hv hs.sh hs.nd (Nat.le_trans hs.dp hk) (by have := hs.ln; rw [sizeLine_eq]; omega) H2 (Ex.refl _) Q fun H3 e3 => q H3 (e2.trans e3)
  refine et_is (et_test (ev_op (r ha) (r hb) rv_neT)) ?_
  rw [decide_eq_true rfl]
  rfl
/-! things one by one -/
theorem a_c (k : tq σ H fun vs H1 => R (v :: vs) H1) : tCons (tC v) tq σ H R := k
theorem a_ev (h : Ev te σ H v) (k : ∀ H1, Ex H H1 → tq σ H1 fun vs H2 => R (v :: vs) H2) : tCons te tq σ H R := h H (Ex.refl _) _ k
theorem a_el (h : EvL te σ H xs) (k : ∀ p H1, H p = none → Ex H H1 → H1 p = some (.lst xs) → tq σ H1 fun vs H2 => R (.ref p :: vs) H2) : tCons te tq σ H R := h H (Ex.refl _) _ k
theorem a_eu (h : EvU te σ H xs) (k : ∀ p H1, H p = none → Ex H H1 → H1 p = some (.tup xs) → tq σ H1 fun vs H2 => R (.ref p :: vs) H2) : tCons te tq σ H R := h H (Ex.refl _) _ k
theorem a_any (h : te σ H fun v H1 => tq σ H1 fun vs H2 => R (v :: vs) H2) : tCons te tq σ H R := h
theorem a_nil (k : R [] H) : tNil σ H R := k
theorem l_lst {ta : TA} (k : ta σ H fun vs H1 => vs.length ≤ sizeLine ∧ ∀ p, H1 p = none → Q (.ref p) (upd H1 p (.lst vs))) : tLst ta σ H Q := k
theorem l_tup {ta : TA} (k : ta σ H fun vs H1 => vs.length ≤ sizeLine ∧ ∀ p, H1 p = none → Q (.ref p) (upd H1 p (.tup vs))) : tTup ta σ H Q := k
theorem l_call {sp : Sp} {ta : TA} {E : XK} (k : ta σ H fun vs H1 => sp (vs ++ []) H1 Q E) : tCall sp [] E ta σ H Q := k
theorem q_asgD {i : Nat} (h : EvD K te σ H d) (k : ∀ v H1, Ex H H1 → (∀ H3, Ex H1 H3 → Dp K H3 v d) → tz D (σ.set i (some v)) H1) : tSeq (tAsg te (gName i)) tz D σ H := h H (Ex.refl _) _ k
theorem q_asgA {i : Nat} (k : te σ H fun v H1 => tz D (σ.set i (some v)) H1) : tSeq (tAsg te (gName i)) tz D σ H := k
theorem ev_eqDB {b : Bool} (ha : EvD K ta σ H d) (hb : EvD K tb σ H e) (s1 : SeqAt.shaped d = true) (s2 : SeqAt.shaped e = true) (he : PyData.eqv d e = b) : Ev (tOp (rEqD K) ta tb) σ H (.bl b) := fun H1 e1 Q q => ha H1 e1 _ fun x H2 e2 hx => hb H2 (e1.trans e2) _ fun y H3 e3 hy => rv_eqD (d := d) (e := e) (b := b) (fun H4 e4 => hx H4 (e3.trans e4)) (fun H4 e4 => hy H4 e4) s1 s2 he H3 (Ex.refl _) Q fun H4 e4 => q H4 ((e2.trans e3).trans e4)
theorem ev_neDB {b : Bool} (ha : EvD K ta σ H d) (hb : EvD K tb σ H e) (s1 : SeqAt.shaped d = true) (s2 : SeqAt.shaped e = true) (he : PyData.eqv d e = b) : Ev (tOp (rNeD K) ta tb) σ H (.bl (!b)) := fun H1 e1 Q q => ha H1 e1 _ fun x H2 e2 hx => hb H2 (e1.trans e2) _ fun y H3 e3 hy => rv_neD (d := d) (e := e) (b := b) (fun H4 e4 => hx H4 (e3.trans e4)) (fun H4 e4 => hy H4 e4) s1 s2 he H3 (Ex.refl _) Q fun H4 e4 => q H4 ((e2.trans e3).trans e4)
/-- zip of a new list and a standing one -/
theorem src_zipN {b : Addr} {xs ys : List V} {n : Nat} {tl tr : TE} (h : EvL tl σ H xs) (h2 : Ev tr σ H (.ref b)) (hs2 : SqL K H b ys) (hn : n = min xs.length ys.length) :
    Src (iZip K (tCons tl (tCons tr tNil))) σ H n (fun c => c = b) (fun i v Hb => ∃ p x y, v = .ref p ∧ xs[i]? = some x ∧ ys[i]? = some y ∧ Hb p = some (.tup [x, y])) := fun H1 e R q =>
  h H1 e _ fun a H2 ha e2 ha2 => h2 H2 (e.trans e2) _ fun H3 e3 => ⟨a, b, xs, ys, rfl, sq_of (e3 _ _ ha2), ex_l ((e.trans e2).trans e3) hs2, q _ H3 _ (e2.trans e3) ((walk_zip hn).mono (fun _ z => z) fun i Ha v Hb _ _ hy => by
    obtain ⟨p, x, y, rfl, hf, rfl, h1, h2⟩ := hy
    exact ⟨Ex.new hf, p, x, y, rfl, h1, h2, upd_same⟩) fun B Ha hB ea => ⟨ea.l (fun z => (hB a z).1 (fresh_back e ha)) (sq_of (e3 _ _ ha2)), ea.l (fun z => (hB b z).2 rfl) (ex_l ((e.trans e2).trans e3) hs2)⟩⟩
theorem op_neB {X : Cx} : OpR X (compareOp .NotEq) (rB0 fun i j => !decide (i = j)) := by
  intro pins s σ H x y v u Q I rx ry h
  obtain ⟨i, j, rfl, rfl, q⟩ := h
  refine op_ne pins s σ H _ _ v u Q I rx ry ⟨rfl, ?_⟩
  rw [Wc.dec_bl]
  exact q
/-! tuples that may be old ones -/
section
variable {K : PySem.W.Frag} {σ : L2.St} {H : Hp} {ta tb te : TE} {xs ys : List V}
def EvW (te : TE) (σ : L2.St) (H : Hp) (xs : List V) : Prop := ∀ H1, Ex H H1 → ∀ Q : VK, (∀ p H2, Ex H1 H2 → H2 p = some (.tup xs) → Q (.ref p) H2) → te σ H1 Q
theorem EvW.ex {H1 : Hp} (h : EvW te σ H xs) (e : Ex H H1) : EvW te σ H1 xs := fun H2 e2 => h H2 (e.trans e2)
theorem ew_of (h : EvU te σ H xs) : EvW te σ H xs := fun H1 e Q q => h H1 e Q fun p H2 _ e2 h2 => q p H2 e2 h2
theorem ew_ev {p : Addr} (h : Ev te σ H (.ref p)) (hp : H p = some (.tup xs)) : EvW te σ H xs := fun H1 e Q q => h H1 e Q fun H2 e2 => q p H2 e2 (e2 _ _ (e _ _ hp))
theorem ew_sl {tl th : TO} {lo hi : Option Int} (h : EvW te σ H xs) (h1 : ∀ H1, Ex H H1 → EvO tl σ H1 lo) (h2 : ∀ H1, Ex H H1 → EvO th σ H1 hi) : EvW (tSl (rSlA K) te tl th) σ H (cutV xs lo hi) := fun H1 e Q q =>
  h H1 e _ fun p H2 e2 g => h1 H2 (e.trans e2) H2 (Ex.refl _) _ fun H3 e3 => h2 H3 ((e.trans e2).trans e3) H3 (Ex.refl _) _ fun H4 e4 => ⟨p, xs, rfl, st_of ((e3.trans e4) _ _ g), fun z => by
    have hc : cutV xs lo hi = xs := by
      unfold cutV
      rw [z.1, z.2]
      simp
    rw [hc] at q
    exact q p H4 ((e2.trans e3).trans e4) ((e3.trans e4) _ _ g), fun _ r hr => q r _ (((e2.trans e3).trans e4).trans (Ex.new hr)) upd_same⟩
theorem ew_cat (h1 : EvW ta σ H xs) (h2 : ∀ H1, Ex H H1 → EvW tb σ H1 ys) (hl : xs.length + ys.length ≤ 100000) : EvW (tOp (rCatA K) ta tb) σ H (xs ++ ys) := fun H1 e Q q =>
  h1 H1 e _ fun p H2 e2 g => h2 H2 (e.trans e2) H2 (Ex.refl _) _ fun r H3 e3 g3 => ⟨p, r, xs, ys, rfl, rfl, st_of (e3 _ _ g), st_of g3, sz_of hl, fun z => by
    rw [z, List.nil_append] at q
    exact q r H3 (e2.trans e3) g3, fun _ z => by
    rw [z, List.append_nil] at q
    exact q p H3 (e2.trans e3) (e3 _ _ g), fun _ _ s hs => q s _ ((e2.trans e3).trans (Ex.new hs)) upd_same⟩
theorem evd_w {ds : List PyData} (h : EvW te σ H xs) (hd : ∀ H3, Ex H H3 → DpAll K H3 xs ds) : EvD K te σ H (.tuple ds) := fun H1 e Q q => h H1 e Q fun p H2 e2 h2 => q _ H2 e2 fun H3 e3 => .tup (st_of (e3 _ _ h2)) (hd H3 ((e.trans e2).trans e3))
/-- tuples in a row -/
abbrev Tups (H : Hp) (ps : List Addr) (os : List (List V)) : Prop := All2 (fun b o => H b = some (HO.tup o)) ps os
theorem Tups.ex {H1 : Hp} {ps : List Addr} {os : List (List V)} (h : Tups H ps os) (e : Ex H H1) : Tups H1 ps os := All2.mono h fun _ _ z => e _ _ z
def EvWs (tq : TA) (σ : L2.St) (H : Hp) (os : List (List V)) : Prop := ∀ H1, Ex H H1 → ∀ Q : List V → Hp → Prop, (∀ ps H2, Ex H1 H2 → Tups H2 ps os → Q (ps.map V.ref) H2) → tq σ H1 Q
theorem ews_nil : EvWs tNil σ H [] := fun H1 _ Q q => q [] H1 (Ex.refl _) .nil
theorem ews_cons {tq : TA} {os : List (List V)} (h : EvW te σ H xs) (hr : ∀ H1, Ex H H1 → EvWs tq σ H1 os) : EvWs (tCons te tq) σ H (xs :: os) := fun H1 e Q q => h H1 e _ fun p H2 e2 h2 => hr H2 (e.trans e2) H2 (Ex.refl _) _ fun ps H3 e3 h3 => q (p :: ps) H3 (e2.trans e3) (.cons (e3 _ _ h2) h3)
/-- x = [.., ..] of tuples -/
theorem q_asgW {D : Ends} {tz : TS} {tq : TA} {i : Nat} {os : List (List V)} (h : EvWs tq σ H os) (hl : os.length ≤ 100000) (k : ∀ q ps H1, H q = none → Ex H H1 → H1 q = some (.lst (ps.map V.ref)) → Tups H1 ps os → tz D (σ.set i (some (.ref q))) H1) : tSeq (tAsg (tLst tq) (gName i)) tz D σ H :=
  h H (Ex.refl _) _ fun ps H2 e2 h2 => ⟨by rw [List.length_map, All2.len h2]; exact sz_of hl, fun q hq => k q ps _ (fresh_back e2 hq) (e2.trans (Ex.new hq)) upd_same (Tups.ex h2 (Ex.new hq))⟩
theorem dp_tups {ps : List Addr} {α : Type} {o : α → List V} {ds : α → List PyData} (hd : ∀ a, DpAll K H (o a) (ds a)) : ∀ {ps : List Addr} {as : List α}, Tups H ps (as.map o) → DpAll K H (ps.map V.ref) (as.map fun a => .tuple (ds a))
  | [], [], _ => .nil
  | p :: ps, a :: as, .cons h r => .cons (.tup (st_of h) (hd a)) (dp_tups (ps := ps) hd r)
theorem src_newU {tl : TE} (h : EvU tl σ H xs) : Src (iTup K tl) σ H xs.length (fun _ => False) (fun i v _ => xs[i]? = some v) := fun H1 e R q =>
  h H1 e _ fun a H2 ha e2 h2 => ⟨a, rfl, ⟨xs, st_of h2⟩, q _ H2 _ e2 (walk_tup.mono (fun _ z => z) fun i Ha v Hb _ _ hy => by
    obtain ⟨rfl, hy⟩ := hy
    exact ⟨Ex.refl _, hy⟩) fun B Ha hB ea => ea.tp (fun z => (hB a z).1 (fresh_back e ha)) (st_of h2)⟩
/-- a comprehension whose items are tuples -/
theorem lcT {H0 : Hp} (e0 : Ex H0 H) {α : Type} {wi : TI} {g : TG} {t : TT} {vs : List Nat} {n : Nat} {own : Addr → Prop} {P : Nat → V → Hp → Prop} {Q : VK} {p : α → Bool} (xs : List α) (st : α → L2.St) (o : α → List V) (R : α → V → Hp → Prop) (hs : Src wi σ H0 n own P) (hn : n ≤ 40000) (hx : xs.length = n)
    (hP : ∀ i x H1, Ex H H1 → P i x H1 → ∃ a, xs[i]? = some a ∧ R a x H1) (hg : ∀ a x H1 (Q' : L2.St → Hp → Prop), R a x H1 → Q' (st a) H1 → g x (wipe σ vs) H1 Q') (hw : ∀ a, wipe (st a) vs = wipe σ vs)
    (ht : ∀ a H1, Ex H H1 → a ∈ xs → EvT t (st a) H1 (p a)) (he : ∀ a H1, Ex H H1 → a ∈ xs → p a = true → EvW te (st a) H1 (o a))
    (k : ∀ q H2 ps, H q = none → Ex H H2 → H2 q = some (.lst (ps.map V.ref)) → Tups H2 ps ((xs.filter p).map o) → Q (.ref q) H2) : tLc wi g t te vs σ H Q :=
  hs H e0 _ fun J H1 S e1 w hS => fun Dl hD => by
    have hDH : H Dl = none := fresh_back e1 hD
    have ftk : ∀ {i a}, xs[i]? = some a → ((xs.take (i + 1)).filter p).map o = ((xs.take i).filter p).map o ++ if p a = true then [o a] else [] := fun {i a} ha => by
      rw [List.take_add_one, ha, List.filter_append, List.map_append]
      congr 1
      cases z : p a with
      | true => simp [z]
      | false => simp [z]
    refine lc_it w (Qd := fun H3 => Q (.ref Dl) H3) (fun i Hi => Ex H1 Hi ∧ ∃ ps : List Addr, Hi Dl = some (.lst (ps.map V.ref)) ∧ ps.length ≤ i ∧ Tups Hi ps (((xs.take i).filter p).map o)) ?_ (fun i Hi hi p => hS (fun _ => False) Hi (fun b z => z.elim) (.of p.1)) ?_ ?_
    · exact ⟨Ex.new hD, [], upd_same, Nat.le_refl _, .nil⟩
    · rintro i x Ha Hb hi ⟨R1, ps, h1, h2, h3⟩ ⟨ey, hPi⟩
      have eB : Ex H Hb := e1.trans (R1.trans ey)
      obtain ⟨a, ha, hr⟩ := hP i x Hb eB hPi
      have hm := List.mem_of_getElem? ha
      refine hg a x Hb _ hr ⟨hw a, ht a Hb eB hm Hb (Ex.refl _) _ fun H3 e3 => ?_⟩
      have hft := ftk ha
      have up : ∀ {H4 : Hp}, Ex H3 H4 → ∀ {b : Addr} {u : List V}, Ha b = some (.tup u) → ∀ l, (upd H4 Dl (.lst l)) b = some (.tup u) := fun {H4} e4 {b u} hb l => by
        have : b ≠ Dl := fun z => by rw [z, h1] at hb; cases hb
        rw [upd_ne this]
        exact e4 _ _ (e3 _ _ (ey _ _ hb))
      cases hp : p a with
      | true =>
        rw [hp, if_pos rfl] at hft
        show te (st a) H3 fun y H4 => ∃ acc, H4 Dl = some (.lst acc) ∧ acc.length < sizeLine ∧ _
        refine he a H3 (eB.trans e3) hm hp H3 (Ex.refl _) _ fun q H4 e4 h4 => ?_
        have hDl4 : H4 Dl = some (.lst (ps.map V.ref)) := e4 _ _ (e3 _ _ (ey _ _ h1))
        have nqD : q ≠ Dl := fun z => by rw [z, hDl4] at h4; cases h4
        have eM : Ex H1 (upd H4 Dl (.lst (ps.map V.ref ++ [.ref q]))) := Ex.mut (((R1.trans ey).trans e3).trans e4) hD
        refine ⟨ps.map V.ref, hDl4, sz_lt (by rw [List.length_map]; omega), eM, ps ++ [q], by rw [upd_same, List.map_append]; rfl, by rw [List.length_append, List.length_singleton]; omega, ?_⟩
        rw [hft]
        exact All2.push (All2.mono h3 fun b u r => up e4 r _) (by rw [upd_ne nqD]; exact h4)
      | false =>
        rw [hp, if_neg Bool.false_ne_true, List.append_nil] at hft
        show Ex H1 H3 ∧ _
        refine ⟨(R1.trans ey).trans e3, ps, e3 _ _ (ey _ _ h1), by omega, ?_⟩
        rw [hft]
        exact All2.mono h3 fun b u r => e3 _ _ (ey _ _ r)
    · rintro H3 ⟨R1, ps, h1, h2, h3⟩
      rw [← hx, List.take_length] at h3
      exact k Dl H3 ps hDH (e1.trans R1) h1 h3
theorem evd_lcT {α : Type} {wi : TI} {g : TG} {t : TT} {vs : List Nat} {n : Nat} {own : Addr → Prop} {P : Nat → V → Hp → Prop} {p : α → Bool} (xs : List α) (st : α → L2.St) (o : α → List V) (ds : α → List PyData) (R : α → V → Hp → Prop) (hs : Src wi σ H n own P) (hn : n ≤ 40000) (hx : xs.length = n)
    (hP : ∀ i x H1, Ex H H1 → P i x H1 → ∃ a, xs[i]? = some a ∧ R a x H1) (hg : ∀ a x H1 (Q' : L2.St → Hp → Prop), R a x H1 → Q' (st a) H1 → g x (wipe σ vs) H1 Q') (hw : ∀ a, wipe (st a) vs = wipe σ vs)
    (ht : ∀ a H1, Ex H H1 → a ∈ xs → EvT t (st a) H1 (p a)) (he : ∀ a H1, Ex H H1 → a ∈ xs → p a = true → EvW te (st a) H1 (o a)) (hd : ∀ a H, DpAll K H (o a) (ds a)) : EvD K (tLc wi g t te vs) σ H (.list ((xs.filter p).map fun a => .tuple (ds a))) := fun H1 e Q q =>
  lcT e xs st o R hs hn hx (fun i x H2 e2 => hP i x H2 (e.trans e2)) hg hw (fun a H2 e2 => ht a H2 (e.trans e2)) (fun a H2 e2 => he a H2 (e.trans e2)) fun r H2 ps hr e2 h2 h3 => q _ H2 e2 fun H3 e3 => .lst (sq_of (e3 _ _ h2)) (dp_tups (ps := ps) (fun a => hd a H3) (Tups.ex h3 e3))
end
end
end We
set_option Elab.async false
set_option linter.all false
set_option maxRecDepth 100000
set_option maxHeartbeats 4000000
set_option exponentiation.threshold 5000
namespace K22
open PySem PySem.Spec PyProof.Rows L2 Evl Wc Wt Wg Ws We
/-- the errors that are asked for -/
structure ErrA (K : PySem.W.Frag) (mg : Str → Option Value) (CE CS CN CM CB : Addr) : Prop where
  nB : mg "CutError" = some (.ref CB)
  tE : PySem.W.exmOne K (.ref CE) (.ref CB) = some true
  tS : PySem.W.exmOne K (.ref CS) (.ref CB) = some true
  tN : PySem.W.exmOne K (.ref CN) (.ref CB) = some true
  cE : ExcC K CE
  cS : ExcC K CS
  cN : ExcC K CN
  g_BadReplacing : ∃ u, mg "BadReplacing" = some u ∧ RelV (.ref CE) u
  g_BadSign : ∃ u, mg "BadSign" = some u ∧ RelV (.ref CS) u
  g_BadNumber : ∃ u, mg "BadNumber" = some u ∧ RelV (.ref CN) u
  g_TooMany : ∃ u, mg "TooMany" = some u ∧ RelV (.ref CM) u
  ee : PySem.W.kitOne K (.ref CE) (.ref CE) = some true
  es : PySem.W.kitOne K (.ref CE) (.ref CS) = some false
  en : PySem.W.kitOne K (.ref CE) (.ref CN) = some false
  em : PySem.W.kitOne K (.ref CE) (.ref CM) = some false
  se : PySem.W.kitOne K (.ref CS) (.ref CE) = some false
  ss : PySem.W.kitOne K (.ref CS) (.ref CS) = some true
  sn : PySem.W.kitOne K (.ref CS) (.ref CN) = some false
  sm : PySem.W.kitOne K (.ref CS) (.ref CM) = some false
  ne : PySem.W.kitOne K (.ref CN) (.ref CE) = some false
  ns : PySem.W.kitOne K (.ref CN) (.ref CS) = some false
  nn : PySem.W.kitOne K (.ref CN) (.ref CN) = some true
  nm : PySem.W.kitOne K (.ref CN) (.ref CM) = some false
abbrev xTold : Tx := [116, 111, 108, 100]
abbrev xErr : Tx := [101, 114, 114, 111, 114]
abbrev xRep : Tx := [114, 101, 112, 108, 97, 99, 105, 110, 103]
abbrev xSign : Tx := [115, 105, 103, 110]
abbrev xNum : Tx := [110, 117, 109, 98, 101, 114]
abbrev xMany : Tx := [109, 97, 110, 121]
/-- what is told, put into a pair -/
def TK (Q : VK) : VK := fun v H' => ∀ p H'', Ex H' H'' → H'' p = some (.tup [T xTold, v]) → Q (.ref p) H''
def EK (CE CS CN : Addr) (Q : VK) : XK := fun cls d H' => d = none ∧ ∃ (C : Addr) (t : Tx), cls = .ref C ∧ ((C = CE ∧ t = xRep) ∨ (C = CS ∧ t = xSign) ∨ (C = CN ∧ t = xNum)) ∧ ∀ p H'', Ex H' H'' → H'' p = some (.tup [T xErr, T t]) → Q (.ref p) H''
section
variable {CE CS CN : Addr} {vs : List V} {H : Hp} {Q Q' : VK} {E E' : XK}
theorem again_mono (h : sp_again CE CS CN vs H Q E) (f : ∀ v H', Ex H H' → Q v H' → Q' v H') (g : ∀ c H', Ex H H' → E c none H' → E' c none H') : sp_again CE CS CN vs H Q' E' := by
  obtain ⟨v, o, v2, o2, v3, o3, h0, h1, h2, h3, h4, h5, k0, k⟩ := h
  refine ⟨v, o, v2, o2, v3, o3, h0, h1, h2, h3, h4, h5, fun z H' e => g _ _ e (k0 z H' e), fun rep a b => ?_⟩
  obtain ⟨k1, k2⟩ := k rep a b
  refine ⟨fun z H' e => g _ _ e (k1 z H' e), fun c h6 h7 h8 => ?_⟩
  obtain ⟨k3, k4⟩ := k2 c h6 h7 h8
  exact ⟨fun z H' e => g _ _ e (k3 z H' e), fun n h9 h10 H' e => f _ _ e (k4 n h9 h10 H' e)⟩
theorem sign_at_mono (h : sp_sign_at CE CS CN vs H Q E) (f : ∀ v H', Ex H H' → Q v H' → Q' v H') (g : ∀ c H', Ex H H' → E c none H' → E' c none H') : sp_sign_at CE CS CN vs H Q' E' := by
  obtain ⟨v, o, v2, o2, v3, o3, v4, o4, h0, h1, h2, h3, h4, h5, h55, k0, k⟩ := h
  refine ⟨v, o, v2, o2, v3, o3, v4, o4, h0, h1, h2, h3, h4, h5, h55, fun z H' e => g _ _ e (k0 z H' e), fun rep a b => ?_⟩
  obtain ⟨k1, k2⟩ := k rep a b
  refine ⟨fun z H' e => g _ _ e (k1 z H' e), fun c h6 h7 h8 => ?_⟩
  obtain ⟨k3, k4⟩ := k2 c h6 h7 h8
  refine ⟨fun z H' e => g _ _ e (k3 z H' e), fun n h9 h10 => ?_⟩
  obtain ⟨k5, k6⟩ := k4 n h9 h10
  exact ⟨fun z H' e => g _ _ e (k5 z H' e), fun q h11 h12 H' e => f _ _ e (k6 q h11 h12 H' e)⟩
theorem stays_mono (h : sp_stays CE vs H Q E) (f : ∀ v H', Ex H H' → Q v H' → Q' v H') (g : ∀ c H', Ex H H' → E c none H' → E' c none H') : sp_stays CE vs H Q' E' := by
  obtain ⟨v, o, h0, h1, h2, k0, k⟩ := h
  exact ⟨v, o, h0, h1, h2, fun z H' e => g _ _ e (k0 z H' e), fun rep a b c p H2 hp e h => f _ _ e (k rep a b c p H2 hp e h)⟩
theorem alike_mono (h : sp_alike_for_ever CE CS CN vs H Q E) (f : ∀ v H', Ex H H' → Q v H' → Q' v H') (g : ∀ c H', Ex H H' → E c none H' → E' c none H') : sp_alike_for_ever CE CS CN vs H Q' E' := by
  obtain ⟨v, o, v1, o1, v2, o2, v3, o3, h0, h1, h2, h3, h4, h5, h6, h7, k0, k⟩ := h
  refine ⟨v, o, v1, o1, v2, o2, v3, o3, h0, h1, h2, h3, h4, h5, h6, h7, fun z H' e => g _ _ e (k0 z H' e), fun rep a b c => ?_⟩
  obtain ⟨k1, k2⟩ := k rep a b c
  refine ⟨fun z H' e => g _ _ e (k1 z H' e), fun oth a b c => ?_⟩
  obtain ⟨k3, k4⟩ := k2 oth a b c
  refine ⟨fun l H' e => g _ _ e (k3 l H' e), fun l => ?_⟩
  obtain ⟨k5, k6⟩ := k4 l
  refine ⟨fun z H' e => g _ _ e (k5 z H' e), fun c a1 a2 a3 => ?_⟩
  obtain ⟨k7, k8⟩ := k6 c a1 a2 a3
  refine ⟨fun z H' e => g _ _ e (k7 z H' e), fun g1 g2 => ?_⟩
  obtain ⟨k9, k10⟩ := k8 g1 g2
  exact ⟨fun z H' e => g _ _ e (k9 z H' e), fun n b1 b2 b3 x y c1 c2 c3 c4 H' e => f _ _ e (k10 n b1 b2 b3 x y c1 c2 c3 c4 H' e)⟩
end
def sp_asked (CE CS CN : Addr) : Sp := fun vs H Q _ => ∃ (way : Int) (pp : Addr) (xs : List V), vs = [.int way, .ref pp] ∧ H pp = some (.lst xs) ∧
  ((way = 0 ∧ ∃ a b c, xs = [a, b, c] ∧ ∀ H1, Ex H H1 → sp_again CE CS CN xs H1 (TK Q) (EK CE CS CN Q)) ∨
   (way = 1 ∧ ∃ a b c d, xs = [a, b, c, d] ∧ ∀ H1, Ex H H1 → sp_sign_at CE CS CN xs H1 (TK Q) (EK CE CS CN Q)) ∨
   (way = 2 ∧ ∃ a, xs = [a] ∧ ∀ H1, Ex H H1 → sp_stays CE xs H1 (TK Q) (EK CE CS CN Q)) ∨
   (way = 3 ∧ ∃ a b c d, xs = [a, b, c, d] ∧ ∀ H1, Ex H H1 → sp_alike_for_ever CE CS CN xs H1 (TK Q) (EK CE CS CN Q)))
section
variable {σ : L2.St} {H : Hp} {D : Ends} {ta : TA}
theorem s_told {sp : Sp} {E : L2.St → XK} {vs : List V} {i : Nat} (h : EvA ta σ H vs) (k : ∀ H1, Ex H H1 → sp vs H1 (fun v H2 => ∀ pr, H2 pr = none → D.nx (σ.set i (some (.ref pr))) (upd H2 pr (.tup [T xTold, v]))) (E σ)) : tAsg (tTup (tCons (tC (T xTold)) (tCons (tCallS sp E ta) tNil))) (gName i) D σ H :=
  h H (Ex.refl _) _ fun H1 e1 => by
    have e : (fun v H2 => ∀ pr, H2 pr = none → D.nx (σ.set i (some (.ref pr))) (upd H2 pr (.tup [T xTold, v]))) = fun v H2 => [T xTold, v].length ≤ sizeLine ∧ ∀ pr, H2 pr = none → D.nx (σ.set i (some (.ref pr))) (upd H2 pr (.tup [T xTold, v])) := by
      funext v H2
      exact propext ⟨fun z => ⟨by show 2 ≤ sizeLine; decide, z⟩, fun z => z.2⟩
    have := k H1 e1
    rw [e] at this
    exact this
end
section
variable {P : Program} {w : World} {K : PySem.W.Frag} {mg : Str → Option Value} {base : Heap}
theorem ok__law_asked {f CE CS CN CM CB : Addr} {fd : FuncData} (F : Fun K "_law_asked" "_law_asked" st__law_asked f fd) (M : Md K mg) (X : ErrA K mg CE CS CN CM CB) (S_again : CalS P w K mg base "again" st_again 5 ["replacing", "sign", "times"] (sp_again CE CS CN)) (S_sign_at : CalS P w K mg base "sign_at" st_sign_at 5 ["replacing", "sign", "times", "place"] (sp_sign_at CE CS CN)) (S_stays : CalS P w K mg base "stays" st_stays 6 ["replacing"] (sp_stays CE)) (S_alike_for_ever : CalS P w K mg base "alike_for_ever" st_alike_for_ever 6 ["replacing", "other", "sign", "most"] (sp_alike_for_ever CE CS CN)) : FnOk P w K mg base CX0 7 f fd ["way", "parts"] (sp_asked CE CS CN) := by
  have nd := sc__law_asked.nd
  refine F.ok sc__law_asked (fun vs H Q E h => ?_) (fun cdv A outer s H vs Q E hr h => ?_)
  · obtain ⟨_, _, _, rfl, _⟩ := h
    rfl
  · obtain ⟨way, pp, xs, rfl, hp, hw⟩ := h
    refine ⟨_, (pss_cons (ps_asg (pe_tup (pa_cons (pe_tup (pa_cons (pe_sT [110, 111, 110, 101]) (pa_cons pe_non pa_nil))) (pa_cons pe_non pa_nil))) (kgt K (n := 2) (pg_tup rfl (pgs_cons (pg_name (i := 2) nd rfl (Or.inl rfl)) (pgs_cons (pg_name (i := 3) nd rfl (Or.inl rfl)) pgs_nil)))))
  (pss_cut (We.ps_try_keep (i := 4) (Wout := fun _ _ _ _ => False) rfl rfl nd rfl rfl ⟨rfl, by decide, Or.inl X.nB⟩ takes0 rfl (fun W pn xe tk _ => (pss_one (ps_if (pt_cmpR op_eqI (pv 0) pe_int (nomark _))
  (pss_one (ps_set (i := 2) nd rfl (Or.inl rfl) (pe_tup (pa_cons (pe_sT [116, 111, 108, 100]) (pa_cons (pe_clS S_again hr tk (pa_cons (pe_ix (kix K (r := L2.rIxL) ix_list) (pv 1) pe_int (fun _ _ => rfl)) (pa_cons (pe_ix (kix K (r := L2.rIxL) ix_list) (pv 1) pe_int (fun _ _ => rfl)) (pa_cons (pe_ix (kix K (r := L2.rIxL) ix_list) (pv 1) pe_int (fun _ _ => rfl)) pa_nil)))) pa_nil)))))
  (pss_one (ps_if (pt_cmpR op_eqI (pv 0) pe_int (nomark _))
  (pss_one (ps_set (i := 2) nd rfl (Or.inl rfl) (pe_tup (pa_cons (pe_sT [116, 111, 108, 100]) (pa_cons (pe_clS S_sign_at hr tk (pa_cons (pe_ix (kix K (r := L2.rIxL) ix_list) (pv 1) pe_int (fun _ _ => rfl)) (pa_cons (pe_ix (kix K (r := L2.rIxL) ix_list) (pv 1) pe_int (fun _ _ => rfl)) (pa_cons (pe_ix (kix K (r := L2.rIxL) ix_list) (pv 1) pe_int (fun _ _ => rfl)) (pa_cons (pe_ix (kix K (r := L2.rIxL) ix_list) (pv 1) pe_int (fun _ _ => rfl)) pa_nil))))) pa_nil)))))
  (pss_one (ps_if (pt_cmpR op_eqI (pv 0) pe_int (nomark _))
  (pss_one (ps_set (i := 2) nd rfl (Or.inl rfl) (pe_tup (pa_cons (pe_sT [116, 111, 108, 100]) (pa_cons (pe_clS S_stays hr tk (pa_cons (pe_ix (kix K (r := L2.rIxL) ix_list) (pv 1) pe_int (fun _ _ => rfl)) pa_nil)) pa_nil)))))
  (pss_one (ps_set (i := 2) nd rfl (Or.inl rfl) (pe_tup (pa_cons (pe_sT [116, 111, 108, 100]) (pa_cons (pe_clS S_alike_for_ever hr tk (pa_cons (pe_ix (kix K (r := L2.rIxL) ix_list) (pv 1) pe_int (fun _ _ => rfl)) (pa_cons (pe_ix (kix K (r := L2.rIxL) ix_list) (pv 1) pe_int (fun _ _ => rfl)) (pa_cons (pe_ix (kix K (r := L2.rIxL) ix_list) (pv 1) pe_int (fun _ _ => rfl)) (pa_cons (pe_ix (kix K (r := L2.rIxL) ix_list) (pv 1) pe_int (fun _ _ => rfl)) pa_nil))))) pa_nil)))))))))))) (fun a oe cls d pn hz hf => (pss_one (ps_set (i := 3) nd rfl (Or.inl rfl) (pv 4)))))
  (pss_cons (ps_if (pt_cmpR op_isN (pv 3) pe_non (nomark _))
  (pss_one (ps_ret (pv 2)))
  pss_nil)
  (pss_cons (ps_set (i := 5) nd rfl (Or.inl rfl) (pe_lst (pa_cons (pe_callB (We.kisK (K := K)) (by rfl) M.n_isinstance boot_isinstance (pa_cons (pv 3) (pa_cons (C8.pe_gc rfl X.g_BadReplacing) pa_nil))) (pa_cons (pe_callB (We.kisK (K := K)) (by rfl) M.n_isinstance boot_isinstance (pa_cons (pv 3) (pa_cons (C8.pe_gc rfl X.g_BadSign) pa_nil))) (pa_cons (pe_callB (We.kisK (K := K)) (by rfl) M.n_isinstance boot_isinstance (pa_cons (pv 3) (pa_cons (C8.pe_gc rfl X.g_BadNumber) pa_nil))) (pa_cons (pe_callB (We.kisK (K := K)) (by rfl) M.n_isinstance boot_isinstance (pa_cons (pv 3) (pa_cons (C8.pe_gc rfl X.g_TooMany) pa_nil))) pa_nil))))))
  (pss_one (ps_ret (pe_tup (pa_cons (pe_sT [101, 114, 114, 111, 114]) (pa_cons (kbm K (pe_bm PySem.F.plainAttrs_str PySem.F.slot_str_join PySem.F.type_str_join (kmt K (r := rJoinT) mt_joinT) (pe_sT []) (pa_cons (pe_lc (own := [("word", 6), ("kind", 7)]) rfl nd (kiz K (pi_zip (by rfl) M.n_zip (pa_cons (pe_lst (pa_cons (pe_sT [114, 101, 112, 108, 97, 99, 105, 110, 103]) (pa_cons (pe_sT [115, 105, 103, 110]) (pa_cons (pe_sT [110, 117, 109, 98, 101, 114]) (pa_cons (pe_sT [109, 97, 110, 121]) pa_nil))))) (pa_cons (pv 5) pa_nil)))) (blkOk_by (N := N__law_asked) (sc := defScope st__law_asked) (by decide +kernel)) (fun _ _ _ _ _ => (kgt K (n := 2) (pg_tup rfl (pgs_cons (pg_name (i := 6) nd rfl (Or.inl rfl)) (pgs_cons (pg_name (i := 7) nd rfl (Or.inl rfl)) pgs_nil))))) (fun _ _ _ _ _ => (pts_one (pt_val (pv 7)))) (fun _ _ _ _ _ => (pv 6))) pa_nil))) pa_nil))))))))), ?_⟩
    refine ⟨by show 2 ≤ sizeLine; decide, fun pn hpn => ⟨by show 2 ≤ sizeLine; decide, fun pt hpt => ⟨pt, _, rfl, st_of upd_same, rfl, _, _, rfl, _, [], rfl, rfl, ?_⟩⟩⟩
    have e1 : Ex H (upd (upd H pn (.tup [T [110, 111, 110, 101], .non])) pt (.tup [.ref pn, .non])) := (Ex.new hpn).trans (Ex.new hpt)
    generalize upd (upd H pn (.tup [T [110, 111, 110, 101], .non])) pt (.tup [.ref pn, .non]) = H1 at e1 ⊢
    have es : ((start N__law_asked [.int way, .ref pp]).set 2 (some (.ref pn))).set 3 (some .non) = [some (.int way), some (.ref pp), some (.ref pn), some .non, none, none, none, none] := rfl
    rw [es]
    dsimp only
    refine q_cut (M := fun σ' H' => ((∃ pr : Addr, σ' = [some (.int way), some (.ref pp), some (.ref pr), some .non, none, none, none, none] ∧ ∀ H'', Ex H' H'' → Q (.ref pr) H'') ∨
      (∃ (a D : Addr) (b1 b2 b3 b4 : Bool) (t : Tx), σ' = [some (.int way), some (.ref pp), some (.ref pn), some (.ref a), none, none, none, none] ∧ H' a = some (ExO (.ref D) none a) ∧ ExcC K D ∧ PySem.W.kitOne K (.ref D) (.ref CE) = some b1 ∧ PySem.W.kitOne K (.ref D) (.ref CS) = some b2 ∧ PySem.W.kitOne K (.ref D) (.ref CN) = some b3 ∧ PySem.W.kitOne K (.ref D) (.ref CM) = some b4 ∧ t = (([(xRep, b1), (xSign, b2), (xNum, b3), (xMany, b4)] : List (Tx × Bool)).filter (·.2)).flatMap (·.1) ∧ t.length ≤ 100 ∧ ∀ p H'', Ex H' H'' → H'' p = some (.tup [T xErr, T t]) → Q (.ref p) H''))) ?_ ?_
    · have hp1 := e1 _ _ hp
      have hT : ∀ (v : V) (H' : Hp), TK Q v H' → ∀ pr, H' pr = none → (∃ pr' : Addr, ([some (.int way), some (.ref pp), some (.ref pr), some .non, none, none, none, none] : L2.St) = [some (.int way), some (.ref pp), some (.ref pr'), some .non, none, none, none, none] ∧ ∀ H'', Ex (upd H' pr (.tup [T xTold, v])) H'' → Q (.ref pr') H'') := fun v H' h pr hpr => ⟨pr, rfl, fun H'' e => h pr H'' ((Ex.new hpr).trans e) (e _ _ upd_same)⟩
      have hE : ∀ (C : Addr) (t : Tx), ((C = CE ∧ t = xRep) ∨ (C = CS ∧ t = xSign) ∨ (C = CN ∧ t = xNum)) → PySem.W.exmOne K (.ref C) (.ref CB) = some true ∧ ExcC K C ∧ ∃ b1 b2 b3 b4, PySem.W.kitOne K (.ref C) (.ref CE) = some b1 ∧ PySem.W.kitOne K (.ref C) (.ref CS) = some b2 ∧ PySem.W.kitOne K (.ref C) (.ref CN) = some b3 ∧ PySem.W.kitOne K (.ref C) (.ref CM) = some b4 ∧ t = (([(xRep, b1), (xSign, b2), (xNum, b3), (xMany, b4)] : List (Tx × Bool)).filter (·.2)).flatMap (·.1) ∧ t.length ≤ 100 := by
        rintro C t (⟨rfl, rfl⟩ | ⟨rfl, rfl⟩ | ⟨rfl, rfl⟩)
        · exact ⟨X.tE, X.cE, _, _, _, _, X.ee, X.es, X.en, X.em, rfl, by decide⟩
        · exact ⟨X.tS, X.cS, _, _, _, _, X.se, X.ss, X.sn, X.sm, rfl, by decide⟩
        · exact ⟨X.tN, X.cN, _, _, _, _, X.ne, X.ns, X.nn, X.nm, rfl, by decide⟩
      have at_ : ∀ {xs : List V} {σ : L2.St} {H3 : Hp} {j : Nat} {v : V}, σ[1]? = some (some (.ref pp)) → H3 pp = some (.lst xs) → xs[j]? = some v → Ev (tOp (L2.rIxL K) (tVar 1) (tC (.int (j : Int)))) σ H3 v := fun h0 h1 h2 => ev_op (ev_var h0) ev_c (rv_ixL (sq_of h1) (atI_nat h2))
      rcases hw with ⟨rfl, a, b, c, rfl, hs⟩ | ⟨rfl, a, b, c, d, rfl, hs⟩ | ⟨rfl, a, rfl, hs⟩ | ⟨rfl, a, b, c, d, rfl, hs⟩
      · refine s_if (b := true) (et_is (et_test (ev_op (ev_var rfl) ev_c rv_I0)) rfl) (fun _ H2 e2 => ?_) (fun z => by cases z)
        refine s_told (σ := [some (.int 0), some (.ref pp), some (.ref pn), some .non, none, none, none, none]) (ea_cons (at_ (j := 0) rfl (e2 _ _ hp1) rfl) (ea_cons (at_ (j := 1) rfl (e2 _ _ hp1) rfl) (ea_cons (at_ (j := 2) rfl (e2 _ _ hp1) rfl) ea_nil))) fun H3 e3 => ?_
        refine again_mono (hs H3 ((e1.trans e2).trans e3)) (fun v H4 e4 q pr hpr => .inl (hT v H4 q pr hpr)) fun cl H4 e4 q => ?_
        obtain ⟨_, C, t, rfl, hC, kk⟩ := q
        obtain ⟨x1, x2, b1, b2, b3, b4, y1, y2, y3, y4, y5, y6⟩ := hE C t hC
        exact ⟨true, x1, fun _ a ha => ⟨.ref a, rfl, fun na => .inr ⟨a, C, b1, b2, b3, b4, t, rfl, upd_same, x2, y1, y2, y3, y4, y5, y6, fun p H'' e => kk p H'' ((Ex.new na).trans e)⟩⟩, fun z => by cases z⟩
      · refine s_if (b := false) (et_is (et_test (ev_op (ev_var rfl) ev_c rv_I0)) rfl) (fun z => by cases z) (fun _ H2 e2 => ?_)
        refine s_if (b := true) (et_is (et_test (ev_op (ev_var rfl) ev_c rv_I0)) rfl) (fun _ H2' e2' => ?_) (fun z => by cases z)
        have e2 := e2.trans e2'
        refine s_told (σ := [some (.int 1), some (.ref pp), some (.ref pn), some .non, none, none, none, none]) (ea_cons (at_ (j := 0) rfl (e2 _ _ hp1) rfl) (ea_cons (at_ (j := 1) rfl (e2 _ _ hp1) rfl) (ea_cons (at_ (j := 2) rfl (e2 _ _ hp1) rfl) (ea_cons (at_ (j := 3) rfl (e2 _ _ hp1) rfl) ea_nil)))) fun H3 e3 => ?_
        refine sign_at_mono (hs H3 ((e1.trans e2).trans e3)) (fun v H4 e4 q pr hpr => .inl (hT v H4 q pr hpr)) fun cl H4 e4 q => ?_
        obtain ⟨_, C, t, rfl, hC, kk⟩ := q
        obtain ⟨x1, x2, b1, b2, b3, b4, y1, y2, y3, y4, y5, y6⟩ := hE C t hC
        exact ⟨true, x1, fun _ a ha => ⟨.ref a, rfl, fun na => .inr ⟨a, C, b1, b2, b3, b4, t, rfl, upd_same, x2, y1, y2, y3, y4, y5, y6, fun p H'' e => kk p H'' ((Ex.new na).trans e)⟩⟩, fun z => by cases z⟩
      · refine s_if (b := false) (et_is (et_test (ev_op (ev_var rfl) ev_c rv_I0)) rfl) (fun z => by cases z) (fun _ H2 e2 => ?_)
        refine s_if (b := false) (et_is (et_test (ev_op (ev_var rfl) ev_c rv_I0)) rfl) (fun z => by cases z) (fun _ H2' e2' => ?_)
        refine s_if (b := true) (et_is (et_test (ev_op (ev_var rfl) ev_c rv_I0)) rfl) (fun _ H2'' e2'' => ?_) (fun z => by cases z)
        have e2 := (e2.trans e2').trans e2''
        refine s_told (σ := [some (.int 2), some (.ref pp), some (.ref pn), some .non, none, none, none, none]) (ea_cons (at_ (j := 0) rfl (e2 _ _ hp1) rfl) ea_nil) fun H3 e3 => ?_
        refine stays_mono (hs H3 ((e1.trans e2).trans e3)) (fun v H4 e4 q pr hpr => .inl (hT v H4 q pr hpr)) fun cl H4 e4 q => ?_
        obtain ⟨_, C, t, rfl, hC, kk⟩ := q
        obtain ⟨x1, x2, b1, b2, b3, b4, y1, y2, y3, y4, y5, y6⟩ := hE C t hC
        exact ⟨true, x1, fun _ a ha => ⟨.ref a, rfl, fun na => .inr ⟨a, C, b1, b2, b3, b4, t, rfl, upd_same, x2, y1, y2, y3, y4, y5, y6, fun p H'' e => kk p H'' ((Ex.new na).trans e)⟩⟩, fun z => by cases z⟩
      · refine s_if (b := false) (et_is (et_test (ev_op (ev_var rfl) ev_c rv_I0)) rfl) (fun z => by cases z) (fun _ H2 e2 => ?_)
        refine s_if (b := false) (et_is (et_test (ev_op (ev_var rfl) ev_c rv_I0)) rfl) (fun z => by cases z) (fun _ H2' e2' => ?_)
        refine s_if (b := false) (et_is (et_test (ev_op (ev_var rfl) ev_c rv_I0)) rfl) (fun z => by cases z) (fun _ H2'' e2'' => ?_)
        have e2 := (e2.trans e2').trans e2''
        refine s_told (σ := [some (.int 3), some (.ref pp), some (.ref pn), some .non, none, none, none, none]) (ea_cons (at_ (j := 0) rfl (e2 _ _ hp1) rfl) (ea_cons (at_ (j := 1) rfl (e2 _ _ hp1) rfl) (ea_cons (at_ (j := 2) rfl (e2 _ _ hp1) rfl) (ea_cons (at_ (j := 3) rfl (e2 _ _ hp1) rfl) ea_nil)))) fun H3 e3 => ?_
        refine alike_mono (hs H3 ((e1.trans e2).trans e3)) (fun v H4 e4 q pr hpr => .inl (hT v H4 q pr hpr)) fun cl H4 e4 q => ?_
        obtain ⟨_, C, t, rfl, hC, kk⟩ := q
        obtain ⟨x1, x2, b1, b2, b3, b4, y1, y2, y3, y4, y5, y6⟩ := hE C t hC
        exact ⟨true, x1, fun _ a ha => ⟨.ref a, rfl, fun na => .inr ⟨a, C, b1, b2, b3, b4, t, rfl, upd_same, x2, y1, y2, y3, y4, y5, y6, fun p H'' e => kk p H'' ((Ex.new na).trans e)⟩⟩, fun z => by cases z⟩
    · rintro σ' H2 (⟨pr, rfl, k⟩ | ⟨a, D, b1, b2, b3, b4, t, rfl, h2, hC, k1, k2, k3, k4, ht, htl, k⟩)
      · exact q_when (b := true) (et_is (et_test (ev_op (ev_var rfl) ev_c rv_isN)) rfl) (fun _ H3 e3 => s_ret (ev_var rfl) fun H4 e4 => k H4 (e3.trans e4)) (fun z => by cases z)
      · refine q_when (b := false) (et_is (et_test (ev_op (ev_var rfl) ev_c rv_isN)) rfl) (fun z => by cases z) (fun _ H3 e3 => ?_)
        have h3 := e3 _ _ h2
        have cl : ∀ {C : Addr} (u : Value), RelV (.ref C) u → u = .ref C := fun u h => h
        refine q_asgL (xs := ([(xRep, b1), (xSign, b2), (xNum, b3), (xMany, b4)] : List (Tx × Bool)).map fun a => V.bl a.2) (el_lst (ea_cons (ev_cb (ea_cons (ev_var rfl) (ea_cons ev_c ea_nil)) (rc_isK h3 hC cl k1)) (ea_cons (ev_cb (ea_cons (ev_var rfl) (ea_cons ev_c ea_nil)) (rc_isK h3 hC cl k2)) (ea_cons (ev_cb (ea_cons (ev_var rfl) (ea_cons ev_c ea_nil)) (rc_isK h3 hC cl k3)) (ea_cons (ev_cb (ea_cons (ev_var rfl) (ea_cons ev_c ea_nil)) (rc_isK h3 hC cl k4)) ea_nil)))) (by show 4 ≤ 100000; decide)) fun pk H4 hpk e4 h4 => ?_
        have hlc := el_lcG (σ := [some (.int way), some (.ref pp), some (.ref pn), some (.ref a), none, some (.ref pk), none, none]) (H := H4) (wi := iZip K (tCons (tLst (tCons (tC (T xRep)) (tCons (tC (T xSign)) (tCons (tC (T xNum)) (tCons (tC (T xMany)) tNil))))) (tCons (tVar 5) tNil))) (g := gTup K 2 (gCons (gName 6) (gCons (gName 7) gNil))) (vs := [6, 7]) (t := tB (tVar 7)) (te := tVar 6) (p := fun a : Tx × Bool => a.2) (gv := fun a => T a.1) ([(xRep, b1), (xSign, b2), (xNum, b3), (xMany, b4)] : List (Tx × Bool)) (fun q => [some (.int way), some (.ref pp), some (.ref pn), some (.ref a), none, some (.ref pk), some (T q.1), some (.bl q.2)]) (fun q x H1 => ∃ z, x = .ref z ∧ H1 z = some (.tup [T q.1, .bl q.2])) (src_zipN (n := 4) (xs := ([(xRep, b1), (xSign, b2), (xNum, b3), (xMany, b4)] : List (Tx × Bool)).map fun a => T a.1) (el_lst (ea_cons ev_c (ea_cons ev_c (ea_cons ev_c (ea_cons ev_c ea_nil)))) (by show 4 ≤ 100000; decide)) (ev_var rfl) (sq_of h4) rfl) (by decide) rfl ?_ ?_ (fun _ => rfl) (fun q H5 e5 hq => et_B (ev_var rfl)) (fun q H5 e5 hq _ => ev_var rfl)
        · refine s_retU (xs := [T xErr, T t]) (eu_tup (ea_cons ev_c (ea_cons (ev_is (ev_bmTL (xs := (((([(xRep, b1), (xSign, b2), (xNum, b3), (xMany, b4)] : List (Tx × Bool)).filter (·.2)).map (·.1)).map T)) ev_c (by rw [List.map_map]; exact hlc) fun q H5 hq e5 => rm_join (.inl (sq_of hq)) (by rw [← flat_len, ← List.flatMap_def, ← ht]; omega)) (by rw [ht, List.flatMap_def])) ea_nil)) (by show 2 ≤ 100000; decide)) fun q H5 hq e5 h5 => k q H5 ((e3.trans e4).trans e5) h5
        · rintro i x H5 ⟨z, y1, y2, rfl, hy1, hy2, hz⟩
          obtain ⟨q1, hq1, rfl⟩ := at_map hy1
          obtain ⟨q2, hq2, rfl⟩ := at_map hy2
          rw [hq1] at hq2
          cases hq2
          exact ⟨q1, hq1, z, rfl, hz⟩
        · rintro q x H5 Q' ⟨z, rfl, hz⟩ k'
          exact ⟨z, _, rfl, st_of hz, rfl, _, _, rfl, _, [], rfl, rfl, k'⟩
end
end K22
set_option Elab.async false
set_option linter.all false
set_option maxRecDepth 100000
set_option maxHeartbeats 4000000
set_option exponentiation.threshold 5000
namespace K22
open PySem PySem.Spec PyProof.Rows L2 Evl Wc Wt Wg Ws We
/-- what is no replacing by own signs -/
def NoRep (H : Hp) (x : V) : Prop := ∃ o, Rt H x o ∧ ownB o = false ∧ Sm o
theorem NoRep.ex {H H1 : Hp} {x : V} (h : NoRep H x) (e : Ex H H1) : NoRep H1 x := by
  obtain ⟨o, h1, h2⟩ := h
  exact ⟨o, h1.ex e, h2⟩
/-- a part that none has -/
def BadP (n : Nat) (o : Option Tx) : Prop := ∀ t, o = some t → 12 < t.length ∨ ∃ c ∈ t, c ∉ AB.take n
theorem ownB_bad {os : List (Option Tx)} {o : Option Tx} (ho : o ∈ os) (hb : BadP os.length o) : ownB (some os) = false := by
  rw [ownB_some, repB_some]
  cases o with
  | none =>
    have : os.all elB = false := Bool.eq_false_iff.mpr fun z => by
      have := List.all_eq_true.mp z _ ho
      cases this
    rw [this]
    simp
  | some t =>
    rcases hb t rfl with h | ⟨c, hc, hn⟩
    · have : os.all elB = false := Bool.eq_false_iff.mpr fun z => by
        have h1 := List.all_eq_true.mp z _ ho
        have h2 : areSigns t 12 = true := h1
        unfold areSigns at h2
        rw [Bool.and_eq_true] at h2
        have := of_decide_eq_true h2.1
        omega
      rw [this]
      simp
    · have : ownT (txs os) = false := Bool.eq_false_iff.mpr fun z => by
        unfold ownT at z
        have h1 := List.all_eq_true.mp z c (List.mem_flatten.mpr ⟨t, List.mem_map.mpr ⟨some t, ho, rfl⟩, hc⟩)
        have h2 : c ∈ AB.take (txs os).length := of_decide_eq_true h1
        unfold txs at h2
        rw [List.length_map] at h2
        exact hn h2
      rw [this]
      simp
/-- things put together: the part at i another one -/
def swap (rep : List Tx) (i : Nat) (o : Option Tx) : List (Option Tx) := (rep.take i).map some ++ [o] ++ (rep.drop (i + 1)).map some
theorem swap_len {rep : List Tx} {i : Nat} {o : Option Tx} (h : i < rep.length) : (swap rep i o).length = rep.length := by
  unfold swap
  simp only [List.length_append, List.length_map, List.length_take, List.length_drop, List.length_cons, List.length_nil]
  omega
theorem swap_mem {rep : List Tx} {i : Nat} {o : Option Tx} : o ∈ swap rep i o := by
  unfold swap
  simp
theorem swap_all2 {H : Hp} {rep : List Tx} {i : Nat} {v : V} {o : Option Tx} (hv : El H v o) : All2 (El H) ((rep.take i).map T ++ [v] ++ (rep.drop (i + 1)).map T) (swap rep i o) :=
  ((all2_some _).app (.one hv)).app (all2_some _)
/-- .. another text -/
def swapT (rep : List Tx) (i : Nat) (t : Tx) : List Tx := rep.take i ++ [t] ++ rep.drop (i + 1)
theorem swapT_len {rep : List Tx} {i : Nat} {t : Tx} (h : i < rep.length) : (swapT rep i t).length = rep.length := by
  unfold swapT
  simp only [List.length_append, List.length_take, List.length_drop, List.length_cons, List.length_nil]
  omega
theorem swapT_mem {rep : List Tx} {i : Nat} {t u : Tx} (h : u ∈ swapT rep i t) : u ∈ rep ∨ u = t := by
  unfold swapT at h
  simp only [List.mem_append, List.mem_singleton] at h
  rcases h with (h | h) | h
  · exact .inl (List.mem_of_mem_take h)
  · exact .inr h
  · exact .inl (List.mem_of_mem_drop h)
theorem swapT_rep {rep : List Tx} {i : Nat} {t : Tx} (h : IsRep rep) (hi : i < rep.length) (h1 : t.length ≤ 12) (h2 : ∀ c ∈ t, 97 ≤ c ∧ c < 97 + rep.length) : IsRep (swapT rep i t) := by
  have hl := swapT_len (t := t) hi
  refine ⟨fun z => ?_, by rw [hl]; exact h.few, fun u hu => ?_, fun u hu c hc => ?_⟩
  · rw [z] at hl
    simp at hl
    omega
  · rcases swapT_mem hu with h3 | rfl
    · exact h.short u h3
    · exact h1
  · rw [hl]
    rcases swapT_mem hu with h3 | rfl
    · exact h.own u h3 c hc
    · exact h2 c hc
section
variable {K : PySem.W.Frag} {σ : L2.St} {H : Hp} {ta tb te : TE} {xs ys : List V}
/-- rep[:i] + (x,) + rep[i + 1:] -/
theorem ew_swap {p : Addr} {rep : List Tx} {i : Nat} {v : V} {tr ti : TE} (hr : Ev tr σ H (.ref p)) (hp : H p = some (.tup (rep.map T))) (hi : Ev ti σ H (.int (i : Int))) (hv : Ev tb σ H v) (hl : rep.length ≤ 1000) (hil : i < rep.length) :
    EvW (tOp (rCatA K) (tOp (rCatA K) (tSl (rSlA K) tr tNoPart (tPart ti)) (tTup (tCons tb tNil))) (tSl (rSlA K) tr (tPart (tOp (rI0 fun i j => .int (i + j)) ti (tC (.int 1)))) tNoPart)) σ H ((rep.take i).map T ++ [v] ++ (rep.drop (i + 1)).map T) := by
  have e1 : cutV (rep.map T) none (some (i : Int)) = (rep.take i).map T := by rw [cutV_to, List.map_take]
  have e2 : cutV (rep.map T) (some ((i + 1 : Nat) : Int)) none = (rep.drop (i + 1)).map T := by rw [cutV_from, List.map_drop]
  rw [← e1, ← e2]
  refine ew_cat (ew_cat (ew_sl (ew_ev hr hp) (fun _ _ => eo_none) (fun H1 e => eo_some (hi.mono e))) (fun H1 e => ew_of (eu_tup (ea_cons (hv.mono e) ea_nil) (by show 1 ≤ 100000; decide))) ?_) (fun H1 e => ew_sl (ew_ev (hr.mono e) (e _ _ hp)) (fun H2 e2 => eo_some (ev_op ((hi.mono e).mono e2) ev_c rv_I0)) fun _ _ => eo_none) ?_
  · rw [e1]
    simp
    omega
  · have : ((i : Int) + 1) = ((i + 1 : Nat) : Int) := by omega
    rw [e1]
    show ((rep.take i).map T ++ [v]).length + (cutV (rep.map T) (some ((i + 1 : Nat) : Int)) none).length ≤ _
    rw [e2]
    simp
    omega
end
end K22
set_option Elab.async false
set_option linter.all false
set_option maxRecDepth 100000
set_option maxHeartbeats 4000000
set_option exponentiation.threshold 5000
namespace K22
open PySem PySem.Spec PyProof.Rows L2 Evl Wc Wt Wg Ws We
section
variable {σ : L2.St} {H : Hp} {ta tb te : TE} {tz : TS} {D : Ends}
theorem q_par2 {i j : Nat} (h : ta σ H fun v H1 => tb σ H1 fun w H2 => ∃ v' w', [v, w] = [v', w'] ∧ tz D ((σ.set i (some v')).set j (some w')) H2) : tSeq (tPar i j (tCons ta (tCons tb tNil))) tz D σ H := h
theorem s_retA (k : te σ H D.rt) : tRet te D σ H := k
end
/-- the heap without the feed -/
def hidF (fa : Addr) (H : Hp) : Hp := fun a => if a = fa then none else H a
theorem hidF_at {fa a : Addr} {H : Hp} {o : HO} (n : a ≠ fa) (h : H a = some o) : hidF fa H a = some o := by
  unfold hidF
  rw [if_neg n]
  exact h
theorem hidF_ex (fa : Addr) (H : Hp) : Ex (hidF fa H) H := fun a o h => by
  unfold hidF at h
  split at h
  · cases h
  · exact h
theorem hidF_mono {fa : Addr} {H H1 : Hp} (e : Ex H H1) : Ex (hidF fa H) (hidF fa H1) := fun a o h => by
  unfold hidF at h ⊢
  split at h
  · cases h
  · rename_i n
    rw [if_neg n]
    exact e _ _ h
theorem hidF_rf {fa : Addr} {m : Nat} {H H1 : Hp} (R : Rf fa m H H1) : Ex (hidF fa H) (hidF fa H1) := fun a o h => by
  unfold hidF at h ⊢
  split at h
  · cases h
  · rename_i n
    rw [if_neg n]
    exact R.keep a o n h
theorem abcde_at {n : Nat} (h : n ≤ 4) : ([97, 98, 99, 100, 101] : Tx)[n]? = some (97 + n) := by
  rcases n with _ | _ | _ | _ | _ | n
  · rfl
  · rfl
  · rfl
  · rfl
  · rfl
  · omega
section
variable {P : Program} {w : World} {K : PySem.W.Frag} {mg : Str → Option Value} {base : Heap}
def sp_bad : Sp := fun vs H Q _ => ∃ (fa p : Addr) (rep : List Tx), vs = [.ref fa, .ref p] ∧ GF fa 10 H ∧ RepAt p rep H ∧ ∀ x H', NoRep (hidF fa H') x → Rf fa 10 H H' → Q x H'
theorem ok__law_bad_replacing {f : Addr} {fd : FuncData} (F : Fun K "_law_bad_replacing" "_law_bad_replacing" st__law_bad_replacing f fd) (M : Md K mg) (C__law_draw : Cal P w K mg base "_law_draw" st__law_draw 1 ["feed", "many"] sp_draw) (C__law_one : Cal P w K mg base "_law_one" st__law_one 2 ["feed", "things"] (sp_one K)) : FnOk P w K mg base CX0 3 f fd ["feed", "replacing"] sp_bad := by
  have nd := sc__law_bad_replacing.nd
  refine F.ok sc__law_bad_replacing (fun vs H Q E h => ?_) (fun cdv A outer s H vs Q E hr h => ?_)
  · obtain ⟨_, _, _, rfl, _⟩ := h
    rfl
  · obtain ⟨fa, p, rep, rfl, G, hR, k⟩ := h
    refine ⟨_, (pss_cons (ps_par (i := 2) (j := 3) rfl nd rfl rfl (by decide) rfl rfl (pa_cons (pe_cl C__law_draw hr (pa_cons (pv 0) (pa_cons (pe_callB (kcr K (r := rLenS) call_len_seq) (by rfl) M.n_len boot_len (pa_cons (pv 1) pa_nil)) pa_nil))) (pa_cons (pe_callB (kcr K (r := rLenS) call_len_seq) (by rfl) M.n_len boot_len (pa_cons (pv 1) pa_nil)) pa_nil)) (by rfl))
  (pss_cons (ps_set (i := 4) nd rfl (Or.inl rfl) (pe_cl C__law_one hr (pa_cons (pv 0) (pa_cons (pe_lst (pa_cons (pe_ix ix_T (pe_sT [97, 98, 99, 100, 101]) (pv 3) (fun _ _ => rfl)) (pa_cons (pe_sT [101]) (pa_cons (pe_op op_addT (pe_ix (kix K (r := L2.rIxT) ix_tup) (pv 1) (pv 2) (fun _ _ => rfl)) (pe_ix ix_T (pe_sT [97, 98, 99, 100, 101]) (pv 3) (fun _ _ => rfl))) (pa_cons (pe_op op_mulT (pe_sT [97]) pe_int) (pa_cons pe_non (pa_cons (pe_callTy (call_list_T rfl) (by rfl) M.n_list boot_list (pa_cons (pe_ix (kix K (r := L2.rIxT) ix_tup) (pv 1) (pv 2) (fun _ _ => rfl)) pa_nil)) (pa_cons pe_int (pa_cons (pe_sT [65]) (pa_cons (pe_sT [32]) (pa_cons pe_bl pa_nil))))))))))) pa_nil))))
  (pss_cons (ps_set (i := 5) nd rfl (Or.inl rfl) (pe_op (kop K (r := rCatA) op_catA) (pe_op (kop K (r := rCatA) op_catA) (pe_slice (ksl K (r := rSlA) sl_tupA) (pv 1) po_none (po_some (pv 2))) (pe_tup (pa_cons (pv 4) pa_nil))) (pe_slice (ksl K (r := rSlA) sl_tupA) (pv 1) (po_some (pe_op op_add (pv 2) pe_int)) po_none)))
  (pss_one (ps_ret (pe_cl C__law_one hr (pa_cons (pv 0) (pa_cons (pe_lst (pa_cons (pv 5) (pa_cons (pv 5) (pa_cons (pe_callTy (kcr K (r := rListS) call_list_of) (by rfl) M.n_list boot_list (pa_cons (pv 1) pa_nil)) (pa_cons (pe_tup pa_nil) (pa_cons pe_non (pa_cons (pe_sT [97, 98]) (pa_cons (pe_op (krepT (K := K)) (pe_tup (pa_cons (pe_sT [97]) pa_nil)) pe_int) (pa_cons pe_int (pa_cons pe_dnewK pa_nil)))))))))) pa_nil)))))))), ?_⟩
    have hfew := hR.2.few
    have hpos : 0 < rep.length := List.length_pos_iff.mpr hR.2.ne
    have npf := G.ofTup hR.1
    refine q_par2 (wp_draw (i := 0) (many := (rep.length : Int)) rfl (eo_lenU (i := 1) rfl hR.1) G (by omega) (by omega) fun d H1 hd R1 => (eo_lenU (i := 1) rfl (R1.at_ hR.1 npf) : Ev _ _ H1 _) H1 (Ex.refl _) _ fun H2 e2 => ⟨_, _, rfl, ?_⟩)
    have hd : d < rep.length := by omega
    have RA := R1.then e2
    have h2 := RA.at_ hR.1 npf
    have GA : GF fa 9 H2 := G.go RA (by omega)
    have es : ((start N__law_bad_replacing [.ref fa, .ref p]).set 2 (some (.int ((d : Nat) : Int)))).set 3 (some (.int ((rep.length : Nat) : Int))) = [some (.ref fa), some (.ref p), some (.int (d : Int)), some (.int ((rep.length : Nat) : Int)), none, none] := rfl
    rw [es]
    clear es
    have hat : ∀ H3, Ex H2 H3 → Ev (tOp (L2.rIxT K) (tVar 1) (tVar 2)) [some (.ref fa), some (.ref p), some (.int (d : Int)), some (.int ((rep.length : Nat) : Int)), none, none] H3 (T rep[d]) := fun H3 e3 => ev_op (ev_var rfl) (ev_var rfl) (rv_ixT (st_of (e3 _ _ h2)) (atI_nat (by rw [List.getElem?_map, List.getElem?_eq_getElem hd]; rfl)))
    have h5 : ∀ H3, Ev (tOp rIxT (tC (T [97, 98, 99, 100, 101])) (tVar 3)) [some (.ref fa), some (.ref p), some (.int (d : Int)), some (.int ((rep.length : Nat) : Int)), none, none] H3 (T [97 + rep.length]) := fun H3 => ev_op ev_c (ev_var rfl) (rv_ixT (by decide) (atI_nat (abcde_at hfew)))
    have hsd : rep[d].length ≤ 12 := hR.2.short _ (List.getElem_mem hd)
    refine q_asgA (l_call (a_ev (ev_var rfl) fun H3 e3 => a_any (l_lst (a_ev (h5 H3) fun H4 e4 => a_c (a_ev (ev_op (hat H4 (e3.trans e4)) (h5 H4) (rv_addT (by show rep[d].length + 1 ≤ _; omega))) fun H5 e5 => a_ev (ev_op ev_c ev_c (rv_mulT (a := [97]) (n := 13) (by decide) (by decide) (by decide))) fun H6 e6 => a_c (a_el (el_listTx (hat H6 (((e3.trans e4).trans e5).trans e6)) (by omega)) fun pl H7 hpl e7 hl => a_c (a_c (a_c (a_c (a_nil ⟨by show 10 ≤ sizeLine; decide, fun pw hpw => ?_⟩))))))))))
    have e37 := ((((e3.trans e4).trans e5).trans e6).trans e7)
    have npl : pl ≠ fa := (GA.ex (((e3.trans e4).trans e5).trans e6)).new hpl
    have hlw := (Ex.new (o := HO.lst [T [97 + rep.length], T [101], T (rep[d] ++ [97 + rep.length]), T (repT 13 [97]), .non, .ref pl, .int 0, T [65], T [32], .bl true]) hpw) _ _ hl
    have eW := e37.trans (Ex.new (o := HO.lst [T [97 + rep.length], T [101], T (rep[d] ++ [97 + rep.length]), T (repT 13 [97]), .non, .ref pl, .int 0, T [65], T [32], .bl true]) hpw)
    have npw : pw ≠ fa := (GA.ex e37).new hpw
    refine ⟨fa, (GA.ex eW).mono (by omega), .inr ⟨pw, _, rfl, .inl (sq_of upd_same), npw, by simp, by simp, fun x H8 hx R8 => ?_⟩⟩
    obtain ⟨o, hEl, hbad, hsm⟩ : ∃ o, El (hidF fa H8) x o ∧ BadP rep.length o ∧ (∀ t, o = some t → t.length ≤ 20000) := by
      have hn : ∀ c, 97 + rep.length ≤ c → c ∉ AB.take rep.length := fun c hc z => by
        have := (mem_AB hfew).mp z
        omega
      have hn2 : ∀ c, c < 97 → c ∉ AB.take rep.length := fun c hc z => by
        have := (mem_AB hfew).mp z
        omega
      simp only [List.mem_cons, List.not_mem_nil, or_false] at hx
      rcases hx with rfl | rfl | rfl | rfl | rfl | rfl | rfl | rfl | rfl | rfl
      · exact ⟨_, .str _, fun t ht => by cases ht; exact .inr ⟨_, List.mem_singleton.mpr rfl, hn _ (Nat.le_refl _)⟩, fun t ht => by cases ht; simp⟩
      · exact ⟨_, .str _, fun t ht => by cases ht; exact .inr ⟨_, List.mem_singleton.mpr rfl, hn _ (by omega)⟩, fun t ht => by cases ht; simp⟩
      · exact ⟨_, .str _, fun t ht => by cases ht; exact .inr ⟨97 + rep.length, by simp, hn _ (Nat.le_refl _)⟩, fun t ht => by cases ht; simp; omega⟩
      · exact ⟨_, .str _, fun t ht => by cases ht; exact .inl (by decide), fun t ht => by cases ht; decide⟩
      · exact ⟨_, .non, fun t ht => (by cases ht), fun t ht => (by cases ht)⟩
      · exact ⟨_, .lst (hidF_at npl (R8.at_ hlw npl)), fun t ht => (by cases ht), fun t ht => (by cases ht)⟩
      · exact ⟨_, .int _, fun t ht => (by cases ht), fun t ht => (by cases ht)⟩
      · exact ⟨_, .str _, fun t ht => by cases ht; exact .inr ⟨_, List.mem_singleton.mpr rfl, hn2 _ (by decide)⟩, fun t ht => by cases ht; simp⟩
      · exact ⟨_, .str _, fun t ht => by cases ht; exact .inr ⟨_, List.mem_singleton.mpr rfl, hn2 _ (by decide)⟩, fun t ht => by cases ht; simp⟩
      · exact ⟨_, .bl _, fun t ht => (by cases ht), fun t ht => (by cases ht)⟩
    have RB : Rf fa 2 H H8 := RA.trans (Rf.pre eW R8)
    have GB : GF fa 8 H8 := G.go RB (by omega)
    have h8 := RB.at_ hR.1 npf
    clear hat h5 hlw hl hpl hpw npw hx eW e37 e3 e4 e5 e6 e7 R8
    have es : (([some (.ref fa), some (.ref p), some (.int (d : Int)), some (.int ((rep.length : Nat) : Int)), none, none] : L2.St).set 4 (some x)) = [some (.ref fa), some (.ref p), some (.int (d : Int)), some (.int ((rep.length : Nat) : Int)), some x, none] := rfl
    rw [es]
    clear es
    refine q_asgA (ew_swap (rep := rep) (i := d) (ev_var rfl) h8 (ev_var rfl) (ev_var rfl) (by omega) hd H8 (Ex.refl _) _ fun pb H9 e9 hb => ?_)
    have npb : pb ≠ fa := (GB.ex e9).ofTup hb
    refine s_retA (l_call (a_ev (ev_var rfl) fun Ha ea => a_any (l_lst (a_ev (ev_var rfl) fun Hb eb => a_ev (ev_var rfl) fun Hc ec => a_el (el_listU (p := p) (xs := rep.map T) (ev_var rfl) ((((e9.trans ea).trans eb).trans ec) _ _ h8)) fun pl2 Hd hpl2 ed hd2 => a_eu (eu_tup ea_nil (by decide)) fun pt He hpt ee he => a_c (a_c (a_eu (eu_mul (xs := [T [97]]) (n := 5) (eu_tup (ea_cons ev_c ea_nil) (by show 1 ≤ 100000; decide)) ev_c (by simp) (by decide) (by decide) (by decide)) fun pm Hf hpm ef hf => a_c (a_any fun pd hpd => a_nil ⟨by show 9 ≤ sizeLine; decide, fun pw hpw => ?_⟩)))))))
    have e1 := ((ea.trans eb).trans ec)
    have e2 := e1.trans ed
    have e3 := e2.trans ee
    have e4 := e3.trans ef
    have e5 := e4.trans (Ex.new (o := HO.dK []) hpd)
    have n1 : pl2 ≠ fa := ((GB.ex e9).ex e1).new hpl2
    have n2 : pt ≠ fa := ((GB.ex e9).ex e2).new hpt
    have n3 : pm ≠ fa := ((GB.ex e9).ex e3).new hpm
    have n4 : pd ≠ fa := ((GB.ex e9).ex e4).new hpd
    have n5 : pw ≠ fa := ((GB.ex e9).ex e5).new hpw
    have k1 := ((((ee.trans ef).trans (Ex.new (o := HO.dK []) hpd)))) _ _ hd2
    have k2 := (ef.trans (Ex.new (o := HO.dK []) hpd)) _ _ he
    have k3 := (Ex.new (o := HO.dK []) hpd) _ _ hf
    have k4 : (upd Hf pd (.dK [])) pd = some (.dK []) := upd_same
    have k5 := e5 _ _ hb
    generalize upd Hf pd (.dK []) = Hg at e5 hpw k1 k2 k3 k4 k5 ⊢
    refine ⟨fa, ((((GB.ex e9).ex e5).ex (Ex.new hpw))).mono (by omega), .inr ⟨pw, _, rfl, .inl (sq_of upd_same), n5, by simp, by simp, fun y H' hy R => ?_⟩⟩
    have RR : Rf fa 10 H H' := ((RB.then ((e9.trans e5).trans (Ex.new hpw))).trans R).mono (by omega)
    have up : ∀ {a : Addr} {o : HO}, Hg a = some o → a ≠ fa → hidF fa H' a = some o := fun h n => hidF_at n (R.at_ (Ex.new hpw _ _ h) n)
    simp only [List.mem_cons, List.not_mem_nil, or_false] at hy
    have hbent : NoRep (hidF fa H') (.ref pb) := by
      refine ⟨_, .tup (up k5 npb) (swap_all2 (hEl.ex (hidF_rf (Rf.pre ((e9.trans e5).trans (Ex.new hpw)) R)))), ownB_bad swap_mem (by rw [swap_len hd]; exact hbad), by rw [swap_len hd]; omega, fun t ht => ?_⟩
      unfold swap at ht
      simp only [List.mem_append, List.mem_map, List.mem_singleton] at ht
      rcases ht with (⟨u, hu, hz⟩ | hz) | ⟨u, hu, hz⟩
      · cases hz
        have := hR.2.short _ (List.mem_of_mem_take hu)
        omega
      · exact hsm t hz.symm
      · cases hz
        have := hR.2.short _ (List.mem_of_mem_drop hu)
        omega
    rcases hy with rfl | rfl | rfl | rfl | rfl | rfl | rfl | rfl | rfl
    · exact k _ H' hbent RR
    · exact k _ H' hbent RR
    · exact k _ H' ⟨_, .lst (up k1 n1), rfl, trivial⟩ RR
    · exact k _ H' ⟨_, .tup (up k2 n2) .nil, rfl, by decide, fun t ht => by cases ht⟩ RR
    · exact k _ H' ⟨_, .non, rfl, trivial⟩ RR
    · exact k _ H' ⟨_, .str _, rfl, trivial⟩ RR
    · refine k _ H' ⟨_, .tup (up k3 n3) (all2_some [[97], [97], [97], [97], [97]]), by decide +kernel, by decide, fun t ht => ?_⟩ RR
      have : t = [97] := by simpa using ht
      rw [this]
      decide
    · exact k _ H' ⟨_, .int _, rfl, trivial⟩ RR
    · exact k _ H' ⟨_, .dK (up k4 n4), rfl, trivial⟩ RR
end
end K22
set_option Elab.async false
set_option linter.all false
set_option maxRecDepth 100000
set_option maxHeartbeats 4000000
set_option exponentiation.threshold 5000
namespace K22
open PySem PySem.Spec PyProof.Rows L2 Evl Wc Wt Wg Ws We
section
variable {K : PySem.W.Frag} {σ : L2.St} {H : Hp} {ta tb te : TE} {tz : TS} {D : Ends} {tq : TA}
theorem q_par3A {i j l : Nat} (h : tq σ H fun vs H1 => ∃ u v w, vs = [u, v, w] ∧ tz D (((σ.set i (some u)).set j (some v)).set l (some w)) H1) : tSeq (tPar3 i j l tq) tz D σ H := h
theorem et_maxLt {ns : List Int} {k : Int} {b : Bool} (h : EvL te σ H (ns.map V.int)) (hn : 0 < ns.length) (hb : ∀ m : Int, m ∈ ns → (∀ y, y ∈ ns → y ≤ m) → decide (m < k) = b) : EvT (tTest (tOp (rI0 fun i j => .bl (decide (i < j))) (tCB (rMax K) (tCons te tNil)) (tC (.int k)))) σ H b := fun H1 e Q q => by
  show te σ H1 fun v H2 => rMax K [v] H2 fun x H3 => rI0 (fun i j => .bl (decide (i < j))) x (.int k) H3 fun z H4 => ∃ c, z = .bl c ∧ Q c H4
  refine h H1 e _ fun p H2 hp e2 h2 => ⟨p, ns, rfl, sq_of h2, hn, fun m h3 h4 => ⟨m, k, rfl, rfl, _, rfl, ?_⟩⟩
  rw [hb m h3 h4]
  exact q H2 e2
theorem cat_step {p r : Addr} {xs ys : List V} {Q : VK} (h1 : H p = some (.tup xs)) (h2 : H r = some (.tup ys)) (hl : xs.length + ys.length ≤ 100000) (k : ∀ s H1, Ex H H1 → H1 s = some (.tup (xs ++ ys)) → Q (.ref s) H1) : rCatA K (.ref p) (.ref r) H Q :=
  ⟨p, r, xs, ys, rfl, rfl, st_of h1, st_of h2, sz_of hl, fun z => k r H (Ex.refl _) (by rw [z]; exact h2), fun _ z => k p H (Ex.refl _) (by rw [z, List.append_nil]; exact h1), fun _ _ s hs => k s _ (Ex.new hs) upd_same⟩
/-- rep[:i] + (x,) + rep[i + 1:], x drawn -/
theorem wp_swap {i j : Nat} {fa p : Addr} {rep : List Tx} {d m B : Nat} {Q : VK} (good : Tx → Prop) (h0 : σ[i]? = some (some (.ref p))) (h1 : σ[j]? = some (some (.int (d : Int)))) (hp : H p = some (.tup (rep.map T))) (G : GF fa B H) (hmB : m ≤ B) (hl : rep.length ≤ 1000)
    (hb : ∀ H1, Ex H H1 → ∀ Q' : VK, (∀ t H2, good t → Rf fa m H1 H2 → Q' (T t) H2) → tb σ H1 Q') (k : ∀ t q H2, good t → Rf fa m H H2 → H2 q = some (.tup ((swapT rep d t).map T)) → Q (.ref q) H2) :
    tOp (rCatA K) (tOp (rCatA K) (tSl (rSlA K) (tVar i) tNoPart (tPart (tVar j))) (tTup (tCons tb tNil))) (tSl (rSlA K) (tVar i) (tPart (tOp (rI0 fun i j => .int (i + j)) (tVar j) (tC (.int 1)))) tNoPart) σ H Q := by
  have npf := G.ofTup hp
  refine (ew_sl (K := K) (ew_ev (ev_var h0) hp) (fun _ _ => eo_none) (fun H1 e => eo_some (ev_var h1)) : EvW _ σ H _) H (Ex.refl _) _ fun pA H1 e1 hA => ?_
  have nA := (G.ex e1).ofTup hA
  refine l_tup (a_any (hb H1 e1 _ fun t H2 ht R2 => a_nil ⟨by show 1 ≤ sizeLine; decide, fun q1 hq1 => ?_⟩))
  have hA2 := Ex.new (o := HO.tup [T t]) hq1 _ _ (R2.at_ hA nA)
  have hp2 := Ex.new (o := HO.tup [T t]) hq1 _ _ (R2.at_ (e1 _ _ hp) npf)
  have RA := (Rf.pre e1 R2).then (Ex.new (o := HO.tup [T t]) hq1)
  refine cat_step hA2 upd_same (by rw [cutV_to]; simp; omega) fun s H3 e3 hs => ?_
  refine (ew_sl (K := K) (ew_ev (ev_var h0) (e3 _ _ hp2)) (fun H4 e => eo_some (ev_op (ev_var h1) ev_c rv_I0)) (fun _ _ => eo_none) : EvW _ σ H3 _) H3 (Ex.refl _) _ fun pB H4 e4 hB => ?_
  have e1' : cutV (rep.map T) none (some (d : Int)) = (rep.take d).map T := by rw [cutV_to, List.map_take]
  have e2' : cutV (rep.map T) (some ((d : Int) + 1)) none = (rep.drop (d + 1)).map T := by
    rw [show ((d : Int) + 1) = ((d + 1 : Nat) : Int) by omega, cutV_from, List.map_drop]
  rw [e1'] at hs
  rw [e2'] at hB
  refine cat_step (e4 _ _ hs) hB (by simp; omega) fun q H5 e5 hq => k t q H5 ht (RA.then ((e3.trans e4).trans e5)) ?_
  rw [hq]
  unfold swapT
  simp
end
section
variable {P : Program} {w : World} {K : PySem.W.Frag} {mg : Str → Option Value} {base : Heap}
def sp_second : Sp := fun vs H Q _ => ∃ (fa p : Addr) (rep : List Tx), vs = [.ref fa, .ref p] ∧ GF fa 100 H ∧ RepAt p rep H ∧ (∀ t ∈ rep, t ≠ []) ∧ ∀ q oth H', IsRep oth → (∀ t ∈ oth, t ≠ []) → oth.length = rep.length → H' q = some (.tup (oth.map T)) → Rf fa 100 H H' → Q (.ref q) H'
theorem ok__law_second {f : Addr} {fd : FuncData} (F : Fun K "_law_second" "_law_second" st__law_second f fd) (M : Md K mg) (C__law_draw : Cal P w K mg base "_law_draw" st__law_draw 1 ["feed", "many"] sp_draw) (C__law_one : Cal P w K mg base "_law_one" st__law_one 2 ["feed", "things"] (sp_one K)) (C__law_done : Cal P w K mg base "_law_done" st__law_done 1 ["replacing", "text", "times"] sp_done) (C__law_image : Cal P w K mg base "_law_image" st__law_image 3 ["feed", "signs", "head"] sp_image) (C__law_replacing : Cal P w K mg base "_law_replacing" st__law_replacing 4 ["feed", "many"] sp_replacing) : FnOk P w K mg base CX0 5 f fd ["feed", "replacing"] sp_second := by
  have nd := sc__law_second.nd
  refine F.ok sc__law_second (fun vs H Q E h => ?_) (fun cdv A outer s H vs Q E hr h => ?_)
  · obtain ⟨_, _, _, rfl, _⟩ := h
    rfl
  · obtain ⟨fa, p, rep, rfl, G, hR, hfull, k⟩ := h
    refine ⟨_, (pss_cons (ps_par3 (i := 2) (j := 3) (l := 4) rfl nd rfl rfl rfl (by decide) (by decide) (by decide) rfl rfl rfl (pa_cons (pe_callB (kcr K (r := rLenS) call_len_seq) (by rfl) M.n_len boot_len (pa_cons (pv 1) pa_nil)) (pa_cons (pe_cl C__law_draw hr (pa_cons (pv 0) (pa_cons pe_int pa_nil))) (pa_cons (pe_cl C__law_draw hr (pa_cons (pv 0) (pa_cons (pe_callB (kcr K (r := rLenS) call_len_seq) (by rfl) M.n_len boot_len (pa_cons (pv 1) pa_nil)) pa_nil))) pa_nil))) (by rfl))
  (pss_cons (ps_set (i := 5) nd rfl (Or.inl rfl) (pe_callTy (kcr K (r := rTupS) call_tuple_of) (by rfl) M.n_tuple boot_tuple (pa_cons (pe_lc (own := [("text", 6)]) rfl nd (kit K (pi_tup (pv 1))) (blkOk_by (N := N__law_second) (sc := defScope st__law_second) (by decide +kernel)) (fun _ _ _ _ _ => (pg_name (i := 6) nd rfl (Or.inl rfl))) (fun _ _ _ _ _ => pts_nil) (fun _ _ _ _ _ => (pe_cl C__law_done hr (pa_cons (pv 1) (pa_cons (pv 6) (pa_cons pe_int pa_nil)))))) pa_nil)))
  (pss_cons (ps_if (PW.pt (pw_and (pt_cmpR op_eqI (pv 3) pe_int (nomark _)) (pw_and1 (pt_cmpR op_lt (pe_callB (kcr K (r := rMax) (cr_max rfl)) (by rfl) M.n_max boot_max (pa_cons (pe_lc (own := [("text", 6)]) rfl nd (kit K (pi_tup (pv 5))) (blkOk_by (N := N__law_second) (sc := defScope st__law_second) (by decide +kernel)) (fun _ _ _ _ _ => (pg_name (i := 6) nd rfl (Or.inl rfl))) (fun _ _ _ _ _ => pts_nil) (fun _ _ _ _ _ => (pe_callB cr_lenT (by rfl) M.n_len boot_len (pa_cons (pv 6) pa_nil)))) pa_nil)) pe_int (nomark _)))))
  (pss_one (ps_ret (pv 5)))
  pss_nil)
  (pss_cons (ps_if (pt_cmpR op_lt (pv 3) pe_int (nomark _))
  (pss_one (ps_ret (pe_op (kop K (r := rCatA) op_catA) (pe_op (kop K (r := rCatA) op_catA) (pe_slice (ksl K (r := rSlA) sl_tupA) (pv 1) po_none (po_some (pv 4))) (pe_tup (pa_cons (pe_slice sl_T (pe_op op_addT (pe_ix (kix K (r := L2.rIxT) ix_tup) (pv 1) (pv 4) (fun _ _ => rfl)) (pe_cl C__law_one hr (pa_cons (pv 0) (pa_cons (pe_slice sl_T (pe_sT [97, 98, 99, 100]) po_none (po_some (pv 2))) pa_nil)))) po_none (po_some pe_int)) pa_nil))) (pe_slice (ksl K (r := rSlA) sl_tupA) (pv 1) (po_some (pe_op op_add (pv 4) pe_int)) po_none))))
  pss_nil)
  (pss_cons (ps_if (pt_cmpR op_eqI (pv 3) pe_int (nomark _))
  (pss_one (ps_ret (pe_op (kop K (r := rCatA) op_catA) (pe_op (kop K (r := rCatA) op_catA) (pe_slice (ksl K (r := rSlA) sl_tupA) (pv 1) po_none (po_some (pv 4))) (pe_tup (pa_cons (pe_cl C__law_image hr (pa_cons (pv 0) (pa_cons (pe_slice sl_T (pe_sT [97, 98, 99, 100]) po_none (po_some (pv 2))) (pa_cons (pe_ix ix_T (pe_sT [97, 98, 99, 100]) (pv 4) (fun _ _ => rfl)) pa_nil)))) pa_nil))) (pe_slice (ksl K (r := rSlA) sl_tupA) (pv 1) (po_some (pe_op op_add (pv 4) pe_int)) po_none))))
  pss_nil)
  (pss_one (ps_ret (pe_cl C__law_replacing hr (pa_cons (pv 0) (pa_cons (pv 2) pa_nil)))))))))), ?_⟩
    have hfew := hR.2.few
    have hpos : 0 < rep.length := List.length_pos_iff.mpr hR.2.ne
    have npf := G.ofTup hR.1
    refine q_par3A (a_ev (eo_lenU (i := 1) rfl hR.1) fun H1 e1 => a_any (wp_draw (i := 0) (many := 5) rfl ev_c (G.ex e1) (by decide) (by decide) fun y H2 hy R2 => a_any (wp_draw (i := 0) (many := (rep.length : Int)) rfl (eo_lenU (i := 1) rfl (R2.at_ (e1 _ _ hR.1) npf)) ((G.ex e1).go R2 (m' := 99) (by omega)) (by omega) (by omega) fun d H3 hd R3 => a_nil ⟨_, _, _, rfl, ?_⟩)))
    have hd : d < rep.length := by omega
    have RA : Rf fa 2 H H3 := (Rf.pre e1 R2).trans R3
    have h3 := RA.at_ hR.1 npf
    have es : (((start N__law_second [.ref fa, .ref p]).set 2 (some (.int ((rep.length : Nat) : Int)))).set 3 (some (.int ((y : Nat) : Int)))).set 4 (some (.int ((d : Nat) : Int))) = [some (.ref fa), some (.ref p), some (.int ((rep.length : Nat) : Int)), some (.int (y : Int)), some (.int (d : Int)), none, none] := rfl
    rw [es]
    clear es
    refine q_asgU (xs := rep.map fun t => T (phi rep t)) (eu_tupL (el_lcM (j := 6) (vs := [6]) (f := T) rep (src_tupM (ev_var (i := 1) rfl) (st_of h3)) (by omega) (fun _ => rfl) fun t H4 e4 ht => ev_call (ea_cons (ev_var rfl) (ea_cons (ev_var rfl) (ea_cons ev_c ea_nil))) fun H5 e5 Q5 q5 E => ⟨p, rep, t, 1, rfl, ⟨(e4.trans e5) _ _ h3, hR.2⟩, by have := hR.2.short t ht; omega, fun c hc => hR.2.own t ht c hc, by decide, fun v H' e' hv => ?_⟩)) fun pt H4 hpt e4 h4 => ?_
    · have ht12 := hR.2.short t ht
      have hp12 := phi_len hR.2 t
      rcases hv with ⟨rfl, _⟩ | ⟨_, j, hj, hbig⟩
      · exact q5 H' e'
      · exfalso
        rcases j with _ | _ | j
        · have : 3000 < t.length := hbig
          omega
        · have : 3000 < (phi rep t).length := hbig
          omega
        · omega
    have RB := RA.then e4
    have h4p := e4 _ _ h3
    have es : ([some (.ref fa), some (.ref p), some (.int ((rep.length : Nat) : Int)), some (.int (y : Int)), some (.int (d : Int)), none, none] : L2.St).set 5 (some (.ref pt)) = [some (.ref fa), some (.ref p), some (.int ((rep.length : Nat) : Int)), some (.int (y : Int)), some (.int (d : Int)), some (.ref pt), none] := rfl
    rw [es]
    clear es
    have hmx : EvT (tTest (tOp (rI0 fun i j => .bl (decide (i < j))) (tCB (rMax K) (tCons (tLc (iTup K (tVar 5)) (gName 6) tYes (tCB rLenT (tCons (tVar 6) tNil)) [6]) tNil)) (tC (.int 13)))) [some (.ref fa), some (.ref p), some (.int ((rep.length : Nat) : Int)), some (.int (y : Int)), some (.int (d : Int)), some (.ref pt), none] H4 (decide (∀ t ∈ rep, (phi rep t).length < 13)) := by
      refine et_maxLt (ns := rep.map fun t => (((phi rep t).length : Nat) : Int)) ?_ (by rw [List.length_map]; exact hpos) fun m hm hall => ?_
      · rw [List.map_map]
        exact el_lcM (j := 6) (vs := [6]) (f := fun t => T (phi rep t)) (g := fun t => V.int (((phi rep t).length : Nat) : Int)) rep (src_tupM (ev_var rfl) (st_of h4)) (by omega) (fun _ => rfl) fun t H5 e5 ht => ev_cb (ea_cons (ev_var rfl) ea_nil) (rc_lenT (by have := phi_len hR.2 t; have := hR.2.short t ht; omega))
      · refine decide_eq_decide.mpr ⟨fun hlt t ht => ?_, fun hall2 => ?_⟩
        · have := hall _ (List.mem_map.mpr ⟨t, ht, rfl⟩)
          omega
        · obtain ⟨t, ht, rfl⟩ := List.mem_map.mp hm
          have := hall2 t ht
          omega
    refine q_when (b := decide (y = 0) && decide (∀ t ∈ rep, (phi rep t).length < 13)) (et_and (et_is (et_test (ev_op (ev_var rfl) ev_c rv_I0)) (decide_eq_decide.mpr (by omega))) fun _ => hmx) (fun hb H5 e5 => ?_) (fun hb H5 e5 => ?_)
    · have hall := of_decide_eq_true (Bool.and_eq_true_iff.mp hb).2
      refine s_ret (ev_var rfl) fun H6 e6 => k pt (rep.map (phi rep)) H6 ⟨fun z => hR.2.ne (List.map_eq_nil_iff.mp z), by rw [List.length_map]; exact hfew, fun t ht => ?_, fun t ht c hc => ?_⟩ (fun t ht z => ?_) (List.length_map _) (by rw [List.map_map]; exact (e5.trans e6) _ _ h4) ((RB.then (e5.trans e6)).mono (by omega))
      · obtain ⟨u, hu, rfl⟩ := List.mem_map.mp ht
        have := hall u hu
        omega
      · obtain ⟨u, hu, rfl⟩ := List.mem_map.mp ht
        rw [List.length_map]
        exact phi_own hR.2 u c hc
      · obtain ⟨u, hu, rfl⟩ := List.mem_map.mp ht
        have h1 := phi_grow hfull (fun c hc => hR.2.own u hu c hc : OwnT rep u)
        rw [z] at h1
        exact hfull u hu (List.length_eq_zero_iff.mp (Nat.le_zero.mp h1))
    have RC := RB.then e5
    have h5 := e5 _ _ h4p
    have GC : GF fa 90 H5 := G.go RC (by omega)
    have hsl : ∀ H6, Ev (tSl rSlT (tC (T AB)) tNoPart (tPart (tVar 2))) [some (.ref fa), some (.ref p), some (.int ((rep.length : Nat) : Int)), some (.int (y : Int)), some (.int (d : Int)), some (.ref pt), none] H6 (T (AB.take rep.length)) := fun H6 => ev_is (ev_slT (a := AB) ev_c eo_none (eo_some (ev_var rfl)) (by decide)) (by rw [cutT_to])
    have hABl : (AB.take rep.length).length = rep.length := by rw [List.length_take]; show min rep.length 4 = _; omega
    have hABn : AB.take rep.length ≠ [] := fun z => by rw [z] at hABl; simp at hABl; omega
    have fin : ∀ (t : Tx) (q : Addr) (H6 : Hp), (t ≠ [] ∧ t.length ≤ 12 ∧ ∀ c ∈ t, 97 ≤ c ∧ c < 97 + rep.length) → Rf fa 20 H5 H6 → H6 q = some (.tup ((swapT rep d t).map T)) → Q (.ref q) H6 := fun t q H6 ht R6 hq => k q (swapT rep d t) H6 (swapT_rep hR.2 hd ht.2.1 ht.2.2) (fun u hu => (swapT_mem hu).elim (fun h => hfull u h) fun h => by rw [h]; exact ht.1) (swapT_len hd) hq ((RC.trans R6).mono (by omega))
    refine q_when (b := decide (y < 3)) (et_is (et_test (ev_op (ev_var rfl) ev_c rv_I0)) (decide_eq_decide.mpr (by omega))) (fun hb2 H6 e6 => ?_) (fun hb2 H6 e6 => ?_)
    · refine s_retA (wp_swap (i := 1) (j := 4) (rep := rep) (d := d) (m := 1) (fun t => t ≠ [] ∧ t.length ≤ 12 ∧ ∀ c ∈ t, 97 ≤ c ∧ c < 97 + rep.length) rfl rfl (e6 _ _ h5) (GC.ex e6) (by omega) (by omega) (fun H7 e7 Q7 q7 => ?_) fun t q H7 ht R7 hq => fin t q H7 ht ((Rf.pre e6 R7).mono (by omega)) hq)
      have hsd : rep[d].length ≤ 12 := hR.2.short _ (List.getElem_mem hd)
      refine (ev_op (ev_var (i := 1) rfl) (ev_var (i := 4) rfl) (rv_ixT (st_of ((e6.trans e7) _ _ h5)) (atI_nat (by rw [List.getElem?_map, List.getElem?_eq_getElem hd]; rfl))) : Ev _ _ H7 (T rep[d])) H7 (Ex.refl _) _ fun H8 e8 => wp_oneT (i := 0) rfl (hsl H8) (((GC.ex e6).ex e7).ex e8) hABn (by omega) (fun c H9 hc R9 => ⟨rep[d], [c], rfl, rfl, by show rep[d].length + 1 ≤ _; omega, ⟨12, rfl, ⟨rep[d] ++ [c], rfl, by simp; omega, ?_⟩⟩⟩) (by omega)
      rw [show (12 : Int) = ((12 : Nat) : Int) from rfl, cutT_to]
      refine q7 _ H9 ⟨fun z => ?_, by rw [List.length_take]; omega, fun c' hc' => ?_⟩ (Rf.pre e8 R9)
      · have := congrArg List.length z
        rw [List.length_take, List.length_append] at this
        simp at this
      · rcases List.mem_append.mp (List.mem_of_mem_take hc') with h | h
        · exact hR.2.own _ (List.getElem_mem hd) c' h
        · rw [List.mem_singleton.mp h]
          exact (mem_AB hfew).mp hc
    have GD := GC.ex e6
    refine q_when (b := decide (y = 3)) (et_is (et_test (ev_op (ev_var rfl) ev_c rv_I0)) (decide_eq_decide.mpr (by omega))) (fun hb3 H7 e7 => ?_) (fun hb3 H7 e7 => ?_)
    · refine s_retA (wp_swap (i := 1) (j := 4) (rep := rep) (d := d) (m := 13) (fun t => t ≠ [] ∧ t.length ≤ 12 ∧ ∀ c ∈ t, 97 ≤ c ∧ c < 97 + rep.length) rfl rfl ((e6.trans e7) _ _ h5) (GD.ex e7) (by omega) (by omega) (fun H8 e8 Q8 q8 => ?_) fun t q H8 ht R8 hq => fin t q H8 ht ((Rf.pre (e6.trans e7) R8).mono (by omega)) hq)
      have hABd : AB[d]? = some (97 + d) := by
        rcases d with _ | _ | _ | _ | d
        · rfl
        · rfl
        · rfl
        · rfl
        · omega
      refine l_call (a_ev (ev_var rfl) fun Ha ea => a_ev (hsl Ha) fun Hb eb => a_ev (ev_op ev_c (ev_var rfl) (Wc.rv_ixT (by decide) (atI_nat hABd)) : Ev _ _ Hb (T [97 + d])) fun Hc ec => a_nil ⟨fa, _, [97 + d], rfl, ((((GD.ex e7).ex e8).ex ea).ex eb).ex ec |>.mono (by omega), hABn, by omega, Nat.le_refl _, fun c hc => ?_, fun t H9 t1 t2 t3 R9 => q8 t H9 ⟨t1, t2, fun c hc => (mem_AB hfew).mp (t3 c hc)⟩ (Rf.pre ((ea.trans eb).trans ec) R9)⟩)
      rw [List.mem_singleton.mp hc]
      exact (mem_AB hfew).mpr ⟨by omega, by omega⟩
    · refine s_retA (l_call (a_ev (ev_var rfl) fun Ha ea => a_ev (ev_var rfl) fun Hb eb => a_nil ⟨fa, rep.length, rfl, (((GD.ex e7).ex ea).ex eb).mono (by omega), hpos, hfew, fun q oth H8 o1 o2 o3 _ R8 o4 => k q oth H8 o1 o2 o3 o4 ((((RC.then e6).then e7).trans (Rf.pre (ea.trans eb) R8)).mono (by omega))⟩))
end
end K22
set_option Elab.async false
set_option linter.all false
set_option maxRecDepth 100000
set_option maxHeartbeats 4000000
namespace We
open PySem PySem.Spec PyProof.Rows L2 Evl Wc Wt Wg _root_.Wd
/-- four named values, the last one first -/
def sw4 {α : Type} : List α → List α → List α
  | [], [a, b, c, d] => [d, c, b, a]
  | _, _ => []
theorem sw4_rel {vs zs : List V} {us ws : List Value} (r : Vals vs us) (rz : Vals zs ws) : Vals (sw4 vs zs) (sw4 us ws) := by
  cases r with
  | cons => exact .nil
  | nil =>
    match zs, ws, rz with
    | [], _, .nil => exact .nil
    | [_], _, .cons _ .nil => exact .nil
    | [_, _], _, .cons _ (.cons _ .nil) => exact .nil
    | [_, _, _], _, .cons _ (.cons _ (.cons _ .nil)) => exact .nil
    | [_, _, _, _], _, .cons h1 (.cons h2 (.cons h3 (.cons h4 .nil))) => exact .cons h4 (.cons h3 (.cons h2 (.cons h1 .nil)))
    | _ :: _ :: _ :: _ :: _ :: _, _, .cons _ (.cons _ (.cons _ (.cons _ (.cons _ _)))) => exact .nil
theorem kb4 {x : PySem.Str} {st : Stmt} {ps ks : List PySem.Str} (hp : ps.length = 4)
    (h : ∀ (kV doc pm : Value) (an : Option Addr) (cdv ct a b c d : Value), bindArgs (PySem.W.fnOf x x (defArgs st) (defBody st) (defScope st) .none kV doc pm an cdv ct) ⟨[], ks.zip [a, b, c, d]⟩ = pure (ps.zip (sw4 [] [a, b, c, d]))) : KB x st 0 ps ks sw4 sw4 := by
  intro K f fd F
  obtain ⟨oc, od, kV, doc, pm, an, cdv, ct, osl, rfl, lk, hcd⟩ := F.ex
  refine ⟨fun s us ws _ hl => ?_, fun r rz => sw4_rel r rz⟩
  rw [hp] at hl
  match us, ws, hl with
  | [], [a, b, c, d], _ => exact .of_eq (h kV doc pm an cdv ct a b c d)
  | [], [], hl => exact absurd hl (by simp [sw4])
  | [], [_], hl => exact absurd hl (by simp [sw4])
  | [], [_, _], hl => exact absurd hl (by simp [sw4])
  | [], [_, _, _], hl => exact absurd hl (by simp [sw4])
  | [], _ :: _ :: _ :: _ :: _ :: _, hl => exact absurd hl (by simp [sw4])
  | _ :: _, ws, hl => exact absurd hl (by simp [sw4])
section
variable {K : PySem.W.Frag} {σ : L2.St} {H : Hp} {te ta tb : TE} {tk : TA} {sp : Sp} {gV : List V → List V → List V} {vs xs : List V} {z : V} {d : PyData}
theorem ev_callK0 (h : EvA tk σ H vs) (hs : SpV sp (gV [] vs) H z) : Ev (tCallK0 sp gV tk) σ H z := fun H1 e Q q => h H1 e _ fun H2 e2 => hs H2 (e.trans e2) _ (fun H3 e3 => q H3 (e2.trans e3)) E0
theorem eu_callK0 (h : EvA tk σ H vs) (hs : ∀ H1, Ex H H1 → ∀ Q : VK, RetU xs H1 Q → ∀ E, sp (gV [] vs) H1 Q E) : EvU (tCallK0 sp gV tk) σ H xs := fun H1 e Q q => h H1 e _ fun H2 e2 => hs H2 (e.trans e2) _ (fun p H3 hp e3 h3 => q p H3 (fresh_back e2 hp) (e2.trans e3) h3) E0
/-- x = e, any target -/
theorem q_asgG {D : Ends} {tz : TS} {g : TG} (k : te σ H fun x H1 => g x σ H1 fun σ2 H2 => tz D σ2 H2) : tSeq (tAsg te g) tz D σ H := k
/-- an if whose test draws -/
theorem q_ifA {D : Ends} {tz tu : TS} {tt : TT} (k : tt σ H fun b H1 => if b = true then tu { D with nx := tz D } σ H1 else tz D σ H1) : tSeq (tIfS tt tu tNext) tz D σ H := k
theorem t_test (k : te σ H fun v H1 => ∃ b, v = .bl b ∧ Q b H1) : tTest te σ H Q := k
theorem t_op {r : R2} {Q : VK} (k : ta σ H fun x H1 => tb σ H1 fun y H2 => r x y H2 Q) : tOp r ta tb σ H Q := k
/-- the target a pair of names, the value a new pair -/
theorem g_pair {i j : Nat} {u v : V} {p : Addr} {Q : L2.St → Hp → Prop} (hp : H p = some (.tup [u, v])) (k : Q ((σ.set i (some u)).set j (some v)) H) : gTup K 2 (gCons (gName i) (gCons (gName j) gNil)) (.ref p) σ H Q := ⟨p, _, rfl, st_of hp, rfl, u, [v], rfl, v, [], rfl, rfl, k⟩
end
end We
set_option Elab.async false
set_option linter.all false
set_option maxRecDepth 100000
set_option maxHeartbeats 4000000
set_option exponentiation.threshold 5000
namespace K22
open PySem PySem.Spec PyProof.Rows L2 Evl Wc Wt Wg Ws We
theorem rep_inj {a b : List Tx} (h : some (a.map some) = some (b.map some)) : a = b := by
  have h1 : a.map some = b.map some := by injection h
  rw [← txs_some a, ← txs_some b, h1]
theorem rep_allB {rep : List Tx} (h : IsRep rep) (hf : ∀ t ∈ rep, t ≠ []) : allB (some (rep.map some)) = true := by
  rw [allB_some, rep_ownB h, txs_some]
  have : ¬ ([] : Tx) ∈ rep := fun z => hf _ z rfl
  rw [decide_eq_false this]
  rfl
theorem rep_notAll {rep : List Tx} (hf : [] ∈ rep) : allB (some (rep.map some)) = false := by
  rw [allB_some, txs_some, decide_eq_true hf]
  simp
theorem own_notAll {o : Option (List (Option Tx))} (h : ownB o = false) : allB o = false := by
  cases o with
  | none => rfl
  | some os => rw [allB_some, h]; rfl
theorem sign_ok {n c : Nat} (hn : n ≤ 4) (h1 : 97 ≤ c) (h2 : c < 97 + n) : signB n (some [c]) = true := decide_eq_true ((mem_AB hn).mpr ⟨h1, h2⟩)
theorem in_60 {n : Nat} (hn : n ≤ 60) : inB 0 60 (some (n : Int)) = true := by
  show (decide (0 ≤ (n : Int)) && decide ((n : Int) ≤ 60)) = true
  rw [decide_eq_true (by omega), decide_eq_true (by omega)]
  rfl
theorem not_60 {n : Nat} (hn : n ≤ 60) {P : Prop} (z : inB 0 60 (some (n : Int)) = false) : P := by
  rw [in_60 hn] at z
  cases z
theorem not_own {rep : List Tx} (h : IsRep rep) {P : Prop} (z : ownB (some (rep.map some)) = false) : P := by
  rw [rep_ownB h] at z
  cases z
theorem not_sign {n c : Nat} (hn : n ≤ 4) (h1 : 97 ≤ c) (h2 : c < 97 + n) {P : Prop} (z : signB n (some [c]) = false) : P := by
  rw [sign_ok hn h1 h2] at z
  cases z
theorem len1 {c : Nat} {t : Tx} (h : some [c] = some t) : t.length ≤ 20000 := by
  cases h
  show 1 ≤ 20000
  decide
/-- what is no sign of so many -/
def NoSign (n : Nat) (H : Hp) (v : V) : Prop := ∃ o, El H v o ∧ signB n o = false ∧ ∀ t, o = some t → t.length ≤ 20000
theorem NoSign.ex {n : Nat} {H H1 : Hp} {x : V} (h : NoSign n H x) (e : Ex H H1) : NoSign n H1 x := by
  obtain ⟨o, h1, h2⟩ := h
  exact ⟨o, h1.ex e, h2⟩
/-- what is no number so far -/
def NoNum (a b : Int) (H : Hp) (v : V) : Prop := ∃ o, Nt H v o ∧ inB a b o = false
theorem NoNum.ex {a b : Int} {H H1 : Hp} {x : V} (h : NoNum a b H x) (e : Ex H H1) : NoNum a b H1 x := by
  obtain ⟨o, h1, h2⟩ := h
  exact ⟨o, h1.ex e, h2⟩
/-- of a kind that may be asked for a sign, for a number -/
def SomeEl (H : Hp) (v : V) : Prop := ∃ o, El H v o ∧ ∀ t, o = some t → t.length ≤ 20000
theorem SomeEl.ex {H H1 : Hp} {x : V} (h : SomeEl H x) (e : Ex H H1) : SomeEl H1 x := by
  obtain ⟨o, h1, h2⟩ := h
  exact ⟨o, h1.ex e, h2⟩
theorem NoSign.el {n : Nat} {H : Hp} {x : V} (h : NoSign n H x) : SomeEl H x := by
  obtain ⟨o, h1, h2, h3⟩ := h
  exact ⟨o, h1, h3⟩
theorem some_sign {H : Hp} {c : Nat} : SomeEl H (T [c]) := ⟨_, .str _, fun t ht => len1 ht⟩
section
variable {K : PySem.W.Frag} {σ : L2.St} {H : Hp} {CE CS CN : Addr} {way : Int} {vs out : List V} {tq : TA} {tp : TE} {p p2 : Addr} {rep oth : List Tx} {c n q : Nat} {x v1 v2 v3 v4 : V}
/-- such values are answered so -/
def Says (CE CS CN : Addr) (way : Int) (vs : List V) (H : Hp) (out : List V) : Prop := ∀ H1 (Q : VK) pp, Ex H H1 → H1 pp = some (.lst vs) → (∀ p H2, Ex H1 H2 → H2 p = some (.tup out) → Q (.ref p) H2) → sp_asked CE CS CN [.int way, .ref pp] H1 Q E0
theorem Says.ex {H1 : Hp} (h : Says CE CS CN way vs H out) (e : Ex H H1) : Says CE CS CN way vs H1 out := fun H2 Q pp e2 => h H2 Q pp (e.trans e2)
theorem ew_asked (ha : EvA tq σ H vs) (hl : vs.length ≤ 100000) (hs : Says CE CS CN way vs H out) : EvW (tCall (sp_asked CE CS CN) [] E0 (tCons (tC (.int way)) (tCons (tLst tq) tNil))) σ H out := fun H1 e Q q => by
  refine l_call (a_c (a_any (l_lst (ha H1 e _ fun H2 e2 => ⟨sz_of hl, fun pp hpp => a_nil ?_⟩))))
  have e3 := e2.trans (Ex.new (o := HO.lst vs) hpp)
  exact hs _ Q pp (e.trans e3) upd_same fun p H4 e4 h4 => q p H4 (e3.trans e4) h4
theorem ew_askedV {pp : Addr} (h : Ev tp σ H (.ref pp)) (hp : H pp = some (.lst vs)) (hs : Says CE CS CN way vs H out) : EvW (tCall (sp_asked CE CS CN) [] E0 (tCons (tC (.int way)) (tCons tp tNil))) σ H out := fun H1 e Q q =>
  l_call (a_c (a_any (h H1 e _ fun H2 e2 => a_nil (hs H2 Q pp (e.trans e2) ((e.trans e2) _ _ hp) fun p H4 e4 h4 => q p H4 (e2.trans e4) h4))))
theorem ek_E {Q : VK} {H1 : Hp} (kq : ∀ p H2, Ex H1 H2 → H2 p = some (.tup [T xErr, T xRep]) → Q (.ref p) H2) {H' : Hp} (e : Ex H1 H') : EK CE CS CN Q (.ref CE) none H' := ⟨rfl, CE, xRep, rfl, .inl ⟨rfl, rfl⟩, fun p H'' e2 h => kq p H'' (e.trans e2) h⟩
theorem ek_S {Q : VK} {H1 : Hp} (kq : ∀ p H2, Ex H1 H2 → H2 p = some (.tup [T xErr, T xSign]) → Q (.ref p) H2) {H' : Hp} (e : Ex H1 H') : EK CE CS CN Q (.ref CS) none H' := ⟨rfl, CS, xSign, rfl, .inr (.inl ⟨rfl, rfl⟩), fun p H'' e2 h => kq p H'' (e.trans e2) h⟩
theorem ek_N {Q : VK} {H1 : Hp} (kq : ∀ p H2, Ex H1 H2 → H2 p = some (.tup [T xErr, T xNum]) → Q (.ref p) H2) {H' : Hp} (e : Ex H1 H') : EK CE CS CN Q (.ref CN) none H' := ⟨rfl, CN, xNum, rfl, .inr (.inr ⟨rfl, rfl⟩), fun p H'' e2 h => kq p H'' (e.trans e2) h⟩
theorem tk_ {Q : VK} {H1 : Hp} {v : V} (kq : ∀ p H2, Ex H1 H2 → H2 p = some (.tup [T xTold, v]) → Q (.ref p) H2) {H' : Hp} (e : Ex H1 H') : TK Q v H' := fun p H'' e2 h => kq p H'' (e.trans e2) h
/-! again -/
theorem sp_again_ok {Q : VK} {E : XK} (hR : RepAt p rep H) (h1 : 97 ≤ c) (h2 : c < 97 + rep.length) (hn : n ≤ 60) (k : RetV (.int ((cR rep n c : Nat) : Int)) H Q) : sp_again CE CS CN [.ref p, T [c], .int (n : Int)] H Q E := by
  refine ⟨_, _, _, _, _, _, rfl, hR.rt, rep_sm hR.2, .str _, fun t ht => len1 ht, .int _, fun z => not_own hR.2 z, fun rep' hr _ => ?_⟩
  obtain rfl := rep_inj hr
  refine ⟨fun z => not_sign hR.2.few h1 h2 z, fun c' hc' _ _ => ?_⟩
  cases hc'
  refine ⟨fun z => ?_, fun n' hn' _ => ?_⟩
  · have : inB 0 60 (some (n : Int)) = true := by
      show (decide (0 ≤ (n : Int)) && decide ((n : Int) ≤ 60)) = true
      rw [decide_eq_true (by omega), decide_eq_true (by omega)]
      rfl
    rw [this] at z
    cases z
  · have : n = n' := by
      injection hn' with h
      omega
    subst this
    exact k
theorem says_again_ok (hR : RepAt p rep H) (h1 : 97 ≤ c) (h2 : c < 97 + rep.length) (hn : n ≤ 60) : Says CE CS CN 0 [.ref p, T [c], .int (n : Int)] H [T xTold, .int ((cR rep n c : Nat) : Int)] := fun H1 Q pp e hp kq =>
  ⟨0, pp, _, rfl, hp, .inl ⟨rfl, _, _, _, rfl, fun H2 e2 => sp_again_ok (hR.ex (e.trans e2)) h1 h2 hn fun H3 e3 => tk_ kq (e2.trans e3)⟩⟩
theorem says_again_1 (hx : NoRep H x) (h2 : SomeEl H v2) (h3 : ∃ o, Nt H v3 o) : Says CE CS CN 0 [x, v2, v3] H [T xErr, T xRep] := fun H1 Q pp e hp kq => by
  obtain ⟨o, g1, g2, g3⟩ := hx
  obtain ⟨o2, g4, g5⟩ := h2
  obtain ⟨o3, g6⟩ := h3
  refine ⟨0, pp, _, rfl, hp, .inl ⟨rfl, _, _, _, rfl, fun H2 e2 => ⟨_, o, _, o2, _, o3, rfl, g1.ex (e.trans e2), g3, g4.ex (e.trans e2), g5, g6.ex (e.trans e2), fun _ H' e' => ek_E kq (e2.trans e'), fun rep hr hi => ?_⟩⟩⟩
  rw [hr, rep_ownB hi] at g2
  cases g2
theorem says_again_2 (hR : RepAt p rep H) (h2 : NoSign rep.length H v2) (h3 : ∃ o, Nt H v3 o) : Says CE CS CN 0 [.ref p, v2, v3] H [T xErr, T xSign] := fun H1 Q pp e hp kq => by
  obtain ⟨o2, g4, g5, g55⟩ := h2
  obtain ⟨o3, g6⟩ := h3
  refine ⟨0, pp, _, rfl, hp, .inl ⟨rfl, _, _, _, rfl, fun H2 e2 => ⟨_, _, _, o2, _, o3, rfl, (hR.ex (e.trans e2)).rt, rep_sm hR.2, g4.ex (e.trans e2), g55, g6.ex (e.trans e2), fun z => not_own hR.2 z, fun rep' hr hi => ?_⟩⟩⟩
  obtain rfl := rep_inj hr
  refine ⟨fun _ H' e' => ek_S kq (e2.trans e'), fun c hc h1 h2 => ?_⟩
  rw [hc, sign_ok hR.2.few h1 h2] at g5
  cases g5
theorem says_again_3 (hR : RepAt p rep H) (h1 : 97 ≤ c) (h2 : c < 97 + rep.length) (h3 : NoNum 0 60 H v3) : Says CE CS CN 0 [.ref p, T [c], v3] H [T xErr, T xNum] := fun H1 Q pp e hp kq => by
  obtain ⟨o3, g6, g7⟩ := h3
  refine ⟨0, pp, _, rfl, hp, .inl ⟨rfl, _, _, _, rfl, fun H2 e2 => ⟨_, _, _, _, _, o3, rfl, (hR.ex (e.trans e2)).rt, rep_sm hR.2, .str _, fun t ht => len1 ht, g6.ex (e.trans e2), fun z => not_own hR.2 z, fun rep' hr hi => ?_⟩⟩⟩
  obtain rfl := rep_inj hr
  refine ⟨fun z => not_sign hR.2.few h1 h2 z, fun c' hc' _ _ => ?_⟩
  cases hc'
  refine ⟨fun _ H' e' => ek_N kq (e2.trans e'), fun n hn hn2 => ?_⟩
  rw [hn] at g7
  have : inB 0 60 (some (n : Int)) = true := by
    show (decide (0 ≤ (n : Int)) && decide ((n : Int) ≤ 60)) = true
    rw [decide_eq_true (by omega), decide_eq_true (by omega)]
    rfl
  rw [this] at g7
  cases g7
/-! sign_at -/
theorem sp_at_ok {Q : VK} {E : XK} (hR : RepAt p rep H) (h1 : 97 ≤ c) (h2 : c < 97 + rep.length) (hn : n ≤ 60) (hq : q < cR rep n c) (k : RetV (T [sgnA rep n c q]) H Q) : sp_sign_at CE CS CN [.ref p, T [c], .int (n : Int), .int (q : Int)] H Q E := by
  refine ⟨_, _, _, _, _, _, _, _, rfl, hR.rt, rep_sm hR.2, .str _, fun t ht => len1 ht, .int _, .int _, fun z => not_own hR.2 z, fun rep' hr _ => ?_⟩
  obtain rfl := rep_inj hr
  refine ⟨fun z => not_sign hR.2.few h1 h2 z, fun c' hc' _ _ => ?_⟩
  cases hc'
  refine ⟨fun z => not_60 hn z, fun n' hn' _ => ?_⟩
  have : n = n' := by
    injection hn' with h
    omega
  subst this
  refine ⟨fun z => ?_, fun q' hq' _ => ?_⟩
  · have : inB 0 (((cR rep n c : Nat) : Int) - 1) (some (q : Int)) = true := by
      show (decide (0 ≤ (q : Int)) && decide ((q : Int) ≤ ((cR rep n c : Nat) : Int) - 1)) = true
      rw [decide_eq_true (by omega), decide_eq_true (by omega)]
      rfl
    rw [this] at z
    cases z
  · have : q = q' := by
      injection hq' with h
      omega
    subst this
    exact k
theorem says_at_ok (hR : RepAt p rep H) (h1 : 97 ≤ c) (h2 : c < 97 + rep.length) (hn : n ≤ 60) (hq : q < cR rep n c) : Says CE CS CN 1 [.ref p, T [c], .int (n : Int), .int (q : Int)] H [T xTold, T [sgnA rep n c q]] := fun H1 Q pp e hp kq =>
  ⟨1, pp, _, rfl, hp, .inr (.inl ⟨rfl, _, _, _, _, rfl, fun H2 e2 => sp_at_ok (hR.ex (e.trans e2)) h1 h2 hn hq fun H3 e3 => tk_ kq (e2.trans e3)⟩)⟩
theorem says_at_1 (hx : NoRep H x) (h2 : SomeEl H v2) (h3 : ∃ o, Nt H v3 o) (h4 : ∃ o, Nt H v4 o) : Says CE CS CN 1 [x, v2, v3, v4] H [T xErr, T xRep] := fun H1 Q pp e hp kq => by
  obtain ⟨o, g1, g2, g3⟩ := hx
  obtain ⟨o2, g4, g5⟩ := h2
  obtain ⟨o3, g6⟩ := h3
  obtain ⟨o4, g7⟩ := h4
  refine ⟨1, pp, _, rfl, hp, .inr (.inl ⟨rfl, _, _, _, _, rfl, fun H2 e2 => ⟨_, o, _, o2, _, o3, _, o4, rfl, g1.ex (e.trans e2), g3, g4.ex (e.trans e2), g5, g6.ex (e.trans e2), g7.ex (e.trans e2), fun _ H' e' => ek_E kq (e2.trans e'), fun rep hr hi => ?_⟩⟩)⟩
  rw [hr, rep_ownB hi] at g2
  cases g2
theorem says_at_2 (hR : RepAt p rep H) (h2 : NoSign rep.length H v2) (h3 : ∃ o, Nt H v3 o) (h4 : ∃ o, Nt H v4 o) : Says CE CS CN 1 [.ref p, v2, v3, v4] H [T xErr, T xSign] := fun H1 Q pp e hp kq => by
  obtain ⟨o2, g4, g5, g55⟩ := h2
  obtain ⟨o3, g6⟩ := h3
  obtain ⟨o4, g7⟩ := h4
  refine ⟨1, pp, _, rfl, hp, .inr (.inl ⟨rfl, _, _, _, _, rfl, fun H2 e2 => ⟨_, _, _, o2, _, o3, _, o4, rfl, (hR.ex (e.trans e2)).rt, rep_sm hR.2, g4.ex (e.trans e2), g55, g6.ex (e.trans e2), g7.ex (e.trans e2), fun z => not_own hR.2 z, fun rep' hr hi => ?_⟩⟩)⟩
  obtain rfl := rep_inj hr
  refine ⟨fun _ H' e' => ek_S kq (e2.trans e'), fun c hc h1 h2 => ?_⟩
  rw [hc, sign_ok hR.2.few h1 h2] at g5
  cases g5
theorem says_at_3 (hR : RepAt p rep H) (h1 : 97 ≤ c) (h2 : c < 97 + rep.length) (h3 : NoNum 0 60 H v3) (h4 : ∃ o, Nt H v4 o) : Says CE CS CN 1 [.ref p, T [c], v3, v4] H [T xErr, T xNum] := fun H1 Q pp e hp kq => by
  obtain ⟨o3, g6, g7⟩ := h3
  obtain ⟨o4, g8⟩ := h4
  refine ⟨1, pp, _, rfl, hp, .inr (.inl ⟨rfl, _, _, _, _, rfl, fun H2 e2 => ⟨_, _, _, _, _, o3, _, o4, rfl, (hR.ex (e.trans e2)).rt, rep_sm hR.2, .str _, fun t ht => len1 ht, g6.ex (e.trans e2), g8.ex (e.trans e2), fun z => not_own hR.2 z, fun rep' hr hi => ?_⟩⟩)⟩
  obtain rfl := rep_inj hr
  refine ⟨fun z => not_sign hR.2.few h1 h2 z, fun c' hc' _ _ => ?_⟩
  cases hc'
  refine ⟨fun _ H' e' => ek_N kq (e2.trans e'), fun n hn hn2 => ?_⟩
  rw [hn, in_60 hn2] at g7
  cases g7
theorem says_at_4 (hR : RepAt p rep H) (h1 : 97 ≤ c) (h2 : c < 97 + rep.length) (hn : n ≤ 60) (h4 : NoNum 0 (((cR rep n c : Nat) : Int) - 1) H v4) : Says CE CS CN 1 [.ref p, T [c], .int (n : Int), v4] H [T xErr, T xNum] := fun H1 Q pp e hp kq => by
  obtain ⟨o4, g8, g9⟩ := h4
  refine ⟨1, pp, _, rfl, hp, .inr (.inl ⟨rfl, _, _, _, _, rfl, fun H2 e2 => ⟨_, _, _, _, _, _, _, o4, rfl, (hR.ex (e.trans e2)).rt, rep_sm hR.2, .str _, fun t ht => len1 ht, .int _, g8.ex (e.trans e2), fun z => not_own hR.2 z, fun rep' hr hi => ?_⟩⟩)⟩
  obtain rfl := rep_inj hr
  refine ⟨fun z => not_sign hR.2.few h1 h2 z, fun c' hc' _ _ => ?_⟩
  cases hc'
  refine ⟨fun z => not_60 hn z, fun n' hn' _ => ?_⟩
  have : n = n' := by
    injection hn' with h
    omega
  subst this
  refine ⟨fun _ H' e' => ek_N kq (e2.trans e'), fun q hq hq2 => ?_⟩
  rw [hq] at g9
  have : inB 0 (((cR rep n c : Nat) : Int) - 1) (some (q : Int)) = true := by
    show (decide (0 ≤ (q : Int)) && decide ((q : Int) ≤ ((cR rep n c : Nat) : Int) - 1)) = true
    rw [decide_eq_true (by omega), decide_eq_true (by omega)]
    rfl
  rw [this] at g9
  cases g9
end
end K22
set_option Elab.async false
set_option linter.all false
set_option maxRecDepth 100000
set_option maxHeartbeats 4000000
set_option exponentiation.threshold 5000
namespace K22
open PySem PySem.Spec PyProof.Rows L2 Evl Wc Wt Wg Ws We _root_.Wd
theorem kb_stays_0 : KB "stays" st_stays 0 ["replacing"] ["replacing"] sw1 sw1 := kb1 rfl (fun _ _ _ _ _ _ a => rfl)
theorem kb_alike_for_ever_3_2_1_0 : KB "alike_for_ever" st_alike_for_ever 0 ["replacing", "other", "sign", "most"] ["most", "sign", "other", "replacing"] sw4 sw4 := kb4 rfl (fun _ _ _ _ _ _ a b c d => rfl)
/-- what is no replacing of so many signs without empty texts -/
def WrongR (n : Nat) (H : Hp) (x : V) : Prop := ∃ o, Rt H x o ∧ Sm o ∧ ∀ rep, o = some (rep.map some) → IsRep rep → (∀ t ∈ rep, t ≠ []) → rep.length ≠ n
theorem WrongR.ex {n : Nat} {H H1 : Hp} {x : V} (h : WrongR n H x) (e : Ex H H1) : WrongR n H1 x := by
  obtain ⟨o, h1, h2⟩ := h
  exact ⟨o, h1.ex e, h2⟩
theorem NoRep.wrong {n : Nat} {H : Hp} {x : V} (h : NoRep H x) : WrongR n H x := by
  obtain ⟨o, h1, h2, h3⟩ := h
  refine ⟨o, h1, h3, fun rep hr hi _ => ?_⟩
  rw [hr] at h2
  exact not_own hi h2
/-- what is no sign at which both grow -/
def NoGrow (rep oth : List Tx) (H : Hp) (v : V) : Prop := ∃ o, El H v o ∧ (∀ t, o = some t → t.length ≤ 20000) ∧ (signB rep.length o = false ∨ ∃ c, o = some [c] ∧ (growB rep (c - 97) && growB oth (c - 97)) = false)
theorem NoGrow.ex {rep oth : List Tx} {H H1 : Hp} {x : V} (h : NoGrow rep oth H x) (e : Ex H H1) : NoGrow rep oth H1 x := by
  obtain ⟨o, h1, h2⟩ := h
  exact ⟨o, h1.ex e, h2⟩
theorem NoGrow.el {rep oth : List Tx} {H : Hp} {x : V} (h : NoGrow rep oth H x) : SomeEl H x := by
  obtain ⟨o, h1, h2, h3⟩ := h
  exact ⟨o, h1, h2⟩
theorem in_most {n : Nat} (h1 : 1 ≤ n) (h2 : n ≤ 4000) : inB 1 4000 (some (n : Int)) = true := by
  show (decide (1 ≤ (n : Int)) && decide ((n : Int) ≤ 4000)) = true
  rw [decide_eq_true (by omega), decide_eq_true (by omega)]
  rfl
section
variable {K : PySem.W.Frag} {σ : L2.St} {H : Hp} {CE CS CN : Addr} {way : Int} {vs out : List V} {tq : TA} {tp : TE} {p p2 : Addr} {rep oth : List Tx} {c n q : Nat} {x v1 v2 v3 v4 : V} {d : PyData}
theorem not_all (h : IsRep rep) (hf : ∀ t ∈ rep, t ≠ []) {P : Prop} (z : allB (some (rep.map some)) = false) : P := by
  rw [rep_allB h hf] at z
  cases z
/-! stays -/
def SaysD (K : PySem.W.Frag) (CE CS CN : Addr) (way : Int) (vs : List V) (H : Hp) (d : PyData) : Prop := ∀ H1 (Q : VK) pp, Ex H H1 → H1 pp = some (.lst vs) → (∀ p H2, Ex H1 H2 → (∀ H3, Ex H2 H3 → Dp K H3 (.ref p) d) → Q (.ref p) H2) → sp_asked CE CS CN [.int way, .ref pp] H1 Q E0
theorem evd_asked (ha : EvA tq σ H vs) (hl : vs.length ≤ 100000) (hs : SaysD K CE CS CN way vs H d) : EvD K (tCall (sp_asked CE CS CN) [] E0 (tCons (tC (.int way)) (tCons (tLst tq) tNil))) σ H d := fun H1 e Q q => by
  refine l_call (a_c (a_any (l_lst (ha H1 e _ fun H2 e2 => ⟨sz_of hl, fun pp hpp => a_nil ?_⟩))))
  have e3 := e2.trans (Ex.new (o := HO.lst vs) hpp)
  exact hs _ Q pp (e.trans e3) upd_same fun p H4 e4 h4 => q _ H4 (e3.trans e4) h4
theorem sp_stays_ok {Q : VK} {E : XK} (hR : RepAt p rep H) (hf : ∀ t ∈ rep, t ≠ []) (k : RetU ((growL rep).map T) H Q) : sp_stays CE [.ref p] H Q E := by
  refine ⟨_, _, rfl, hR.rt, rep_sm hR.2, fun z => not_all hR.2 hf z, fun rep' hr _ _ => ?_⟩
  obtain rfl := rep_inj hr
  exact k
theorem says_stays_ok (hR : RepAt p rep H) (hf : ∀ t ∈ rep, t ≠ []) : SaysD K CE CS CN 2 [.ref p] H (.tuple [dT xTold, .tuple ((growL rep).map dT)]) := fun H1 Q pp e hp kq =>
  ⟨2, pp, _, rfl, hp, .inr (.inr (.inl ⟨rfl, _, rfl, fun H2 e2 => sp_stays_ok (hR.ex (e.trans e2)) hf fun r H3 hr e3 h3 => fun u H4 e4 h4 => kq u H4 ((e2.trans e3).trans e4) fun H5 e5 => .tup (st_of (e5 _ _ h4)) (.cons (.str _) (.cons (.tup (st_of ((e4.trans e5) _ _ h3)) (dp_all fun t _ => .str _)) .nil))⟩))⟩
theorem says_stays_bad (hx : ∃ o, Rt H x o ∧ Sm o ∧ allB o = false) : Says CE CS CN 2 [x] H [T xErr, T xRep] := fun H1 Q pp e hp kq => by
  obtain ⟨o, g1, g2, g3⟩ := hx
  refine ⟨2, pp, _, rfl, hp, .inr (.inr (.inl ⟨rfl, _, rfl, fun H2 e2 => ⟨_, o, rfl, g1.ex (e.trans e2), g2, fun _ H' e' => ek_E kq (e2.trans e'), fun rep hr hi hf => ?_⟩⟩))⟩
  rw [hr] at g3
  exact not_all hi hf g3
/-! alike_for_ever -/
theorem sp_alike_ok {Q : VK} {E : XK} {a b : Tx} (hR : RepAt p rep H) (hO : RepAt p2 oth H) (hf : ∀ t ∈ rep, t ≠ []) (hf2 : ∀ t ∈ oth, t ≠ []) (hl : oth.length = rep.length) (g1 : Grows rep c) (g2 : Grows oth c) (n1 : 1 ≤ n) (n2 : n ≤ 4000) (ga : Gd rep c a) (gb : Gd oth c b) (la : a.length = n) (lb : b.length = n) (k : RetV (.int ((alikeSigns a b : Nat) : Int)) H Q) : sp_alike_for_ever CE CS CN [.ref p, .ref p2, T [c], .int (n : Int)] H Q E := by
  refine ⟨_, _, _, _, _, _, _, _, rfl, hR.rt, rep_sm hR.2, hO.rt, rep_sm hO.2, .str _, fun t ht => len1 ht, .int _, fun z => not_all hR.2 hf z, fun rep' hr _ _ => ?_⟩
  obtain rfl := rep_inj hr
  refine ⟨fun z => not_all hO.2 hf2 z, fun oth' ho _ _ => ?_⟩
  obtain rfl := rep_inj ho
  refine ⟨fun z => absurd hl z, fun _ => ⟨fun z => not_sign hR.2.few g1.lo g1.hi z, fun c' hc' _ _ => ?_⟩⟩
  cases hc'
  refine ⟨fun z => ?_, fun _ _ => ⟨fun z => ?_, fun n' hn' _ _ => fun a' b' ga' gb' la' lb' => ?_⟩⟩
  · have h1 : growB rep (c - 97) = true := by
      obtain ⟨u, hu, hi⟩ := g1.stay
      have h97 : 97 + (c - 97) = c := by have := g1.lo; omega
      have hgd : rep.getD (c - 97) [] = c :: u := hi
      unfold growB
      rw [hgd, h97]
      cases u with
      | nil => exact absurd rfl hu
      | cons y u => simp
    have h2 : growB oth (c - 97) = true := by
      obtain ⟨u, hu, hi⟩ := g2.stay
      have h97 : 97 + (c - 97) = c := by have := g2.lo; omega
      have hgd : oth.getD (c - 97) [] = c :: u := hi
      unfold growB
      rw [hgd, h97]
      cases u with
      | nil => exact absurd rfl hu
      | cons y u => simp
    rw [h1, h2] at z
    cases z
  · rw [in_most n1 n2] at z
    cases z
  · have : n = n' := by
      injection hn' with h
      omega
    subst this
    obtain rfl := Gd.same g1 ga ga' (by rw [la, la'])
    obtain rfl := Gd.same g2 gb gb' (by rw [lb, lb'])
    exact k
theorem says_alike_ok {a b : Tx} (hR : RepAt p rep H) (hO : RepAt p2 oth H) (hf : ∀ t ∈ rep, t ≠ []) (hf2 : ∀ t ∈ oth, t ≠ []) (hl : oth.length = rep.length) (g1 : Grows rep c) (g2 : Grows oth c) (n1 : 1 ≤ n) (n2 : n ≤ 4000) (ga : Gd rep c a) (gb : Gd oth c b) (la : a.length = n) (lb : b.length = n) : Says CE CS CN 3 [.ref p, .ref p2, T [c], .int (n : Int)] H [T xTold, .int ((alikeSigns a b : Nat) : Int)] := fun H1 Q pp e hp kq =>
  ⟨3, pp, _, rfl, hp, .inr (.inr (.inr ⟨rfl, _, _, _, _, rfl, fun H2 e2 => sp_alike_ok (hR.ex (e.trans e2)) (hO.ex (e.trans e2)) hf hf2 hl g1 g2 n1 n2 ga gb la lb fun H3 e3 => tk_ kq (e2.trans e3)⟩))⟩
theorem says_alike_1 (hx : WrongR oth.length H x) (hO : RepAt p2 oth H) (hf2 : ∀ t ∈ oth, t ≠ []) (h3 : SomeEl H v3) (h4 : ∃ o, Nt H v4 o) : Says CE CS CN 3 [x, .ref p2, v3, v4] H [T xErr, T xRep] := fun H1 Q pp e hp kq => by
  obtain ⟨o, g1, g2, g3⟩ := hx
  obtain ⟨o3, g4, g5⟩ := h3
  obtain ⟨o4, g6⟩ := h4
  refine ⟨3, pp, _, rfl, hp, .inr (.inr (.inr ⟨rfl, _, _, _, _, rfl, fun H2 e2 => ⟨_, o, _, _, _, o3, _, o4, rfl, g1.ex (e.trans e2), g2, (hO.ex (e.trans e2)).rt, rep_sm hO.2, g4.ex (e.trans e2), g5, g6.ex (e.trans e2), fun _ H' e' => ek_E kq (e2.trans e'), fun rep hr hi hf => ?_⟩⟩))⟩
  have hne := g3 rep hr hi hf
  refine ⟨fun z => not_all hO.2 hf2 z, fun oth' ho _ _ => ?_⟩
  obtain rfl := rep_inj ho
  exact ⟨fun _ H' e' => ek_E kq (e2.trans e'), fun z => absurd z.symm hne⟩
theorem says_alike_2 (hR : RepAt p rep H) (hf : ∀ t ∈ rep, t ≠ []) (hx : WrongR rep.length H x) (h3 : SomeEl H v3) (h4 : ∃ o, Nt H v4 o) : Says CE CS CN 3 [.ref p, x, v3, v4] H [T xErr, T xRep] := fun H1 Q pp e hp kq => by
  obtain ⟨o, g1, g2, g3⟩ := hx
  obtain ⟨o3, g4, g5⟩ := h3
  obtain ⟨o4, g6⟩ := h4
  refine ⟨3, pp, _, rfl, hp, .inr (.inr (.inr ⟨rfl, _, _, _, _, rfl, fun H2 e2 => ⟨_, _, _, o, _, o3, _, o4, rfl, (hR.ex (e.trans e2)).rt, rep_sm hR.2, g1.ex (e.trans e2), g2, g4.ex (e.trans e2), g5, g6.ex (e.trans e2), fun z => not_all hR.2 hf z, fun rep' hr _ _ => ?_⟩⟩))⟩
  obtain rfl := rep_inj hr
  refine ⟨fun _ H' e' => ek_E kq (e2.trans e'), fun oth ho hi hf2 => ?_⟩
  exact ⟨fun _ H' e' => ek_E kq (e2.trans e'), fun z => absurd z (g3 oth ho hi hf2)⟩
theorem says_alike_3 (hR : RepAt p rep H) (hO : RepAt p2 oth H) (hf : ∀ t ∈ rep, t ≠ []) (hf2 : ∀ t ∈ oth, t ≠ []) (hl : oth.length = rep.length) (h3 : NoGrow rep oth H v3) (h4 : ∃ o, Nt H v4 o) : Says CE CS CN 3 [.ref p, .ref p2, v3, v4] H [T xErr, T xSign] := fun H1 Q pp e hp kq => by
  obtain ⟨o3, g4, g5, g55⟩ := h3
  obtain ⟨o4, g6⟩ := h4
  refine ⟨3, pp, _, rfl, hp, .inr (.inr (.inr ⟨rfl, _, _, _, _, rfl, fun H2 e2 => ⟨_, _, _, _, _, o3, _, o4, rfl, (hR.ex (e.trans e2)).rt, rep_sm hR.2, (hO.ex (e.trans e2)).rt, rep_sm hO.2, g4.ex (e.trans e2), g5, g6.ex (e.trans e2), fun z => not_all hR.2 hf z, fun rep' hr _ _ => ?_⟩⟩))⟩
  obtain rfl := rep_inj hr
  refine ⟨fun z => not_all hO.2 hf2 z, fun oth' ho _ _ => ?_⟩
  obtain rfl := rep_inj ho
  refine ⟨fun z => absurd hl z, fun _ => ⟨fun _ H' e' => ek_S kq (e2.trans e'), fun c hc c1 c2 => ⟨fun _ H' e' => ek_S kq (e2.trans e'), fun gr go => ?_⟩⟩⟩
  exfalso
  rcases g55 with h | ⟨c', hc', h⟩
  · rw [hc] at h
    exact not_sign hR.2.few c1 c2 h
  · rw [hc] at hc'
    have : c = c' := by injection hc' with h; injection h
    subst this
    have up : ∀ {r : List Tx}, Grows r c → growB r (c - 97) = true := fun {r} g1 => by
      obtain ⟨u, hu, hi⟩ := g1.stay
      have h97 : 97 + (c - 97) = c := by have := g1.lo; omega
      have hgd : r.getD (c - 97) [] = c :: u := hi
      unfold growB
      rw [hgd, h97]
      cases u with
      | nil => exact absurd rfl hu
      | cons y u => simp
    rw [up gr, up go] at h
    cases h
theorem says_alike_4 (hR : RepAt p rep H) (hO : RepAt p2 oth H) (hf : ∀ t ∈ rep, t ≠ []) (hf2 : ∀ t ∈ oth, t ≠ []) (hl : oth.length = rep.length) (g1 : Grows rep c) (g2 : Grows oth c) (h4 : NoNum 1 4000 H v4) : Says CE CS CN 3 [.ref p, .ref p2, T [c], v4] H [T xErr, T xNum] := fun H1 Q pp e hp kq => by
  obtain ⟨o4, g6, g7⟩ := h4
  refine ⟨3, pp, _, rfl, hp, .inr (.inr (.inr ⟨rfl, _, _, _, _, rfl, fun H2 e2 => ⟨_, _, _, _, _, _, _, o4, rfl, (hR.ex (e.trans e2)).rt, rep_sm hR.2, (hO.ex (e.trans e2)).rt, rep_sm hO.2, .str _, fun t ht => len1 ht, g6.ex (e.trans e2), fun z => not_all hR.2 hf z, fun rep' hr _ _ => ?_⟩⟩))⟩
  obtain rfl := rep_inj hr
  refine ⟨fun z => not_all hO.2 hf2 z, fun oth' ho _ _ => ?_⟩
  obtain rfl := rep_inj ho
  refine ⟨fun z => absurd hl z, fun _ => ⟨fun z => not_sign hR.2.few g1.lo g1.hi z, fun c' hc' _ _ => ?_⟩⟩
  cases hc'
  have up : ∀ {r : List Tx}, Grows r c → growB r (c - 97) = true := fun {r} g1 => by
    obtain ⟨u, hu, hi⟩ := g1.stay
    have h97 : 97 + (c - 97) = c := by have := g1.lo; omega
    have hgd : r.getD (c - 97) [] = c :: u := hi
    unfold growB
    rw [hgd, h97]
    cases u with
    | nil => exact absurd rfl hu
    | cons y u => simp
  refine ⟨fun z => ?_, fun _ _ => ⟨fun _ H' e' => ek_N kq (e2.trans e'), fun n hn n1 n2 => ?_⟩⟩
  · rw [up g1, up g2] at z
    cases z
  · rw [hn, in_most n1 n2] at g7
    cases g7
end
end K22
set_option Elab.async false
set_option linter.all false
set_option maxRecDepth 100000
set_option maxHeartbeats 4000000
set_option exponentiation.threshold 5000
namespace K22
open PySem PySem.Spec PyProof.Rows L2 Evl Wc Wt Wg Ws We _root_.Wd
theorem kb_again_2_1_0 : KB "again" st_again 0 ["replacing", "sign", "times"] ["times", "sign", "replacing"] sw3 sw3 := kb3 rfl (fun _ _ _ _ _ _ a b c => rfl)
theorem kb_sign_at_3_2_1_0 : KB "sign_at" st_sign_at 0 ["replacing", "sign", "times", "place"] ["place", "times", "sign", "replacing"] sw4 sw4 := kb4 rfl (fun _ _ _ _ _ _ a b c d => rfl)
theorem atI_neg1 {α : Type} {l : List α} {x : α} (h : l[l.length - 1]? = some x) : atI l (-1) = some x := by
  have hne : l ≠ [] := fun z => by
    rw [z] at h
    simp at h
  obtain ⟨l', a, rfl⟩ : ∃ l' a, l = l' ++ [a] := ⟨l.dropLast, l.getLast hne, (List.dropLast_concat_getLast hne).symm⟩
  have : a = x := by simpa using h
  rw [← this]
  exact atI_last _ _
section
variable {K : PySem.W.Frag} {σ : L2.St} {H : Hp} {ta tb te : TE} {tz tu tw : TS} {D : Ends} {tt : TT}
theorem s_ifA (k : tt σ H fun b H1 => if b = true then tu D σ H1 else tw D σ H1) : tIfS tt tu tw D σ H := k
theorem s_asgA {i : Nat} (k : te σ H fun v H1 => D.nx (σ.set i (some v)) H1) : tAsg te (gName i) D σ H := k
theorem sd_told : Sd 0 100 (dT xTold) := ⟨rfl, rfl, Nat.zero_le _, by decide +kernel⟩
theorem cR_small {rep : List Tx} (h : IsRep rep) {n c : Nat} (hn : n ≤ 60) : cR rep n c < 10 ^ 100 := Nat.lt_of_le_of_lt (cR_big h hn c) (by decide +kernel)
theorem sd_sign : ∀ c < 200, (PyData.shown (dT [c])).length ≤ 100 := by decide +kernel
theorem sd_sg {c : Nat} (h : c < 200) : Sd 0 100 (dT [c]) := ⟨rfl, rfl, Nat.zero_le _, sd_sign c h⟩
end
theorem in_no1 {b i : Int} (h : i < 0) : inB 0 b (some i) = false := by
  show (decide (0 ≤ i) && decide (i ≤ b)) = false
  rw [decide_eq_false (show ¬ (0 : Int) ≤ i by omega), Bool.false_and]
theorem in_no2 {a b i : Int} (h : b < i) : inB a b (some i) = false := by
  show (decide (a ≤ i) && decide (i ≤ b)) = false
  rw [decide_eq_false (show ¬ i ≤ b by omega), Bool.and_false]
theorem low_told : LowT xTold := (by decide : ∀ c ∈ xTold, c < 1000)
theorem low_sg {d : Nat} (h : d < 200) : LowT [d] := fun c hc => by
  rw [List.mem_singleton.mp hc]
  omega
theorem sh_pairs {l : List (Tx × Tx)} (h : ∀ q ∈ l, LowT q.1 ∧ LowT q.2) : SeqAt.shaped (.list (l.map fun q => .tuple [dT q.1, dT q.2])) = true := shaped_list (m := 1) (fun q hq => by
  show (PyData.canLay0 (dT q.1) && (PyData.canLay0 (dT q.2) && true)) = true
  rw [lay_T (h q hq).1, lay_T (h q hq).2]
  rfl) (fun q _ => by simp [PyData.depth, PyData.depthAll]) (by decide)
theorem eq_self {d : PyData} (h : SeqAt.shaped d = true) : PyData.eqv d d = true := by
  unfold SeqAt.shaped at h
  exact PySem.SeqAt.eqv_refl d (Bool.and_eq_true_iff.mp h).1
/-- signs that come are own ones -/
theorem sgnA_own {rep : List Tx} (h : IsRep rep) : ∀ (n c p : Nat), 97 ≤ c → c < 97 + rep.length → 97 ≤ sgnA rep n c p ∧ sgnA rep n c p < 97 + rep.length
  | 0, c, p, h1, h2 => ⟨h1, h2⟩
  | n + 1, c, p, h1, h2 => by
    have hp : ∀ (t : Tx) (c p : Nat), (97 ≤ c ∧ c < 97 + rep.length) → (∀ d ∈ t, 97 ≤ d ∧ d < 97 + rep.length) → 97 ≤ (pick (cR rep n) t c p).1 ∧ (pick (cR rep n) t c p).1 < 97 + rep.length := by
      intro t
      induction t with
      | nil => intro c p hc _; exact hc
      | cons d t ih =>
        intro c p hc ht
        rw [pick_cons]
        split
        · exact ht d List.mem_cons_self
        · exact ih d _ (ht d List.mem_cons_self) fun e he => ht e (List.mem_cons_of_mem _ he)
    have h3 := hp (im rep c) c p ⟨h1, h2⟩ (im_own h c).2
    exact sgnA_own h n _ _ h3.1 h3.2
section
variable {P : Program} {w : World} {K : PySem.W.Frag} {mg : Str → Option Value} {base : Heap}
def sp_right : Sp := fun vs H Q _ => ∃ (fa : Addr), vs = [.ref fa] ∧ GF fa 1000 H ∧ ∀ H', Rf fa 1000 H H' → Q (.bl true) H'
theorem ok__law_numbers_right {f CE CS CN : Addr} {fd : FuncData} (F : Fun K "_law_numbers_right" "_law_numbers_right" st__law_numbers_right f fd) (M : Md K mg) (C__law_draw : Cal P w K mg base "_law_draw" st__law_draw 1 ["feed", "many"] sp_draw) (C__law_one : Cal P w K mg base "_law_one" st__law_one 2 ["feed", "things"] (sp_one K)) (C__law_replacing : Cal P w K mg base "_law_replacing" st__law_replacing 4 ["feed", "many"] sp_replacing)
    (C__law_times : Cal P w K mg base "_law_times" st__law_times 1 ["replacing", "sign", "times"] sp_times) (C__law_done : Cal P w K mg base "_law_done" st__law_done 1 ["replacing", "text", "times"] sp_done) (C__law_asked : Cal P w K mg base "_law_asked" st__law_asked 7 ["way", "parts"] (sp_asked CE CS CN)) (C_again : Cal P w K mg base "again" st_again 5 ["replacing", "sign", "times"] (calm (sp_again CE CS CN))) (C_sign_at : Cal P w K mg base "sign_at" st_sign_at 5 ["replacing", "sign", "times", "place"] (calm (sp_sign_at CE CS CN)))
    (C__law_known : Cal P w K mg base "_law_known" st__law_known 1 ["replacing", "times"] sp_known) (C__law_way_down : Cal P w K mg base "_law_way_down" st__law_way_down 3 ["feed", "replacing", "sign", "times", "known"] sp_way) (C__law_bad_replacing : Cal P w K mg base "_law_bad_replacing" st__law_bad_replacing 3 ["feed", "replacing"] sp_bad) : FnOkG P w K mg base 8 f fd ["feed"] sp_right := by
  have nd := sc__law_numbers_right.nd
  refine Fun.okG F sc__law_numbers_right (fun vs H Q E h => ?_) (fun cdv A outer s H vs Q E hr hgd h => ?_)
  · obtain ⟨_, rfl, _⟩ := h
    rfl
  · obtain ⟨fa, rfl, G, k⟩ := h
    refine ⟨_, (pss_cons (ps_set (i := 1) nd rfl (Or.inl rfl) (pe_op op_add pe_int (pe_cl C__law_draw hr (pa_cons (pv 0) (pa_cons pe_int pa_nil)))))
  (pss_cons (ps_asg (pe_tup (pa_cons (pe_cl C__law_replacing hr (pa_cons (pv 0) (pa_cons (pv 1) pa_nil))) (pa_cons (pe_cl C__law_one hr (pa_cons (pv 0) (pa_cons (pe_lst (pa_cons pe_int (pa_cons pe_int (pa_cons pe_int (pa_cons pe_int (pa_cons pe_int (pa_cons pe_int (pa_cons pe_int (pa_cons pe_int pa_nil))))))))) pa_nil))) pa_nil))) (kgt K (n := 2) (pg_tup rfl (pgs_cons (pg_name (i := 2) nd rfl (Or.inr rfl)) (pgs_cons (pg_name (i := 3) nd rfl (Or.inr rfl)) pgs_nil)))))
  (pss_cut (ps_if (pt_cmpR op_eqI (pe_cl C__law_draw hr (pa_cons (pv 0) (pa_cons pe_int pa_nil))) pe_int (nomark _))
  (pss_cons (ps_set (i := 4) nd rfl (Or.inl rfl) (pe_cl C__law_draw hr (pa_cons (pv 0) (pa_cons (pv 1) pa_nil))))
  (pss_one (ps_set (i := 2) nd rfl (Or.inr rfl) (pe_op (kop K (r := rCatA) op_catA) (pe_op (kop K (r := rCatA) op_catA) (pe_slice (ksl K (r := rSlA) sl_tupA) (pv 2) po_none (po_some (pv 4))) (pe_tup (pa_cons (pe_sT []) pa_nil))) (pe_slice (ksl K (r := rSlA) sl_tupA) (pv 2) (po_some (pe_op op_add (pv 4) pe_int)) po_none)))))
  pss_nil)
  (pss_cons (ps_set (i := 5) nd rfl (Or.inr rfl) (pe_cl C__law_one hr (pa_cons (pv 0) (pa_cons (pe_slice sl_T (pe_sT [97, 98, 99, 100]) po_none (po_some (pv 1))) pa_nil))))
  (pss_cons (ps_par (i := 6) (j := 7) rfl nd rfl rfl (by decide) rfl rfl (pa_cons (pe_cl C__law_times hr (pa_cons (pv 2) (pa_cons (pv 5) (pa_cons (pv 3) pa_nil)))) (pa_cons (pe_cl C__law_done hr (pa_cons (pv 2) (pa_cons (pv 5) (pa_cons (pv 3) pa_nil)))) pa_nil)) (by rfl))
  (pss_cons (ps_if (pt_cmpR op_neT (pe_callB (kcr K (r := rReprD) (cr_reprD hgd hr.units)) (by rfl) M.n_repr boot_repr (pa_cons (pe_lst (pa_cons (pe_cl C__law_asked hr (pa_cons pe_int (pa_cons (pe_lst (pa_cons (pv 2) (pa_cons (pv 5) (pa_cons (pv 3) pa_nil)))) pa_nil))) (pa_cons (pe_clK0 C_again (kb_again_2_1_0) hr (pk_cons (pv 3) (pk_cons (pv 5) (pk_cons (pv 2) pk_nil)))) pa_nil))) pa_nil)) (pe_callB (kcr K (r := rReprD) (cr_reprD hgd hr.units)) (by rfl) M.n_repr boot_repr (pa_cons (pe_lst (pa_cons (pe_tup (pa_cons (pe_sT [116, 111, 108, 100]) (pa_cons (pv 6) pa_nil))) (pa_cons (pv 6) pa_nil))) pa_nil)) (nomark _))
  (pss_one (ps_ret pe_bl))
  pss_nil)
  (pss_cons (ps_set (i := 8) nd rfl (Or.inl rfl) (pe_cl C__law_known hr (pa_cons (pv 2) (pa_cons (pv 3) pa_nil))))
  (pss_cut (ps_for PassesOwn.never rfl (pi_range1 (by rfl) M.n_range (pa_cons pe_int pa_nil)) (pg_name (i := 9) nd rfl (Or.inl rfl))
  (pss_cons (ps_set (i := 10) nd rfl (Or.inl rfl) (pe_cl C__law_way_down hr (pa_cons (pv 0) (pa_cons (pv 2) (pa_cons (pv 5) (pa_cons (pv 3) (pa_cons (pv 8) pa_nil)))))))
  (pss_cons (ps_if (pt_cmpR op_neB (pe_cmpR op_isN (pv 10) pe_non (nomark _)) (pe_cmpR op_eqI (pv 6) pe_int (nomark _)) (nomark _))
  (pss_one (ps_ret pe_bl))
  pss_nil)
  (pss_one (ps_if (PW.pt (pw_and (pt_cmpR op_notN (pv 10) pe_non (nomark _)) (pw_and1 (pt_cmpR op_lt (pe_ix (kix K (r := rIxAny) ix_any) (pv 10) pe_int (fun _ _ => rfl)) (pe_op op_pow pe_int pe_int) (nomark _)))))
  (pss_cons (ps_asg (pv 10) (kgt K (n := 2) (pg_tup rfl (pgs_cons (pg_name (i := 11) nd rfl (Or.inl rfl)) (pgs_cons (pg_name (i := 12) nd rfl (Or.inl rfl)) pgs_nil)))))
  (pss_cons (ps_if (pt_cmpR op_neT (pe_callB (kcr K (r := rReprD) (cr_reprD hgd hr.units)) (by rfl) M.n_repr boot_repr (pa_cons (pe_cl C__law_asked hr (pa_cons pe_int (pa_cons (pe_lst (pa_cons (pv 2) (pa_cons (pv 5) (pa_cons (pv 3) (pa_cons (pv 11) pa_nil))))) pa_nil))) pa_nil)) (pe_callB (kcr K (r := rReprD) (cr_reprD hgd hr.units)) (by rfl) M.n_repr boot_repr (pa_cons (pe_tup (pa_cons (pe_sT [116, 111, 108, 100]) (pa_cons (pv 12) pa_nil))) pa_nil)) (nomark _))
  (pss_one (ps_ret pe_bl))
  pss_nil)
  (pss_cons (ps_if (pt_cmpR op_neT (pe_callB (kcr K (r := rReprD) (cr_reprD hgd hr.units)) (by rfl) M.n_repr boot_repr (pa_cons (pe_clK0 C_sign_at (kb_sign_at_3_2_1_0) hr (pk_cons (pv 11) (pk_cons (pv 3) (pk_cons (pv 5) (pk_cons (pv 2) pk_nil))))) pa_nil)) (pe_callB (kcr K (r := rReprD) (cr_reprD hgd hr.units)) (by rfl) M.n_repr boot_repr (pa_cons (pv 12) pa_nil)) (nomark _))
  (pss_one (ps_ret pe_bl))
  pss_nil)
  (pss_one (ps_if (PW.pt (pw_and (pt_cmpR op_notN (pv 7) pe_non (nomark _)) (pw_and1 (PW.pt (pw_or (pt_cmpR op_neI (pe_callB cr_lenT (by rfl) M.n_len boot_len (pa_cons (pv 7) pa_nil)) (pv 6) (nomark _)) (pw_or1 (pt_cmpR op_neT (pe_ix ix_T (pv 7) (pv 11) (fun _ _ => rfl)) (pv 12) (nomark _))))))))
  (pss_one (ps_ret pe_bl))
  pss_nil)))))
  pss_nil)))))
  (pss_cut (ps_if (pt_chain op_lt op_lt pe_int (pv 6) (pe_op op_pow pe_int pe_int))
  (pss_cons (ps_setLc (i := 13) (own := [("place", 11)]) rfl nd rfl rfl (sw_true rfl rfl rfl (by decide +kernel)) (kit K (pi_tup (pe_tup (pa_cons pe_int (pa_cons (pe_op op_sub (pv 6) pe_int) pa_nil))))) (blkOk_by (N := N__law_numbers_right) (sc := defScope st__law_numbers_right) (by decide +kernel)) (fun _ _ _ _ _ => (pg_name (i := 11) nd rfl (Or.inl rfl))) (fun _ _ _ _ _ => pts_nil) (fun _ _ _ _ _ => (pe_cl C__law_asked hr (pa_cons pe_int (pa_cons (pe_lst (pa_cons (pv 2) (pa_cons (pv 5) (pa_cons (pv 3) (pa_cons (pv 11) pa_nil))))) pa_nil)))))
  (pss_one (ps_if (PW.pt (pw_and (pt_cmpR op_notN (pv 7) pe_non (nomark _)) (pw_and1 (pt_cmpR (kop K (r := rNeD) (op_neD hr.units)) (pv 13) (pe_lst (pa_cons (pe_tup (pa_cons (pe_sT [116, 111, 108, 100]) (pa_cons (pe_ix ix_T (pv 7) pe_int (fun _ _ => rfl)) pa_nil))) (pa_cons (pe_tup (pa_cons (pe_sT [116, 111, 108, 100]) (pa_cons (pe_ix ix_T (pv 7) (pe_un un_neg pe_int) (fun _ _ => rfl)) pa_nil))) pa_nil))) (nomark _)))))
  (pss_one (ps_ret pe_bl))
  pss_nil)))
  pss_nil)
  (pss_cons (ps_par (i := 14) (j := 15) rfl nd rfl rfl (by decide) rfl rfl (pa_cons (pe_cl C__law_bad_replacing hr (pa_cons (pv 0) (pa_cons (pv 2) pa_nil))) (pa_cons (pe_cl C__law_one hr (pa_cons (pv 0) (pa_cons (pe_lst (pa_cons pe_non (pa_cons (pe_sT []) (pa_cons (pe_sT [97, 98]) (pa_cons (pe_ix ix_T (pe_sT [97, 98, 99, 100, 101]) (pv 1) (fun _ _ => rfl)) (pa_cons (pe_sT [65]) (pa_cons pe_int (pa_cons (pe_lst (pa_cons (pe_sT [97]) pa_nil)) (pa_cons (pe_sT [101]) pa_nil))))))))) pa_nil))) pa_nil)) (by rfl))
  (pss_cons (ps_set (i := 16) nd rfl (Or.inl rfl) (pe_cl C__law_one hr (pa_cons (pv 0) (pa_cons (pe_lst (pa_cons (pe_un un_neg pe_int) (pa_cons pe_int (pa_cons pe_bl (pa_cons pe_non (pa_cons (pe_sT [49]) (pa_cons (pe_tup (pa_cons pe_int pa_nil)) (pa_cons (pe_op op_pow pe_int pe_int) pa_nil)))))))) pa_nil))))
  (pss_cons (ps_set (i := 11) nd rfl (Or.inl rfl) (pe_cl C__law_one hr (pa_cons (pv 0) (pa_cons (pe_lst (pa_cons (pe_ifExp (pt_cmpR op_lt (pv 6) (pe_op op_pow pe_int pe_int) (nomark _)) (pv 6) (pe_un un_neg pe_int)) (pa_cons (pe_un un_neg pe_int) (pa_cons (pe_ifExp (pt_cmpR op_lt (pv 6) (pe_op op_pow pe_int pe_int) (nomark _)) (pe_op op_add (pv 6) (pe_op op_pow pe_int pe_int)) (pe_un un_neg pe_int)) (pa_cons pe_bl (pa_cons pe_non (pa_cons (pe_sT [48]) pa_nil))))))) pa_nil))))
  (pss_cons (ps_set (i := 12) nd rfl (Or.inl rfl) (pe_lst (pa_cons (pe_cl C__law_asked hr (pa_cons pe_int (pa_cons (pe_lst (pa_cons (pv 14) (pa_cons (pv 15) (pa_cons (pv 16) pa_nil)))) pa_nil))) (pa_cons (pe_cl C__law_asked hr (pa_cons pe_int (pa_cons (pe_lst (pa_cons (pv 2) (pa_cons (pv 15) (pa_cons (pv 16) pa_nil)))) pa_nil))) (pa_cons (pe_cl C__law_asked hr (pa_cons pe_int (pa_cons (pe_lst (pa_cons (pv 2) (pa_cons (pv 5) (pa_cons (pv 16) pa_nil)))) pa_nil))) pa_nil)))))
  (pss_cons (ps_set (i := 12) nd rfl (Or.inl rfl) (pe_op op_cat (pv 12) (pe_lc (own := [("parts", 17)]) rfl nd (kil K (pi_list (pe_lst (pa_cons (pe_lst (pa_cons (pv 14) (pa_cons (pv 5) (pa_cons (pv 16) (pa_cons (pv 11) pa_nil))))) (pa_cons (pe_lst (pa_cons (pv 2) (pa_cons (pv 15) (pa_cons (pv 3) (pa_cons (pv 11) pa_nil))))) (pa_cons (pe_lst (pa_cons (pv 2) (pa_cons (pv 5) (pa_cons (pv 16) (pa_cons (pv 11) pa_nil))))) (pa_cons (pe_lst (pa_cons (pv 2) (pa_cons (pv 5) (pa_cons (pv 3) (pa_cons (pv 11) pa_nil))))) pa_nil))))))) (blkOk_by (N := N__law_numbers_right) (sc := defScope st__law_numbers_right) (by decide +kernel)) (fun _ _ _ _ _ => (pg_name (i := 17) nd rfl (Or.inl rfl))) (fun _ _ _ _ _ => pts_nil) (fun _ _ _ _ _ => (pe_cl C__law_asked hr (pa_cons pe_int (pa_cons (pv 17) pa_nil)))))))
  (pss_one (ps_ret (pe_cmpR (kop K (r := rEqD) (op_eqD hr.units)) (pv 12) (pe_lc (own := [("word", 18)]) rfl nd (kil K (pi_list (pe_lst (pa_cons (pe_sT [114, 101, 112, 108, 97, 99, 105, 110, 103]) (pa_cons (pe_sT [115, 105, 103, 110]) (pa_cons (pe_sT [110, 117, 109, 98, 101, 114]) (pa_cons (pe_sT [114, 101, 112, 108, 97, 99, 105, 110, 103]) (pa_cons (pe_sT [115, 105, 103, 110]) (pa_cons (pe_sT [110, 117, 109, 98, 101, 114]) (pa_cons (pe_sT [110, 117, 109, 98, 101, 114]) pa_nil)))))))))) (blkOk_by (N := N__law_numbers_right) (sc := defScope st__law_numbers_right) (by decide +kernel)) (fun _ _ _ _ _ => (pg_name (i := 18) nd rfl (Or.inl rfl))) (fun _ _ _ _ _ => pts_nil) (fun _ _ _ _ _ => (pe_tup (pa_cons (pe_sT [101, 114, 114, 111, 114]) (pa_cons (pv 18) pa_nil))))) (nomark _)))))))))))))))))), ?_⟩
    refine q_dw (dI_add dI_c (dI_draw (i := 0) rfl dI_c)) G fun v H1 ⟨many0, hv, hm1, hm2⟩ R1 => ?_
    subst hv
    obtain ⟨many, rfl⟩ := Int.eq_ofNat_of_zero_le (show 0 ≤ many0 by omega)
    have es : (start N__law_numbers_right [.ref fa]).set 1 (some (.int ((many : Nat) : Int))) = [some (.ref fa), some (.int (many : Int)), none, none, none, none, none, none, none, none, none, none, none, none, none, none, none, none, none] := rfl
    rw [es]
    clear es
    refine q_asgG (l_tup (a_any (l_call (a_ev (ev_var rfl) fun Ha ea => a_ev (ev_var rfl) fun Hb eb => a_nil ⟨fa, many, rfl, ((G.go R1 (m' := 900) (by omega)).ex (ea.trans eb)).mono (by omega), by omega, by omega, fun q rep H2 hrep hfull hlen _ R2 hq2 => ?_⟩))))
    have RA := R1.trans (Rf.pre (ea.trans eb) R2)
    refine a_any (wp_oneL (i := 0) (vs := [.int 0, .int 1, .int 2, .int 3, .int 5, .int 9, .int 30, .int 60]) rfl (el_lst (ea_cons ev_c (ea_cons ev_c (ea_cons ev_c (ea_cons ev_c (ea_cons ev_c (ea_cons ev_c (ea_cons ev_c (ea_cons ev_c ea_nil)))))))) (by show 8 ≤ 100000; decide)) (G.go RA (m' := 900) (by omega)) (by simp) (by show 8 ≤ 16777216; decide) fun tv H3 htv R3 => a_nil ⟨by show 2 ≤ sizeLine; decide, fun pt hpt => g_pair upd_same ?_⟩)
    obtain ⟨n, rfl, hn⟩ : ∃ n : Nat, tv = .int (n : Int) ∧ n ≤ 60 := by
      simp only [List.mem_cons, List.not_mem_nil, or_false] at htv
      rcases htv with rfl | rfl | rfl | rfl | rfl | rfl | rfl | rfl
      · exact ⟨0, rfl, by decide⟩
      · exact ⟨1, rfl, by decide⟩
      · exact ⟨2, rfl, by decide⟩
      · exact ⟨3, rfl, by decide⟩
      · exact ⟨5, rfl, by decide⟩
      · exact ⟨9, rfl, by decide⟩
      · exact ⟨30, rfl, by decide⟩
      · exact ⟨60, rfl, by decide⟩
    have nq : q ≠ fa := (G.go RA (m' := 900) (by omega)).ofTup hq2
    have h4 : (upd H3 pt (.tup [.ref q, .int (n : Int)])) q = some (.tup (rep.map T)) := Ex.new hpt _ _ (R3.at_ hq2 nq)
    have RB : Rf fa 70 H (upd H3 pt (.tup [.ref q, .int (n : Int)])) := ((RA.trans R3).then (Ex.new hpt)).mono (by omega)
    generalize upd H3 pt (.tup [.ref q, .int (n : Int)]) = H4 at h4 RB ⊢
    clear hq2 hpt R3 RA R2 ea eb R1
    have es : (([some (.ref fa), some (.int (many : Int)), none, none, none, none, none, none, none, none, none, none, none, none, none, none, none, none, none] : L2.St).set 2 (some (.ref q))).set 3 (some (.int (n : Int))) = [some (.ref fa), some (.int (many : Int)), some (.ref q), some (.int (n : Int)), none, none, none, none, none, none, none, none, none, none, none, none, none, none, none] := rfl
    rw [es]
    clear es
    refine q_cut (M := fun σ' H' => ∃ (p : Addr) (rep : List Tx) (v4 : Option V), σ' = [some (.ref fa), some (.int (many : Int)), some (.ref p), some (.int (n : Int)), v4, none, none, none, none, none, none, none, none, none, none, none, none, none, none] ∧ RepAt p rep H' ∧ rep.length = many ∧ Rf fa 100 H H') ?_ ?_
    · refine s_ifA (t_test (t_op (wp_draw (i := 0) (many := 4) rfl ev_c (G.go RB (m' := 900) (by omega)) (by decide) (by decide) fun d H5 hd R5 => ⟨(d : Int), 0, rfl, rfl, _, rfl, ?_⟩)))
      have h5 := R5.at_ h4 nq
      have RC := RB.trans R5
      by_cases h0 : ((d : Int) = 0)
      · rw [if_pos (decide_eq_true h0)]
        refine q_asgA (wp_draw (i := 0) (many := (many : Int)) rfl (ev_var rfl) (G.go RC (m' := 900) (by omega)) (by omega) (by omega) fun d2 H6 hd2 R6 => ?_)
        have h6 := R6.at_ h5 nq
        have hd2' : d2 < rep.length := by omega
        refine s_asgA (ew_swap (rep := rep) (i := d2) (v := T []) (σ := [some (.ref fa), some (.int (many : Int)), some (.ref q), some (.int (n : Int)), some (.int (d2 : Int)), none, none, none, none, none, none, none, none, none, none, none, none, none, none]) (ev_var rfl) h6 (ev_var rfl) ev_c (by omega) hd2' H6 (Ex.refl _) _ fun p' H7 e7 hp' => ⟨p', swapT rep d2 [], some (.int (d2 : Int)), rfl, ⟨?_, swapT_rep hrep hd2' (Nat.zero_le _) (fun c hc => nomatch hc)⟩, by rw [swapT_len hd2']; exact hlen, ((RC.trans R6).then e7).mono (by omega)⟩)
        rw [hp']
        unfold swapT
        simp
      · rw [if_neg (by rw [decide_eq_false h0]; exact Bool.false_ne_true)]
        exact ⟨q, rep, none, rfl, ⟨h5, hrep⟩, hlen, RC.mono (by omega)⟩
    clear h4 RB nq hlen hfull hrep
    rintro σ' H5 ⟨p, rep, v4, rfl, hR, hlen, RC⟩
    have hfew := hR.2.few
    have npf := (G.go RC (m' := 900) (by omega)).ofTup hR.1
    have hABl : (AB.take many).length = many := by rw [List.length_take]; show min many 4 = _; omega
    refine q_asgA (wp_oneT (i := 0) rfl (ev_is (ev_slT (a := AB) ev_c eo_none (eo_some (ev_var rfl)) (by decide)) (by rw [cutT_to])) (G.go RC (m' := 900) (by omega)) (fun z => by rw [z] at hABl; simp at hABl; omega) (by omega) fun c H6 hc R6 => ?_)
    obtain ⟨hc1, hc2⟩ := (mem_AB (by omega)).mp hc
    rw [← hlen] at hc2
    have hR6 : RepAt p rep H6 := ⟨R6.at_ hR.1 npf, hR.2⟩
    have RD := RC.trans R6
    have es : ([some (.ref fa), some (.int (many : Int)), some (.ref p), some (.int (n : Int)), v4, none, none, none, none, none, none, none, none, none, none, none, none, none, none] : L2.St).set 5 (some (T [c])) = [some (.ref fa), some (.int (many : Int)), some (.ref p), some (.int (n : Int)), v4, some (T [c]), none, none, none, none, none, none, none, none, none, none, none, none, none] := rfl
    rw [es]
    clear es
    refine q_par2 ((ev_call (ea_cons (ev_var rfl) (ea_cons (ev_var rfl) (ea_cons (ev_var rfl) ea_nil))) fun H7 e7 Q7 q7 E => ⟨p, rep, c, n, rfl, hR6.ex e7, hc1, hc2, hn, q7⟩ : Ev _ _ H6 (.int ((cR rep n c : Nat) : Int))) H6 (Ex.refl _) _ fun H7 e7 => l_call (a_ev (ev_var rfl) fun Ha ea => a_ev (ev_var rfl) fun Hb eb => a_ev (ev_var rfl) fun Hc ec => a_nil ⟨p, rep, [c], n, rfl, ((hR6.ex e7).ex (ea.trans (eb.trans ec))), by show 1 ≤ 3000; decide, fun c' hc' => by rw [List.mem_singleton.mp hc']; exact ⟨hc1, hc2⟩, hn, fun tv H8 e8 htv => ⟨_, _, rfl, ?_⟩⟩))
    have e68 := e7.trans ((ea.trans (eb.trans ec)).trans e8)
    have hR8 := hR6.ex e68
    have RE := RD.then e68
    obtain ⟨tx, htx⟩ : ∃ tx : Bool, (tx = true ∧ tv = T (phiN rep n [c]) ∧ (phiN rep n [c]).length ≤ 3000) ∨ (tx = false ∧ tv = .non) := by
      rcases htv with ⟨h1, h2⟩ | ⟨h1, _⟩
      · exact ⟨true, .inl ⟨rfl, h1, h2⟩⟩
      · exact ⟨false, .inr ⟨rfl, h1⟩⟩
    clear htv e68 e8 ec eb ea e7 hR6 hR
    have es : (([some (.ref fa), some (.int (many : Int)), some (.ref p), some (.int (n : Int)), v4, some (T [c]), none, none, none, none, none, none, none, none, none, none, none, none, none] : L2.St).set 6 (some (.int ((cR rep n c : Nat) : Int)))).set 7 (some tv) = [some (.ref fa), some (.int (many : Int)), some (.ref p), some (.int (n : Int)), v4, some (T [c]), some (.int ((cR rep n c : Nat) : Int)), some tv, none, none, none, none, none, none, none, none, none, none, none] := rfl
    rw [es]
    clear es
    have hbig := cR_small hR8.2 (c := c) hn
    refine q_when (b := false) (et_reprNe (d := .list [.tuple [dT xTold, .int ((cR rep n c : Nat) : Int)], .int ((cR rep n c : Nat) : Int)]) (sd_list2 (sd_tup2 sd_told (sd_big hbig)) ((sd_big hbig).up (by decide) (by decide))) (by decide) (by decide)
      (evd_lst2 (evd_w (ew_asked (ea_cons (ev_var rfl) (ea_cons (ev_var rfl) (ea_cons (ev_var rfl) ea_nil))) (by show 3 ≤ 100000; decide) (says_again_ok hR8 hc1 hc2 hn)) fun _ _ => .cons (.str _) (.cons (.int _) .nil))
        (evd_ev (ev_callK0 (ea_cons (ev_var rfl) (ea_cons (ev_var rfl) (ea_cons (ev_var rfl) ea_nil))) fun H9 e9 Q9 q9 E => sp_again_ok (hR8.ex e9) hc1 hc2 hn q9) fun _ _ => .int _))
      (evd_lst2 (evd_tup2 (evd_c fun _ => .str _) (evd_var rfl fun _ _ => .int _)) (evd_var rfl fun _ _ => .int _))) (fun z => by cases z) (fun _ H9 e9 => ?_)
    have hR9 := hR8.ex e9
    refine q_asgA (l_call (a_ev (ev_var rfl) fun Ha ea => a_ev (ev_var rfl) fun Hb eb => a_nil ⟨p, rep, n, rfl, hR9.ex (ea.trans eb), hn, fun pf H10 _ e10 hK => ?_⟩))
    have hR10 := hR9.ex ((ea.trans eb).trans e10)
    have RF := RE.then (e9.trans ((ea.trans eb).trans e10))
    clear e10 eb ea e9 RE RD RC hR8 hR9 R6
    show tCut _ _ _ [some (.ref fa), some (.int (many : Int)), some (.ref p), some (.int (n : Int)), v4, some (T [c]), some (.int ((cR rep n c : Nat) : Int)), some tv, some (.ref pf), none, none, none, none, none, none, none, none, none, none] H10
    have G10 : GF fa 800 H10 := G.go RF (by omega)
    refine q_cut (M := fun σ' H' => ∃ (v9 v10 v11 v12 : Option V), σ' = [some (.ref fa), some (.int (many : Int)), some (.ref p), some (.int (n : Int)), v4, some (T [c]), some (.int ((cR rep n c : Nat) : Int)), some tv, some (.ref pf), v9, v10, v11, v12, none, none, none, none, none, none] ∧ Rf fa 400 H10 H') ?_ ?_
    · refine s_forW (fun b => b = fa) (src_range1 (n := 3) (ea_cons ev_c ea_nil) (by decide)) ?_
        (fun Hs i σ' H' => ∃ (v9 v10 v11 v12 : Option V), σ' = [some (.ref fa), some (.int (many : Int)), some (.ref p), some (.int (n : Int)), v4, some (T [c]), some (.int ((cR rep n c : Nat) : Int)), some tv, some (.ref pf), v9, v10, v11, v12, none, none, none, none, none, none] ∧ Exc (fun b => b = fa) Hs H' ∧ Rf fa (130 * i) H10 H') ?_ ?_ ?_ ?_ ?_
      · rintro b rfl
        exact ⟨G10.is, fun z => z⟩
      · intro Hs e
        exact ⟨none, none, none, none, rfl, Exc.refl _, Rf.of_ex e⟩
      · rintro Hs i σ' H' ⟨_, _, _, _, _, h, _⟩
        exact h
      · rintro Hs i σ' Ha Hb ⟨v9, v10, v11, v12, h0, h1, h2⟩ e
        exact ⟨v9, v10, v11, v12, h0, h1.then e, h2.then e⟩
      · rintro Hs i x σ' H' e hi ⟨v9, v10, v11, v12, rfl, hX, hRf⟩ rfl
        have GB : GF fa 130 H' := G10.go hRf (by omega)
        have hRp : RepAt p rep H' := ⟨hRf.at_ hR10.1 npf, hR10.2⟩
        have hK' := hK.rf G10 hRf
        show tSeq _ _ _ [some (.ref fa), some (.int (many : Int)), some (.ref p), some (.int (n : Int)), v4, some (T [c]), some (.int ((cR rep n c : Nat) : Int)), some tv, some (.ref pf), some (.int (i : Int)), v10, v11, v12, none, none, none, none, none, none] H'
        refine q_asgA (l_call (a_ev (ev_var rfl) fun Ha ea => a_ev (ev_var rfl) fun Hb eb => a_ev (ev_var rfl) fun Hc ec => a_ev (ev_var rfl) fun Hd ed => a_ev (ev_var rfl) fun He ee => a_nil ⟨fa, p, pf, rep, c, n, rfl, GB.ex (ea.trans (eb.trans (ec.trans (ed.trans ee)))), hRp.ex (ea.trans (eb.trans (ec.trans (ed.trans ee)))), hc1, hc2, hn, hK'.ex (ea.trans (eb.trans (ec.trans (ed.trans ee)))), fun v H2 R2 hv => ?_⟩))
        have R2' := Rf.pre (ea.trans (eb.trans (ec.trans (ed.trans ee)))) R2
        have hR2 : RepAt p rep H2 := ⟨R2'.at_ hRp.1 npf, hRp.2⟩
        have fin : ∀ (H3 : Hp) (v11 v12 : Option V), Ex H2 H3 → ∃ (v9 v10 v11' v12' : Option V), ([some (.ref fa), some (.int (many : Int)), some (.ref p), some (.int (n : Int)), v4, some (T [c]), some (.int ((cR rep n c : Nat) : Int)), some tv, some (.ref pf), some (.int (i : Int)), some v, v11, v12, none, none, none, none, none, none] : L2.St) = [some (.ref fa), some (.int (many : Int)), some (.ref p), some (.int (n : Int)), v4, some (T [c]), some (.int ((cR rep n c : Nat) : Int)), some tv, some (.ref pf), v9, v10, v11', v12', none, none, none, none, none, none] ∧ Exc (fun b => b = fa) Hs H3 ∧ Rf fa (130 * (i + 1)) H10 H3 :=
          fun H3 v11 v12 e3 => ⟨_, _, _, _, rfl, (hX.trans R2'.keep).then e3, ((hRf.trans R2').then e3).mono (by omega)⟩
        clear ee ed ec eb ea R2
        show tSeq _ _ _ [some (.ref fa), some (.int (many : Int)), some (.ref p), some (.int (n : Int)), v4, some (T [c]), some (.int ((cR rep n c : Nat) : Int)), some tv, some (.ref pf), some (.int (i : Int)), some v, v11, v12, none, none, none, none, none, none] H2
        rcases hv with ⟨rfl, h0⟩ | ⟨q, pl, d, rfl, hq, hpl, hsg⟩
        · refine q_when (b := false) (et_is (et_test (ev_op (ev_op (ev_var rfl) ev_c rv_isN) (ev_op (ev_var rfl) ev_c rv_I0) rv_eqB)) ?_) (fun z => by cases z) (fun _ H3 e3 => ?_)
          · rw [h0]
            decide
          · exact s_when (b := false) (et_andG (a := false) (et_is (et_test (ev_op (ev_var rfl) ev_c rv_notN)) rfl) (fun z => by cases z) fun _ => rfl) (fun z => by cases z) (fun _ H4 e4 => fin H4 _ _ (e3.trans e4))
        · refine q_when (b := false) (et_is (et_test (ev_op (ev_op (ev_var rfl) ev_c rv_isN) (ev_op (ev_var rfl) ev_c rv_I0) rv_eqB)) ?_) (fun z => by cases z) (fun _ H3 e3 => ?_)
          · rw [decide_eq_false (show ¬ V.ref q = V.non from fun z => by cases z), decide_eq_false (show ¬ (((cR rep n c : Nat) : Int) = 0) by omega)]
            rfl
          · have hq3 := e3 _ _ hq
            have hR3 := hR2.ex e3
            refine s_when (b := decide ((pl : Int) < (10 : Int) ^ (60 : Int).toNat)) (et_is (et_and (a := true) (et_is (et_test (ev_op (ev_var rfl) ev_c rv_notN)) rfl) fun _ => et_test (ev_op (hix (i := 10) hq3 rfl (atI_nat (j := 0) rfl)) (ev_op ev_c ev_c (rv_I (C := CPow) (g := fun i j => .int (i ^ j.toNat)) ⟨by decide, by decide, by decide⟩)) rv_I0)) (Bool.true_and _)) (fun _ H4 e4 => ?_) (fun _ H4 e4 => fin H4 _ _ (e3.trans e4))
            have hq4 := e4 _ _ hq3
            have hR4 := hR3.ex e4
            refine q_asgG ((ev_var (i := 10) rfl : Ev _ _ H4 (.ref q)) H4 (Ex.refl _) _ fun H5 e5 => g_pair (e5 _ _ hq4) ?_)
            have hR5 := hR4.ex e5
            have hdo := sgnA_own hR5.2 n c pl hc1 hc2
            have hat := sgn_at rep n c pl hpl
            rw [hsg] at hdo hat
            show tSeq _ _ _ [some (.ref fa), some (.int (many : Int)), some (.ref p), some (.int (n : Int)), v4, some (T [c]), some (.int ((cR rep n c : Nat) : Int)), some tv, some (.ref pf), some (.int (i : Int)), some (.ref q), some (.int (pl : Int)), some (T [d]), none, none, none, none, none, none] H5
            refine q_when (b := false) (et_reprNe (d := .tuple [dT xTold, dT [d]]) (sd_tup2 sd_told (sd_sg (by omega))) (by decide) (by decide) (evd_w (ew_asked (ea_cons (ev_var rfl) (ea_cons (ev_var rfl) (ea_cons (ev_var rfl) (ea_cons (ev_var rfl) ea_nil)))) (by show 4 ≤ 100000; decide) (by have := says_at_ok (CE := CE) (CS := CS) (CN := CN) hR5 hc1 hc2 hn hpl; rw [hsg] at this; exact this)) fun _ _ => .cons (.str _) (.cons (.str _) .nil)) (evd_tup2 (evd_c fun _ => .str _) (evd_var rfl fun _ _ => .str _))) (fun z => by cases z) (fun _ H6 e6 => ?_)
            have hR6 := hR5.ex e6
            refine q_when (b := false) (et_reprNe (d := dT [d]) (sd_sg (by omega)) (by decide) (by decide) (evd_ev (ev_callK0 (ea_cons (ev_var rfl) (ea_cons (ev_var rfl) (ea_cons (ev_var rfl) (ea_cons (ev_var rfl) ea_nil)))) fun H7 e7 Q7 q7 E => sp_at_ok (hR6.ex e7) hc1 hc2 hn hpl (by rw [hsg]; exact q7)) fun _ _ => .str _) (evd_var rfl fun _ _ => .str _)) (fun z => by cases z) (fun _ H7 e7 => ?_)
            refine s_when (b := false) (et_andG (a := tx) (et_is (et_test (ev_op (ev_var rfl) ev_c rv_notN)) ?_) (fun ha => ?_) fun _ => rfl) (fun z => by cases z) (fun _ H8 e8 => fin H8 _ _ ((((e3.trans e4).trans e5).trans e6).trans (e7.trans e8)))
            · rcases htx with ⟨rfl, rfl, _⟩ | ⟨rfl, rfl⟩
              · rfl
              · rfl
            · rcases htx with ⟨_, rfl, hl3⟩ | ⟨rfl, _⟩
              · refine et_is (et_or (a := false) (b := false) (et_is (et_test (ev_op (ev_cb (ea_cons (ev_var rfl) ea_nil) (rc_lenT (by omega))) (ev_var rfl) rv_I0)) ?_) fun _ => et_is (et_test (ev_op (ev_op (ev_var rfl) (ev_var rfl) (Wc.rv_ixT (by omega) (atI_nat hat))) (ev_var rfl) rv_neT)) ?_) rfl
                · rw [cR_one, decide_eq_true rfl]
                  rfl
                · rw [decide_eq_true rfl]
                  rfl
              · cases ha
      · rintro Hs σ' H' e ⟨v9, v10, v11, v12, rfl, hX, hRf⟩
        exact ⟨v9, v10, v11, v12, rfl, hRf.mono (by decide)⟩
    clear hK
    rintro σ' H11 ⟨v9, v10, v11, v12, rfl, R11⟩
    have hR11 : RepAt p rep H11 := ⟨R11.at_ hR10.1 npf, hR10.2⟩
    have RG : Rf fa 600 H H11 := (RF.trans R11).mono (by omega)
    clear hR10 G10 R11 RF
    refine q_cut (M := fun σ' H' => ∃ (v11 v13 : Option V), σ' = [some (.ref fa), some (.int (many : Int)), some (.ref p), some (.int (n : Int)), v4, some (T [c]), some (.int ((cR rep n c : Nat) : Int)), some tv, some (.ref pf), v9, v10, v11, v12, v13, none, none, none, none, none] ∧ Ex H11 H') ?_ ?_
    · refine s_when (b := decide ((0 : Int) < ((cR rep n c : Nat) : Int)) && decide (((cR rep n c : Nat) : Int) < (10 : Int) ^ (60 : Int).toNat)) (et_test (ev_chain ev_c (ev_var rfl) rv_I0 (ev_op ev_c ev_c (rv_I (C := CPow) (g := fun i j => .int (i ^ j.toNat)) ⟨by decide, by decide, by decide⟩)) rv_I0)) (fun hb H2 e2 => ?_) (fun _ H2 e2 => ⟨v11, none, rfl, e2⟩)
      have hpos : 0 < cR rep n c := by
        have := of_decide_eq_true (Bool.and_eq_true_iff.mp hb).1
        omega
      have hR2 := hR11.ex e2
      refine q_asgA (lcT (Ex.refl _) (σ := [some (.ref fa), some (.int (many : Int)), some (.ref p), some (.int (n : Int)), v4, some (T [c]), some (.int ((cR rep n c : Nat) : Int)), some tv, some (.ref pf), v9, v10, v11, v12, none, none, none, none, none, none]) (vs := [11]) (p := fun _ => true) ([0, cR rep n c - 1] : List Nat) (fun a => [some (.ref fa), some (.int (many : Int)), some (.ref p), some (.int (n : Int)), v4, some (T [c]), some (.int ((cR rep n c : Nat) : Int)), some tv, some (.ref pf), v9, v10, some (.int (a : Int)), v12, none, none, none, none, none, none]) (fun a => [T xTold, T [sgnA rep n c a]]) (fun a x _ => x = .int (a : Int)) (src_newU (xs := [.int 0, .int (((cR rep n c : Nat) : Int) - 1)]) (eu_tup (ea_cons ev_c (ea_cons (ev_op (ev_var rfl) ev_c rv_I0) ea_nil)) (by show 2 ≤ 100000; decide))) (by show 2 ≤ 40000; decide) rfl ?_ (fun a x H3 Q' h k' => by subst h; exact k') (fun _ => rfl) (fun a H3 e3 ha => et_yes) (fun a H3 e3 ha _ => ew_asked (ea_cons (ev_var rfl) (ea_cons (ev_var rfl) (ea_cons (ev_var rfl) (ea_cons (ev_var rfl) ea_nil)))) (by show 4 ≤ 100000; decide) (says_at_ok (hR2.ex e3) hc1 hc2 hn ?_)) fun q H3 ps hq e3 h3 h4 => ?_)
      · intro i x H3 _ hx
        rcases i with _ | _ | i
        · cases hx
          exact ⟨0, rfl, rfl⟩
        · cases hx
          exact ⟨cR rep n c - 1, rfl, by congr 1; omega⟩
        · simp at hx
      · simp only [List.mem_cons, List.not_mem_nil, or_false] at ha
        omega
      show tIfS _ _ _ _ [some (.ref fa), some (.int (many : Int)), some (.ref p), some (.int (n : Int)), v4, some (T [c]), some (.int ((cR rep n c : Nat) : Int)), some tv, some (.ref pf), v9, v10, v11, v12, some (.ref q), none, none, none, none, none] H3
      have hd0 := sgnA_own hR2.2 n c 0 hc1 hc2
      have hd1 := sgnA_own hR2.2 n c (cR rep n c - 1) hc1 hc2
      have hsh : SeqAt.shaped (.list [.tuple [dT xTold, dT [sgnA rep n c 0]], .tuple [dT xTold, dT [sgnA rep n c (cR rep n c - 1)]]]) = true := sh_pairs (l := [(xTold, [sgnA rep n c 0]), (xTold, [sgnA rep n c (cR rep n c - 1)])]) fun q hq => by
        simp only [List.mem_cons, List.not_mem_nil, or_false] at hq
        rcases hq with rfl | rfl
        · exact ⟨low_told, low_sg (by omega)⟩
        · exact ⟨low_told, low_sg (by omega)⟩
      refine s_when (b := false) (et_andG (a := tx) (et_is (et_test (ev_op (ev_var rfl) ev_c rv_notN)) ?_) (fun ha => ?_) fun _ => rfl) (fun z => by cases z) (fun _ H4 e4 => ⟨v11, _, rfl, e2.trans (e3.trans e4)⟩)
      · rcases htx with ⟨rfl, rfl, _⟩ | ⟨rfl, rfl⟩
        · rfl
        · rfl
      · rcases htx with ⟨_, rfl, hl3⟩ | ⟨rfl, _⟩
        · refine et_is (et_test (ev_neDB (d := .list [.tuple [dT xTold, dT [sgnA rep n c 0]], .tuple [dT xTold, dT [sgnA rep n c (cR rep n c - 1)]]]) (e := .list [.tuple [dT xTold, dT [sgnA rep n c 0]], .tuple [dT xTold, dT [sgnA rep n c (cR rep n c - 1)]]]) (b := true) (evd_var rfl fun H4 e4 => .lst (sq_of (e4 _ _ h3)) (dp_tups (o := fun a : Nat => [T xTold, T [sgnA rep n c a]]) (ds := fun a => [dT xTold, dT [sgnA rep n c a]]) (fun a => .cons (.str _) (.cons (.str _) .nil)) (ps := ps) (as := [0, cR rep n c - 1]) (Tups.ex h4 e4))) (evd_lst2 (evd_tup2 (evd_c fun _ => .str _) (evd_ev (ev_op (ev_var rfl) ev_c (Wc.rv_ixT (by omega) (atI_nat (j := 0) (sgn_at rep n c 0 hpos)))) fun _ _ => .str _)) (evd_tup2 (evd_c fun _ => .str _) (evd_ev (ev_op (ev_var rfl) (ev_un ev_c ru_neg) (Wc.rv_ixT (by omega) (atI_neg1 (by rw [cR_one]; exact sgn_at rep n c _ (by omega))))) fun _ _ => .str _))) hsh hsh (eq_self hsh))) rfl
        · cases ha
    rintro σ' H12 ⟨v11, v13, rfl, e12⟩
    have hR12 := hR11.ex e12
    have RH := RG.then e12
    clear e12 hR11 RG
    refine q_par2 (l_call (a_ev (ev_var rfl) fun Ha ea => a_ev (ev_var rfl) fun Hb eb => a_nil ⟨fa, p, rep, rfl, ((G.go RH (m' := 300) (by omega)).ex (ea.trans eb)).mono (by omega), hR12.ex (ea.trans eb), fun x H13 hx R13 => ?_⟩))
    have RI := (RH.then (ea.trans eb)).trans R13
    have hR13 : RepAt p rep H13 := ⟨R13.at_ ((ea.trans eb) _ _ hR12.1) npf, hR12.2⟩
    clear R13 eb ea RH hR12
    have G13 : GF fa 300 H13 := G.go RI (by omega)
    have hx : NoRep (hidF fa H13) x := hx
    refine l_call (a_ev (ev_var rfl) fun Hc ec => a_any (l_lst (a_c (a_c (a_c (a_ev (ev_op ev_c (ev_var rfl) (Wc.rv_ixT (by decide) (atI_nat (abcde_at (by omega)))) : Ev _ _ Hc (T [97 + many])) fun Hd ed => a_c (a_c (a_el (el_lst (ea_cons ev_c ea_nil) (by show 1 ≤ 100000; decide)) fun pl He hpl ee hl => a_c (a_nil ⟨by show 8 ≤ sizeLine; decide, fun pw hpw => ?_⟩)))))))))
    have eC := ((ec.trans ed).trans ee).trans (Ex.new (o := HO.lst [.non, T [], T [97, 98], T [97 + many], T [65], .int 0, .ref pl, T [101]]) hpw)
    have npl : pl ≠ fa := (G13.ex (ec.trans ed)).new hpl
    have npw : pw ≠ fa := (G13.ex ((ec.trans ed).trans ee)).new hpw
    have hl2 := Ex.new (o := HO.lst [.non, T [], T [97, 98], T [97 + many], T [65], .int 0, .ref pl, T [101]]) hpw _ _ hl
    refine ⟨fa, (G13.ex eC).mono (by omega), .inr ⟨pw, _, rfl, .inl (sq_of upd_same), npw, by simp, by simp, fun y H14 hy R14 => ⟨_, _, rfl, ?_⟩⟩⟩
    have hodd : NoSign rep.length (hidF fa H14) y := by
      have h97 : signB rep.length (some [97 + many]) = false := decide_eq_false fun z => by
        have := (mem_AB hfew).mp z
        omega
      have h101 : signB rep.length (some [101]) = false := decide_eq_false fun z => by
        have := (mem_AB hfew).mp z
        omega
      have h65 : signB rep.length (some [65]) = false := decide_eq_false fun z => by
        have := (mem_AB hfew).mp z
        omega
      simp only [List.mem_cons, List.not_mem_nil, or_false] at hy
      rcases hy with rfl | rfl | rfl | rfl | rfl | rfl | rfl | rfl
      · exact ⟨_, .non, rfl, fun t ht => nomatch ht⟩
      · exact ⟨_, .str _, rfl, fun t ht => by cases ht; exact Nat.zero_le _⟩
      · exact ⟨_, .str _, rfl, fun t ht => by cases ht; decide⟩
      · exact ⟨_, .str _, h97, fun t ht => len1 ht⟩
      · exact ⟨_, .str _, h65, fun t ht => len1 ht⟩
      · exact ⟨_, .int _, rfl, fun t ht => nomatch ht⟩
      · exact ⟨_, .lst (hidF_at npl (R14.at_ hl2 npl)), rfl, fun t ht => nomatch ht⟩
      · exact ⟨_, .str _, h101, fun t ht => len1 ht⟩
    have R14' := Rf.pre eC R14
    have RJ := RI.trans R14'
    have hx14 := hx.ex (hidF_rf R14')
    have hR14 : RepAt p rep H14 := ⟨R14'.at_ hR13.1 npf, hR13.2⟩
    clear hy R14 hl2 hl hpl hpw npw npl eC ee ed ec hx hR13 RI
    have G14 : GF fa 290 H14 := G.go RJ (by omega)
    show tSeq _ _ _ [some (.ref fa), some (.int (many : Int)), some (.ref p), some (.int (n : Int)), v4, some (T [c]), some (.int ((cR rep n c : Nat) : Int)), some tv, some (.ref pf), v9, v10, v11, v12, v13, some x, some y, none, none, none] H14
    refine q_asgA (l_call (a_ev (ev_var rfl) fun Hc ec => a_any (l_lst (a_ev (ev_un ev_c ru_neg) fun Hd ed => a_c (a_c (a_c (a_c (a_eu (eu_tup (ea_cons ev_c ea_nil) (by show 1 ≤ 100000; decide)) fun pl He hpl ee hl => a_ev (ev_op ev_c ev_c (rv_I (C := CPow) (g := fun i j => .int (i ^ j.toNat)) ⟨by decide, by decide, by decide⟩)) fun Hf ef => a_nil ⟨by show 7 ≤ sizeLine; decide, fun pw hpw => ?_⟩))))))))
    have eC := (((ec.trans ed).trans ee).trans ef).trans (Ex.new (o := HO.lst [.int (-1), .int 61, .bl true, .non, T [49], .ref pl, .int ((10 : Int) ^ (20 : Int).toNat)]) hpw)
    have npl : pl ≠ fa := (G14.ex (ec.trans ed)).new hpl
    have npw : pw ≠ fa := (G14.ex (((ec.trans ed).trans ee).trans ef)).new hpw
    have hl2 := Ex.new (o := HO.lst [.int (-1), .int 61, .bl true, .non, T [49], .ref pl, .int ((10 : Int) ^ (20 : Int).toNat)]) hpw _ _ (ef _ _ hl)
    refine ⟨fa, (G14.ex eC).mono (by omega), .inr ⟨pw, _, rfl, .inl (sq_of upd_same), npw, by simp, by simp, fun nu H15 hnu R15 => ?_⟩⟩
    have hnum : NoNum 0 60 (hidF fa H15) nu := by
      simp only [List.mem_cons, List.not_mem_nil, or_false] at hnu
      rcases hnu with rfl | rfl | rfl | rfl | rfl | rfl | rfl
      · exact ⟨_, .int _, by decide⟩
      · exact ⟨_, .int _, by decide⟩
      · exact ⟨_, .bl _, rfl⟩
      · exact ⟨_, .non, rfl⟩
      · exact ⟨_, .str _, rfl⟩
      · exact ⟨_, .tup (hidF_at npl (R15.at_ hl2 npl)), rfl⟩
      · exact ⟨_, .int _, by decide⟩
    have R15' := Rf.pre eC R15
    have RK := RJ.trans R15'
    have hx15 := hx14.ex (hidF_rf R15')
    have hodd15 := hodd.ex (hidF_rf R15')
    have hR15 : RepAt p rep H15 := ⟨R15'.at_ hR14.1 npf, hR14.2⟩
    clear hnu R15 hl2 hl hpl hpw npw npl eC ef ee ed ec hx14 hodd hR14 RJ
    have G15 : GF fa 280 H15 := G.go RK (by omega)
    show tSeq _ _ _ [some (.ref fa), some (.int (many : Int)), some (.ref p), some (.int (n : Int)), v4, some (T [c]), some (.int ((cR rep n c : Nat) : Int)), some tv, some (.ref pf), v9, v10, v11, v12, v13, some x, some y, some nu, none, none] H15
    have hpow : ∀ {σ : L2.St} {H : Hp} (e : Int), 0 ≤ e → e ≤ 60 → Ev (tOp (rI CPow fun i j => .int (i ^ j.toNat)) (tC (.int 10)) (tC (.int e))) σ H (.int ((10 : Int) ^ e.toNat)) := fun e h1 h2 => ev_op ev_c ev_c (rv_I (C := CPow) (g := fun i j => .int (i ^ j.toNat)) ⟨h1, by omega, by decide⟩)
    have hcr0 : (0 : Int) ≤ ((cR rep n c : Nat) : Int) := by omega
    obtain ⟨a0, ha0, hb0⟩ : ∃ a0 : Int, (∀ H, Ev (tIf (tTest (tOp (rI0 fun i j => .bl (decide (i < j))) (tVar 6) (tOp (rI CPow fun i j => .int (i ^ j.toNat)) (tC (.int 10)) (tC (.int 60))))) (tVar 6) (tUn (rU fun i => .int (-i)) (tC (.int 1)))) [some (.ref fa), some (.int (many : Int)), some (.ref p), some (.int (n : Int)), v4, some (T [c]), some (.int ((cR rep n c : Nat) : Int)), some tv, some (.ref pf), v9, v10, v11, v12, v13, some x, some y, some nu, none, none] H (.int a0)) ∧ inB 0 (((cR rep n c : Nat) : Int) - 1) (some a0) = false := by
      by_cases hlt : ((cR rep n c : Nat) : Int) < (10 : Int) ^ (60 : Int).toNat
      · refine ⟨_, fun H => ev_if (b := true) (et_is (et_test (ev_op (ev_var rfl) (hpow 60 (by decide) (by decide)) rv_I0)) (decide_eq_true hlt)) (fun _ => ev_var rfl) (fun z => by cases z), ?_⟩
        exact in_no2 (by omega)
      · refine ⟨_, fun H => ev_if (b := false) (et_is (et_test (ev_op (ev_var rfl) (hpow 60 (by decide) (by decide)) rv_I0)) (decide_eq_false hlt)) (fun z => by cases z) (fun _ => ev_un ev_c ru_neg), ?_⟩
        exact in_no1 (by decide)
    obtain ⟨a2, ha2, hb2⟩ : ∃ a2 : Int, (∀ H, Ev (tIf (tTest (tOp (rI0 fun i j => .bl (decide (i < j))) (tVar 6) (tOp (rI CPow fun i j => .int (i ^ j.toNat)) (tC (.int 10)) (tC (.int 59))))) (tOp (rI0 fun i j => .int (i + j)) (tVar 6) (tOp (rI CPow fun i j => .int (i ^ j.toNat)) (tC (.int 10)) (tC (.int 9)))) (tUn (rU fun i => .int (-i)) (tC (.int 2)))) [some (.ref fa), some (.int (many : Int)), some (.ref p), some (.int (n : Int)), v4, some (T [c]), some (.int ((cR rep n c : Nat) : Int)), some tv, some (.ref pf), v9, v10, v11, v12, v13, some x, some y, some nu, none, none] H (.int a2)) ∧ inB 0 (((cR rep n c : Nat) : Int) - 1) (some a2) = false := by
      by_cases hlt : ((cR rep n c : Nat) : Int) < (10 : Int) ^ (59 : Int).toNat
      · refine ⟨_, fun H => ev_if (b := true) (et_is (et_test (ev_op (ev_var rfl) (hpow 59 (by decide) (by decide)) rv_I0)) (decide_eq_true hlt)) (fun _ => ev_op (ev_var rfl) (hpow 9 (by decide) (by decide)) rv_I0) (fun z => by cases z), ?_⟩
        have h9 : (10 : Int) ^ (9 : Int).toNat = 1000000000 := by decide
        rw [h9]
        exact in_no2 (by omega)
      · refine ⟨_, fun H => ev_if (b := false) (et_is (et_test (ev_op (ev_var rfl) (hpow 59 (by decide) (by decide)) rv_I0)) (decide_eq_false hlt)) (fun z => by cases z) (fun _ => ev_un ev_c ru_neg), ?_⟩
        exact in_no1 (by decide)
    refine q_asgA (wp_oneL (i := 0) (vs := [.int a0, .int (-1), .int a2, .bl true, .non, T [48]]) rfl (el_lst (ea_cons (ha0 _) (ea_cons (ev_un ev_c ru_neg) (ea_cons (ha2 _) (ea_cons ev_c (ea_cons ev_c (ea_cons ev_c ea_nil)))))) (by show 6 ≤ 100000; decide)) G15 (by simp) (by show 6 ≤ 16777216; decide) fun pl H16 hpl R16 => ?_)
    have hplc : NoNum 0 (((cR rep n c : Nat) : Int) - 1) H16 pl := by
      simp only [List.mem_cons, List.not_mem_nil, or_false] at hpl
      rcases hpl with rfl | rfl | rfl | rfl | rfl | rfl
      · exact ⟨_, .int _, hb0⟩
      · refine ⟨_, .int _, ?_⟩
        exact in_no1 (by decide)
      · exact ⟨_, .int _, hb2⟩
      · exact ⟨_, .bl _, rfl⟩
      · exact ⟨_, .non, rfl⟩
      · exact ⟨_, .str _, rfl⟩
    have RL := RK.trans R16
    have hxx := (hx15.ex (hidF_rf R16)).ex (hidF_ex fa H16)
    have hod := (hodd15.ex (hidF_rf R16)).ex (hidF_ex fa H16)
    have hnn := (hnum.ex (hidF_rf R16)).ex (hidF_ex fa H16)
    have hR16 : RepAt p rep H16 := ⟨R16.at_ hR15.1 npf, hR15.2⟩
    clear hb0 hb2 ha0 ha2 hpl R16 hx15 hodd15 hnum hR15 RK G15 G14 G13
    have hNt : ∀ {a b : Int} {H : Hp} {v : V}, NoNum a b H v → ∃ o, Nt H v o := fun h => by
      obtain ⟨o, h1, _⟩ := h
      exact ⟨o, h1⟩
    show tSeq _ _ _ [some (.ref fa), some (.int (many : Int)), some (.ref p), some (.int (n : Int)), v4, some (T [c]), some (.int ((cR rep n c : Nat) : Int)), some tv, some (.ref pf), v9, v10, some pl, v12, v13, some x, some y, some nu, none, none] H16
    refine q_asgW (os := [[T xErr, T xRep], [T xErr, T xSign], [T xErr, T xNum]]) (ews_cons (ew_asked (ea_cons (ev_var rfl) (ea_cons (ev_var rfl) (ea_cons (ev_var rfl) ea_nil))) (by show 3 ≤ 100000; decide) (says_again_1 hxx hod.el (hNt hnn))) fun Ha ea => ews_cons (ew_asked (ea_cons (ev_var rfl) (ea_cons (ev_var rfl) (ea_cons (ev_var rfl) ea_nil))) (by show 3 ≤ 100000; decide) (says_again_2 (hR16.ex ea) (hod.ex ea) (hNt (hnn.ex ea)))) fun Hb eb => ews_cons (ew_asked (ea_cons (ev_var rfl) (ea_cons (ev_var rfl) (ea_cons (ev_var rfl) ea_nil))) (by show 3 ≤ 100000; decide) (says_again_3 (hR16.ex (ea.trans eb)) hc1 hc2 (hnn.ex (ea.trans eb)))) fun _ _ => ews_nil) (by show 3 ≤ 100000; decide) fun q ps H17 hq e17 h17 ht17 => ?_
    have RM := RL.then e17
    have hxx := hxx.ex e17
    have hod := hod.ex e17
    have hnn := hnn.ex e17
    have hplc := hplc.ex e17
    have hR17 := hR16.ex e17
    show tSeq _ _ _ [some (.ref fa), some (.int (many : Int)), some (.ref p), some (.int (n : Int)), v4, some (T [c]), some (.int ((cR rep n c : Nat) : Int)), some tv, some (.ref pf), v9, v10, some pl, some (.ref q), v13, some x, some y, some nu, none, none] H17
    refine q_asgA (t_op ((ev_var (i := 12) rfl : Ev _ _ H17 (.ref q)) H17 (Ex.refl _) _ fun H18 e18 => lc_of (l_lst (a_el (el_lst (ea_cons (ev_var rfl) (ea_cons (ev_var rfl) (ea_cons (ev_var rfl) (ea_cons (ev_var rfl) ea_nil)))) (by show 4 ≤ 100000; decide)) fun p1 Ha hp1 ea g1 => a_el (el_lst (ea_cons (ev_var rfl) (ea_cons (ev_var rfl) (ea_cons (ev_var rfl) (ea_cons (ev_var rfl) ea_nil)))) (by show 4 ≤ 100000; decide)) fun p2 Hb hp2 eb g2 => a_el (el_lst (ea_cons (ev_var rfl) (ea_cons (ev_var rfl) (ea_cons (ev_var rfl) (ea_cons (ev_var rfl) ea_nil)))) (by show 4 ≤ 100000; decide)) fun p3 Hc hp3 ec g3 => a_el (el_lst (ea_cons (ev_var rfl) (ea_cons (ev_var rfl) (ea_cons (ev_var rfl) (ea_cons (ev_var rfl) ea_nil)))) (by show 4 ≤ 100000; decide)) fun p4 Hd hp4 ed g4 => a_nil ⟨by show 4 ≤ sizeLine; decide, fun pw hpw => ?_⟩))))
    have eN := Ex.new (o := HO.lst [.ref p1, .ref p2, .ref p3, .ref p4]) hpw
    have g1 := eN _ _ ((eb.trans (ec.trans ed)) _ _ g1)
    have g2 := eN _ _ ((ec.trans ed) _ _ g2)
    have g3 := eN _ _ (ed _ _ g3)
    have g4 := eN _ _ g4
    have eA := ((e18.trans ea).trans (eb.trans (ec.trans ed))).trans eN
    have hpw2 : (upd Hd pw (.lst [.ref p1, .ref p2, .ref p3, .ref p4])) pw = some (.lst [.ref p1, .ref p2, .ref p3, .ref p4]) := upd_same
    generalize upd Hd pw (.lst [.ref p1, .ref p2, .ref p3, .ref p4]) = H19 at g1 g2 g3 g4 eA hpw2 ⊢
    clear eN hpw hp1 hp2 hp3 hp4 ea eb ec ed e18
    have hxx := hxx.ex eA
    have hod := hod.ex eA
    have hnn := hnn.ex eA
    have hplc := hplc.ex eA
    have hR19 := hR17.ex eA
    have hsrc : Ev (fun _ H' Q' => Q' (.ref pw) H') ([some (.ref fa), some (.int (many : Int)), some (.ref p), some (.int (n : Int)), v4, some (T [c]), some (.int ((cR rep n c : Nat) : Int)), some tv, some (.ref pf), v9, v10, some pl, some (.ref q), v13, some x, some y, some nu, none, none] : L2.St) H19 (.ref pw) := fun H1 _ Q1 q1 => q1 H1 (Ex.refl _)
    refine lcT (Ex.refl _) (σ := [some (.ref fa), some (.int (many : Int)), some (.ref p), some (.int (n : Int)), v4, some (T [c]), some (.int ((cR rep n c : Nat) : Int)), some tv, some (.ref pf), v9, v10, some pl, some (.ref q), v13, some x, some y, some nu, none, none]) (vs := [17]) (p := fun _ => true) ([(p1, xRep), (p2, xSign), (p3, xNum), (p4, xNum)] : List (Addr × Tx)) (fun a => [some (.ref fa), some (.int (many : Int)), some (.ref p), some (.int (n : Int)), v4, some (T [c]), some (.int ((cR rep n c : Nat) : Int)), some tv, some (.ref pf), v9, v10, some pl, some (.ref q), v13, some x, some y, some nu, some (.ref a.1), none]) (fun a => [T xErr, T a.2]) (fun a x _ => x = .ref a.1) (src_list hsrc (sq_of hpw2)) (by show 4 ≤ 40000; decide) rfl ?_ (fun a x H3 Q' h k' => by subst h; exact k') (fun _ => rfl) (fun a H3 e3 ha => et_yes) (fun a H3 e3 ha _ => ?_) fun r H23 ps2 hr e23 h23 ht23 => ?_
    · intro i x H3 _ hx
      rcases i with _ | _ | _ | _ | i
      · cases hx; exact ⟨_, rfl, rfl⟩
      · cases hx; exact ⟨_, rfl, rfl⟩
      · cases hx; exact ⟨_, rfl, rfl⟩
      · cases hx; exact ⟨_, rfl, rfl⟩
      · simp at hx
    · simp only [List.mem_cons, List.not_mem_nil, or_false] at ha
      rcases ha with rfl | rfl | rfl | rfl
      · exact ew_askedV (ev_var rfl) (e3 _ _ g1) (says_at_1 (hxx.ex e3) some_sign (hNt (hnn.ex e3)) (hNt (hplc.ex e3)))
      · exact ew_askedV (ev_var rfl) (e3 _ _ g2) (says_at_2 (hR19.ex e3) (hod.ex e3) ⟨_, .int _⟩ (hNt (hplc.ex e3)))
      · exact ew_askedV (ev_var rfl) (e3 _ _ g3) (says_at_3 (hR19.ex e3) hc1 hc2 (hnn.ex e3) (hNt (hplc.ex e3)))
      · exact ew_askedV (ev_var rfl) (e3 _ _ g4) (says_at_4 (hR19.ex e3) hc1 hc2 hn (hplc.ex e3))
    have hlen1 := All2.len ht17
    have hlen2 := All2.len ht23
    refine ⟨q, r, ps.map V.ref, ps2.map V.ref, rfl, rfl, (eA.trans e23) _ _ h17, h23, by rw [List.length_map, List.length_map, hlen1, hlen2]; show 7 ≤ sizeLine; decide, fun z hz => ?_⟩
    have hT : Tups (upd H23 z (.lst (ps.map V.ref ++ ps2.map V.ref))) (ps ++ ps2) (([xRep, xSign, xNum, xRep, xSign, xNum, xNum] : List Tx).map fun w => [T xErr, T w]) := Tups.ex (All2.app (Tups.ex ht17 (eA.trans e23)) ht23) (Ex.new hz)
    have hzz : (upd H23 z (.lst (ps.map V.ref ++ ps2.map V.ref))) z = some (.lst ((ps ++ ps2).map V.ref)) := by rw [upd_same, List.map_append]
    have RN := (RM.then (eA.trans e23)).then (Ex.new (o := HO.lst (ps.map V.ref ++ ps2.map V.ref)) hz)
    generalize upd H23 z (.lst (ps.map V.ref ++ ps2.map V.ref)) = H24 at hT hzz RN ⊢
    show tRet _ _ [some (.ref fa), some (.int (many : Int)), some (.ref p), some (.int (n : Int)), v4, some (T [c]), some (.int ((cR rep n c : Nat) : Int)), some tv, some (.ref pf), v9, v10, some pl, some (.ref z), v13, some x, some y, some nu, none, none] H24
    refine s_ret (ev_eqDB (d := .list (([xRep, xSign, xNum, xRep, xSign, xNum, xNum] : List Tx).map fun w => .tuple [dT xErr, dT w])) (e := .list ((([xRep, xSign, xNum, xRep, xSign, xNum, xNum] : List Tx).filter fun _ => true).map fun w => .tuple [dT xErr, dT w])) (b := true) (evd_var rfl fun H e => .lst (sq_of (e _ _ hzz)) (dp_tups (o := fun w : Tx => [T xErr, T w]) (ds := fun w => [dT xErr, dT w]) (fun a => .cons (.str _) (.cons (.str _) .nil)) (ps := ps ++ ps2) (Tups.ex hT e))) (evd_lcT ([xRep, xSign, xNum, xRep, xSign, xNum, xNum] : List Tx) (fun w => [some (.ref fa), some (.int (many : Int)), some (.ref p), some (.int (n : Int)), v4, some (T [c]), some (.int ((cR rep n c : Nat) : Int)), some tv, some (.ref pf), v9, v10, some pl, some (.ref z), v13, some x, some y, some nu, none, some (T w)]) (fun w => [T xErr, T w]) (fun w => [dT xErr, dT w]) (fun w x _ => x = T w) (src_newLM (f := T) (xs := [xRep, xSign, xNum, xRep, xSign, xNum, xNum]) (el_lst (ea_cons ev_c (ea_cons ev_c (ea_cons ev_c (ea_cons ev_c (ea_cons ev_c (ea_cons ev_c (ea_cons ev_c ea_nil))))))) (by show 7 ≤ 100000; decide))) (by show 7 ≤ 40000; decide) rfl (fun i x H1 _ hx => at_map hx) (fun a x H3 Q' h k' => by subst h; exact k') (fun _ => rfl) (fun a H3 e3 ha => et_yes) (fun a H3 e3 ha _ => ew_of (eu_tup (ea_cons ev_c (ea_cons (ev_var rfl) ea_nil)) (by show 2 ≤ 100000; decide))) fun a H => .cons (.str _) (.cons (.str _) .nil)) (by decide +kernel) (by decide +kernel) (by decide +kernel)) fun H25 e25 => k H25 ((RN.then e25).mono (by omega))
end
end K22
set_option Elab.async false
set_option linter.all false
set_option maxRecDepth 100000
set_option maxHeartbeats 4000000
set_option exponentiation.threshold 5000
namespace K22
open PySem PySem.Spec PyProof.Rows L2 Evl Wc Wt Wg Ws We _root_.Wd
abbrev sc_due : Scope := { kind := .function, names := [(".0", .local), ("one", .local), ("tuple", .globalImplicit), ("zip", .globalImplicit), ("signs", .cell)], isGenerator := false, isCoroutine := false }
section
variable {K : PySem.W.Frag} {σ : L2.St} {H : Hp} {ta tb te : TE} {tz tu tw : TS} {D : Ends} {t u : TT} {x y : V} {Q : VK}
theorem ew_if {b : Bool} {xs : List V} (h : EvT t σ H b) (h1 : b = true → ∀ H1, Ex H H1 → EvW ta σ H1 xs) (h2 : b = false → ∀ H1, Ex H H1 → EvW tb σ H1 xs) : EvW (tIf t ta tb) σ H xs := fun H1 e Q q => h H1 e _ fun H2 e2 => by
  cases b with
  | true => exact h1 rfl H2 (e.trans e2) H2 (Ex.refl _) Q fun p H3 e3 h3 => q p H3 (e2.trans e3) h3
  | false => exact h2 rfl H2 (e.trans e2) H2 (Ex.refl _) Q fun p H3 e3 h3 => q p H3 (e2.trans e3) h3
theorem t_or {Q : Bool → Hp → Prop} (h : EvT t σ H false) (k : ∀ H1, Ex H H1 → u σ H1 Q) : tOr t u σ H Q := h H (Ex.refl _) _ fun H1 e1 => by
  rw [if_neg Bool.false_ne_true]
  exact k H1 e1
theorem t_pull {r : R2} {sp : Sp} {w : V} {E : XK} {TB : TE} {Q : Bool → Hp → Prop} (h : TB σ H fun x H1 => tTest (tOp r (tCall sp [] E (tCons (tC w) (tCons (tLst (tCons (tC x) tNil)) tNil))) tb) σ H1 Q) : tTest (tOp r (tCall sp [] E (tCons (tC w) (tCons (tLst (tCons TB tNil)) tNil))) tb) σ H Q := h
theorem t_if (k : t σ H fun b H1 => if b = true then ta σ H1 Q else tb σ H1 Q) : tIf t ta tb σ H Q := k
theorem if_C {b : Bool} (k : Q (if b = true then x else y) H) : if b = true then tC x σ H Q else tC y σ H Q := by cases b <;> exact k
theorem el_grows {a0 a1 a2 a3 a5 a6 a7 a9 a10 a11 a12 a13 a14 a15 a16 a17 a18 a19 : Option V} {p : Addr} {rep : List Tx} (hR : RepAt p rep H) :
    EvL (tLc (iZipM K (tCons (tVar 4) (tCons (tVar 8) tNil))) (gTup K 2 (gCons (gName 6) (gCons (gName 7) gNil))) (tAnd (tTest (tOp (rI0 fun i j => .bl (decide (j < i))) (tCB rLenT (tCons (tVar 7) tNil)) (tC (.int 1)))) (tTest (tOp rEqT (tOp rIxT (tVar 7) (tC (.int 0))) (tVar 6)))) (tVar 6) [6, 7])
      [a0, a1, a2, a3, some (T (AB.take rep.length)), a5, a6, a7, some (.ref p), a9, a10, a11, a12, a13, a14, a15, a16, a17, a18, a19] H ((growL rep).map T) := by
  have e : (growL rep).map T = ((List.range rep.length).filter (growB rep)).map fun i => T [97 + i] := by
    unfold growL
    rw [List.map_map]
    rfl
  have hABl : (AB.take rep.length).length = rep.length := by rw [List.length_take]; have := hR.2.few; show min rep.length 4 = _; omega
  rw [e]
  refine el_lcG (n := min (AB.take rep.length).length (rep.map T).length) (gv := fun i => T [97 + i]) (p := growB rep) (List.range rep.length) (fun i => [a0, a1, a2, a3, some (T (AB.take rep.length)), a5, some (T [97 + i]), some (T (rep.getD i [])), some (.ref p), a9, a10, a11, a12, a13, a14, a15, a16, a17, a18, a19]) (fun i x H1 => i < rep.length ∧ ∃ q, x = .ref q ∧ H1 q = some (.tup [T [97 + i], T (rep.getD i [])]))
    (src_zipM (a := AB.take rep.length) (ys := rep.map T) (ev_var (i := 4) rfl) (ev_var (i := 8) rfl) (st_of hR.1)) (by have := hR.2.few; omega) (by rw [List.length_range, List.length_map, hABl]; omega) ?_ ?_ (fun _ => rfl) ?_ (fun i Ha ea hi hg => ev_var rfl)
  · rintro j x Ha ⟨q, c, yv, rfl, hc, hyv, hq⟩
    obtain ⟨wd, hw1, rfl⟩ : ∃ wd, rep[j]? = some wd ∧ yv = T wd := by
      rw [List.getElem?_map] at hyv
      cases hz : rep[j]? with
      | none => rw [hz] at hyv; cases hyv
      | some wd => rw [hz] at hyv; cases hyv; exact ⟨wd, rfl, rfl⟩
    have hjl := (List.getElem?_eq_some_iff.mp hw1).1
    rw [List.getElem?_take_of_lt hjl] at hc
    have hcj := AB_at hc
    subst hcj
    exact ⟨j, List.getElem?_range hjl, hjl, q, rfl, by rw [hq, List.getD_eq_getElem?_getD, hw1]; rfl⟩
  · rintro idx x Ha Q' ⟨hidx, q, rfl, hq⟩ k'
    exact g_pair hq k'
  · intro i Ha ea hi
    have hil := List.mem_range.mp hi
    have hgd : rep.getD i [] = rep[i] := by rw [List.getD_eq_getElem?_getD, List.getElem?_eq_getElem hil]; rfl
    have hlw : rep[i].length ≤ 12 := hR.2.short _ (List.getElem_mem hil)
    unfold growB
    rw [hgd]
    refine et_andI (et_is (et_test (ev_op (ev_cb (ea_cons (ev_var rfl) ea_nil) (rc_lenT (by omega))) ev_c rv_I0)) (decide_eq_decide.mpr (by omega))) fun hn => ?_
    have hn := of_decide_eq_true hn
    refine et_is (et_test (ev_op (ev_op (ev_var rfl) ev_c (Wc.rv_ixT (by omega) (atI_nat (List.getElem?_eq_getElem (show 0 < rep[i].length by omega))))) (ev_var rfl) rv_eqT)) ?_
    rw [List.getElem?_eq_getElem (show 0 < rep[i].length by omega)]
    exact decide_eq_decide.mpr ⟨fun z => congrArg some (by simpa using z), fun z => by rw [Option.some.inj z]⟩
theorem sd_growL {rep : List Tx} (h : IsRep rep) : Sd 1 1300 (.tuple ((growL rep).map dT)) := by
  have h1 : (growL rep).length ≤ 4 := by
    unfold growL
    rw [List.length_map]
    exact Nat.le_trans (List.length_filter_le _ _) (by rw [List.length_range]; exact h.few)
  refine (sd_tup (k := 0) (n := 100) (fun d hd => ?_) (by rw [List.length_map]; omega)).up (Nat.le_refl _) (by decide)
  obtain ⟨t, ht, rfl⟩ := List.mem_map.mp hd
  unfold growL at ht
  obtain ⟨i, hi, rfl⟩ := List.mem_map.mp ht
  have := List.mem_range.mp (List.mem_filter.mp hi).1
  exact sd_sg (by have := h.few; omega)
theorem grow_in {rep : List Tx} {d : Addr} {c : Nat} (hd : H d = some (.tup ((growL rep).map T))) (h1 : 97 ≤ c) (h2 : c < 97 + rep.length) (ha : Ev ta σ H (T [c])) (hb : Ev tb σ H (.ref d)) : EvT (tTest (tOp (rIn K false) ta tb)) σ H (growB rep (c - 97)) := by
  refine et_is (et_test (ev_op ha hb (rv_isT (st_of hd) rfl (flat_T _)))) ?_
  rw [inV_T, growL_mem h1 h2]
end
section
variable {P : Program} {w : World} {K : PySem.W.Frag} {mg : Str → Option Value} {base : Heap}
theorem ok__law_growth_right {f CE CS CN : Addr} {fd : FuncData} (F : Fun K "_law_growth_right" "_law_growth_right" st__law_growth_right f fd) (M : Md K mg) (C__law_draw : Cal P w K mg base "_law_draw" st__law_draw 1 ["feed", "many"] sp_draw) (C__law_one : Cal P w K mg base "_law_one" st__law_one 2 ["feed", "things"] (sp_one K)) (C__law_replacing : Cal P w K mg base "_law_replacing" st__law_replacing 4 ["feed", "many"] sp_replacing)
    (C__law_second : Cal P w K mg base "_law_second" st__law_second 5 ["feed", "replacing"] sp_second) (C__law_asked : Cal P w K mg base "_law_asked" st__law_asked 7 ["way", "parts"] (sp_asked CE CS CN)) (C_stays : Cal P w K mg base "stays" st_stays 6 ["replacing"] (calm (sp_stays CE))) (C_alike_for_ever : Cal P w K mg base "alike_for_ever" st_alike_for_ever 6 ["replacing", "other", "sign", "most"] (calm (sp_alike_for_ever CE CS CN)))
    (C__law_bad_replacing : Cal P w K mg base "_law_bad_replacing" st__law_bad_replacing 3 ["feed", "replacing"] sp_bad) (C__law_grown : Cal P w K mg base "_law_grown" st__law_grown 1 ["replacing", "sign", "most"] sp_law_grown) : FnOkG P w K mg base 8 f fd ["feed"] sp_right := by
  have nd := sc__law_growth_right.nd
  refine Fun.okG F sc__law_growth_right (fun vs H Q E h => ?_) (fun cdv A outer s H vs Q E hr hgd h => ?_)
  · obtain ⟨_, rfl, _⟩ := h
    rfl
  · obtain ⟨fa, rfl, G, k⟩ := h
    refine ⟨_, (pss_cons (ps_set (i := 1) nd rfl (Or.inl rfl) (pe_op op_add pe_int (pe_cl C__law_draw hr (pa_cons (pv 0) (pa_cons pe_int pa_nil)))))
  (pss_cons (ps_set (i := 2) nd rfl (Or.inl rfl) (pe_cl C__law_replacing hr (pa_cons (pv 0) (pa_cons (pv 1) pa_nil))))
  (pss_cons (ps_asg (pe_tup (pa_cons (pe_cl C__law_second hr (pa_cons (pv 0) (pa_cons (pv 2) pa_nil))) (pa_cons (pe_slice sl_T (pe_sT [97, 98, 99, 100]) po_none (po_some (pv 1))) pa_nil))) (kgt K (n := 2) (pg_tup rfl (pgs_cons (pg_name (i := 3) nd rfl (Or.inl rfl)) (pgs_cons (pg_name (i := 4) nd rfl (Or.inr rfl)) pgs_nil)))))
  (pss_cons (ps_set (i := 5) nd rfl (Or.inr rfl) (pe_lc (own := [("one", 8)]) rfl nd (kit K (pi_tup (pe_tup (pa_cons (pv 2) (pa_cons (pv 3) pa_nil))))) (blkOk_by (N := N__law_growth_right) (sc := defScope st__law_growth_right) (by decide +kernel)) (fun _ _ _ _ _ => (pg_name (i := 8) nd rfl (Or.inl rfl))) (fun _ _ _ _ _ => pts_nil) (fun _ _ _ _ _ => (pe_callTy (kcr K (r := rTupS) call_tuple_of) (by rfl) M.n_tuple boot_tuple (pa_cons (pe_lc (own := [("sign", 6), ("text", 7)]) rfl nd (kizm (K := K) (pi_zipM (by rfl) M.n_zip (pa_cons (pv 4) (pa_cons (pv 8) pa_nil)))) (blkOk_by (N := N__law_growth_right) (sc := sc_due) (by decide +kernel)) (fun _ _ _ _ _ => (kgt K (n := 2) (pg_tup rfl (pgs_cons (pg_name (i := 6) nd rfl (Or.inl rfl)) (pgs_cons (pg_name (i := 7) nd rfl (Or.inl rfl)) pgs_nil))))) (fun _ _ _ _ _ => (pts_one (PW.pt (pw_and (pt_cmpR op_gt (pe_callB cr_lenT (by rfl) M.n_len boot_len (pa_cons (pv 7) pa_nil)) pe_int (nomark _)) (pw_and1 (pt_cmpR op_eqT (pe_ix ix_T (pv 7) pe_int (fun _ _ => rfl)) (pv 6) (nomark _))))))) (fun _ _ _ _ _ => (pv 6))) pa_nil)))))
  (pss_cons (ps_if (pt_cmpR op_neT (pe_callB (kcr K (r := rReprD) (cr_reprD hgd hr.units)) (by rfl) M.n_repr boot_repr (pa_cons (pe_lst (pa_cons (pe_cl C__law_asked hr (pa_cons pe_int (pa_cons (pe_lst (pa_cons (pv 2) pa_nil)) pa_nil))) (pa_cons (pe_clK0 C_stays (kb_stays_0) hr (pk_cons (pv 3) pk_nil)) pa_nil))) pa_nil)) (pe_callB (kcr K (r := rReprD) (cr_reprD hgd hr.units)) (by rfl) M.n_repr boot_repr (pa_cons (pe_lst (pa_cons (pe_tup (pa_cons (pe_sT [116, 111, 108, 100]) (pa_cons (pe_ix (kix K (r := L2.rIxL) ix_list) (pv 5) pe_int (fun _ _ => rfl)) pa_nil))) (pa_cons (pe_ix (kix K (r := L2.rIxL) ix_list) (pv 5) pe_int (fun _ _ => rfl)) pa_nil))) pa_nil)) (nomark _))
  (pss_one (ps_ret pe_bl))
  pss_nil)
  (pss_cons (ps_set (i := 9) nd rfl (Or.inl rfl) (pe_op (kop K (r := rCatA) op_catA) (pe_slice (ksl K (r := rSlA) sl_tupA) (pv 2) po_none (po_some (pe_op op_sub (pv 1) pe_int))) (pe_tup (pa_cons (pe_sT []) pa_nil))))
  (pss_cons (ps_set (i := 10) nd rfl (Or.inl rfl) (pe_ifExp (pt_cmpR op_lt (pv 1) pe_int (nomark _)) (pe_op (kop K (r := rCatA) op_catA) (pv 2) (pe_tup (pa_cons (pe_sT [97, 98]) pa_nil))) (pe_slice (ksl K (r := rSlA) sl_tupA) (pv 2) po_none (po_some pe_int))))
  (pss_cons (ps_set (i := 11) nd rfl (Or.inr rfl) (pe_lc (own := [("sign", 6)]) rfl nd (pi_str (pv 4)) (blkOk_by (N := N__law_growth_right) (sc := defScope st__law_growth_right) (by decide +kernel)) (fun _ _ _ _ _ => (pg_name (i := 6) nd rfl (Or.inl rfl))) (fun _ _ _ _ _ => (pts_one (PW.pt (pw_and (pt_cmpR (kop K (r := fun K => rIn K false) op_in_seq) (pv 6) (pe_ix (kix K (r := L2.rIxL) ix_list) (pv 5) pe_int (fun _ _ => rfl)) (by rfl)) (pw_and1 (pt_cmpR (kop K (r := fun K => rIn K false) op_in_seq) (pv 6) (pe_ix (kix K (r := L2.rIxL) ix_list) (pv 5) pe_int (fun _ _ => rfl)) (by rfl))))))) (fun _ _ _ _ _ => (pv 6))))
  (pss_cut (ps_if (PW.pt (pw_or (pt_cmpR (kop K (r := rNeD) (op_neD hr.units)) (pe_cl C__law_asked hr (pa_cons pe_int (pa_cons (pe_lst (pa_cons (pv 9) pa_nil)) pa_nil))) (pe_tup (pa_cons (pe_sT [101, 114, 114, 111, 114]) (pa_cons (pe_sT [114, 101, 112, 108, 97, 99, 105, 110, 103]) pa_nil))) (nomark _)) (pw_or1 (pt_cmpR (kop K (r := rNeD) (op_neD hr.units)) (pe_cl C__law_asked hr (pa_cons pe_int (pa_cons (pe_lst (pa_cons (pe_cl C__law_bad_replacing hr (pa_cons (pv 0) (pa_cons (pv 2) pa_nil))) pa_nil)) pa_nil))) (pe_tup (pa_cons (pe_sT [101, 114, 114, 111, 114]) (pa_cons (pe_sT [114, 101, 112, 108, 97, 99, 105, 110, 103]) pa_nil))) (nomark _)))))
  (pss_one (ps_ret pe_bl))
  pss_nil)
  (pss_cons (ps_set (i := 12) nd rfl (Or.inl rfl) (pe_cl C__law_one hr (pa_cons (pv 0) (pa_cons (pe_lst (pa_cons pe_int (pa_cons pe_int (pa_cons pe_int (pa_cons pe_int (pa_cons pe_int (pa_cons (pe_ifExp (pt_cmpR op_eqI (pe_cl C__law_draw hr (pa_cons (pv 0) (pa_cons pe_int pa_nil))) pe_int (nomark _)) pe_int pe_int) pa_nil))))))) pa_nil))))
  (pss_cons (ps_set (i := 13) nd rfl (Or.inl rfl) (pe_cl C__law_one hr (pa_cons (pv 0) (pa_cons (pe_lst (pa_cons (pe_cl C__law_bad_replacing hr (pa_cons (pv 0) (pa_cons (pv 3) pa_nil))) (pa_cons (pv 9) (pa_cons (pv 10) (pa_cons (pe_op (krepT (K := K)) (pe_tup (pa_cons (pe_sT []) (pa_cons (pe_sT []) pa_nil))) pe_int) pa_nil))))) pa_nil))))
  (pss_cons (ps_par (i := 14) (j := 15) rfl nd rfl rfl (by decide) rfl rfl (pa_cons (pe_cl C__law_one hr (pa_cons (pv 0) (pa_cons (pe_op op_cat (pe_lst (pa_cons pe_non (pa_cons (pe_sT []) (pa_cons (pe_sT [101]) (pa_cons (pe_sT [97, 98]) (pa_cons pe_int pa_nil)))))) (pe_lc (own := [("sign", 6)]) rfl nd (pi_str (pv 4)) (blkOk_by (N := N__law_growth_right) (sc := defScope st__law_growth_right) (by decide +kernel)) (fun _ _ _ _ _ => (pg_name (i := 6) nd rfl (Or.inl rfl))) (fun _ _ _ _ _ => (pts_one (pt_cmpR (kop K (r := fun K => rIn K true) op_notIn_seq) (pv 6) (pv 11) (by rfl)))) (fun _ _ _ _ _ => (pv 6)))) pa_nil))) (pa_cons (pe_cl C__law_one hr (pa_cons (pv 0) (pa_cons (pe_lst (pa_cons pe_int (pa_cons pe_int (pa_cons (pe_un un_neg pe_int) (pa_cons pe_bl (pa_cons pe_non (pa_cons (pe_sT [57]) pa_nil))))))) pa_nil))) pa_nil)) (by rfl))
  (pss_cons (ps_set (i := 16) nd rfl (Or.inl rfl) (pe_lst (pa_cons (pe_cl C__law_asked hr (pa_cons pe_int (pa_cons (pe_lst (pa_cons (pv 13) (pa_cons (pv 3) (pa_cons (pv 14) (pa_cons (pv 15) pa_nil))))) pa_nil))) (pa_cons (pe_cl C__law_asked hr (pa_cons pe_int (pa_cons (pe_lst (pa_cons (pv 2) (pa_cons (pv 13) (pa_cons (pv 14) (pa_cons (pv 15) pa_nil))))) pa_nil))) (pa_cons (pe_cl C__law_asked hr (pa_cons pe_int (pa_cons (pe_lst (pa_cons (pv 2) (pa_cons (pv 3) (pa_cons (pv 14) (pa_cons (pv 15) pa_nil))))) pa_nil))) pa_nil)))))
  (pss_cons (ps_if (pt_cmpR (kop K (r := rNeD) (op_neD hr.units)) (pv 16) (pe_lst (pa_cons (pe_tup (pa_cons (pe_sT [101, 114, 114, 111, 114]) (pa_cons (pe_sT [114, 101, 112, 108, 97, 99, 105, 110, 103]) pa_nil))) (pa_cons (pe_tup (pa_cons (pe_sT [101, 114, 114, 111, 114]) (pa_cons (pe_sT [114, 101, 112, 108, 97, 99, 105, 110, 103]) pa_nil))) (pa_cons (pe_tup (pa_cons (pe_sT [101, 114, 114, 111, 114]) (pa_cons (pe_sT [115, 105, 103, 110]) pa_nil))) pa_nil)))) (nomark _))
  (pss_one (ps_ret pe_bl))
  pss_nil)
  (pss_cons (ps_for PassesOwn.never rfl (kil K (pi_list (pe_slice (ksl K (r := rSlL) sl_list) (pv 11) po_none (po_some pe_int)))) (pg_name (i := 6) nd rfl (Or.inl rfl))
  (pss_cons (ps_par (i := 8) (j := 17) rfl nd rfl rfl (by decide) rfl rfl (pa_cons (pe_cl C__law_grown hr (pa_cons (pv 2) (pa_cons (pv 6) (pa_cons (pv 12) pa_nil)))) (pa_cons (pe_cl C__law_grown hr (pa_cons (pv 3) (pa_cons (pv 6) (pa_cons (pv 12) pa_nil)))) pa_nil)) (by rfl))
  (pss_cons (ps_set (i := 18) nd rfl (Or.inl rfl) (pe_callB (kcr K (r := rLenS) call_len_seq) (by rfl) M.n_len boot_len (pa_cons (pv 8) pa_nil)))
  (pss_cut (ps_for PassesOwn.never rfl (pi_range1 (by rfl) M.n_range (pa_cons (pe_callB (kcr K (r := rLenS) call_len_seq) (by rfl) M.n_len boot_len (pa_cons (pv 8) pa_nil)) pa_nil)) (pg_name (i := 19) nd rfl (Or.inl rfl))
  (pss_one (ps_if (pt_cmpR op_neT (pe_ix (kix K (r := L2.rIxL) ix_list) (pv 8) (pv 19) (fun _ _ => rfl)) (pe_ix (kix K (r := L2.rIxL) ix_list) (pv 17) (pv 19) (fun _ _ => rfl)) (nomark _))
  (pss_cons (ps_set (i := 18) nd rfl (Or.inl rfl) (pv 19))
  (pss_one ps_break))
  pss_nil)))
  (pss_cons (ps_if (pt_cmpR op_neT (pe_callB (kcr K (r := rReprD) (cr_reprD hgd hr.units)) (by rfl) M.n_repr boot_repr (pa_cons (pe_lst (pa_cons (pe_cl C__law_asked hr (pa_cons pe_int (pa_cons (pe_lst (pa_cons (pv 2) (pa_cons (pv 3) (pa_cons (pv 6) (pa_cons (pv 12) pa_nil))))) pa_nil))) (pa_cons (pe_clK0 C_alike_for_ever (kb_alike_for_ever_3_2_1_0) hr (pk_cons (pv 12) (pk_cons (pv 6) (pk_cons (pv 3) (pk_cons (pv 2) pk_nil))))) pa_nil))) pa_nil)) (pe_callB (kcr K (r := rReprD) (cr_reprD hgd hr.units)) (by rfl) M.n_repr boot_repr (pa_cons (pe_lst (pa_cons (pe_tup (pa_cons (pe_sT [116, 111, 108, 100]) (pa_cons (pv 18) pa_nil))) (pa_cons (pv 18) pa_nil))) pa_nil)) (nomark _))
  (pss_one (ps_ret pe_bl))
  pss_nil)
  (pss_one (ps_if (pt_cmpR (kop K (r := rNeD) (op_neD hr.units)) (pe_cl C__law_asked hr (pa_cons pe_int (pa_cons (pe_lst (pa_cons (pv 2) (pa_cons (pv 3) (pa_cons (pv 6) (pa_cons (pv 15) pa_nil))))) pa_nil))) (pe_tup (pa_cons (pe_sT [101, 114, 114, 111, 114]) (pa_cons (pe_sT [110, 117, 109, 98, 101, 114]) pa_nil))) (nomark _))
  (pss_one (ps_ret pe_bl))
  pss_nil)))))))
  (pss_one (ps_ret pe_bl))))))))))))))))), ?_⟩
    refine q_dw (dI_add dI_c (dI_draw (i := 0) rfl dI_c)) G fun v H1 ⟨many0, hv, hm1, hm2⟩ R1 => ?_
    subst hv
    obtain ⟨many, rfl⟩ := Int.eq_ofNat_of_zero_le (show 0 ≤ many0 by omega)
    show tSeq _ _ _ [some (.ref fa), some (.int (many : Int)), none, none, none, none, none, none, none, none, none, none, none, none, none, none, none, none, none, none] H1
    refine q_asgA (l_call (a_ev (ev_var rfl) fun Ha ea => a_ev (ev_var rfl) fun Hb eb => a_nil ⟨fa, many, rfl, ((G.go R1 (m' := 900) (by omega)).ex (ea.trans eb)).mono (by omega), by omega, by omega, fun p rep H2 hrep hfull hlen _ R2 hp2 => ?_⟩))
    have RA := R1.trans (Rf.pre (ea.trans eb) R2)
    have hR2 : RepAt p rep H2 := ⟨hp2, hrep⟩
    have npf := (G.go RA (m' := 900) (by omega)).ofTup hp2
    clear hp2 R2 eb ea R1
    show tSeq _ _ _ [some (.ref fa), some (.int (many : Int)), some (.ref p), none, none, none, none, none, none, none, none, none, none, none, none, none, none, none, none, none] H2
    refine q_asgG (l_tup (a_any (l_call (a_ev (ev_var rfl) fun Ha ea => a_ev (ev_var rfl) fun Hb eb => a_nil ⟨fa, p, rep, rfl, ((G.go RA (m' := 800) (by omega)).ex (ea.trans eb)).mono (by omega), hR2.ex (ea.trans eb), hfull, fun q oth H3 hoth hfull2 hlen2 hq3 R3 => ?_⟩))))
    have R3' := Rf.pre (ea.trans eb) R3
    have hR3 : RepAt p rep H3 := ⟨R3'.at_ hR2.1 npf, hrep⟩
    have RB := RA.trans R3'
    have hfew := hrep.few
    have hABl : (AB.take many).length = many := by rw [List.length_take]; show min many 4 = _; omega
    refine a_ev (ev_is (ev_slT (a := AB) ev_c eo_none (eo_some (ev_var rfl)) (by decide)) (by rw [cutT_to])) fun H4 e4 => a_nil ⟨by show 2 ≤ sizeLine; decide, fun pt hpt => g_pair upd_same ?_⟩
    have e5 := e4.trans (Ex.new (o := HO.tup [.ref q, T (AB.take many)]) hpt)
    have hR5 := hR3.ex e5
    have hO5 : RepAt q oth (upd H4 pt (.tup [.ref q, T (AB.take many)])) := ⟨e5 _ _ hq3, hoth⟩
    have RC := RB.then e5
    generalize upd H4 pt (.tup [.ref q, T (AB.take many)]) = H5 at e5 hR5 hO5 RC ⊢
    clear hpt e4 R3' R3 eb ea RA hR2 hR3 RB hq3 e5
    have nqf : q ≠ fa := (G.go RC (m' := 700) (by omega)).ofTup hO5.1
    show tSeq _ _ _ [some (.ref fa), some (.int (many : Int)), some (.ref p), some (.ref q), some (T (AB.take many)), none, none, none, none, none, none, none, none, none, none, none, none, none, none, none] H5
    -- due
    refine q_asgA (lcT (Ex.refl _) (σ := [some (.ref fa), some (.int (many : Int)), some (.ref p), some (.ref q), some (T (AB.take many)), none, none, none, none, none, none, none, none, none, none, none, none, none, none, none]) (vs := [8]) (p := fun _ => true) ([(p, rep), (q, oth)] : List (Addr × List Tx)) (fun a => [some (.ref fa), some (.int (many : Int)), some (.ref p), some (.ref q), some (T (AB.take many)), none, none, none, some (.ref a.1), none, none, none, none, none, none, none, none, none, none, none]) (fun a => (growL a.2).map T) (fun a x _ => x = .ref a.1) (src_newU (xs := [.ref p, .ref q]) (eu_tup (ea_cons (ev_var rfl) (ea_cons (ev_var rfl) ea_nil)) (by show 2 ≤ 100000; decide))) (by show 2 ≤ 40000; decide) rfl ?_ (fun a x H3 Q' h k' => by subst h; exact k') (fun _ => rfl) (fun a H3 e3 ha => et_yes) (fun a H6 e6 ha _ => ?_) fun pd H6 ps hpd e6 h6 ht6 => ?_)
    · intro i x H3 _ hx
      rcases i with _ | _ | i
      · cases hx; exact ⟨_, rfl, rfl⟩
      · cases hx; exact ⟨_, rfl, rfl⟩
      · simp at hx
    · simp only [List.mem_cons, List.not_mem_nil, or_false] at ha
      rcases ha with rfl | rfl
      · have := hR5.ex e6
        rw [← hlen]
        exact ew_of (eu_tupL (el_grows this))
      · have := hO5.ex e6
        rw [← hlen, ← hlen2]
        exact ew_of (eu_tupL (el_grows this))
    obtain ⟨d0, d1, rfl, hd0, hd1⟩ : ∃ d0 d1, ps = [d0, d1] ∧ H6 d0 = some (.tup ((growL rep).map T)) ∧ H6 d1 = some (.tup ((growL oth).map T)) := by
      cases ht6 with
      | cons h0 r => cases r with
        | cons h1 r => cases r; exact ⟨_, _, rfl, h0, h1⟩
    have h6 : H6 pd = some (.lst [.ref d0, .ref d1]) := h6
    have hR6 := hR5.ex e6
    have hO6 := hO5.ex e6
    have RD := RC.then e6
    clear ht6 hpd e6 hR5 hO5 RC
    show tSeq _ _ _ [some (.ref fa), some (.int (many : Int)), some (.ref p), some (.ref q), some (T (AB.take many)), some (.ref pd), none, none, none, none, none, none, none, none, none, none, none, none, none, none] H6
    have hix0 : ∀ {H : Hp} {a6 a7 a8 a9 a10 a11 a12 a13 a14 a15 a16 a17 a18 a19 : Option V}, Ex H6 H → Ev (tOp (L2.rIxL K) (tVar 5) (tC (.int 0))) [some (.ref fa), some (.int (many : Int)), some (.ref p), some (.ref q), some (T (AB.take many)), some (.ref pd), a6, a7, a8, a9, a10, a11, a12, a13, a14, a15, a16, a17, a18, a19] H (.ref d0) := fun e => ev_op (ev_var rfl) ev_c (rv_ixL (sq_of (e _ _ h6)) (atI_nat (j := 0) rfl))
    have hix1 : ∀ {H : Hp} {a6 a7 a8 a9 a10 a11 a12 a13 a14 a15 a16 a17 a18 a19 : Option V}, Ex H6 H → Ev (tOp (L2.rIxL K) (tVar 5) (tC (.int 1))) [some (.ref fa), some (.int (many : Int)), some (.ref p), some (.ref q), some (T (AB.take many)), some (.ref pd), a6, a7, a8, a9, a10, a11, a12, a13, a14, a15, a16, a17, a18, a19] H (.ref d1) := fun e => ev_op (ev_var rfl) ev_c (rv_ixL (sq_of (e _ _ h6)) (atI_nat (j := 1) rfl))
    refine q_when (b := false) (et_reprNe (d := .list [.tuple [dT xTold, .tuple ((growL rep).map dT)], .tuple ((growL oth).map dT)]) (sd_list2 (sd_tup2 (sd_told.up (by decide) (by decide)) (sd_growL hrep)) ((sd_growL hoth).up (by decide) (by decide))) (by decide) (by decide)
      (evd_lst2 (evd_asked (ea_cons (ev_var rfl) ea_nil) (by show 1 ≤ 100000; decide) (says_stays_ok hR6 hfull))
        (evd_tup (eu_callK0 (ea_cons (ev_var rfl) ea_nil) (fun H9 e9 Q9 q9 E => sp_stays_ok (hO6.ex e9) hfull2 q9)) fun _ _ => dp_all fun _ _ => .str _))
      (evd_lst2 (evd_tup2 (evd_c fun _ => .str _) (evd_ev (hix0 (Ex.refl _)) fun _ e => .tup (st_of (e _ _ hd0)) (dp_all fun _ _ => .str _))) (evd_ev (hix1 (Ex.refl _)) fun _ e => .tup (st_of (e _ _ hd1)) (dp_all fun _ _ => .str _)))) (fun z => by cases z) (fun _ H7 e7 => ?_)
    have hR7 := hR6.ex e7
    have hO7 := hO6.ex e7
    have RE := RD.then e7
    have hd07 := e7 _ _ hd0
    have hd17 := e7 _ _ hd1
    -- empty, less
    have hmi : ((many : Int) - 1) = ((many - 1 : Nat) : Int) := by omega
    have hemp : ∀ H, Ex H7 H → EvW (tOp (rCatA K) (tSl (rSlA K) (tVar 2) tNoPart (tPart (tOp (rI0 fun i j => .int (i - j)) (tVar 1) (tC (.int 1))))) (tTup (tCons (tC (T [])) tNil))) [some (.ref fa), some (.int (many : Int)), some (.ref p), some (.ref q), some (T (AB.take many)), some (.ref pd), none, none, none, none, none, none, none, none, none, none, none, none, none, none] H ((rep.take (many - 1) ++ [[]]).map T) := fun H e => by
      have e1 : cutV (rep.map T) none (some ((many - 1 : Nat) : Int)) = (rep.take (many - 1)).map T := by rw [cutV_to, List.map_take]
      rw [List.map_append, ← e1]
      refine ew_cat (ew_sl (ew_ev (ev_var rfl) (e _ _ hR7.1)) (fun _ _ => eo_none) (fun H1 e => eo_some (ev_is (ev_op (ev_var rfl) ev_c rv_I0) (by rw [hmi])))) (fun H1 e => ew_of (eu_tup (ea_cons ev_c ea_nil) (by show 1 ≤ 100000; decide))) ?_
      rw [e1]
      simp
      omega
    refine q_asgA (hemp H7 (Ex.refl _) H7 (Ex.refl _) _ fun pe H8 e8 he8 => ?_)
    clear hemp
    show tSeq _ _ _ [some (.ref fa), some (.int (many : Int)), some (.ref p), some (.ref q), some (T (AB.take many)), some (.ref pd), none, none, none, some (.ref pe), none, none, none, none, none, none, none, none, none, none] H8
    obtain ⟨less, hless, hlne, hlsm⟩ : ∃ less : List Tx, EvW (tIf (tTest (tOp (rI0 fun i j => .bl (decide (i < j))) (tVar 1) (tC (.int 4)))) (tOp (rCatA K) (tVar 2) (tTup (tCons (tC (T [97, 98])) tNil))) (tSl (rSlA K) (tVar 2) tNoPart (tPart (tC (.int 3))))) [some (.ref fa), some (.int (many : Int)), some (.ref p), some (.ref q), some (T (AB.take many)), some (.ref pd), none, none, none, some (.ref pe), none, none, none, none, none, none, none, none, none, none] H8 (less.map T) ∧ less.length ≠ many ∧ (less.length ≤ 1000 ∧ ∀ t ∈ less, t.length ≤ 20000) := by
      by_cases h4 : many < 4
      · refine ⟨rep ++ [[97, 98]], ?_, by rw [List.length_append, hlen]; simp, by rw [List.length_append]; simp; omega, fun t ht => ?_⟩
        · rw [List.map_append]
          exact ew_if (b := true) (et_is (et_test (ev_op (ev_var rfl) ev_c rv_I0)) (decide_eq_true (by omega))) (fun _ H1 e1 => ew_cat (ew_ev (ev_var rfl) ((e8.trans e1) _ _ hR7.1)) (fun H2 e2 => ew_of (eu_tup (ea_cons ev_c ea_nil) (by show 1 ≤ 100000; decide))) (by simp; omega)) (fun z => by cases z)
        · rcases List.mem_append.mp ht with h | h
          · have := hrep.short t h
            omega
          · rw [List.mem_singleton.mp h]
            decide
      · refine ⟨rep.take 3, ?_, by rw [List.length_take]; omega, by rw [List.length_take]; omega, fun t ht => ?_⟩
        · have e1 : cutV (rep.map T) none (some ((3 : Nat) : Int)) = (rep.take 3).map T := by rw [cutV_to, List.map_take]
          rw [← e1]
          exact ew_if (b := false) (et_is (et_test (ev_op (ev_var rfl) ev_c rv_I0)) (decide_eq_false (by omega))) (fun z => by cases z) (fun _ H1 e1 => ew_sl (ew_ev (ev_var rfl) ((e8.trans e1) _ _ hR7.1)) (fun _ _ => eo_none) (fun _ _ => eo_some ev_c))
        · have := hrep.short t (List.mem_of_mem_take ht)
          omega
    refine q_asgA (hless H8 (Ex.refl _) _ fun pl H9 e9 hl9 => ?_)
    clear hless
    show tSeq _ _ _ [some (.ref fa), some (.int (many : Int)), some (.ref p), some (.ref q), some (T (AB.take many)), some (.ref pd), none, none, none, some (.ref pe), some (.ref pl), none, none, none, none, none, none, none, none, none] H9
    have e79 := e8.trans e9
    have e69 := e7.trans e79
    have hR9 := hR7.ex e79
    have hO9 := hO7.ex e79
    have RF := RE.then e79
    have he9 := e9 _ _ he8
    have hABc : ∀ {c : Nat}, c ∈ AB.take many → 97 ≤ c ∧ c < 97 + many := fun hc => (mem_AB (by omega)).mp hc
    -- both
    refine q_asgL (xs := ((AB.take many).filter fun c => growB rep (c - 97) && growB oth (c - 97)).map fun c => T [c]) (el_lcF (j := 6) (vs := [6]) (f := fun c => T [c]) (g := fun c => T [c]) (p := fun c => growB rep (c - 97) && growB oth (c - 97)) (AB.take many) (src_str (ev_var rfl)) (by omega) (fun _ => rfl) (fun c H10 e10 hc => et_and (grow_in ((e79.trans e10) _ _ hd07) (hABc hc).1 (by rw [hlen]; exact (hABc hc).2) (ev_var rfl) (hix0 (e69.trans e10))) fun _ => grow_in ((e79.trans e10) _ _ hd17) (hABc hc).1 (by rw [hlen2, hlen]; exact (hABc hc).2) (ev_var rfl) (hix1 (e69.trans e10))) (fun c H10 e10 hc _ => ev_var rfl)) fun pb H10 hpb e10 h10 => ?_
    have hboth : ∀ c, c ∈ ((AB.take many).filter fun c => growB rep (c - 97) && growB oth (c - 97)) → (97 ≤ c ∧ c < 97 + many) ∧ growB rep (c - 97) = true ∧ growB oth (c - 97) = true := fun c hc => by
      obtain ⟨h1, h2⟩ := List.mem_filter.mp hc
      rw [Bool.and_eq_true] at h2
      exact ⟨hABc h1, h2⟩
    have hnot : ∀ c ∈ AB.take many, c ∉ ((AB.take many).filter fun c => growB rep (c - 97) && growB oth (c - 97)) → (growB rep (c - 97) && growB oth (c - 97)) = false := fun c hc hn => by
      cases z : (growB rep (c - 97) && growB oth (c - 97)) with
      | false => rfl
      | true => exact absurd (List.mem_filter.mpr ⟨hc, z⟩) hn
    have hbl : ((AB.take many).filter fun c => growB rep (c - 97) && growB oth (c - 97)).length ≤ 4 := Nat.le_trans (List.length_filter_le _ _) (by omega)
    generalize ((AB.take many).filter fun c => growB rep (c - 97) && growB oth (c - 97)) = bothL at h10 hboth hnot hbl
    have hR10 := hR9.ex e10
    have hO10 := hO9.ex e10
    have RG := RF.then e10
    have he10 := e10 _ _ he9
    have hl10 := e10 _ _ hl9
    clear hix0 hix1 h6 hd0 hd1 hd07 hd17 hR6 hO6 hR7 hO7 hR9 hO9 RD RE RF he8 he9 hl9 e69 e79 e7 e8 e9 e10 hpb
    show tCut _ _ _ [some (.ref fa), some (.int (many : Int)), some (.ref p), some (.ref q), some (T (AB.take many)), some (.ref pd), none, none, none, some (.ref pe), some (.ref pl), some (.ref pb), none, none, none, none, none, none, none, none] H10
    have G10 : GF fa 700 H10 := G.go RG (by omega)
    have npe : pe ≠ fa := G10.ofTup he10
    have npl : pl ≠ fa := G10.ofTup hl10
    have npb : pb ≠ fa := fun z => by
      obtain ⟨_, _, a, b, c, e, hf, _⟩ := G10
      rw [z, hf] at h10
      cases bothL with
      | nil => cases h10
      | cons b bs => injection h10 with h; injection h with h; injection h with h _; cases h
    -- what is empty
    have hemt : ∃ o, (∀ H, H pe = some (.tup ((rep.take (many - 1) ++ [[]]).map T)) → Rt H (.ref pe) o) ∧ Sm o ∧ allB o = false ∧ ∀ rep' : List Tx, o = some (rep'.map some) → (∀ t ∈ rep', t ≠ []) → False := by
      refine ⟨some ((rep.take (many - 1) ++ [[]]).map some), fun H h => .tup h (all2_some _), ⟨?_, fun t ht => ?_⟩, rep_notAll (by simp), fun rep' hr hf => ?_⟩
      · rw [List.length_map, List.length_append, List.length_take]
        simp
        omega
      · obtain ⟨u, hu, hz⟩ := List.mem_map.mp ht
        cases hz
        rcases List.mem_append.mp hu with h | h
        · have := hrep.short t (List.mem_of_mem_take h)
          omega
        · rw [List.mem_singleton.mp h]
          exact Nat.zero_le _
      · obtain rfl := rep_inj hr
        exact hf [] (by simp) rfl
    obtain ⟨oe, hoe1, hoe2, hoe3, hoe4⟩ := hemt
    refine q_cut (M := fun σ' H' => σ' = [some (.ref fa), some (.int (many : Int)), some (.ref p), some (.ref q), some (T (AB.take many)), some (.ref pd), none, none, none, some (.ref pe), some (.ref pl), some (.ref pb), none, none, none, none, none, none, none, none] ∧ Rf fa 10 H10 H') ?_ ?_
    · have hxr : ∀ {σ : L2.St} {H : Hp}, EvD K (tTup (tCons (tC (T xErr)) (tCons (tC (T xRep)) tNil))) σ H (.tuple [dT xErr, dT xRep]) := evd_tup2 (evd_c fun _ => .str _) (evd_c fun _ => .str _)
      refine s_ifA (t_or (et_is (et_test (ev_neDB (d := .tuple [dT xErr, dT xRep]) (e := .tuple [dT xErr, dT xRep]) (b := true) (evd_w (ew_asked (ea_cons (ev_var rfl) ea_nil) (by show 1 ≤ 100000; decide) (says_stays_bad ⟨oe, hoe1 _ he10, hoe2, hoe3⟩)) fun _ _ => .cons (.str _) (.cons (.str _) .nil)) hxr (by decide +kernel) (by decide +kernel) (by decide +kernel))) rfl) fun H11 e11 => t_pull (l_call (a_ev (ev_var rfl) fun Ha ea => a_ev (ev_var rfl) fun Hb eb => a_nil ⟨fa, p, rep, rfl, (G10.ex (e11.trans (ea.trans eb))).mono (by omega), hR10.ex (e11.trans (ea.trans eb)), fun x H12 hx R12 => ?_⟩)))
      obtain ⟨o, g1, g2, g3⟩ := hx
      refine (et_is (et_test (ev_neDB (d := .tuple [dT xErr, dT xRep]) (e := .tuple [dT xErr, dT xRep]) (b := true) (evd_w (ew_asked (ea_cons ev_c ea_nil) (by show 1 ≤ 100000; decide) (says_stays_bad ⟨o, g1.ex (hidF_ex fa H12), g3, own_notAll g2⟩)) fun _ _ => .cons (.str _) (.cons (.str _) .nil)) hxr (by decide +kernel) (by decide +kernel) (by decide +kernel))) rfl : EvT _ _ H12 false) H12 (Ex.refl _) _ fun H13 e13 => ?_
      rw [if_neg Bool.false_ne_true]
      exact ⟨rfl, ((Rf.pre (e11.trans (ea.trans eb)) R12).then e13).mono (by omega)⟩
    rintro σ' H11 ⟨rfl, R11⟩
    have hR11 : RepAt p rep H11 := ⟨R11.at_ hR10.1 npf, hrep⟩
    have hO11 : RepAt q oth H11 := ⟨R11.at_ hO10.1 nqf, hoth⟩
    have he11 := R11.at_ he10 npe
    have hl11 := R11.at_ hl10 npl
    have h11 := R11.at_ h10 npb
    have RH := RG.trans R11
    clear hR10 hO10 he10 hl10 h10 R11 RG
    have G11 : GF fa 690 H11 := G.go RH (by omega)
    show tSeq _ _ _ [some (.ref fa), some (.int (many : Int)), some (.ref p), some (.ref q), some (T (AB.take many)), some (.ref pd), none, none, none, some (.ref pe), some (.ref pl), some (.ref pb), none, none, none, none, none, none, none, none] H11
    -- most
    refine q_asgA (l_call (a_ev (ev_var rfl) fun Ha ea => a_any (l_lst (a_c (a_c (a_c (a_c (a_c (a_any (t_if (t_test (t_op (wp_draw (i := 0) (many := 4) rfl ev_c (G11.ex ea) (by decide) (by decide) fun d H12 hd R12 => ⟨(d : Int), 0, rfl, rfl, _, rfl, if_C (a_nil ⟨by show 6 ≤ sizeLine; decide, fun pw hpw => ?_⟩)⟩)))))))))))))
    have R12' := Rf.pre ea R12
    have npw : pw ≠ fa := (G11.go R12' (m' := 680) (by omega)).new hpw
    refine ⟨fa, (((G11.go R12' (m' := 680) (by omega)).ex (Ex.new hpw))).mono (by omega), .inr ⟨pw, _, rfl, .inl (sq_of upd_same), npw, by simp, by simp, fun mv H13 hmv R13 => ?_⟩⟩
    obtain ⟨m, rfl, hM1, hM2⟩ : ∃ m : Nat, mv = .int (m : Int) ∧ 1 ≤ m ∧ m ≤ 4000 := by
      simp only [List.mem_cons, List.not_mem_nil, or_false] at hmv
      rcases hmv with rfl | rfl | rfl | rfl | rfl | rfl
      · exact ⟨1, rfl, by decide, by decide⟩
      · exact ⟨2, rfl, by decide, by decide⟩
      · exact ⟨9, rfl, by decide, by decide⟩
      · exact ⟨60, rfl, by decide, by decide⟩
      · exact ⟨400, rfl, by decide, by decide⟩
      · by_cases h0 : decide ((d : Int) = 0) = true
        · rw [if_pos h0]
          exact ⟨4000, rfl, by decide, by decide⟩
        · rw [if_neg h0]
          exact ⟨90, rfl, by decide, by decide⟩
    have RI := (R12'.then (Ex.new (o := HO.lst [.int 1, .int 2, .int 9, .int 60, .int 400, if decide ((d : Int) = 0) = true then .int 4000 else .int 90]) hpw)).trans R13
    have G13 : GF fa 680 H13 := G11.go RI (by omega)
    have hR13 : RepAt p rep H13 := ⟨RI.at_ hR11.1 npf, hrep⟩
    have hO13 : RepAt q oth H13 := ⟨RI.at_ hO11.1 nqf, hoth⟩
    have he13 := RI.at_ he11 npe
    have hl13 := RI.at_ hl11 npl
    have h13 := RI.at_ h11 npb
    have RJ := RH.trans RI
    clear hmv hpw npw R13 R12 R12' ea hR11 hO11 he11 hl11 h11 G11 RH RI hd
    show tSeq _ _ _ [some (.ref fa), some (.int (many : Int)), some (.ref p), some (.ref q), some (T (AB.take many)), some (.ref pd), none, none, none, some (.ref pe), some (.ref pl), some (.ref pb), some (.int (m : Int)), none, none, none, none, none, none, none] H13
    -- wrong
    refine q_asgA (l_call (a_ev (ev_var rfl) fun Ha ea => a_any (l_lst (a_any (l_call (a_ev (ev_var rfl) fun Hb eb => a_ev (ev_var rfl) fun Hc ec => a_nil ⟨fa, q, oth, rfl, (G13.ex (ea.trans (eb.trans ec))).mono (by omega), hO13.ex (ea.trans (eb.trans ec)), fun x H14 hx R14 => ?_⟩))))))
    have R14' := Rf.pre (ea.trans (eb.trans ec)) R14
    have G14 : GF fa 670 H14 := G13.go R14' (by omega)
    refine a_ev (ev_var rfl) fun Hd ed => a_ev (ev_var rfl) fun He ee => a_eu (eu_mul (xs := [T [], T []]) (n := 2) (eu_tup (ea_cons ev_c (ea_cons ev_c ea_nil)) (by show 2 ≤ 100000; decide)) ev_c (by simp) (by decide) (by decide) (by decide)) fun pm Hf hpm ef hf => a_nil ⟨by show 4 ≤ sizeLine; decide, fun pw hpw => ?_⟩
    have npm : pm ≠ fa := (G14.ex (ed.trans ee)).new hpm
    have npw : pw ≠ fa := (G14.ex (ed.trans (ee.trans ef))).new hpw
    have eN := (ed.trans (ee.trans ef)).trans (Ex.new (o := HO.lst [x, .ref pe, .ref pl, .ref pm]) hpw)
    have hf2 := Ex.new (o := HO.lst [x, .ref pe, .ref pl, .ref pm]) hpw _ _ hf
    refine ⟨fa, (G14.ex eN).mono (by omega), .inr ⟨pw, _, rfl, .inl (sq_of upd_same), npw, by simp, by simp, fun wr H15 hwr R15 => ?_⟩⟩
    have RK := Rf.pre eN R15
    have RL := R14'.trans RK
    have hwrong : WrongR many (hidF fa H15) wr := by
      simp only [List.mem_cons, List.not_mem_nil, or_false] at hwr
      rcases hwr with rfl | rfl | rfl | rfl
      · exact (hx.ex (hidF_rf RK)).wrong
      · exact ⟨oe, hoe1 _ (hidF_at npe (RL.at_ he13 npe)), hoe2, fun rep' hr _ hf => (hoe4 rep' hr hf).elim⟩
      · refine ⟨_, .tup (hidF_at npl (RL.at_ hl13 npl)) (all2_some less), ⟨by rw [List.length_map]; exact hlsm.1, fun t ht => ?_⟩, fun rep' hr _ _ => ?_⟩
        · obtain ⟨u, hu, hz⟩ := List.mem_map.mp ht
          cases hz
          exact hlsm.2 t hu
        · obtain rfl := rep_inj hr
          exact hlne
      · refine ⟨_, .tup (hidF_at npm (R15.at_ hf2 npm)) (all2_some [[], [], [], []]), ⟨by decide, fun t ht => ?_⟩, fun rep' hr _ hf => ?_⟩
        · have : t = [] := by simpa using ht
          rw [this]
          exact Nat.zero_le _
        · obtain rfl := rep_inj hr
          exact absurd rfl (hf [] (by simp))
    have G15 : GF fa 660 H15 := G13.go RL (by omega)
    have hR15 : RepAt p rep H15 := ⟨RL.at_ hR13.1 npf, hrep⟩
    have hO15 : RepAt q oth H15 := ⟨RL.at_ hO13.1 nqf, hoth⟩
    have h15 := RL.at_ h13 npb
    have RM := RJ.trans RL
    clear hwr hf2 eN npw npm hpw hf ef ee ed hpm G14 R14' R14 ea eb ec hx R15 RK RL hR13 hO13 he13 hl13 h13 G13 RJ hoe1 hoe2 hoe3 hoe4 hlne hlsm
    show tSeq _ _ _ [some (.ref fa), some (.int (many : Int)), some (.ref p), some (.ref q), some (T (AB.take many)), some (.ref pd), none, none, none, some (.ref pe), some (.ref pl), some (.ref pb), some (.int (m : Int)), some wr, none, none, none, none, none, none] H15
    -- odd, number
    have hmix : EvL (tOp rCat (tLst (tCons (tC .non) (tCons (tC (T [])) (tCons (tC (T [101])) (tCons (tC (T [97, 98])) (tCons (tC (.int 0)) tNil)))))) (tLc (iStr (tVar 4)) (gName 6) (tTest (tOp (rIn K true) (tVar 6) (tVar 11))) (tVar 6) [6])) [some (.ref fa), some (.int (many : Int)), some (.ref p), some (.ref q), some (T (AB.take many)), some (.ref pd), none, none, none, some (.ref pe), some (.ref pl), some (.ref pb), some (.int (m : Int)), some wr, none, none, none, none, none, none] H15 ([.non, T [], T [101], T [97, 98], .int 0] ++ ((AB.take many).filter fun c => !decide (c ∈ bothL)).map fun c => T [c]) := by
      have hflat : (bothL.map fun c => T [c]).all flatV = true := by
        have := flat_T (bothL.map fun c => [c])
        rw [List.map_map] at this
        exact this
      refine el_catNN (el_lst (ea_cons ev_c (ea_cons ev_c (ea_cons ev_c (ea_cons ev_c (ea_cons ev_c ea_nil))))) (by show 5 ≤ 100000; decide)) (el_lcF (j := 6) (vs := [6]) (f := fun c => T [c]) (g := fun c => T [c]) (p := fun c => !decide (c ∈ bothL)) (AB.take many) (src_str (ev_var rfl)) (by omega) (fun _ => rfl) (fun c H16 e16 hc => et_is (et_test (ev_op (ev_var rfl) (ev_var rfl) (rv_niL (xs := bothL.map fun c => T [c]) (sq_of (e16 _ _ h15)) rfl hflat))) ?_) (fun c H16 e16 hc _ => ev_var rfl)) ?_
      · have := inV_T [c] (bothL.map fun c => [c])
        rw [List.map_map] at this
        have h2 : inV (T [c]) (bothL.map fun c => T [c]) = decide ([c] ∈ bothL.map fun c => [c]) := this
        rw [h2]
        congr 1
        refine decide_eq_decide.mpr ⟨fun z => ?_, fun z => List.mem_map.mpr ⟨c, z, rfl⟩⟩
        obtain ⟨c', h1, h2⟩ := List.mem_map.mp z
        have : c' = c := by simpa using h2
        rw [← this]
        exact h1
      · have := List.length_filter_le (fun c => !decide (c ∈ bothL)) (AB.take many)
        simp only [List.length_map, List.length_cons, List.length_nil]
        omega
    have hmlen : ([V.non, T [], T [101], T [97, 98], .int 0] ++ ((AB.take many).filter fun c => !decide (c ∈ bothL)).map fun c => T [c]).length ≤ 16777216 := by
      have := List.length_filter_le (fun c => !decide (c ∈ bothL)) (AB.take many)
      simp only [List.length_append, List.length_map, List.length_cons, List.length_nil]
      omega
    refine q_par2 (wp_oneL (i := 0) rfl hmix G15 (by simp) hmlen fun y H16 hy R16 => wp_oneL (i := 0) (vs := [.int 0, .int 4001, .int (-1), .bl true, .non, T [57]]) rfl (el_lst (ea_cons ev_c (ea_cons ev_c (ea_cons (ev_un ev_c ru_neg) (ea_cons ev_c (ea_cons ev_c (ea_cons ev_c ea_nil)))))) (by show 6 ≤ 100000; decide)) (G15.go R16 (m' := 650) (by omega)) (by simp) (by show 6 ≤ 16777216; decide) fun nu H17 hnu R17 => ⟨_, _, rfl, ?_⟩)
    clear hmix
    have hnum : ∀ H, NoNum 1 4000 H nu := fun H => by
      simp only [List.mem_cons, List.not_mem_nil, or_false] at hnu
      rcases hnu with rfl | rfl | rfl | rfl | rfl | rfl
      · exact ⟨_, .int _, by decide⟩
      · exact ⟨_, .int _, by decide⟩
      · exact ⟨_, .int _, by decide⟩
      · exact ⟨_, .bl _, rfl⟩
      · exact ⟨_, .non, rfl⟩
      · exact ⟨_, .str _, rfl⟩
    have hodd : ∀ H, NoGrow rep oth H y := fun H => by
      rcases List.mem_append.mp hy with h | h
      · simp only [List.mem_cons, List.not_mem_nil, or_false] at h
        rcases h with rfl | rfl | rfl | rfl | rfl
        · exact ⟨_, .non, (fun t ht => nomatch ht), .inl rfl⟩
        · exact ⟨_, .str _, fun t ht => by cases ht; exact Nat.zero_le _, .inl rfl⟩
        · exact ⟨_, .str _, fun t ht => len1 ht, .inl (decide_eq_false fun z => by have := (mem_AB hfew).mp z; omega)⟩
        · exact ⟨_, .str _, fun t ht => by cases ht; decide, .inl rfl⟩
        · exact ⟨_, .int _, (fun t ht => nomatch ht), .inl rfl⟩
      · obtain ⟨c, hc, rfl⟩ := List.mem_map.mp h
        obtain ⟨hc1, hc2⟩ := List.mem_filter.mp hc
        refine ⟨_, .str _, fun t ht => len1 ht, .inr ⟨c, rfl, hnot c hc1 fun z => ?_⟩⟩
        rw [decide_eq_true z] at hc2
        cases hc2
    have RN := R16.trans R17
    have hR17 : RepAt p rep H17 := ⟨RN.at_ hR15.1 npf, hrep⟩
    have hO17 : RepAt q oth H17 := ⟨RN.at_ hO15.1 nqf, hoth⟩
    have h17 := RN.at_ h15 npb
    have RO := RM.trans RN
    have hwr17 := (hwrong.ex (hidF_rf RN)).ex (hidF_ex fa H17)
    clear hwrong hy hnu R16 R17 hR15 hO15 h15 RM RN G15 hnot hABc hmlen
    have hNt : ∃ o, Nt H17 nu o := by
      obtain ⟨o, h1, _⟩ := hnum H17
      exact ⟨o, h1⟩
    have hNt' : ∀ H, ∃ o, Nt H nu o := fun H => by
      obtain ⟨o, h1, _⟩ := hnum H
      exact ⟨o, h1⟩
    have hl2 : oth.length = rep.length := hlen2
    show tSeq _ _ _ [some (.ref fa), some (.int (many : Int)), some (.ref p), some (.ref q), some (T (AB.take many)), some (.ref pd), none, none, none, some (.ref pe), some (.ref pl), some (.ref pb), some (.int (m : Int)), some wr, some y, some nu, none, none, none, none] H17
    refine q_asgW (os := [[T xErr, T xRep], [T xErr, T xRep], [T xErr, T xSign]]) (ews_cons (ew_asked (ea_cons (ev_var rfl) (ea_cons (ev_var rfl) (ea_cons (ev_var rfl) (ea_cons (ev_var rfl) ea_nil)))) (by show 4 ≤ 100000; decide) (says_alike_1 (by rw [hl2, hlen]; exact hwr17) hO17 hfull2 (hodd _).el (hNt' _))) fun Ha ea => ews_cons (ew_asked (ea_cons (ev_var rfl) (ea_cons (ev_var rfl) (ea_cons (ev_var rfl) (ea_cons (ev_var rfl) ea_nil)))) (by show 4 ≤ 100000; decide) (says_alike_2 (hR17.ex ea) hfull (by rw [hlen]; exact hwr17.ex ea) (hodd _).el (hNt' _))) fun Hb eb => ews_cons (ew_asked (ea_cons (ev_var rfl) (ea_cons (ev_var rfl) (ea_cons (ev_var rfl) (ea_cons (ev_var rfl) ea_nil)))) (by show 4 ≤ 100000; decide) (says_alike_3 (hR17.ex (ea.trans eb)) (hO17.ex (ea.trans eb)) hfull hfull2 hl2 (hodd _) (hNt' _))) fun _ _ => ews_nil) (by show 3 ≤ 100000; decide) fun z ps H18 hz e18 h18 ht18 => ?_
    have hR18 := hR17.ex e18
    have hO18 := hO17.ex e18
    have hb18 := e18 _ _ h17
    have RP := RO.then e18
    clear hR17 hO17 h17 RO hwr17 hodd
    show tSeq _ _ _ [some (.ref fa), some (.int (many : Int)), some (.ref p), some (.ref q), some (T (AB.take many)), some (.ref pd), none, none, none, some (.ref pe), some (.ref pl), some (.ref pb), some (.int (m : Int)), some wr, some y, some nu, some (.ref z), none, none, none] H18
    refine q_when (b := false) (et_is (et_test (ev_neDB (d := .list [.tuple [dT xErr, dT xRep], .tuple [dT xErr, dT xRep], .tuple [dT xErr, dT xSign]]) (e := .list [.tuple [dT xErr, dT xRep], .tuple [dT xErr, dT xRep], .tuple [dT xErr, dT xSign]]) (b := true) (evd_var rfl fun H e => .lst (sq_of (e _ _ h18)) (dp_tups (o := fun w : Tx => [T xErr, T w]) (ds := fun w => [dT xErr, dT w]) (fun a => .cons (.str _) (.cons (.str _) .nil)) (ps := ps) (as := [xRep, xRep, xSign]) (Tups.ex ht18 e))) (evd_lst3 (evd_tup2 (evd_c fun _ => .str _) (evd_c fun _ => .str _)) (evd_tup2 (evd_c fun _ => .str _) (evd_c fun _ => .str _)) (evd_tup2 (evd_c fun _ => .str _) (evd_c fun _ => .str _))) (by decide +kernel) (by decide +kernel) (by decide +kernel))) rfl) (fun z => by cases z) (fun _ H19 e19 => ?_)
    have hR19 := hR18.ex e19
    have hO19 := hO18.ex e19
    have hb19 := e19 _ _ hb18
    have RQ := RP.then e19
    clear hR18 hO18 hb18 RP h18 ht18 hz e18 e19
    have hsl : EvL (tSl (rSlL K) (tVar 11) tNoPart (tPart (tC (.int 2)))) [some (.ref fa), some (.int (many : Int)), some (.ref p), some (.ref q), some (T (AB.take many)), some (.ref pd), none, none, none, some (.ref pe), some (.ref pl), some (.ref pb), some (.int (m : Int)), some wr, some y, some nu, some (.ref z), none, none, none] H19 ((bothL.take 2).map fun c => T [c]) := by
      have e1 : cutV (bothL.map fun c => T [c]) none (some ((2 : Nat) : Int)) = (bothL.take 2).map fun c => T [c] := by rw [cutV_to, List.map_take]
      rw [← e1]
      exact el_sl (ev_var rfl) eo_none (eo_some ev_c) (sq_of hb19)
    refine q_forW (fun _ => False) (src_newLM (f := fun c => T [c]) (xs := bothL.take 2) hsl) (fun _ z => z.elim)
      (fun Hs i σ' H' => ∃ (v6 v8 v17 v18 v19 : Option V), σ' = [some (.ref fa), some (.int (many : Int)), some (.ref p), some (.ref q), some (T (AB.take many)), some (.ref pd), v6, none, v8, some (.ref pe), some (.ref pl), some (.ref pb), some (.int (m : Int)), some wr, some y, some nu, some (.ref z), v17, v18, v19] ∧ Ex Hs H') ?_ ?_ ?_ ?_ ?_
    · intro Hs e
      exact ⟨none, none, none, none, none, rfl, Ex.refl _⟩
    · rintro Hs i σ' H' ⟨_, _, _, _, _, _, h⟩
      exact .of h
    · rintro Hs i σ' Ha Hb ⟨v6, v8, v17, v18, v19, h0, h1⟩ e
      exact ⟨v6, v8, v17, v18, v19, h0, h1.trans e⟩
    · rintro Hs i x σ' H' e hi ⟨v6, v8, v17, v18, v19, rfl, h1⟩ hx
      obtain ⟨c, hc, rfl⟩ := at_map hx
      obtain ⟨⟨hc1, hc2⟩, hg1, hg2⟩ := hboth c (List.mem_of_mem_take (List.mem_of_getElem? hc))
      have gr : Grows rep c := Grows.of hrep hfull hc1 (by rw [hlen]; exact hc2) hg1
      have go : Grows oth c := Grows.of hoth hfull2 hc1 (by rw [hl2, hlen]; exact hc2) hg2
      have hRa := hR19.ex (e.trans h1)
      have hOa := hO19.ex (e.trans h1)
      show tSeq _ _ _ [some (.ref fa), some (.int (many : Int)), some (.ref p), some (.ref q), some (T (AB.take many)), some (.ref pd), some (T [c]), none, v8, some (.ref pe), some (.ref pl), some (.ref pb), some (.int (m : Int)), some wr, some y, some nu, some (.ref z), v17, v18, v19] H'
      refine q_par2 (l_call (a_ev (ev_var rfl) fun Ha ea => a_ev (ev_var rfl) fun Hb eb => a_ev (ev_var rfl) fun Hc ec => a_nil ⟨p, rep, c, m, rfl, hRa.ex (ea.trans (eb.trans ec)), gr, hM1, hM2, fun g1 ga la p1 H2 _ e2 k1 => ?_⟩))
      have eA := (ea.trans (eb.trans ec)).trans e2
      refine l_call (a_ev (ev_var rfl) fun Hd ed => a_ev (ev_var rfl) fun He ee => a_ev (ev_var rfl) fun Hf ef => a_nil ⟨q, oth, c, m, rfl, hOa.ex (eA.trans (ed.trans (ee.trans ef))), go, hM1, hM2, fun g2 gb lb p2 H3 _ e3 k2 => ⟨_, _, rfl, ?_⟩⟩)
      have eB := (ed.trans (ee.trans ef)).trans e3
      have k1 := eB _ _ k1
      have hR3 := hRa.ex (eA.trans eB)
      have hO3 := hOa.ex (eA.trans eB)
      have e03 : Ex Hs H3 := h1.trans (eA.trans eB)
      clear eA eB ed ee ef e3 ea eb ec e2 hRa hOa
      show tSeq _ _ _ [some (.ref fa), some (.int (many : Int)), some (.ref p), some (.ref q), some (T (AB.take many)), some (.ref pd), some (T [c]), none, some (.ref p1), some (.ref pe), some (.ref pl), some (.ref pb), some (.int (m : Int)), some wr, some y, some nu, some (.ref z), some (.ref p2), v18, v19] H3
      refine q_asg (v := .int (m : Int)) (ev_is (ev_len (ev_var rfl) (sq_of k1)) (by rw [List.length_map, la])) fun H4 e4 => ?_
      have k14 := e4 _ _ k1
      have k24 := e4 _ _ k2
      show tCut _ _ _ [some (.ref fa), some (.int (many : Int)), some (.ref p), some (.ref q), some (T (AB.take many)), some (.ref pd), some (T [c]), none, some (.ref p1), some (.ref pe), some (.ref pl), some (.ref pb), some (.int (m : Int)), some wr, some y, some nu, some (.ref z), some (.ref p2), some (.int (m : Int)), v19] H4
      have hal := alikeSigns_le g1 g2
      refine q_cut (M := fun σ' H' => ∃ v19 : Option V, σ' = [some (.ref fa), some (.int (many : Int)), some (.ref p), some (.ref q), some (T (AB.take many)), some (.ref pd), some (T [c]), none, some (.ref p1), some (.ref pe), some (.ref pl), some (.ref pb), some (.int (m : Int)), some wr, some y, some nu, some (.ref z), some (.ref p2), some (.int ((alikeSigns g1 g2 : Nat) : Int)), v19] ∧ Ex H4 H') ?_ ?_
      · refine s_forW (fun _ => False) (src_range1 (n := m) (ea_cons (ev_is (ev_len (ev_var rfl) (sq_of k14)) (by rw [List.length_map, la])) ea_nil) (by omega)) (fun _ z => z.elim)
          (fun Hs2 i σ' H' => ∃ v19 : Option V, σ' = [some (.ref fa), some (.int (many : Int)), some (.ref p), some (.ref q), some (T (AB.take many)), some (.ref pd), some (T [c]), none, some (.ref p1), some (.ref pe), some (.ref pl), some (.ref pb), some (.int (m : Int)), some wr, some y, some nu, some (.ref z), some (.ref p2), some (.int (m : Int)), v19] ∧ Ex Hs2 H' ∧ i ≤ alikeSigns g1 g2) ?_ ?_ ?_ ?_ ?_
        · intro Hs2 e5
          exact ⟨v19, rfl, Ex.refl _, Nat.zero_le _⟩
        · rintro Hs2 j σ' H' ⟨_, _, h, _⟩
          exact .of h
        · rintro Hs2 j σ' Ha Hb ⟨v19, h0, h2, h3⟩ e5
          exact ⟨v19, h0, h2.trans e5, h3⟩
        · rintro Hs2 j x σ' H' e5 hj ⟨v19, rfl, h2, h3⟩ rfl
          have e45 := e5.trans h2
          have hj1 : g1[j]? = some g1[j] := List.getElem?_eq_getElem (by omega)
          have hj2 : g2[j]? = some g2[j] := List.getElem?_eq_getElem (by omega)
          have i1 : ((g1.map fun d => T [d]) : List V)[j]? = some (T [g1[j]]) := by rw [List.getElem?_map, hj1]; rfl
          have i2 : ((g2.map fun d => T [d]) : List V)[j]? = some (T [g2[j]]) := by rw [List.getElem?_map, hj2]; rfl
          show tIfS _ _ _ _ [some (.ref fa), some (.int (many : Int)), some (.ref p), some (.ref q), some (T (AB.take many)), some (.ref pd), some (T [c]), none, some (.ref p1), some (.ref pe), some (.ref pl), some (.ref pb), some (.int (m : Int)), some wr, some y, some nu, some (.ref z), some (.ref p2), some (.int (m : Int)), some (.int (j : Int))] H'
          refine s_when (b := !decide (g1[j] = g2[j])) (et_is (et_test (ev_op (ev_op (ev_var rfl) (ev_var rfl) (rv_ixL (sq_of (e45 _ _ k14)) (atI_nat i1))) (ev_op (ev_var rfl) (ev_var rfl) (rv_ixL (sq_of (e45 _ _ k24)) (atI_nat i2))) rv_neT)) ?_) (fun hb H5 e6 => ?_) (fun hb H5 e6 => ?_)
          · congr 1
            exact decide_eq_decide.mpr ⟨fun z => by simpa using z, fun z => by rw [z]⟩
          · have hne : ¬ g1[j] = g2[j] := by
              intro z
              rw [decide_eq_true z] at hb
              cases hb
            have hja : alikeSigns g1 g2 = j := by
              rcases Nat.lt_or_ge j (alikeSigns g1 g2) with h | h
              · have := alikeSigns_at g1 g2 j h
                rw [hj1, hj2] at this
                exact absurd (Option.some.inj this) hne
              · omega
            refine q_asg (ev_var (i := 19) rfl) fun H6 e7 => ⟨some (.int (j : Int)), ?_, e45.trans (e6.trans e7)⟩
            rw [hja]
            rfl
          · have heq : g1[j] = g2[j] := by
              by_cases z : g1[j] = g2[j]
              · exact z
              · rw [decide_eq_false z] at hb
                cases hb
            refine ⟨_, rfl, h2.trans e6, ?_⟩
            rcases Nat.lt_or_ge j (alikeSigns g1 g2) with h | h
            · omega
            · have hja : alikeSigns g1 g2 = j := by omega
              exact absurd heq (alikeSigns_end g1 g2 _ _ (by rw [hja]; exact hj1) (by rw [hja]; exact hj2))
        · rintro Hs2 σ' H' e5 ⟨v19, rfl, h2, h3⟩
          have : alikeSigns g1 g2 = m := by omega
          rw [this]
          exact ⟨v19, rfl, e5.trans h2⟩
      rintro σ' H5 ⟨v19, rfl, e5⟩
      have hR5 := hR3.ex (e4.trans e5)
      have hO5 := hO3.ex (e4.trans e5)
      have hsd : alikeSigns g1 g2 < 10 ^ 100 := Nat.lt_of_le_of_lt (show alikeSigns g1 g2 ≤ 4000 by omega) (by decide +kernel)
      refine q_when (b := false) (et_reprNe (d := .list [.tuple [dT xTold, .int ((alikeSigns g1 g2 : Nat) : Int)], .int ((alikeSigns g1 g2 : Nat) : Int)]) (sd_list2 (sd_tup2 sd_told (sd_big hsd)) ((sd_big hsd).up (by decide) (by decide))) (by decide) (by decide)
        (evd_lst2 (evd_w (ew_asked (ea_cons (ev_var rfl) (ea_cons (ev_var rfl) (ea_cons (ev_var rfl) (ea_cons (ev_var rfl) ea_nil)))) (by show 4 ≤ 100000; decide) (says_alike_ok hR5 hO5 hfull hfull2 hl2 gr go hM1 hM2 ga gb la lb)) fun _ _ => .cons (.str _) (.cons (.int _) .nil))
          (evd_ev (ev_callK0 (ea_cons (ev_var rfl) (ea_cons (ev_var rfl) (ea_cons (ev_var rfl) (ea_cons (ev_var rfl) ea_nil)))) fun H9 e9 Q9 q9 E => sp_alike_ok (hR5.ex e9) (hO5.ex e9) hfull hfull2 hl2 gr go hM1 hM2 ga gb la lb q9) fun _ _ => .int _))
        (evd_lst2 (evd_tup2 (evd_c fun _ => .str _) (evd_var rfl fun _ _ => .int _)) (evd_var rfl fun _ _ => .int _))) (fun z => by cases z) (fun _ H6 e6 => ?_)
      refine s_when (b := false) (et_is (et_test (ev_neDB (d := .tuple [dT xErr, dT xNum]) (e := .tuple [dT xErr, dT xNum]) (b := true) (evd_w (ew_asked (ea_cons (ev_var rfl) (ea_cons (ev_var rfl) (ea_cons (ev_var rfl) (ea_cons (ev_var rfl) ea_nil)))) (by show 4 ≤ 100000; decide) (says_alike_4 (hR5.ex e6) (hO5.ex e6) hfull hfull2 hl2 gr go (hnum _))) fun _ _ => .cons (.str _) (.cons (.str _) .nil)) (evd_tup2 (evd_c fun _ => .str _) (evd_c fun _ => .str _)) (by decide +kernel) (by decide +kernel) (by decide +kernel))) rfl) (fun z => by cases z) (fun _ H7 e7 => ⟨_, _, _, _, _, rfl, (((e03.trans e4).trans e5).trans e6).trans e7⟩)
    · rintro Hs σ' H' e ⟨v6, v8, v17, v18, v19, rfl, h1⟩
      exact s_ret ev_c fun H2 e2 => k H2 ((RQ.then ((e.trans h1).trans e2)).mono (by omega))
end
end K22
set_option Elab.async false
set_option linter.all false
set_option maxRecDepth 100000
set_option maxHeartbeats 2000000
namespace K22
open PySem PySem.Spec PyProof.Rows L2 Evl Wc Wt Wg We
section
variable {σ : L2.St} {H : Hp} {t u : TT} {te : TE} {Q : Bool → Hp → Prop}
theorem t_orD (h : t σ H fun b H1 => if b = true then Q true H1 else u σ H1 Q) : tOr t u σ H Q := h
theorem t_notA (h : t σ H fun b H1 => Q (!b) H1) : tNot t σ H Q := h
theorem t_B (h : te σ H fun v H1 => ∃ b, v = .bl b ∧ Q b H1) : tB te σ H Q := h
end
section
variable {P : Program} {w : World} {K : PySem.W.Frag} {mg : Str → Option Value} {base : Heap}
def sp_law (K : PySem.W.Frag) : Sp := fun vs H Q _ => ∃ (a : Addr) (ns : List Int) (e : Nat), vs = [.ref a] ∧ SqL K H a (ns.map V.int) ∧ ns.length ≤ 63 ∧ 1 ≤ e ∧ e ≤ 1100000 ∧ (∀ z ∈ ns, z.natAbs < 2 ^ e) ∧ ∀ H', Q (.bl true) H'
theorem ok_law {f : Addr} {fd : FuncData} (F : Fun K "law" "law" st_law f fd) (M : Md K mg) (C__law_feed : Cal P w K mg base "_law_feed" st__law_feed 1 ["script", "k"] (sp_feed K)) (C__law_numbers_right : CalG P w K mg base "_law_numbers_right" st__law_numbers_right 8 ["feed"] sp_right) (C__law_growth_right : CalG P w K mg base "_law_growth_right" st__law_growth_right 8 ["feed"] sp_right) : FnOkG P w K mg base 9 f fd ["script"] (sp_law K) := by
  have nd := sc_law.nd
  refine Fun.okG F sc_law (fun vs H Q E h => ?_) (fun cdv A outer s H vs Q E hr hgd h => ?_)
  · obtain ⟨_, _, _, rfl, _⟩ := h
    rfl
  · obtain ⟨a, ns, e, rfl, hS, hlen, he1, he2, hz, k⟩ := h
    refine ⟨_, (pss_cons (ps_for PassesOwn.never rfl (pi_range1 (by rfl) M.n_range (pa_cons (pe_callB (call_max2 rfl) (by rfl) M.n_max boot_max (pa_cons pe_int (pa_cons (pe_callB (call_min2 rfl) (by rfl) M.n_min boot_min (pa_cons (pe_callB (kcr K (r := rLenS) call_len_seq) (by rfl) M.n_len boot_len (pa_cons (pv 0) pa_nil)) (pa_cons pe_int pa_nil))) pa_nil))) pa_nil)) (pg_name (i := 1) nd rfl (Or.inl rfl))
  (pss_cons (ps_set (i := 2) nd rfl (Or.inl rfl) (pe_cl C__law_feed hr (pa_cons (pv 0) (pa_cons (pv 1) pa_nil))))
  (pss_one (ps_if (PW.pt (pw_or (pt_not (pt_val (pe_clG C__law_numbers_right hr hgd (pa_cons (pv 2) pa_nil)))) (pw_or1 (pt_not (pt_val (pe_clG C__law_growth_right hr hgd (pa_cons (pv 2) pa_nil)))))))
  (pss_one (ps_ret pe_bl))
  pss_nil))))
  (pss_one (ps_ret pe_bl))), ?_⟩
    obtain ⟨n, hn6, hn⟩ : ∃ n : Nat, n ≤ 4 ∧ (if (if (4 : Int) < ((ns.map V.int).length : Int) then (4 : Int) else ((ns.map V.int).length : Int)) > 1 then (if (4 : Int) < ((ns.map V.int).length : Int) then (4 : Int) else ((ns.map V.int).length : Int)) else 1) = (n : Int) := by
      refine ⟨max 1 (min ns.length 4), by omega, ?_⟩
      rw [List.length_map]
      split <;> split <;> omega
    have hcnt : EvA (tCons (tCB rMax2 (tCons (tC (.int 1)) (tCons (tCB rMin2 (tCons (tCB (rLenS K) (tCons (tVar 0) tNil)) (tCons (tC (.int 4)) tNil))) tNil))) tNil) (start N_law [.ref a]) H [.int (n : Int)] :=
      ea_cons (ev_is (ev_max2 ev_c (ev_min2 (ev_len (ev_var rfl) hS) ev_c)) (by rw [hn])) ea_nil
    refine q_forW (fun _ => False) (src_range1 (n := n) hcnt (by omega)) (fun _ z => z.elim)
      (fun Hs i σ' H' => ∃ v1 v2 : Option V, σ' = [some (.ref a), v1, v2] ∧ Ex Hs H') ?_ ?_ ?_ ?_ ?_
    · intro Hs e
      exact ⟨none, none, rfl, Ex.refl _⟩
    · rintro Hs i σ' H' ⟨_, _, _, h1⟩
      exact .of h1
    · rintro Hs i σ' Ha Hb ⟨v1, v2, h0, h1⟩ e
      exact ⟨v1, v2, h0, h1.trans e⟩
    · rintro Hs i x σ' H' e0 hi ⟨v1, v2, rfl, h1⟩ rfl
      have eA : Ex H H' := e0.trans h1
      show tSeq _ _ _ [some (.ref a), some (.int (i : Int)), v2] H'
      refine q_asgA (l_call (a_ev (ev_var rfl) fun Ha ea => a_ev (ev_var rfl) fun Hb eb => a_nil ⟨a, ns, i, e, rfl, ex_l (eA.trans (ea.trans eb)) hS, by omega, he1, he2, hz, fun fa H2 hfa e2 hF => ?_⟩))
      have G0 : GF fa 5000 H2 := ⟨0, by decide, hF⟩
      have eB := (ea.trans eb).trans e2
      have hfa' : H' fa = none := fresh_back (ea.trans eb) hfa
      show tIfS _ _ _ _ [some (.ref a), some (.int (i : Int)), some (.ref fa)] H2
      refine s_ifA (t_orD (t_notA (t_B (l_call (a_ev (ev_var rfl) fun Hc ec => a_nil ⟨fa, rfl, (G0.ex ec).mono (by omega), fun H3 R3 => ⟨true, rfl, ?_⟩⟩)))))
      rw [if_neg (by decide)]
      have RA := Rf.pre ec R3
      refine t_notA (t_B (l_call (a_ev (ev_var rfl) fun Hd ed => a_nil ⟨fa, rfl, ((G0.go RA (m' := 3000) (by omega)).ex ed).mono (by omega), fun H4 R4 => ⟨true, rfl, ?_⟩⟩)))
      rw [if_neg (by decide)]
      exact ⟨_, _, rfl, h1.trans (ex_of_exc eB hfa' (RA.trans (Rf.pre ed R4)).keep)⟩
    · rintro Hs σ' H' e0 ⟨v1, v2, rfl, h1⟩
      exact s_ret ev_c fun H2 e2 => k H2
end
end K22
set_option Elab.async false
set_option linter.all false
set_option maxRecDepth 100000
set_option maxHeartbeats 2000000
namespace K22
open PySem PySem.Spec PyProof.Rows L2 Evl Wc Wt Wg Ws Wr We _root_.Wd
/-- a def of the top, as it stands -/
def Top (K : PySem.W.Frag) (x : Str) (st : Stmt) : Prop := ∃ (f : Addr) (oc : Value) (od an : Option Addr) (osl : Array (Option Value)) (kV doc pm cdv ct : Value), PySem.W.nsIn K mainGlobals x = some (some (.ref f)) ∧ K.lookup f = some ⟨oc, od, .func (PySem.W.fnOf x x (defArgs st) (defBody st) (defScope st) .none kV doc pm an cdv ct), osl⟩ ∧ PySem.W.codeIn K cdv x = true ∧ PySem.W.keepIn K (.ref f) = true
theorem top_mk {K : PySem.W.Frag} {x : Str} {st : Stmt} {f : Addr} {oc : Value} {od an : Option Addr} {osl : Array (Option Value)} {kV doc pm cdv ct : Value} (a : PySem.W.nsIn K mainGlobals x = some (some (.ref f))) (l : K.lookup f = some ⟨oc, od, .func (PySem.W.fnOf x x (defArgs st) (defBody st) (defScope st) .none kV doc pm an cdv ct), osl⟩) (c : PySem.W.codeIn K cdv x = true) (k : PySem.W.keepIn K (.ref f) = true) : Top K x st := ⟨f, oc, od, an, osl, kV, doc, pm, cdv, ct, a, l, c, k⟩
section
variable {P : Program} {w : World} {K : PySem.W.Frag} {mg : Str → Option Value} {base h : Heap} {x : Str} {st : Stmt} {k : Nat} {ps : List Str} {sp : Sp}
theorem Top.cal (T : Top K x st) (X : K.In h) (G : h.Ns mainGlobals mg)
    (hb : ∀ (kV doc pm : Value) (an : Option Addr) (cdv ct : Value) (us : List Value), us.length = ps.length → bindArgs (PySem.W.fnOf x x (defArgs st) (defBody st) (defScope st) .none kV doc pm an cdv ct) ⟨us, []⟩ = pure (ps.zip us))
    (ok : ∀ f fd, Fun K x x st f fd → FnOk P w K mg base CX0 k f fd ps sp) : Cal P w K mg base x st k ps sp := by
  obtain ⟨f, oc, od, an, osl, kV, doc, pm, cdv, ct, a, l, c, k⟩ := T
  have F := fun_mk (st := st) l c k
  exact ⟨f, _, ok _ _ F, PySem.W.mg_of X G a, F, F.binds hb⟩
theorem Top.calG (T : Top K x st) (X : K.In h) (G : h.Ns mainGlobals mg)
    (hb : ∀ (kV doc pm : Value) (an : Option Addr) (cdv ct : Value) (us : List Value), us.length = ps.length → bindArgs (PySem.W.fnOf x x (defArgs st) (defBody st) (defScope st) .none kV doc pm an cdv ct) ⟨us, []⟩ = pure (ps.zip us))
    (ok : ∀ f fd, Fun K x x st f fd → FnOkG P w K mg base k f fd ps sp) : CalG P w K mg base x st k ps sp := by
  obtain ⟨f, oc, od, an, osl, kV, doc, pm, cdv, ct, a, l, c, k⟩ := T
  have F := fun_mk (st := st) l c k
  exact ⟨f, _, ok _ _ F, PySem.W.mg_of X G a, F, F.binds hb⟩
theorem Top.calS (T : Top K x st) (X : K.In h) (G : h.Ns mainGlobals mg)
    (hb : ∀ (kV doc pm : Value) (an : Option Addr) (cdv ct : Value) (us : List Value), us.length = ps.length → bindArgs (PySem.W.fnOf x x (defArgs st) (defBody st) (defScope st) .none kV doc pm an cdv ct) ⟨us, []⟩ = pure (ps.zip us))
    (ok : ∀ f fd, Fun K x x st f fd → FnOk P w K mg base (L2.CX P w) k f fd ps sp) : CalS P w K mg base x st k ps sp := by
  obtain ⟨f, oc, od, an, osl, kV, doc, pm, cdv, ct, a, l, c, k⟩ := T
  have F := fun_mk (st := st) l c k
  exact ⟨f, _, ok _ _ F, PySem.W.mg_of X G a, F, F.binds hb⟩
/-- .. by its address, its name a value -/
theorem Top.at_ (T : Top K x st) (X : K.In h) (G : h.Ns mainGlobals mg)
    (hb : ∀ (kV doc pm : Value) (an : Option Addr) (cdv ct : Value) (us : List Value), us.length = ps.length → bindArgs (PySem.W.fnOf x x (defArgs st) (defBody st) (defScope st) .none kV doc pm an cdv ct) ⟨us, []⟩ = pure (ps.zip us))
    (ok : ∀ f fd, Fun K x x st f fd → FnOk P w K mg base CX0 k f fd ps sp) : ∃ f, C8.CalAt P w K mg base k f sp ∧ ∃ u, mg x = some u ∧ RelV (.ref f) u := by
  obtain ⟨f, oc, od, an, osl, kV, doc, pm, cdv, ct, a, l, c, k⟩ := T
  have F := fun_mk (st := st) l c k
  exact ⟨f, ⟨_, ps, ok _ _ F, k, F.binds hb⟩, _, PySem.W.mg_of X G a, rfl⟩
/-- .. whatever its context -/
theorem Top.fn {CX : CXT} (T : Top K x st) (X : K.In h) (G : h.Ns mainGlobals mg)
    (hb : ∀ (kV doc pm : Value) (an : Option Addr) (cdv ct : Value) (us : List Value), us.length = ps.length → bindArgs (PySem.W.fnOf x x (defArgs st) (defBody st) (defScope st) .none kV doc pm an cdv ct) ⟨us, []⟩ = pure (ps.zip us))
    (ok : ∀ f fd, Fun K x x st f fd → FnOk P w K mg base CX k f fd ps sp) : ∃ f fd, FnOk P w K mg base CX k f fd ps sp ∧ Binds K fd ps [] ∧ mg x = some (.ref f) ∧ PySem.W.keepIn K (.ref f) = true := by
  obtain ⟨f, oc, od, an, osl, kV, doc, pm, cdv, ct, a, l, c, k⟩ := T
  have F := fun_mk (st := st) l c k
  exact ⟨f, _, ok _ _ F, F.binds hb, PySem.W.mg_of X G a, k⟩
/-- a method, as it stands -/
def TopM (K : PySem.W.Frag) (C : Addr) (m q : Str) (st : Stmt) : Prop := ∃ (f : Addr) (oc : Value) (od an : Option Addr) (osl : Array (Option Value)) (kV doc pm cdv ct : Value), PySem.W.findIn K (.ref C) m = some (some (.ref f)) ∧ PySem.W.isFn K (.ref f) = true ∧ K.lookup f = some ⟨oc, od, .func (PySem.W.fnOf m q (defArgs st) (defBody st) (defScope st) .none kV doc pm an cdv ct), osl⟩ ∧ PySem.W.codeIn K cdv q = true ∧ PySem.W.keepIn K (.ref f) = true
theorem topm_mk {C : Addr} {m q : Str} {f : Addr} {oc : Value} {od an : Option Addr} {osl : Array (Option Value)} {kV doc pm cdv ct : Value} (a : PySem.W.findIn K (.ref C) m = some (some (.ref f))) (i : PySem.W.isFn K (.ref f) = true) (l : K.lookup f = some ⟨oc, od, .func (PySem.W.fnOf m q (defArgs st) (defBody st) (defScope st) .none kV doc pm an cdv ct), osl⟩) (c : PySem.W.codeIn K cdv q = true) (k : PySem.W.keepIn K (.ref f) = true) : TopM K C m q st := ⟨f, oc, od, an, osl, kV, doc, pm, cdv, ct, a, i, l, c, k⟩
theorem TopM.met {C : Addr} {m q : Str} (T : TopM K C m q st) (cl : Cls K C)
    (hb : ∀ (kV doc pm : Value) (an : Option Addr) (cdv ct : Value) (us : List Value), us.length = ps.length → bindArgs (PySem.W.fnOf m q (defArgs st) (defBody st) (defScope st) .none kV doc pm an cdv ct) ⟨us, []⟩ = pure (ps.zip us))
    (ok : ∀ f fd, Fun K m q st f fd → FnOk P w K mg base CX0 k f fd ps sp) : C8.Met P w K mg base k C m sp [] := by
  obtain ⟨f, oc, od, an, osl, kV, doc, pm, cdv, ct, a, i, l, c, k⟩ := T
  have F := fun_mk (st := st) l c k
  exact ⟨f, _, ps, [], cl, ⟨a, i, k⟩, ok _ _ F, F.binds hb, .nil⟩
theorem TopM.mak {C : Addr} {q : Str} (T : TopM K C "__init__" q st) (X : K.In h) (G : h.Ns mainGlobals mg) (n : PySem.W.nsIn K mainGlobals x = some (some (.ref C))) (mk : PySem.W.makesIn K C = true) (kc : PySem.W.keepIn K (.ref C) = true)
    (hb : ∀ (kV doc pm : Value) (an : Option Addr) (cdv ct : Value) (us : List Value), us.length = ps.length → bindArgs (PySem.W.fnOf "__init__" q (defArgs st) (defBody st) (defScope st) .none kV doc pm an cdv ct) ⟨us, []⟩ = pure (ps.zip us))
    (ok : ∀ f fd, Fun K "__init__" q st f fd → FnOk P w K mg base CX0 k f fd ps sp) : Mak P w K mg base k C x sp := by
  obtain ⟨f, oc, od, an, osl, kV, doc, pm, cdv, ct, a, i, l, c, k⟩ := T
  have F := fun_mk (st := st) l c k
  exact ⟨f, _, ps, ⟨mk, a, i, kc⟩, ok _ _ F, F.binds hb, PySem.W.mg_of X G n⟩
end
theorem all_mk {l : PySem.W.OpenLaw} {w : World} {K : PySem.W.Frag} {h : Heap} {mg : Str → Option Value} {fa : Addr} (X : K.In h) (G : h.Ns mainGlobals mg) (hfa : mg "law" = some (.ref fa))
    (n_ValueError : PySem.W.nsIn K mainGlobals "ValueError" = some none)
    (n_all : PySem.W.nsIn K mainGlobals "all" = some none)
    (n_bool : PySem.W.nsIn K mainGlobals "bool" = some none)
    (n_dict : PySem.W.nsIn K mainGlobals "dict" = some none)
    (n_int : PySem.W.nsIn K mainGlobals "int" = some none)
    (n_isinstance : PySem.W.nsIn K mainGlobals "isinstance" = some none)
    (n_len : PySem.W.nsIn K mainGlobals "len" = some none)
    (n_list : PySem.W.nsIn K mainGlobals "list" = some none)
    (n_max : PySem.W.nsIn K mainGlobals "max" = some none)
    (n_min : PySem.W.nsIn K mainGlobals "min" = some none)
    (n_range : PySem.W.nsIn K mainGlobals "range" = some none)
    (n_repr : PySem.W.nsIn K mainGlobals "repr" = some none)
    (n_str : PySem.W.nsIn K mainGlobals "str" = some none)
    (n_sum : PySem.W.nsIn K mainGlobals "sum" = some none)
    (n_tuple : PySem.W.nsIn K mainGlobals "tuple" = some none)
    (n_zip : PySem.W.nsIn K mainGlobals "zip" = some none)
    {t_c_SIGNS : Tok} (c_SIGNS : PySem.W.nsIn K mainGlobals "SIGNS" = some (some (.str (Str.ofString "abcd") t_c_SIGNS)))
    {t_c_MOST_LETTERS : Tok} (c_MOST_LETTERS : PySem.W.nsIn K mainGlobals "MOST_LETTERS" = some (some (.int 12 t_c_MOST_LETTERS)))
    {t_c_MOST_MADE : Tok} (c_MOST_MADE : PySem.W.nsIn K mainGlobals "MOST_MADE" = some (some (.int 4000 t_c_MOST_MADE)))
    {t_c_MOST_TIMES : Tok} (c_MOST_TIMES : PySem.W.nsIn K mainGlobals "MOST_TIMES" = some (some (.int 60 t_c_MOST_TIMES)))
    {CE CS CN CM CB : Addr}
    (aB : PySem.W.nsIn K mainGlobals "CutError" = some (some (.ref CB)))
    (aM : PySem.W.nsIn K mainGlobals "TooMany" = some (some (.ref CM)))
    (bx3 : PySem.W.subIn K (.ref CB) (.type "BaseException") = some true)
    (bx4 : PySem.W.typeIn K (.ref CB) = some (.type "type"))
    (by3 : PySem.W.hasDictIn K CB = true)
    (aE : PySem.W.nsIn K mainGlobals "BadReplacing" = some (some (.ref CE)))
    (Ex1 : PySem.W.excIn K CE [.type "ValueError", .type "Exception", .type "BaseException", .type "object"] "ValueError.__new__" = true)
    (Ex2 : PySem.W.keepIn K (.ref CE) = true)
    (Ex3 : PySem.W.subIn K (.ref CE) (.type "BaseException") = some true)
    (Ex4 : PySem.W.typeIn K (.ref CE) = some (.type "type"))
    (ExB : PySem.W.subIn K (.ref CE) (.ref CB) = some true)
    (Ey1 : PySem.W.findIn K (.ref CE) "__getattribute__" = some (some (.builtin "BaseException.__getattribute__")))
    (Ey2 : PySem.W.findIn K (.ref CE) "__getattr__" = some none)
    (Ey3 : PySem.W.hasDictIn K CE = true)
    (Ey4 : PySem.W.findIn K (.ref CE) "__class__" = some (some (.builtin "object.__class__")))
    (Ey5 : PySem.W.specialIn K (.builtin "object.__class__") "__get__" = some (some (.builtin "getset_descriptor.__get__")))
    (Ey6 : PySem.W.takesIn K (.builtin "object.__class__") = some true)
    (Ey7 : PySem.W.mroIn K CE (.type "object") = some true)
    (aS : PySem.W.nsIn K mainGlobals "BadSign" = some (some (.ref CS)))
    (Sx1 : PySem.W.excIn K CS [.type "ValueError", .type "Exception", .type "BaseException", .type "object"] "ValueError.__new__" = true)
    (Sx2 : PySem.W.keepIn K (.ref CS) = true)
    (Sx3 : PySem.W.subIn K (.ref CS) (.type "BaseException") = some true)
    (Sx4 : PySem.W.typeIn K (.ref CS) = some (.type "type"))
    (SxB : PySem.W.subIn K (.ref CS) (.ref CB) = some true)
    (Sy1 : PySem.W.findIn K (.ref CS) "__getattribute__" = some (some (.builtin "BaseException.__getattribute__")))
    (Sy2 : PySem.W.findIn K (.ref CS) "__getattr__" = some none)
    (Sy3 : PySem.W.hasDictIn K CS = true)
    (Sy4 : PySem.W.findIn K (.ref CS) "__class__" = some (some (.builtin "object.__class__")))
    (Sy5 : PySem.W.specialIn K (.builtin "object.__class__") "__get__" = some (some (.builtin "getset_descriptor.__get__")))
    (Sy6 : PySem.W.takesIn K (.builtin "object.__class__") = some true)
    (Sy7 : PySem.W.mroIn K CS (.type "object") = some true)
    (aN : PySem.W.nsIn K mainGlobals "BadNumber" = some (some (.ref CN)))
    (Nx1 : PySem.W.excIn K CN [.type "ValueError", .type "Exception", .type "BaseException", .type "object"] "ValueError.__new__" = true)
    (Nx2 : PySem.W.keepIn K (.ref CN) = true)
    (Nx3 : PySem.W.subIn K (.ref CN) (.type "BaseException") = some true)
    (Nx4 : PySem.W.typeIn K (.ref CN) = some (.type "type"))
    (NxB : PySem.W.subIn K (.ref CN) (.ref CB) = some true)
    (Ny1 : PySem.W.findIn K (.ref CN) "__getattribute__" = some (some (.builtin "BaseException.__getattribute__")))
    (Ny2 : PySem.W.findIn K (.ref CN) "__getattr__" = some none)
    (Ny3 : PySem.W.hasDictIn K CN = true)
    (Ny4 : PySem.W.findIn K (.ref CN) "__class__" = some (some (.builtin "object.__class__")))
    (Ny5 : PySem.W.specialIn K (.builtin "object.__class__") "__get__" = some (some (.builtin "getset_descriptor.__get__")))
    (Ny6 : PySem.W.takesIn K (.builtin "object.__class__") = some true)
    (Ny7 : PySem.W.mroIn K CN (.type "object") = some true)
    (kee : PySem.W.kitOne K (.ref CE) (.ref CE) = some true)
    (kes : PySem.W.kitOne K (.ref CE) (.ref CS) = some false)
    (ken : PySem.W.kitOne K (.ref CE) (.ref CN) = some false)
    (kem : PySem.W.kitOne K (.ref CE) (.ref CM) = some false)
    (kse : PySem.W.kitOne K (.ref CS) (.ref CE) = some false)
    (kss : PySem.W.kitOne K (.ref CS) (.ref CS) = some true)
    (ksn : PySem.W.kitOne K (.ref CS) (.ref CN) = some false)
    (ksm : PySem.W.kitOne K (.ref CS) (.ref CM) = some false)
    (kne : PySem.W.kitOne K (.ref CN) (.ref CE) = some false)
    (kns : PySem.W.kitOne K (.ref CN) (.ref CS) = some false)
    (knn : PySem.W.kitOne K (.ref CN) (.ref CN) = some true)
    (knm : PySem.W.kitOne K (.ref CN) (.ref CM) = some false)
    (T_is_integer : Top K "is_integer" st_is_integer)
    (T_is_within : Top K "is_within" st_is_within)
    (T_need_number : Top K "need_number" st_need_number)
    (T_are_signs : Top K "are_signs" st_are_signs)
    (T_is_replacing : Top K "is_replacing" st_is_replacing)
    (T__law_draw : Top K "_law_draw" st__law_draw)
    (T__law_one : Top K "_law_one" st__law_one)
    (T_need_replacing : Top K "need_replacing" st_need_replacing)
    (T_need_own : Top K "need_own" st_need_own)
    (T_need_all : Top K "need_all" st_need_all)
    (T_need_sign : Top K "need_sign" st_need_sign)
    (T_replaced_text : Top K "replaced_text" st_replaced_text)
    (T_alike_signs : Top K "alike_signs" st_alike_signs)
    (T_growing : Top K "growing" st_growing)
    (T_lengths_after : Top K "lengths_after" st_lengths_after)
    (T__law_feed : Top K "_law_feed" st__law_feed)
    (T_sign_after : Top K "sign_after" st_sign_after)
    (T_again : Top K "again" st_again)
    (T_grown : Top K "grown" st_grown)
    (T_stays : Top K "stays" st_stays)
    (T_sign_at : Top K "sign_at" st_sign_at)
    (T_alike_for_ever : Top K "alike_for_ever" st_alike_for_ever)
    (T__law_done : Top K "_law_done" st__law_done)
    (T__law_grown : Top K "_law_grown" st__law_grown)
    (T__law_times : Top K "_law_times" st__law_times)
    (T__law_image : Top K "_law_image" st__law_image)
    (T__law_replacing : Top K "_law_replacing" st__law_replacing)
    (T__law_known : Top K "_law_known" st__law_known)
    (T__law_way_down : Top K "_law_way_down" st__law_way_down)
    (T__law_asked : Top K "_law_asked" st__law_asked)
    (T__law_bad_replacing : Top K "_law_bad_replacing" st__law_bad_replacing)
    (T__law_second : Top K "_law_second" st__law_second)
    (T__law_numbers_right : Top K "_law_numbers_right" st__law_numbers_right)
    (T__law_growth_right : Top K "_law_growth_right" st__law_growth_right)
    (T_law : Top K "law" st_law)
    : ∃ fd : FuncData, (∀ (s : Shared) (v : Value), BindsTo s fd ⟨[v], []⟩ [("script", v)]) ∧ ∀ base : Heap, K.In base → base.Ns mainGlobals mg → FnOkG l.prog w K mg base 9 fa fd ["script"] (sp_law K) := by
  have M : Md K mg := ⟨PySem.W.mg_none_of X G n_ValueError, PySem.W.mg_none_of X G n_all, PySem.W.mg_none_of X G n_bool, PySem.W.mg_none_of X G n_dict, PySem.W.mg_none_of X G n_int, PySem.W.mg_none_of X G n_isinstance, PySem.W.mg_none_of X G n_len, PySem.W.mg_none_of X G n_list, PySem.W.mg_none_of X G n_max, PySem.W.mg_none_of X G n_min, PySem.W.mg_none_of X G n_range, PySem.W.mg_none_of X G n_repr, PySem.W.mg_none_of X G n_str, PySem.W.mg_none_of X G n_sum, PySem.W.mg_none_of X G n_tuple, PySem.W.mg_none_of X G n_zip, ⟨_, PySem.W.mg_of X G c_SIGNS⟩, ⟨_, PySem.W.mg_of X G c_MOST_LETTERS⟩, ⟨_, PySem.W.mg_of X G c_MOST_MADE⟩, ⟨_, PySem.W.mg_of X G c_MOST_TIMES⟩⟩
  have E_BadReplacing : Err K mg "BadReplacing" CE := ⟨PySem.W.mg_of X G aE, Ex1, Ex2, Ex3, Ex4⟩
  have E_BadSign : Err K mg "BadSign" CS := ⟨PySem.W.mg_of X G aS, Sx1, Sx2, Sx3, Sx4⟩
  have E_BadNumber : Err K mg "BadNumber" CN := ⟨PySem.W.mg_of X G aN, Nx1, Nx2, Nx3, Nx4⟩
  have EA : ErrA K mg CE CS CN CM CB := ⟨PySem.W.mg_of X G aB, PySem.W.exm_ref bx3 by3 bx4 ExB, PySem.W.exm_ref bx3 by3 bx4 SxB, PySem.W.exm_ref bx3 by3 bx4 NxB, ⟨Ey1, Ey2, Ex3, Ey3, Ey4, Ey5, Ey6, Ey7⟩, ⟨Sy1, Sy2, Sx3, Sy3, Sy4, Sy5, Sy6, Sy7⟩, ⟨Ny1, Ny2, Nx3, Ny3, Ny4, Ny5, Ny6, Ny7⟩, ⟨_, PySem.W.mg_of X G aE, rfl⟩, ⟨_, PySem.W.mg_of X G aS, rfl⟩, ⟨_, PySem.W.mg_of X G aN, rfl⟩, ⟨_, PySem.W.mg_of X G aM, rfl⟩, kee, kes, ken, kem, kse, kss, ksn, ksm, kne, kns, knn, knm⟩
  obtain ⟨f, oc, od, an, osl, kV, doc, pm, cdv, ct, a, lk, c, k⟩ := T_law
  have e := hfa.symm.trans (PySem.W.mg_of X G a)
  cases e
  have F := fun_mk (st := st_law) lk c k
  refine ⟨PySem.W.fnOf "law" "law" (defArgs st_law) (defBody st_law) (defScope st_law) .none kV doc pm an cdv ct, fun s v => .of_eq rfl, fun base _ _ => ?_⟩
  have C_is_integer : Cal l.prog w K mg base "is_integer" st_is_integer 1 ["thing"] sp_is_integer := T_is_integer.cal X G (fun _ _ _ _ _ _ us hl => match us, hl with | [_], _ => rfl) fun _ _ F => ok_is_integer F M
  have C_is_within : Cal l.prog w K mg base "is_within" st_is_within 2 ["thing", "least", "most"] sp_is_within := T_is_within.cal X G (fun _ _ _ _ _ _ us hl => match us, hl with | [_, _, _], _ => rfl) fun _ _ F => ok_is_within F M C_is_integer
  have S_need_number : CalS l.prog w K mg base "need_number" st_need_number 3 ["thing", "least", "most"] (sp_need_number CN) := T_need_number.calS X G (fun _ _ _ _ _ _ us hl => match us, hl with | [_, _, _], _ => rfl) fun _ _ F => ok_need_number F M E_BadNumber C_is_within
  have C_need_number : Cal l.prog w K mg base "need_number" st_need_number 3 ["thing", "least", "most"] (calm (sp_need_number CN)) := S_need_number.calm
  have C_are_signs : Cal l.prog w K mg base "are_signs" st_are_signs 1 ["thing", "most"] sp_are_signs := T_are_signs.cal X G (fun _ _ _ _ _ _ us hl => match us, hl with | [_, _], _ => rfl) fun _ _ F => ok_are_signs F M
  have C_is_replacing : Cal l.prog w K mg base "is_replacing" st_is_replacing 2 ["thing"] sp_is_replacing := T_is_replacing.cal X G (fun _ _ _ _ _ _ us hl => match us, hl with | [_], _ => rfl) fun _ _ F => ok_is_replacing F M C_are_signs
  have C__law_draw : Cal l.prog w K mg base "_law_draw" st__law_draw 1 ["feed", "many"] sp_draw := T__law_draw.cal X G (fun _ _ _ _ _ _ us hl => match us, hl with | [_, _], _ => rfl) fun _ _ F => ok__law_draw F M
  have C__law_one : Cal l.prog w K mg base "_law_one" st__law_one 2 ["feed", "things"] (sp_one K) := T__law_one.cal X G (fun _ _ _ _ _ _ us hl => match us, hl with | [_, _], _ => rfl) fun _ _ F => ok__law_one F M C__law_draw
  have S_need_replacing : CalS l.prog w K mg base "need_replacing" st_need_replacing 3 ["replacing"] (sp_need_replacing CE) := T_need_replacing.calS X G (fun _ _ _ _ _ _ us hl => match us, hl with | [_], _ => rfl) fun _ _ F => ok_need_replacing F M E_BadReplacing C_is_replacing
  have C_need_replacing : Cal l.prog w K mg base "need_replacing" st_need_replacing 3 ["replacing"] (calm (sp_need_replacing CE)) := S_need_replacing.calm
  have S_need_own : CalS l.prog w K mg base "need_own" st_need_own 4 ["replacing"] (sp_need_own CE) := T_need_own.calS X G (fun _ _ _ _ _ _ us hl => match us, hl with | [_], _ => rfl) fun _ _ F => ok_need_own F M E_BadReplacing S_need_replacing
  have C_need_own : Cal l.prog w K mg base "need_own" st_need_own 4 ["replacing"] (calm (sp_need_own CE)) := S_need_own.calm
  have S_need_all : CalS l.prog w K mg base "need_all" st_need_all 5 ["replacing"] (sp_need_all CE) := T_need_all.calS X G (fun _ _ _ _ _ _ us hl => match us, hl with | [_], _ => rfl) fun _ _ F => ok_need_all F M E_BadReplacing S_need_own
  have C_need_all : Cal l.prog w K mg base "need_all" st_need_all 5 ["replacing"] (calm (sp_need_all CE)) := S_need_all.calm
  have S_need_sign : CalS l.prog w K mg base "need_sign" st_need_sign 1 ["replacing", "sign"] (sp_need_sign CS) := T_need_sign.calS X G (fun _ _ _ _ _ _ us hl => match us, hl with | [_, _], _ => rfl) fun _ _ F => ok_need_sign F M E_BadSign
  have C_need_sign : Cal l.prog w K mg base "need_sign" st_need_sign 1 ["replacing", "sign"] (calm (sp_need_sign CS)) := S_need_sign.calm
  have C_replaced_text : Cal l.prog w K mg base "replaced_text" st_replaced_text 1 ["replacing", "text"] sp_replaced_text := T_replaced_text.cal X G (fun _ _ _ _ _ _ us hl => match us, hl with | [_, _], _ => rfl) fun _ _ F => ok_replaced_text F M
  have C_alike_signs : Cal l.prog w K mg base "alike_signs" st_alike_signs 1 ["one", "other"] sp_alike_signs := T_alike_signs.cal X G (fun _ _ _ _ _ _ us hl => match us, hl with | [_, _], _ => rfl) fun _ _ F => ok_alike_signs F M
  have C_growing : Cal l.prog w K mg base "growing" st_growing 1 ["replacing"] sp_growing := T_growing.cal X G (fun _ _ _ _ _ _ us hl => match us, hl with | [_], _ => rfl) fun _ _ F => ok_growing F M
  have C_lengths_after : Cal l.prog w K mg base "lengths_after" st_lengths_after 1 ["replacing", "times"] sp_lengths_after := T_lengths_after.cal X G (fun _ _ _ _ _ _ us hl => match us, hl with | [_, _], _ => rfl) fun _ _ F => ok_lengths_after F M
  have C__law_feed : Cal l.prog w K mg base "_law_feed" st__law_feed 1 ["script", "k"] (sp_feed K) := T__law_feed.cal X G (fun _ _ _ _ _ _ us hl => match us, hl with | [_, _], _ => rfl) fun _ _ F => ok__law_feed F M
  have C_sign_after : Cal l.prog w K mg base "sign_after" st_sign_after 2 ["replacing", "sign", "times", "place"] sp_sign_after := T_sign_after.cal X G (fun _ _ _ _ _ _ us hl => match us, hl with | [_, _, _, _], _ => rfl) fun _ _ F => ok_sign_after F M C_lengths_after
  have S_again : CalS l.prog w K mg base "again" st_again 5 ["replacing", "sign", "times"] (sp_again CE CS CN) := T_again.calS X G (fun _ _ _ _ _ _ us hl => match us, hl with | [_, _, _], _ => rfl) fun _ _ F => ok_again F M S_need_own S_need_sign S_need_number C_lengths_after
  have C_again : Cal l.prog w K mg base "again" st_again 5 ["replacing", "sign", "times"] (calm (sp_again CE CS CN)) := S_again.calm
  have C_grown : Cal l.prog w K mg base "grown" st_grown 2 ["replacing", "sign", "most"] sp_grown := T_grown.cal X G (fun _ _ _ _ _ _ us hl => match us, hl with | [_, _, _], _ => rfl) fun _ _ F => ok_grown F M C_replaced_text
  have S_stays : CalS l.prog w K mg base "stays" st_stays 6 ["replacing"] (sp_stays CE) := T_stays.calS X G (fun _ _ _ _ _ _ us hl => match us, hl with | [_], _ => rfl) fun _ _ F => ok_stays F M S_need_all C_growing
  have C_stays : Cal l.prog w K mg base "stays" st_stays 6 ["replacing"] (calm (sp_stays CE)) := S_stays.calm
  have S_sign_at : CalS l.prog w K mg base "sign_at" st_sign_at 5 ["replacing", "sign", "times", "place"] (sp_sign_at CE CS CN) := T_sign_at.calS X G (fun _ _ _ _ _ _ us hl => match us, hl with | [_, _, _, _], _ => rfl) fun _ _ F => ok_sign_at F M S_need_own S_need_sign S_need_number C_lengths_after C_sign_after
  have C_sign_at : Cal l.prog w K mg base "sign_at" st_sign_at 5 ["replacing", "sign", "times", "place"] (calm (sp_sign_at CE CS CN)) := S_sign_at.calm
  have S_alike_for_ever : CalS l.prog w K mg base "alike_for_ever" st_alike_for_ever 6 ["replacing", "other", "sign", "most"] (sp_alike_for_ever CE CS CN) := T_alike_for_ever.calS X G (fun _ _ _ _ _ _ us hl => match us, hl with | [_, _, _, _], _ => rfl) fun _ _ F => ok_alike_for_ever F M E_BadReplacing E_BadSign S_need_all S_need_sign S_need_number C_growing C_grown C_alike_signs
  have C_alike_for_ever : Cal l.prog w K mg base "alike_for_ever" st_alike_for_ever 6 ["replacing", "other", "sign", "most"] (calm (sp_alike_for_ever CE CS CN)) := S_alike_for_ever.calm
  have C__law_done : Cal l.prog w K mg base "_law_done" st__law_done 1 ["replacing", "text", "times"] sp_done := T__law_done.cal X G (fun _ _ _ _ _ _ us hl => match us, hl with | [_, _, _], _ => rfl) fun _ _ F => ok__law_done F M
  have C__law_grown : Cal l.prog w K mg base "_law_grown" st__law_grown 1 ["replacing", "sign", "most"] sp_law_grown := T__law_grown.cal X G (fun _ _ _ _ _ _ us hl => match us, hl with | [_, _, _], _ => rfl) fun _ _ F => ok__law_grown F M
  have C__law_times : Cal l.prog w K mg base "_law_times" st__law_times 1 ["replacing", "sign", "times"] sp_times := T__law_times.cal X G (fun _ _ _ _ _ _ us hl => match us, hl with | [_, _, _], _ => rfl) fun _ _ F => ok__law_times F M
  have C__law_image : Cal l.prog w K mg base "_law_image" st__law_image 3 ["feed", "signs", "head"] sp_image := T__law_image.cal X G (fun _ _ _ _ _ _ us hl => match us, hl with | [_, _, _], _ => rfl) fun _ _ F => ok__law_image F M C__law_one
  have C__law_replacing : Cal l.prog w K mg base "_law_replacing" st__law_replacing 4 ["feed", "many"] sp_replacing := T__law_replacing.cal X G (fun _ _ _ _ _ _ us hl => match us, hl with | [_, _], _ => rfl) fun _ _ F => ok__law_replacing F M C__law_draw C__law_image
  have C__law_known : Cal l.prog w K mg base "_law_known" st__law_known 1 ["replacing", "times"] sp_known := T__law_known.cal X G (fun _ _ _ _ _ _ us hl => match us, hl with | [_, _], _ => rfl) fun _ _ F => ok__law_known F M
  have C__law_way_down : Cal l.prog w K mg base "_law_way_down" st__law_way_down 3 ["feed", "replacing", "sign", "times", "known"] sp_way := T__law_way_down.cal X G (fun _ _ _ _ _ _ us hl => match us, hl with | [_, _, _, _, _], _ => rfl) fun _ _ F => ok__law_way_down F M C__law_one
  have C__law_asked : Cal l.prog w K mg base "_law_asked" st__law_asked 7 ["way", "parts"] (sp_asked CE CS CN) := T__law_asked.cal X G (fun _ _ _ _ _ _ us hl => match us, hl with | [_, _], _ => rfl) fun _ _ F => ok__law_asked F M EA S_again S_sign_at S_stays S_alike_for_ever
  have C__law_bad_replacing : Cal l.prog w K mg base "_law_bad_replacing" st__law_bad_replacing 3 ["feed", "replacing"] sp_bad := T__law_bad_replacing.cal X G (fun _ _ _ _ _ _ us hl => match us, hl with | [_, _], _ => rfl) fun _ _ F => ok__law_bad_replacing F M C__law_draw C__law_one
  have C__law_second : Cal l.prog w K mg base "_law_second" st__law_second 5 ["feed", "replacing"] sp_second := T__law_second.cal X G (fun _ _ _ _ _ _ us hl => match us, hl with | [_, _], _ => rfl) fun _ _ F => ok__law_second F M C__law_draw C__law_one C__law_done C__law_image C__law_replacing
  have C__law_numbers_right : CalG l.prog w K mg base "_law_numbers_right" st__law_numbers_right 8 ["feed"] sp_right := T__law_numbers_right.calG X G (fun _ _ _ _ _ _ us hl => match us, hl with | [_], _ => rfl) fun _ _ F => ok__law_numbers_right F M C__law_draw C__law_one C__law_replacing C__law_times C__law_done C__law_asked C_again C_sign_at C__law_known C__law_way_down C__law_bad_replacing
  have C__law_growth_right : CalG l.prog w K mg base "_law_growth_right" st__law_growth_right 8 ["feed"] sp_right := T__law_growth_right.calG X G (fun _ _ _ _ _ _ us hl => match us, hl with | [_], _ => rfl) fun _ _ F => ok__law_growth_right F M C__law_draw C__law_one C__law_replacing C__law_second C__law_asked C_stays C_alike_for_ever C__law_bad_replacing C__law_grown
  exact ok_law F M C__law_feed C__law_numbers_right C__law_growth_right
theorem walk {l : PySem.W.OpenLaw} {q : Program} {loose : List Str} {XP : (Str → Option Value) → Heap → Prop} {YP : World → Heap → Prop} {d : DefRec} {K : Params → PySem.W.Frag} (hn : l.most = some 63) (hdf : d.params.defaults = [])
    (hY : ∀ (w : World) (h : Heap), YP w h → (K w.params).In h)
    (F : ∀ (w : World) (mg : Str → Option Value) (fa : Addr) (h : Heap), (K w.params).In h → h.Ns mainGlobals mg → mg d.name = some (.ref fa) →
      ∃ fd : FuncData, (∀ (s : Shared) (u : Value), BindsTo s fd ⟨[u], []⟩ [("script", u)]) ∧ ∀ base : Heap, (K w.params).In base → base.Ns mainGlobals mg → FnOkG l.prog w (K w.params) mg base 9 fa fd ["script"] (sp_law (K w.params))) :
    PySem.W.WalkO q loose XP YP l.row.toRowW d [] (fun f vs => PySem.call f vs) :=
  Wg.walk_ofG (n := 63) (k := 9) (x := "script") (sp := fun w => sp_law (K w.params)) hn (by decide) hdf ⟨rfl, by decide, by decide⟩ hY F (fun _ _ a ns hl hb _ hS => ⟨a, ns, 1048576, rfl, hS, hl, by decide, by decide, fun z hz => PySem.intBits_le_iff.mp (hb z hz), fun _ => rfl⟩)
end K22
open PySem PySem.W PyProof.Rows
set_option maxRecDepth 100000 in
set_option maxHeartbeats 0 in
theorem PySem.Challenge.cw_wordscut_k22_whole_replaced_again_and_ag_holds : PySem.Challenge.rw_wordscut_k22_whole_replaced_again_and_ag.Holds := by
  w_on; o_law; k_head; (case hw => w_witness2)
  k_fill
  refine K22.walk (l := PySem.Challenge.rw_wordscut_k22_whole_replaced_again_and_ag) rfl rfl (fun w h Y => PySem.W.kIn_of Y) ?F
  case F =>
    intro w mg fa h KX G hmg
    refine' K22.all_mk KX G hmg ?n_ValueError ?n_all ?n_bool ?n_dict ?n_int ?n_isinstance ?n_len ?n_list ?n_max ?n_min ?n_range ?n_repr ?n_str ?n_sum ?n_tuple ?n_zip ?c_SIGNS ?c_MOST_LETTERS ?c_MOST_MADE ?c_MOST_TIMES ?aB ?aM ?bx3 ?bx4 ?by3 ?aE ?Ex1 ?Ex2 ?Ex3 ?Ex4 ?ExB ?Ey1 ?Ey2 ?Ey3 ?Ey4 ?Ey5 ?Ey6 ?Ey7 ?aS ?Sx1 ?Sx2 ?Sx3 ?Sx4 ?SxB ?Sy1 ?Sy2 ?Sy3 ?Sy4 ?Sy5 ?Sy6 ?Sy7 ?aN ?Nx1 ?Nx2 ?Nx3 ?Nx4 ?NxB ?Ny1 ?Ny2 ?Ny3 ?Ny4 ?Ny5 ?Ny6 ?Ny7 ?kee ?kes ?ken ?kem ?kse ?kss ?ksn ?ksm ?kne ?kns ?knn ?knm ?T_is_integer ?T_is_within ?T_need_number ?T_are_signs ?T_is_replacing ?T__law_draw ?T__law_one ?T_need_replacing ?T_need_own ?T_need_all ?T_need_sign ?T_replaced_text ?T_alike_signs ?T_growing ?T_lengths_after ?T__law_feed ?T_sign_after ?T_again ?T_grown ?T_stays ?T_sign_at ?T_alike_for_ever ?T__law_done ?T__law_grown ?T__law_times ?T__law_image ?T__law_replacing ?T__law_known ?T__law_way_down ?T__law_asked ?T__law_bad_replacing ?T__law_second ?T__law_numbers_right ?T__law_growth_right ?T_law
    (case n_ValueError => k_is)
    (case n_all => k_is)
    (case n_bool => k_is)
    (case n_dict => k_is)
    (case n_int => k_is)
    (case n_isinstance => k_is)
    (case n_len => k_is)
    (case n_list => k_is)
    (case n_max => k_is)
    (case n_min => k_is)
    (case n_range => k_is)
    (case n_repr => k_is)
    (case n_str => k_is)
    (case n_sum => k_is)
    (case n_tuple => k_is)
    (case n_zip => k_is)
    (case c_SIGNS => k_is)
    (case c_MOST_LETTERS => k_is)
    (case c_MOST_MADE => k_is)
    (case c_MOST_TIMES => k_is)
    (case aB => k_is)
    (case aM => k_is)
    (case bx3 => k_is)
    (case bx4 => k_is)
    (case by3 => k_is)
    (case aE => k_is)
    (case Ex1 => k_exc)
    (case Ex2 => k_is)
    (case Ex3 => k_is)
    (case Ex4 => k_is)
    (case ExB => k_is)
    (case Ey1 => k_is)
    (case Ey2 => k_is)
    (case Ey3 => k_is)
    (case Ey4 => k_is)
    (case Ey5 => k_is)
    (case Ey6 => k_is)
    (case Ey7 => k_is)
    (case aS => k_is)
    (case Sx1 => k_exc)
    (case Sx2 => k_is)
    (case Sx3 => k_is)
    (case Sx4 => k_is)
    (case SxB => k_is)
    (case Sy1 => k_is)
    (case Sy2 => k_is)
    (case Sy3 => k_is)
    (case Sy4 => k_is)
    (case Sy5 => k_is)
    (case Sy6 => k_is)
    (case Sy7 => k_is)
    (case aN => k_is)
    (case Nx1 => k_exc)
    (case Nx2 => k_is)
    (case Nx3 => k_is)
    (case Nx4 => k_is)
    (case NxB => k_is)
    (case Ny1 => k_is)
    (case Ny2 => k_is)
    (case Ny3 => k_is)
    (case Ny4 => k_is)
    (case Ny5 => k_is)
    (case Ny6 => k_is)
    (case Ny7 => k_is)
    (case kee => kit_is)
    (case kes => kit_is)
    (case ken => kit_is)
    (case kem => kit_is)
    (case kse => kit_is)
    (case kss => kit_is)
    (case ksn => kit_is)
    (case ksm => kit_is)
    (case kne => kit_is)
    (case kns => kit_is)
    (case knn => kit_is)
    (case knm => kit_is)
    (case T_is_integer => refine' K22.top_mk ?a ?l ?c ?k; (case a => k_is); (case l => k_is); (case c => k_is); (case k => k_is))
    (case T_is_within => refine' K22.top_mk ?a ?l ?c ?k; (case a => k_is); (case l => k_is); (case c => k_is); (case k => k_is))
    (case T_need_number => refine' K22.top_mk ?a ?l ?c ?k; (case a => k_is); (case l => k_is); (case c => k_is); (case k => k_is))
    (case T_are_signs => refine' K22.top_mk ?a ?l ?c ?k; (case a => k_is); (case l => k_is); (case c => k_is); (case k => k_is))
    (case T_is_replacing => refine' K22.top_mk ?a ?l ?c ?k; (case a => k_is); (case l => k_is); (case c => k_is); (case k => k_is))
    (case T__law_draw => refine' K22.top_mk ?a ?l ?c ?k; (case a => k_is); (case l => k_is); (case c => k_is); (case k => k_is))
    (case T__law_one => refine' K22.top_mk ?a ?l ?c ?k; (case a => k_is); (case l => k_is); (case c => k_is); (case k => k_is))
    (case T_need_replacing => refine' K22.top_mk ?a ?l ?c ?k; (case a => k_is); (case l => k_is); (case c => k_is); (case k => k_is))
    (case T_need_own => refine' K22.top_mk ?a ?l ?c ?k; (case a => k_is); (case l => k_is); (case c => k_is); (case k => k_is))
    (case T_need_all => refine' K22.top_mk ?a ?l ?c ?k; (case a => k_is); (case l => k_is); (case c => k_is); (case k => k_is))
    (case T_need_sign => refine' K22.top_mk ?a ?l ?c ?k; (case a => k_is); (case l => k_is); (case c => k_is); (case k => k_is))
    (case T_replaced_text => refine' K22.top_mk ?a ?l ?c ?k; (case a => k_is); (case l => k_is); (case c => k_is); (case k => k_is))
    (case T_alike_signs => refine' K22.top_mk ?a ?l ?c ?k; (case a => k_is); (case l => k_is); (case c => k_is); (case k => k_is))
    (case T_growing => refine' K22.top_mk ?a ?l ?c ?k; (case a => k_is); (case l => k_is); (case c => k_is); (case k => k_is))
    (case T_lengths_after => refine' K22.top_mk ?a ?l ?c ?k; (case a => k_is); (case l => k_is); (case c => k_is); (case k => k_is))
    (case T__law_feed => refine' K22.top_mk ?a ?l ?c ?k; (case a => k_is); (case l => k_is); (case c => k_is); (case k => k_is))
    (case T_sign_after => refine' K22.top_mk ?a ?l ?c ?k; (case a => k_is); (case l => k_is); (case c => k_is); (case k => k_is))
    (case T_again => refine' K22.top_mk ?a ?l ?c ?k; (case a => k_is); (case l => k_is); (case c => k_is); (case k => k_is))
    (case T_grown => refine' K22.top_mk ?a ?l ?c ?k; (case a => k_is); (case l => k_is); (case c => k_is); (case k => k_is))
    (case T_stays => refine' K22.top_mk ?a ?l ?c ?k; (case a => k_is); (case l => k_is); (case c => k_is); (case k => k_is))
    (case T_sign_at => refine' K22.top_mk ?a ?l ?c ?k; (case a => k_is); (case l => k_is); (case c => k_is); (case k => k_is))
    (case T_alike_for_ever => refine' K22.top_mk ?a ?l ?c ?k; (case a => k_is); (case l => k_is); (case c => k_is); (case k => k_is))
    (case T__law_done => refine' K22.top_mk ?a ?l ?c ?k; (case a => k_is); (case l => k_is); (case c => k_is); (case k => k_is))
    (case T__law_grown => refine' K22.top_mk ?a ?l ?c ?k; (case a => k_is); (case l => k_is); (case c => k_is); (case k => k_is))
    (case T__law_times => refine' K22.top_mk ?a ?l ?c ?k; (case a => k_is); (case l => k_is); (case c => k_is); (case k => k_is))
    (case T__law_image => refine' K22.top_mk ?a ?l ?c ?k; (case a => k_is); (case l => k_is); (case c => k_is); (case k => k_is))
    (case T__law_replacing => refine' K22.top_mk ?a ?l ?c ?k; (case a => k_is); (case l => k_is); (case c => k_is); (case k => k_is))
    (case T__law_known => refine' K22.top_mk ?a ?l ?c ?k; (case a => k_is); (case l => k_is); (case c => k_is); (case k => k_is))
    (case T__law_way_down => refine' K22.top_mk ?a ?l ?c ?k; (case a => k_is); (case l => k_is); (case c => k_is); (case k => k_is))
    (case T__law_asked => refine' K22.top_mk ?a ?l ?c ?k; (case a => k_is); (case l => k_is); (case c => k_is); (case k => k_is))
    (case T__law_bad_replacing => refine' K22.top_mk ?a ?l ?c ?k; (case a => k_is); (case l => k_is); (case c => k_is); (case k => k_is))
    (case T__law_second => refine' K22.top_mk ?a ?l ?c ?k; (case a => k_is); (case l => k_is); (case c => k_is); (case k => k_is))
    (case T__law_numbers_right => refine' K22.top_mk ?a ?l ?c ?k; (case a => k_is); (case l => k_is); (case c => k_is); (case k => k_is))
    (case T__law_growth_right => refine' K22.top_mk ?a ?l ?c ?k; (case a => k_is); (case l => k_is); (case c => k_is); (case k => k_is))
    (case T_law => refine' K22.top_mk ?a ?l ?c ?k; (case a => k_is); (case l => k_is); (case c => k_is); (case k => k_is))
