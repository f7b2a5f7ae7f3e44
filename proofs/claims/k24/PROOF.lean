import PyProof.Rows.All
import Wide.All
import OpenK.AllK
import Wide.FinOn
import HandS.ForMost
import HandS.Walk
import HandS.IsInst
import HandS.Gcd
import HandS.Wide
import HandS.StrMore
import HandS.Codes
import HandS.EndBits
import HandS.TryOnly
import HandS.Style
import HandS.SortKw
import HandS.TupAny
import KE.SortKeyHeap
import KE.SortData
import HandS.Evl
import HandS.Set
import HandS.SetFor
import KE.GoesEnum
import HandS.Zip
import HandS.Strs
import HandS.TupLe
import PyProof.ReprRoads
import HandS.RevRange
import HandS.ForExc
import HandS.ExcIs
import HandS.Dict
import HandS.DictComp
import HandS.Conv
import HandS.More
import HandS.SortInts
import HandS.SetBool
import PyProof.TupleOfSeq
import HandS.Replace
import HandS.TupMul
import KE.KRevSl
import KE.IntBitsLaws
import KE.RegKIsAll
import PySem.Challenge.RW_wordscut_k24_lengths_of_lists_and_texts
set_option Elab.async false
set_option linter.all false
set_option maxRecDepth 100000
set_option maxHeartbeats 2000000
/-! rules over texts as lists of code points; called defs as bundles -/
namespace Wc
open PySem PySem.Spec PyProof.Rows L2

abbrev Tx := List Nat
/-- a text as a value -/
abbrev T (l : Tx) : V := .str (SX.S l)
theorem T_inj {a b : Tx} (h : T a = T b) : a = b := SX.S_inj (V.str.inj h)
theorem T_str (x : Str) : V.str x = T x.cps.toList := congrArg V.str (SX.S_tl x).symm
theorem dec_T (a b : Tx) : decide (T a = T b) = decide (a = b) := by
  by_cases h : a = b
  · subst h
    rw [decide_eq_true rfl, decide_eq_true rfl]
  · rw [decide_eq_false h, decide_eq_false fun e => h (T_inj e)]
theorem S_length (a : Tx) : (SX.S a).length = a.length := SX.S_len a

/-- text + text -/
def rAddT : R2 := fun x y H Q => ∃ a b : Tx, x = T a ∧ y = T b ∧ a.length + b.length ≤ 16777216 ∧ Q (T (a ++ b)) H
theorem op_addT {X : Cx} : OpR X (binaryOp .Add) rAddT := by
  intro pins s σ H x y v u Q I rx ry h
  obtain ⟨a, b, rfl, rfl, hl, q⟩ := h
  refine op_add_str pins s σ H _ _ v u Q I rx ry ⟨_, _, rfl, rfl, ?_, ?_⟩
  · rw [S_length, S_length]
    exact hl
  · rw [SX.S_cat]
    exact q
/-- text * int -/
def repT (n : Nat) (a : Tx) : Tx := (List.replicate n a).flatten
theorem repT_zero (a : Tx) : repT 0 a = [] := rfl
theorem repT_succ (n : Nat) (a : Tx) : repT (n + 1) a = a ++ repT n a := by
  unfold repT
  rw [List.replicate_succ, List.flatten_cons]
theorem repT_len (n : Nat) (a : Tx) : (repT n a).length = n * a.length := by
  induction n with
  | zero => simp [repT]
  | succ n ih => rw [repT_succ, List.length_append, ih, Nat.succ_mul]; omega
theorem fold_app : ∀ (l : List (Array Nat)) (acc : Array Nat), (l.foldl (· ++ ·) acc).toList = acc.toList ++ (l.map Array.toList).flatten
  | [], acc => by simp
  | x :: l, acc => by
    show (l.foldl (· ++ ·) (acc ++ x)).toList = _
    rw [fold_app l (acc ++ x)]
    simp
theorem mul_S (a : Tx) (n : Int) : Txt.mul (SX.S a) n = SX.S (repT n.toNat a) := by
  unfold Txt.mul
  by_cases h1 : n < 1
  · rw [if_pos h1]
    have e : n.toNat = 0 := by omega
    rw [e]
    rfl
  · rw [if_neg h1]
    by_cases h2 : (n == 1 || (SX.S a).length == 0) = true
    · rw [if_pos h2]
      rw [Bool.or_eq_true] at h2
      rcases h2 with h2 | h2
      · have e : n.toNat = 1 := by
          have := eq_of_beq h2
          omega
        rw [e]
        simp [repT]
      · have e := eq_of_beq h2
        rw [S_length] at e
        have e2 := List.length_eq_zero_iff.mp e
        subst e2
        have : repT n.toNat [] = [] := List.length_eq_zero_iff.mp (by rw [repT_len]; simp)
        rw [this]
    · rw [if_neg h2]
      refine TL.ext_tl ?_
      show (List.foldl (· ++ ·) #[] (List.replicate n.toNat a.toArray)).toList = repT n.toNat a
      rw [fold_app]
      simp [repT, List.map_replicate]
def rMulT : R2 := fun x y H Q => ∃ (a : Tx) (n : Int), x = T a ∧ y = .int n ∧ -1000000000 ≤ n ∧ n ≤ 1000000000 ∧ a.length * n.toNat ≤ 16777216 ∧ Q (T (repT n.toNat a)) H
theorem mulOk {a : Tx} {n : Int} (h0 : -1000000000 ≤ n) (h1 : n ≤ 1000000000) (h : a.length * n.toNat ≤ 16777216) : MulOk (SX.S a) n := by
  refine ⟨?_, fun hn _ => ?_, fun hn _ => ?_⟩
  · rw [Bool.or_eq_false_iff]
    exact ⟨decide_eq_false (by omega), decide_eq_false (by omega)⟩
  · rw [S_length]
    intro hgt
    have h2 : (a.length : Int) ≤ 16777216 := by
      have : a.length * 1 ≤ a.length * n.toNat := Nat.mul_le_mul_left _ (by omega)
      omega
    have h3 : (16777216 : Int) ≤ (2 ^ 63 - 1) / n := by
      rw [Int.le_ediv_iff_mul_le (by omega)]
      have : (16777216 : Int) * n ≤ 16777216 * 1000000000 := Int.mul_le_mul_of_nonneg_left h1 (by decide)
      omega
    omega
  · rw [S_length]
    unfold Builtin.Str.tooLong
    have : ¬ (a.length * n.toNat > 16777216) := by omega
    exact decide_eq_false (by first | exact this | (simp; omega))
theorem op_mulT {X : Cx} : OpR X (binaryOp .Mult) rMulT := by
  intro pins s σ H x y v u Q I rx ry h
  obtain ⟨a, n, rfl, rfl, h0, h1, hl, q⟩ := h
  obtain ⟨t, rfl⟩ := rx
  obtain ⟨t', rfl⟩ := ry
  refine SB.mul (mulOk h0 h1 hl) fun t2 k => ?_
  rw [mul_S]
  exact ⟨T (repT n.toNat a), H, I.tok _, ⟨_, rfl⟩, q⟩

/-! ### subscripts, slices, length, comparisons -/
def rIxT : R2 := fun x y H Q => ∃ (a : Tx) (i : Int) (c : Nat), x = T a ∧ y = .int i ∧ a.length ≤ 16777216 ∧ atI a i = some c ∧ Q (T [c]) H
theorem ix_T {X : Cx} : IxR X rIxT := by
  intro value slice pins s σ H x y v u Q I rx ry h hs
  obtain ⟨a, i, c, rfl, rfl, hl, ha, q⟩ := h
  exact ix_str value slice pins s σ H _ _ v u Q I rx ry ⟨_, i, c, rfl, rfl, by rw [S_length]; exact hl, ha, q⟩ hs
def cutT (a : Tx) (lo hi : Option Int) : Tx := (a.drop (HT.sIx a.length 0 lo)).take (HT.sIx a.length a.length hi - HT.sIx a.length 0 lo)
theorem cutS_T (a : Tx) (lo hi : Option Int) : cutS (SX.S a) lo hi = SX.S (cutT a lo hi) := by
  unfold cutS cutT
  rw [S_length]
def rSlT : V → Option Int → Option Int → Hp → VK → Prop := fun x lo hi H Q => ∃ a : Tx, x = T a ∧ a.length ≤ 16777216 ∧ Q (T (cutT a lo hi)) H
theorem sl_T {X : Cx} : SlR X rSlT := by
  intro pins s σ H x v vl vu lo hi sl Q I rx hs pl pu h
  obtain ⟨a, rfl, hl, q⟩ := h
  refine sl_str pins s σ H _ v vl vu lo hi sl Q I rx hs pl pu ⟨_, rfl, by rw [S_length]; exact hl, ?_⟩
  rw [cutS_T]
  exact q
theorem cutT_to (a : Tx) (n : Nat) : cutT a none (some (n : Int)) = a.take n := by
  unfold cutT
  rw [HT.sIx_none, HT.sIx_nat, List.drop_zero, Nat.sub_zero]
  by_cases h : n ≤ a.length
  · rw [Nat.min_eq_left h]
  · rw [Nat.min_eq_right (by omega), List.take_of_length_le (Nat.le_refl _), List.take_of_length_le (by omega)]
theorem cutT_from (a : Tx) (n : Nat) : cutT a (some (n : Int)) none = a.drop n := by
  unfold cutT
  rw [HT.sIx_none, HT.sIx_nat]
  by_cases h : n ≤ a.length
  · rw [Nat.min_eq_left h]
    exact List.take_of_length_le (by rw [List.length_drop]; exact Nat.le_refl _)
  · rw [Nat.min_eq_right (by omega), List.drop_eq_nil_of_le (Nat.le_refl _), List.drop_eq_nil_of_le (by omega), List.take_nil]
theorem cutT_mid (a : Tx) (m n : Nat) : cutT a (some (m : Int)) (some (n : Int)) = (a.drop m).take (n - m) := by
  unfold cutT
  rw [HT.sIx_nat, HT.sIx_nat]
  by_cases h : m ≤ a.length
  · rw [Nat.min_eq_left h]
    by_cases h2 : n ≤ a.length
    · rw [Nat.min_eq_left h2]
    · rw [Nat.min_eq_right (by omega), List.take_of_length_le (by rw [List.length_drop]; exact Nat.le_refl _), List.take_of_length_le (by rw [List.length_drop]; omega)]
  · rw [Nat.min_eq_right (show a.length ≤ m by omega), List.drop_eq_nil_of_le (Nat.le_refl _), List.drop_eq_nil_of_le (show a.length ≤ m by omega), List.take_nil, List.take_nil]
/-- without the last so many -/
theorem cutT_but (a : Tx) (k : Nat) : cutT a none (some (-((k : Int) + 1))) = a.take (a.length - (k + 1)) := by
  unfold cutT
  rw [HT.sIx_none, List.drop_zero, Nat.sub_zero]
  have e : HT.sIx a.length a.length (some (-((k : Int) + 1))) = a.length - (k + 1) := by
    show (if (-((k : Int) + 1)) < 0 then ((-((k : Int) + 1)) + (a.length : Int)).toNat else min (-((k : Int) + 1)).toNat a.length) = _
    rw [if_pos (by omega)]
    omega
  rw [e]
/-- the last so many -/
theorem cutT_last (a : Tx) (k : Nat) : cutT a (some (-((k : Int) + 1))) none = a.drop (a.length - (k + 1)) := by
  unfold cutT
  rw [HT.sIx_none]
  have e : HT.sIx a.length 0 (some (-((k : Int) + 1))) = a.length - (k + 1) := by
    show (if (-((k : Int) + 1)) < 0 then ((-((k : Int) + 1)) + (a.length : Int)).toNat else min (-((k : Int) + 1)).toNat a.length) = _
    rw [if_pos (by omega)]
    omega
  rw [e]
  exact List.take_of_length_le (by rw [List.length_drop]; exact Nat.le_refl _)
theorem cutT_len (a : Tx) (lo hi : Option Int) : (cutT a lo hi).length ≤ a.length := by
  unfold cutT
  rw [List.length_take, List.length_drop]
  omega
theorem cutT_mem {a : Tx} {lo hi : Option Int} {c : Nat} (h : c ∈ cutT a lo hi) : c ∈ a := List.mem_of_mem_drop (List.mem_of_mem_take h)
def rLenT : List V → Hp → VK → Prop := fun vs H Q => ∃ a : Tx, vs = [T a] ∧ a.length ≤ 16777216 ∧ Q (.int (a.length : Int)) H
theorem cr_lenT {X : Cx} : CallR X (.builtin "len") rLenT := by
  intro pins s σ H vs us Q I r h
  obtain ⟨a, rfl, hl, q⟩ := h
  refine call_len_str pins s σ H _ us Q I r ⟨_, rfl, by rw [S_length]; exact hl, ?_⟩
  rw [S_length]
  exact q
def rEqT : R2 := fun x y H Q => ∃ a b : Tx, x = T a ∧ y = T b ∧ Q (.bl (decide (a = b))) H
theorem op_eqT {X : Cx} : OpR X (compareOp .Eq) rEqT := by
  intro pins s σ H x y v u Q I rx ry h
  obtain ⟨a, b, rfl, rfl, q⟩ := h
  refine op_eq pins s σ H _ _ v u Q I rx ry ⟨rfl, ?_⟩
  rw [dec_T]
  exact q
def rNeT : R2 := fun x y H Q => ∃ a b : Tx, x = T a ∧ y = T b ∧ Q (.bl (!decide (a = b))) H
theorem op_neT {X : Cx} : OpR X (compareOp .NotEq) rNeT := by
  intro pins s σ H x y v u Q I rx ry h
  obtain ⟨a, b, rfl, rfl, q⟩ := h
  refine op_ne pins s σ H _ _ v u Q I rx ry ⟨rfl, ?_⟩
  rw [dec_T]
  exact q
theorem dec_int (i j : Int) : decide (V.int i = V.int j) = decide (i = j) := by
  by_cases h : i = j
  · subst h
    rw [decide_eq_true rfl, decide_eq_true rfl]
  · rw [decide_eq_false h, decide_eq_false fun e => h (V.int.inj e)]
theorem dec_bl (i j : Bool) : decide (V.bl i = V.bl j) = decide (i = j) := by
  cases i <;> cases j <;> decide
theorem op_eqI {X : Cx} : OpR X (compareOp .Eq) (rI0 fun i j => .bl (decide (i = j))) := by
  intro pins s σ H x y v u Q I rx ry h
  obtain ⟨i, j, rfl, rfl, q⟩ := h
  refine op_eq pins s σ H _ _ v u Q I rx ry ⟨rfl, ?_⟩
  rw [dec_int]
  exact q
theorem op_neI {X : Cx} : OpR X (compareOp .NotEq) (rI0 fun i j => .bl (!decide (i = j))) := by
  intro pins s σ H x y v u Q I rx ry h
  obtain ⟨i, j, rfl, rfl, q⟩ := h
  refine op_ne pins s σ H _ _ v u Q I rx ry ⟨rfl, ?_⟩
  rw [dec_int]
  exact q
def rB0 (g : Bool → Bool → Bool) : R2 := fun x y H Q => ∃ i j, x = .bl i ∧ y = .bl j ∧ Q (.bl (g i j)) H
theorem op_eqB {X : Cx} : OpR X (compareOp .Eq) (rB0 fun i j => decide (i = j)) := by
  intro pins s σ H x y v u Q I rx ry h
  obtain ⟨i, j, rfl, rfl, q⟩ := h
  refine op_eq pins s σ H _ _ v u Q I rx ry ⟨rfl, ?_⟩
  rw [dec_bl]
  exact q
def rInT : R2 := fun x y H Q => ∃ (c : Nat) (z : Tx), x = T [c] ∧ y = T z ∧ Q (.bl (decide (c ∈ z))) H
theorem op_inT {X : Cx} : OpR X (compareOp .In) rInT := by
  intro pins s σ H x y v u Q I rx ry h
  obtain ⟨c, z, rfl, rfl, q⟩ := h
  exact op_in_sign pins s σ H _ _ v u Q I rx ry ⟨c, SX.S z, rfl, rfl, q⟩
def rLtT : R2 := fun x y H Q => ∃ a b : Tx, x = T a ∧ y = T b ∧ Q (.bl (decide (a < b))) H
theorem op_ltT' {X : Cx} : OpR X (compareOp .Lt) rLtT := by
  intro pins s σ H x y v u Q I rx ry h
  obtain ⟨a, b, rfl, rfl, q⟩ := h
  exact op_lt_str pins s σ H _ _ v u Q I rx ry ⟨_, _, rfl, rfl, q⟩
/-! ### % and // by a positive number -/
theorem op_modP {X : Cx} : OpR X (binaryOp .Mod) (rI (fun _ j => 0 < j) fun i j => .int (i % j)) := op_mod
/-- * of any two whose bits together are below the line -/
def CMulB (i j : Int) : Prop := i.natAbs.log2 + j.natAbs.log2 < 100000000
theorem CMulB.ok {i j : Int} (h : CMulB i j) : IntMulOk i j := by
  have b : ∀ x : Int, Builtin.Int.intBits x ≤ x.natAbs.log2 + 1 := fun x => by
    unfold Builtin.Int.intBits
    split <;> omega
  have h1 := b i
  have h2 := b j
  have h3 : i.natAbs.log2 + j.natAbs.log2 < 100000000 := h
  have e : bitsLine = 134217728 := by decide
  unfold IntMulOk
  intro z
  rw [Bool.and_eq_true] at z
  have z2 := z.2
  unfold Builtin.Int.intTooBig at z2
  have z3 := of_decide_eq_true z2
  rw [e] at z3
  omega
theorem op_mulB {X : Cx} : OpR X (binaryOp .Mult) (rI CMulB fun i j => .int (i * j)) := opI fun _ _ _ _ _ _ _ hc q => mul_int q hc.ok
theorem mulB {i j : Int} {a b : Nat} (ha : i.natAbs < 2 ^ a) (hb : j.natAbs < 2 ^ b) (h0 : 0 < a) (h1 : 0 < b) (h : a + b ≤ 100000000) : CMulB i j := by
  have x := PySem.Flt.log2_lt_of h0 ha
  have y := PySem.Flt.log2_lt_of h1 hb
  unfold CMulB
  omega
/-! ### str.join, find, startswith -/
def rJoinT (K : PySem.W.Frag) : V → List V → Hp → VK → Prop := fun x xs H Q => ∃ (a : Tx) (p : Addr) (ys : List Tx), x = T a ∧ xs = [.ref p] ∧ (SqL K H p (ys.map T) ∨ SqT K H p (ys.map T)) ∧ (ys.map List.length).sum + ys.length * a.length ≤ 16777216 ∧ Q (T (TL.joinL a ys)) H
theorem mt_joinT {X : Cx} : MtR X "str.join" (rJoinT X.K) := by
  intro pins s σ H x xs v us Q I rx r h
  obtain ⟨a, p, ys, rfl, rfl, hs, hl, q⟩ := h
  have em : ys.map T = (ys.map SX.S).map V.str := by rw [List.map_map]; rfl
  rw [em] at hs
  refine mt_join pins s σ H _ _ v us Q I rx r ⟨_, p, ys.map SX.S, rfl, rfl, hs, ?_, ?_⟩
  · rw [SX.lens, List.length_map, S_length]
    exact hl
  · rw [SX.join_S]
    exact q
theorem joinL_nil : ∀ ys : List Tx, TL.joinL [] ys = ys.flatten
  | [] => rfl
  | [p] => by simp [TL.joinL]
  | p :: q :: r => by
    show p ++ ([] ++ TL.joinL [] (q :: r)) = _
    rw [joinL_nil (q :: r)]
    rfl
/-- b stands in a at i -/
abbrev StAt (a b : Tx) (i : Nat) : Prop := (a.drop i).take b.length = b
theorem subAt_T (a b : Tx) (i : Nat) : Builtin.Str.subAt (SX.S a) (SX.S b) i = decide (StAt a b i) := by
  rw [StrLaws.subAt_eq, S_length]
  show ((a.drop i).take b.length == b) = decide _
  by_cases h : StAt a b i
  · rw [decide_eq_true h]
    exact beq_iff_eq.mpr h
  · rw [decide_eq_false h]
    exact beq_eq_false_iff_ne.mpr h
/-- where b stands first in a, from i on -/
inductive FindT (a b : Tx) (i : Nat) : Int → Prop where
  | at_ (k : Nat) : i ≤ k → k + b.length ≤ a.length → StAt a b k → (∀ j, i ≤ j → j < k → ¬ StAt a b j) → FindT a b i (k : Int)
  | no : (∀ j, i ≤ j → j + b.length ≤ a.length → ¬ StAt a b j) → FindT a b i (-1)
theorem fromIndex_nat (n i : Nat) : fromIndex n (i : Int) = i := by
  unfold fromIndex
  rw [if_neg (by omega)]
  omega
theorem range'_pre {s n : Nat} {pre post : List Nat} {a : Nat} (h : List.range' s n = pre ++ a :: post) : s ≤ a ∧ ∀ k, s ≤ k → k < a → k ∈ pre := by
  have hl : n = pre.length + (post.length + 1) := by
    have e := congrArg List.length h
    simpa using e
  have ha : s + pre.length = a := by
    have h1 : (List.range' s n)[pre.length]? = some a := by rw [h]; simp
    rw [List.getElem?_range' (by omega)] at h1
    have := Option.some.inj h1
    omega
  refine ⟨by omega, fun k h1 h2 => ?_⟩
  have h3 : (List.range' s n)[k - s]? = some k := by
    rw [List.getElem?_range' (by omega)]
    congr 1
    omega
  rw [h, List.getElem?_append_left (by omega)] at h3
  exact List.mem_of_getElem? h3
theorem find3_spec (a b : Tx) (i : Nat) : FindT a b i (Txt.find3 (SX.S a) (SX.S b) (i : Int)) := by
  have hAt : ∀ j, StrLaws.At (SX.S a) (SX.S b) a.length j ↔ (j + b.length ≤ a.length ∧ StAt a b j) := fun j => by
    unfold StrLaws.At
    rw [subAt_T, S_length, decide_eq_true_eq]
  unfold Txt.find3
  rw [S_length, fromIndex_nat, StrLaws.occ_eq]
  rcases StrLaws.occ_first (SX.S a) (SX.S b) a.length 1 (Nat.le_refl _) (List.range' i (a.length + 1 - i)) i (fun k hk => (List.mem_range'_1.mp hk).1) with ⟨h0, hn⟩ | ⟨pre, k, post, e, h0, hk, hn⟩
  · rw [h0]
    refine .no fun j h1 h2 h3 => hn j ?_ ((hAt j).mpr ⟨h2, h3⟩)
    exact List.mem_range'_1.mpr ⟨h1, by omega⟩
  · have hp := range'_pre e
    have hk' := (hAt k).mp hk
    generalize hL : (forIn (List.range' i (a.length + 1 - i)) ((#[] : Array Nat), i) (StrLaws.occBody (SX.S a) (SX.S b) a.length 1)).run.fst = L at h0 ⊢
    have e2 : ∃ r, L.toList = k :: r := by
      have h1 : L.toList[0]? = some k := by rw [Array.getElem?_toList]; exact h0
      cases hh : L.toList with
      | nil => rw [hh] at h1; simp at h1
      | cons y r => rw [hh] at h1; exact ⟨r, by rw [show y = k from Option.some.inj h1]⟩
    obtain ⟨r, e2⟩ := e2
    rw [e2]
    exact .at_ k hp.1 hk'.1 hk'.2 fun j h1 h2 h3 => hn j (hp.2 j h1 h2) ((hAt j).mpr ⟨by omega, h3⟩)
def rFind3T : V → List V → Hp → VK → Prop := fun x xs H Q => ∃ (a b : Tx) (i : Nat), x = T a ∧ xs = [T b, .int (i : Int)] ∧ ∀ r, FindT a b i r → Q (.int r) H
theorem mt_find3T {X : Cx} : MtR X "str.find" rFind3T := by
  intro pins s σ H x xs v us Q I rx r h
  obtain ⟨a, b, i, rfl, rfl, q⟩ := h
  exact mt_find3 pins s σ H _ _ v us Q I rx r ⟨_, _, _, rfl, rfl, q _ (find3_spec a b i)⟩
def rFindT : V → List V → Hp → VK → Prop := fun x xs H Q => ∃ (a b : Tx), x = T a ∧ xs = [T b] ∧ ∀ r, FindT a b 0 r → Q (.int r) H
theorem find_spec (a b : Tx) : FindT a b 0 (Txt.find (SX.S a) (SX.S b)) := by
  have h := find3_spec a b 0
  unfold Txt.find3 at h
  rw [S_length, fromIndex_nat] at h
  unfold Txt.find
  rw [S_length]
  exact h
theorem mt_findT {X : Cx} : MtR X "str.find" rFindT := by
  intro pins s σ H x xs v us Q I rx r h
  obtain ⟨a, b, rfl, rfl, q⟩ := h
  exact mt_find pins s σ H _ _ v us Q I rx r ⟨_, _, rfl, rfl, q _ (find_spec a b)⟩
def rStart3T : V → List V → Hp → VK → Prop := fun x xs H Q => ∃ (a b : Tx) (i : Nat), x = T a ∧ xs = [T b, .int (i : Int)] ∧ Q (.bl (decide (i + b.length ≤ a.length ∧ StAt a b i))) H
theorem mt_start3T {X : Cx} : MtR X "str.startswith" rStart3T := by
  intro pins s σ H x xs v us Q I rx r h
  obtain ⟨a, b, i, rfl, rfl, q⟩ := h
  refine mt_startswith3 pins s σ H _ _ v us Q I rx r ⟨_, _, _, rfl, rfl, ?_⟩
  unfold Txt.startswith3
  rw [S_length, S_length, fromIndex_nat, subAt_T, ← Bool.decide_and]
  exact q
end Wc
set_option Elab.async false
set_option linter.all false
set_option maxRecDepth 100000
set_option maxHeartbeats 2000000
namespace Wc
open PySem PySem.Spec PyProof.Rows L2
/-! ### constants -/
theorem pe_sT {X : Cx} (l : Tx) {x : Str} {j pos} (e : x = SX.S l := by decide +kernel) : PE X (.Constant (.str x) j pos) (tC (T l)) := by
  rw [e]
  exact pe_str
theorem pe_gT {X : Cx} {x : Str} {z : Str} {pos : Pos} (h : ∃ t, X.mg x = some (.str z t)) (l : Tx) (hg : Gl X x := by rfl) (e : z = SX.S l := by decide +kernel) (hd : (x == ("__debug__" : Str)) = false := by decide) : PE X (.Name x pos) (tC (T l)) := by
  obtain ⟨t, h⟩ := h
  subst e
  exact pe_glob hg h ⟨t, rfl⟩ hd
theorem pe_gI {X : Cx} {x : Str} {i : Int} {pos : Pos} (h : ∃ t, X.mg x = some (.int i t)) (hg : Gl X x := by rfl) (hd : (x == ("__debug__" : Str)) = false := by decide) : PE X (.Name x pos) (tC (.int i)) := by
  obtain ⟨t, h⟩ := h
  exact pe_glob hg h ⟨t, rfl⟩ hd
/-! ### a def that is called -/
structure Cal (P : Program) (w : World) (K : PySem.W.Frag) (mg : Str → Option Value) (base : Heap) (x : Str) (st : Stmt) (k : Nat) (ps : List Str) (sp : Sp) : Prop where
  ex : ∃ f fd, FnOk P w K mg base CX0 k f fd ps sp ∧ mg x = some (.ref f) ∧ Fun K x x st f fd ∧ Binds K fd ps []
section
variable {X : Cx} {x : Str} {st : Stmt} {k n : Nat} {ps ks : List Str} {sp : Sp} {p pos : Pos} {e : Expr} {es : List Expr} {kws : List Keyword} {t tk : TA}
theorem pe_cl (C : Cal X.prog X.w X.K X.mg X.base x st k ps sp) (hr : Room n X.A) (ha : PA X (e :: es) t) (hkn : k ≤ n := by decide) (hg : Gl X x := by rfl) (hdb : (x == ("__debug__" : Str)) = false := by decide)
    (he : starEach (e :: es) X.env = (false, eval e X.env) :: starEach es X.env := by rfl) (hpl : (backTo pos (starEach es X.env)).any (·.1) = false := by rfl) : PE X (.Call (.Name x p) (e :: es) [] pos) (tCall sp [] E0 t) := by
  obtain ⟨f, fd, F, hm, hF, hb⟩ := C.ex
  exact pe_call F (hr.mono hkn) hg hm hF.kp hb .nil pass0 ha hdb he hpl
theorem pe_cl0 (C : Cal X.prog X.w X.K X.mg X.base x st k ps sp) (hr : Room n X.A) (hkn : k ≤ n := by decide) (hg : Gl X x := by rfl) (hdb : (x == ("__debug__" : Str)) = false := by decide) : PE X (.Call (.Name x p) [] [] pos) (tCall sp [] E0 tNil) := by
  obtain ⟨f, fd, F, hm, hF, hb⟩ := C.ex
  exact pe_call0 F (hr.mono hkn) hg hm hF.kp hb .nil pass0 hdb
/-- the values of the parameters out of the named ones -/
def KB (x : Str) (st : Stmt) (n : Nat) (ps ks : List Str) (g : List Value → List Value → List Value) (gV : List V → List V → List V) : Prop :=
  ∀ (K : PySem.W.Frag) (f : Addr) (fd : FuncData), Fun K x x st f fd → KBinds K fd ps ks g gV
def tCallK0 (sp : Sp) (gV : List V → List V → List V) (tk : TA) : TE := fun σ H Q => tk σ H fun zs H2 => sp (gV [] zs) H2 Q E0
theorem pe_clK0 {g : List Value → List Value → List Value} {gV : List V → List V → List V} (C : Cal X.prog X.w X.K X.mg X.base x st k ps sp) (kb : KB x st 0 ps ks g gV) (hr : Room n X.A) (hkw : PK X kws tk) (hkn : k ≤ n := by decide) (hg : Gl X x := by rfl) (hdb : (x == ("__debug__" : Str)) = false := by decide)
    (hall : (backToKw pos (keywordEach kws X.env)).all (·.1.isSome) = true := by rfl) (hks : (backToKw pos (keywordEach kws X.env)).filterMap (·.1) = ks := by rfl)
    (hpl : ((backTo pos (starEach [] X.env)).any (·.1) || (backToKw pos (keywordEach kws X.env)).any (·.1.isNone)) = false := by rfl) : PE X (.Call (.Name x p) [] kws pos) (tCallK0 sp gV tk) := by
  obtain ⟨f, fd, F, hm, hF, hb⟩ := C.ex
  refine ⟨fun pins s σ H Q I h => ?_⟩
  refine wpAny_Call_Name_kw (ld_glob I hg hm ?_ hdb)
  refine PySem.W.callWith_KW0 (h₀ := X.base) I.ok.mod.kin hF.kp hall (thn (hkw.run pos pins s σ H _ I h) fun ws s2 ⟨zs, H2, I2, rz, q2⟩ => ⟨I2.kIn, ?_⟩) hpl
  rw [hks]
  exact run_fnk (us := []) (vs := []) F (hr.mono hkn) (kb _ _ _ hF) pass0 I2 .nil rz q2
theorem pe_clK {g : List Value → List Value → List Value} {gV : List V → List V → List V} (C : Cal X.prog X.w X.K X.mg X.base x st k ps sp) (kb : KB x st 0 ps ks g gV) (hr : Room n X.A) (ha : PA X (e :: es) t) (hkw : PK X kws tk) (hkn : k ≤ n := by decide) (hg : Gl X x := by rfl)
    (hall : (backToKw pos (keywordEach kws X.env)).all (·.1.isSome) = true := by rfl) (hks : (backToKw pos (keywordEach kws X.env)).filterMap (·.1) = ks := by rfl)
    (hdb : (x == ("__debug__" : Str)) = false := by decide) (he : starEach (e :: es) X.env = (false, eval e X.env) :: starEach es X.env := by rfl)
    (hpl : ((backTo pos (starEach (e :: es) X.env)).any (·.1) || (backToKw pos (keywordEach kws X.env)).any (·.1.isNone)) = false := by rfl) : PE X (.Call (.Name x p) (e :: es) kws pos) (tCallK sp gV E0 t tk) := by
  obtain ⟨f, fd, F, hm, hF, hb⟩ := C.ex
  exact pe_callK F (hr.mono hkn) hg hm hF.kp (kb _ _ _ hF) pass0 ha hkw hall hks hdb he hpl
end
/-- two named values, in their sequence, or turned -/
def sw2 {α : Type} (turn : Bool) : List α → List α → List α
  | [], [a, b] => if turn then [b, a] else [a, b]
  | _, _ => []
theorem sw2_rel {turn : Bool} {vs zs : List V} {us ws : List Value} (r : Vals vs us) (rz : Vals zs ws) : Vals (sw2 turn vs zs) (sw2 turn us ws) := by
  cases r with
  | cons => exact .nil
  | nil =>
    cases rz with
    | nil => exact .nil
    | cons h1 r1 =>
      cases r1 with
      | nil => exact .nil
      | cons h2 r2 =>
        cases r2 with
        | cons => exact .nil
        | nil => cases turn with
          | true => exact .cons h2 (.cons h1 .nil)
          | false => exact .cons h1 (.cons h2 .nil)
theorem kb2 {x : Str} {st : Stmt} {ps ks : List Str} (turn : Bool) (hp : ps.length = 2)
    (h : ∀ (kV doc pm : Value) (an : Option Addr) (cdv ct a b : Value), bindArgs (PySem.W.fnOf x x (defArgs st) (defBody st) (defScope st) .none kV doc pm an cdv ct) ⟨[], ks.zip [a, b]⟩ = pure (ps.zip (sw2 turn [] [a, b]))) : KB x st 0 ps ks (sw2 turn) (sw2 turn) := by
  intro K f fd F
  obtain ⟨oc, od, kV, doc, pm, an, cdv, ct, osl, rfl, lk, hcd⟩ := F.ex
  refine ⟨fun s us ws _ hl => ?_, fun r rz => sw2_rel r rz⟩
  rw [hp] at hl
  match us, ws, hl with
  | [], [a, b], _ => exact .of_eq (h kV doc pm an cdv ct a b)
  | [], [], hl => exact absurd hl (by simp [sw2])
  | [], [_], hl => exact absurd hl (by simp [sw2])
  | [], _ :: _ :: _ :: _, hl => exact absurd hl (by simp [sw2])
  | _ :: _, ws, hl => exact absurd hl (by simp [sw2])

/-! ### isinstance with a built-in class -/
def rIsiB (K : PySem.W.Frag) : List V → Hp → VK → Prop := fun vs H Q => ∃ (x : V) (n t : String) (b : Bool), vs = [x, .ty n] ∧ TyX K H x (.type t) ∧ kitB t n = some b ∧ Q (.bl b) H
theorem cr_isi {X : Cx} : CallR X (.builtin "isinstance") (rIsiB X.K) := by
  intro pins s σ H vs us Q I r h
  obtain ⟨x, n, t, b, rfl, ty, hk, q⟩ := h
  exact call_isi pins s σ H _ us Q I r ⟨x, .ty n, .type t, .type n, b, rfl, .ty n, ty, kit_ty hk, q⟩
theorem k_str_str : kitB "str" "str" = some true := by decide +kernel
theorem k_bool_bool : kitB "bool" "bool" = some true := by decide +kernel
theorem k_int_int : kitB "int" "int" = some true := by decide +kernel
theorem k_int_bool : kitB "int" "bool" = some false := by decide +kernel
theorem k_bool_int : kitB "bool" "int" = some true := by decide +kernel
theorem k_list_list : kitB "list" "list" = some true := by decide +kernel
theorem k_tuple_tuple : kitB "tuple" "tuple" = some true := by decide +kernel
theorem k_str_bool : kitB "str" "bool" = some false := by decide +kernel

/-! ### sorted(xs, key=len) of texts -/
noncomputable def sortLen (xs : List Tx) : List Tx := xs.mergeSort (PySem.W.dataLe false fun a => PyData.int (a.length : Int))
def rSortLen (K : PySem.W.Frag) : List V → Hp → VK → Prop := fun vs H Q => ∃ (p : Addr) (xs : List Tx), vs = [.ref p] ∧ SqL K H p (xs.map T) ∧ (∀ a ∈ xs, a.length ≤ 16777216) ∧ ∀ q, H q = none → Q (.ref q) (upd H q (.lst ((sortLen xs).map T)))
def tSortLen (K : PySem.W.Frag) (t : TA) : TE := fun σ H Q => t σ H fun vs H1 => rSortLen K vs H1 Q
abbrev IsT (v : Value) (a : Tx) : Prop := ∃ t, v = .str (SX.S a) t
theorem each_of_vals : ∀ {xs : List Tx} {us : List Value}, Vals (xs.map T) us → PySem.W.EachIs IsT us xs
  | [], [], _ => .nil
  | a :: xs, u :: us, .cons h r => .cons h (each_of_vals r)
theorem vals_of_each : ∀ {xs : List Tx} {us : List Value}, PySem.W.EachIs IsT us xs → Vals (xs.map T) us
  | [], [], _ => .nil
  | a :: xs, u :: us, .cons h r => .cons h (vals_of_each r)
theorem pe_sortLen {X : Cx} {p p2 kp pos : Pos} {e : Expr} {t : TA} (hu : X.A.units + 64 < cLine) (hm : X.mg "sorted" = none) (hm2 : X.mg "len" = none) (ha : PA X [e] t) (hg : Gl X "sorted" := by rfl) (hg2 : Gl X "len" := by rfl)
    (he : backTo pos (starEach [e] X.env) = (false, eval e X.env) :: backTo pos (starEach [] X.env) := by rfl) (hpl : (backTo pos (starEach [e] X.env)).any (·.1) = false := by rfl) :
    PE X (.Call (.Name "sorted" p) [e] [⟨some "key", .Name "len" p2, kp⟩] pos) (tSortLen X.K t) := by
  refine ⟨fun pins s σ H Q I h => ?_⟩
  refine wpAny_Call_Name_kw (ld_blt I hg hm boot_sorted ?_)
  refine PyProof.Rows.callWith_kw (thn (ha.run pos pins s σ H _ I h) fun us s1 ⟨vs, H1, I1, r1, q1⟩ => ?_) he hpl
  show wpAny _ _ (evalAll ((do let v ← eval (.Name "len" p2) X.env; standAt pos; pure v) :: [])) _ _ s1
  refine wpAny_evalAll_cons (wpAny_bind (ld_blt I1 hg2 hm2 PySem.boot_len (wpAny_bind (wpAny_standAt (wpAny_pure ?_)))))
  refine wpAny_evalAll_nil ?_
  obtain ⟨q, xs, rfl, hs, hb, k⟩ := q1
  obtain rfl := Vals.ref1 r1
  obtain ⟨its, rv, hl, hz⟩ := I1.list hs
  show wpAny _ _ (call (.builtin "sorted") [.ref q] [(Str.ofString "key", .builtin "len")]) _ _ s1
  rw [List.length_map] at hz
  refine PySem.W.sorted_key_data (R := IsT) (bs := xs) (b := false) (fun a => PyData.int (a.length : Int)) hl.isList (each_of_vals rv) ?_ ?_ hz ?_ (PyProof.Rows.ksk_s1 _ _) (fun _ => PyProof.Rows.ksk_l1 _ _) (fun x => PyProof.Rows.ksk_t4 "len" x) ?_ ?_
  · intro d hd d' hd'
    obtain ⟨a, _, rfl⟩ := List.mem_map.mp hd
    obtain ⟨b, _, rfl⟩ := List.mem_map.mp hd'
    rfl
  · refine .inr fun d hd => ?_
    obtain ⟨a, _, rfl⟩ := List.mem_map.mp hd
    exact ⟨fun z => (nomatch z), fun _ z => (nomatch z)⟩
  · intro a _
    show X.A.units + 2 + _ < cLine
    have : (PyData.int (a.length : Int)).depth ≤ 1 := by simp [PyData.depth]
    omega
  · rintro v a ⟨t, rfl⟩ hm h tk hk
    have hla := hb a hm
    refine PyProof.Rows.len_str ?_ ?_
    · rw [S_length]
      omega
    · rw [S_length]
      exact ⟨h, _, rfl, fun _ _ z => z, .int _ _⟩
  · intro out c h' tk hk hn ho hlen eo
    have fr : H1 (s1.heap.objs.size + 1) = none := I1.hok.fresh (Nat.le_succ _)
    refine ⟨.ref _, upd H1 (s1.heap.objs.size + 1) (.lst ((sortLen xs).map T)), I1.laid (t' := tk) hk (Nat.le_succ _) ⟨?_, out, c, vals_of_each eo, ho⟩, rfl, k _ fr⟩
    rw [List.length_map]
    unfold sortLen
    rw [List.length_mergeSort]
    exact hz
theorem sortLen_pair (a b : Tx) : sortLen [a, b] = if b.length < a.length then [b, a] else [a, b] := by
  have e := PySem.W.dataLe_int (fun a : Tx => (a.length : Int))
  unfold sortLen
  rw [e]
  by_cases h : b.length < a.length
  · rw [if_pos h]
    simp [List.mergeSort, List.MergeSort.Internal.splitInTwo, List.merge, show ¬ a.length ≤ b.length by omega]
  · rw [if_neg h]
    simp [List.mergeSort, List.MergeSort.Internal.splitInTwo, List.merge, show a.length ≤ b.length by omega]
end Wc
set_option Elab.async false
set_option linter.all false
set_option maxRecDepth 100000
set_option maxHeartbeats 2000000
/-! what the new readings evaluate to (over HandS.Evl) -/
namespace Wc
open PySem PySem.Spec PyProof.Rows L2 Evl
section
variable {K : PySem.W.Frag} {σ : L2.St} {H H' : Hp} {ta tb te : TE} {t : TT} {x y z v : V}
theorem rv_addT {a b : Tx} (h : a.length + b.length ≤ 16777216) : RV rAddT (T a) (T b) H (T (a ++ b)) := fun H1 _ _ q => ⟨a, b, rfl, rfl, h, q H1 (Ex.refl H1)⟩
theorem rv_mulT {a : Tx} {n : Int} (h0 : -1000000000 ≤ n) (h1 : n ≤ 1000000000) (h : a.length * n.toNat ≤ 16777216) : RV rMulT (T a) (.int n) H (T (repT n.toNat a)) := fun H1 _ _ q => ⟨a, n, rfl, rfl, h0, h1, h, q H1 (Ex.refl H1)⟩
theorem rv_eqT {a b : Tx} : RV rEqT (T a) (T b) H (.bl (decide (a = b))) := fun H1 _ _ q => ⟨a, b, rfl, rfl, q H1 (Ex.refl H1)⟩
theorem rv_neT {a b : Tx} : RV rNeT (T a) (T b) H (.bl (!decide (a = b))) := fun H1 _ _ q => ⟨a, b, rfl, rfl, q H1 (Ex.refl H1)⟩
theorem rv_ltT {a b : Tx} : RV rLtT (T a) (T b) H (.bl (decide (a < b))) := fun H1 _ _ q => ⟨a, b, rfl, rfl, q H1 (Ex.refl H1)⟩
theorem rv_inT {c : Nat} {b : Tx} : RV rInT (T [c]) (T b) H (.bl (decide (c ∈ b))) := fun H1 _ _ q => ⟨c, b, rfl, rfl, q H1 (Ex.refl H1)⟩
theorem rv_eqB {a b : Bool} {g : Bool → Bool → Bool} : RV (rB0 g) (.bl a) (.bl b) H (.bl (g a b)) := fun H1 _ _ q => ⟨a, b, rfl, rfl, q H1 (Ex.refl H1)⟩
theorem rv_ixT {a : Tx} {i : Int} {c : Nat} (hl : a.length ≤ 16777216) (h : atI a i = some c) : RV rIxT (T a) (.int i) H (T [c]) := fun H1 _ _ q => ⟨a, i, c, rfl, rfl, hl, h, q H1 (Ex.refl H1)⟩
theorem rv_isN : RV (fun x y H Q => y = .non ∧ Q (.bl (decide (x = .non))) H) x .non H (.bl (decide (x = .non))) := fun H1 _ _ q => ⟨rfl, q H1 (Ex.refl H1)⟩
theorem rv_notN : RV (fun x y H Q => y = .non ∧ Q (.bl (!decide (x = .non))) H) x .non H (.bl (!decide (x = .non))) := fun H1 _ _ q => ⟨rfl, q H1 (Ex.refl H1)⟩
theorem rc_lenT {a : Tx} (h : a.length ≤ 16777216) : RC rLenT [T a] H (.int (a.length : Int)) := fun H1 _ _ q => ⟨a, rfl, h, q H1 (Ex.refl H1)⟩
theorem rc_isi {n t : String} {b : Bool} (ty : ∀ H1, Ex H H1 → TyX K H1 x (.type t)) (h : kitB t n = some b) : RC (rIsiB K) [x, .ty n] H (.bl b) := fun H1 e _ q => ⟨x, n, t, b, rfl, ty H1 e, h, q H1 (Ex.refl H1)⟩
theorem rc_int {i : Int} : RC (fun xs H Q => (∃ i, xs = [.int i] ∧ Q (.int i) H) ∨ ∃ k, xs = [.bl k] ∧ Q (.int (if k then 1 else 0)) H) [.int i] H (.int i) := fun H1 _ _ q => .inl ⟨i, rfl, q H1 (Ex.refl H1)⟩
theorem rc_gcd {a b : Int} : RC rGcd [.int a, .int b] H (.int ((Nat.gcd a.natAbs b.natAbs : Nat) : Int)) := fun H1 _ _ q => ⟨a, b, rfl, q H1 (Ex.refl H1)⟩
/-- a reading that is given by another one -/
theorem ev_slT {a : Tx} {tl th : TO} {lo hi : Option Int} (h : Ev te σ H (T a)) (h1 : EvO tl σ H lo) (h2 : EvO th σ H hi) (hl : a.length ≤ 16777216) : Ev (tSl rSlT te tl th) σ H (T (cutT a lo hi)) := fun H1 e _ q =>
  h H1 e _ fun H2 e2 => h1 H2 (e.trans e2) _ fun H3 e3 => h2 H3 ((e.trans e2).trans e3) _ fun H4 e4 => ⟨a, rfl, hl, q H4 ((e2.trans e3).trans e4)⟩
/-- a method of a text -/
def RM (r : V → List V → Hp → VK → Prop) (x : V) (vs : List V) (H : Hp) (z : V) : Prop := ∀ H1, Ex H H1 → ∀ Q : VK, (∀ H2, Ex H1 H2 → Q z H2) → r x vs H1 Q
theorem ev_bmT {r : V → List V → Hp → VK → Prop} {tq : TA} {a : Tx} {vs : List V} (h : Ev te σ H (T a)) (ha : EvA tq σ H vs) (hr : RM r (T a) vs H z) : Ev (tBM K "str" r te tq) σ H z := fun H1 e Q q =>
  h H1 e _ fun H2 e2 => ⟨rfl, ha H2 (e.trans e2) _ fun H3 e3 => hr H3 ((e.trans e2).trans e3) Q fun H4 e4 => q H4 ((e2.trans e3).trans e4)⟩
theorem ev_bmTL {r : V → List V → Hp → VK → Prop} {a : Tx} {xs : List V} (h : Ev te σ H (T a)) (ha : EvL tb σ H xs) (hr : ∀ p H1, H1 p = some (.lst xs) → Ex H H1 → RM r (T a) [.ref p] H1 z) : Ev (tBM K "str" r te (tCons tb tNil)) σ H z := fun H1 e Q q =>
  h H1 e _ fun H2 e2 => ⟨rfl, ha H2 (e.trans e2) _ fun p H3 _ e3 hp => hr p H3 hp ((e.trans e2).trans e3) H3 (Ex.refl H3) Q fun H4 e4 => q H4 ((e2.trans e3).trans e4)⟩
/-- a call of a built-in on one new list -/
theorem ev_cbL {r : List V → Hp → VK → Prop} {xs : List V} (h : EvL te σ H xs) (hr : ∀ p H1, H1 p = some (.lst xs) → Ex H H1 → RC r [.ref p] H1 z) : Ev (tCB r (tCons te tNil)) σ H z := fun H1 e Q q =>
  h H1 e _ fun p H2 _ e2 hp => hr p H2 hp (e.trans e2) H2 (Ex.refl H2) Q fun H3 e3 => q H3 (e2.trans e3)
theorem rc_all {p : Addr} {bs : List Bool} (h : SqL K H p (bs.map V.bl)) : RC (rAll K) [.ref p] H (.bl (bs.all id)) := fun H1 e _ q => ⟨p, bs, rfl, ex_l e h, q H1 (Ex.refl H1)⟩
theorem rc_any {p : Addr} {bs : List Bool} (h : SqL K H p (bs.map V.bl)) : RC (rAny K) [.ref p] H (.bl (bs.any id)) := fun H1 e _ q => ⟨p, bs, rfl, ex_l e h, q H1 (Ex.refl H1)⟩
theorem rc_sum {p : Addr} {ns : List Int} (h : SqL K H p (ns.map V.int)) : RC (rSum K) [.ref p] H (.int ns.sum) := fun H1 e _ q => ⟨p, ns, rfl, ex_l e h, q H1 (Ex.refl H1)⟩
theorem rm_join {p : Addr} {ys : List Tx} (h : SqL K H p (ys.map T) ∨ SqT K H p (ys.map T)) (hl : (ys.map List.length).sum ≤ 16777216) : RM (rJoinT K) (T []) [.ref p] H (T ys.flatten) := fun H1 e _ q =>
  ⟨[], p, ys, rfl, rfl, h.imp (ex_l e) (ex_t e), by simpa using hl, by rw [joinL_nil]; exact q H1 (Ex.refl H1)⟩

/-! ### heaps: all but some stand -/
def Exc (B : Addr → Prop) (H H' : Hp) : Prop := ∀ b o, ¬ B b → H b = some o → H' b = some o
theorem Exc.refl {B : Addr → Prop} (H : Hp) : Exc B H H := fun _ _ _ h => h
theorem Exc.trans {B : Addr → Prop} {H H1 H2 : Hp} (a : Exc B H H1) (b : Exc B H1 H2) : Exc B H H2 := fun x o n h => b x o n (a x o n h)
theorem Exc.of {B : Addr → Prop} {H H1 : Hp} (a : Ex H H1) : Exc B H H1 := fun x o _ h => a x o h
theorem Exc.ex {H H1 : Hp} (a : Exc (fun _ => False) H H1) : Ex H H1 := fun x o h => a x o (fun z => z) h
theorem Exc.then {B : Addr → Prop} {H H1 H2 : Hp} (a : Exc B H H1) (b : Ex H1 H2) : Exc B H H2 := a.trans (.of b)
theorem Exc.mono {B B' : Addr → Prop} {H H1 : Hp} (a : Exc B H H1) (h : ∀ b, B b → B' b) : Exc B' H H1 := fun x o n e => a x o (fun z => n (h x z)) e
theorem Exc.upd {B : Addr → Prop} {H H1 : Hp} {p : Addr} {o : HO} (a : Exc B H H1) (h : B p ∨ H p = none) : Exc B H (upd H1 p o) := fun x u n e => by
  have hx : x ≠ p := by
    rintro rfl
    rcases h with h | h
    · exact n h
    · rw [h] at e; cases e
  rw [upd_ne hx]
  exact a x u n e
theorem Exc.l {B : Addr → Prop} {K : PySem.W.Frag} {H H1 : Hp} {p : Addr} {xs : List V} (a : Exc B H H1) (n : ¬ B p) (h : SqL K H p xs) : SqL K H1 p xs := by
  rcases h with (h | ⟨o, h⟩) | h
  · exact .inl (.inl (a _ _ n h))
  · exact .inl (.inr ⟨o, a _ _ n h⟩)
  · exact .inr h
theorem Exc.tp {B : Addr → Prop} {K : PySem.W.Frag} {H H1 : Hp} {p : Addr} {xs : List V} (a : Exc B H H1) (n : ¬ B p) (h : SqT K H p xs) : SqT K H1 p xs := by
  rcases h with (h | ⟨o, h⟩) | h
  · exact .inl (.inl (a _ _ n h))
  · exact .inl (.inr ⟨o, a _ _ n h⟩)
  · exact .inr h
theorem Exc.fresh {B : Addr → Prop} {H H1 : Hp} {p : Addr} (a : Exc B H H1) (n : ¬ B p) (h : H1 p = none) : H p = none := by
  cases e : H p with
  | none => rfl
  | some o => rw [a _ _ n e] at h; cases h

/-! ### what is walked: the values, one by one -/
/-- wi gives n values; the i-th is such that P i of it and the heap holds; own: what must stand meanwhile -/
def Src (wi : TI) (σ : L2.St) (H : Hp) (n : Nat) (own : Addr → Prop) (P : Nat → V → Hp → Prop) : Prop :=
  ∀ H1, Ex H H1 → ∀ R : It → Hp → Prop, (∀ J H2 S, Ex H1 H2 → Walk J n S (fun i Ha v Hb => Ex Ha Hb ∧ P i v Hb) → (∀ (B : Addr → Prop) Ha, (∀ b, B b → H b ≠ none ∧ ¬ own b) → Exc B H2 Ha → S Ha) → R J H2) → wi σ H1 R
theorem src_list {a : Addr} {xs : List V} {tl : TE} (h : Ev tl σ H (.ref a)) (hs : SqL K H a xs) : Src (iList K tl) σ H xs.length (fun b => b = a) (fun i v _ => xs[i]? = some v) := fun H1 e R q =>
  h H1 e _ fun H2 e2 => ⟨a, rfl, ⟨xs, ex_l (e.trans e2) hs⟩, q _ H2 _ e2 (walk_list.mono (fun _ z => z) fun i Ha v Hb _ _ hy => by
    obtain ⟨rfl, hy⟩ := hy
    exact ⟨Ex.refl _, hy⟩) fun B Ha hB ea => ea.l (fun z => (hB a z).2 rfl) (ex_l (e.trans e2) hs)⟩
theorem src_listM {α : Type} {f : α → V} {a : Addr} {xs : List α} {tl : TE} (h : Ev tl σ H (.ref a)) (hs : SqL K H a (xs.map f)) : Src (iList K tl) σ H xs.length (fun b => b = a) (fun i v _ => (xs.map f)[i]? = some v) := by
  have h1 := src_list h hs
  rw [List.length_map] at h1
  exact h1
/-- over a new list -/
theorem src_newL {xs : List V} {tl : TE} (h : EvL tl σ H xs) : Src (iList K tl) σ H xs.length (fun _ => False) (fun i v _ => xs[i]? = some v) := fun H1 e R q =>
  h H1 e _ fun a H2 ha e2 h2 => ⟨a, rfl, ⟨xs, sq_of h2⟩, q _ H2 _ e2 (walk_list.mono (fun _ z => z) fun i Ha v Hb _ _ hy => by
    obtain ⟨rfl, hy⟩ := hy
    exact ⟨Ex.refl _, hy⟩) fun B Ha hB ea => ea.l (fun z => (hB a z).1 (fresh_back e ha)) (sq_of h2)⟩
theorem src_newLM {α : Type} {f : α → V} {xs : List α} {tl : TE} (h : EvL tl σ H (xs.map f)) : Src (iList K tl) σ H xs.length (fun _ => False) (fun i v _ => (xs.map f)[i]? = some v) := by
  have h1 := src_newL (K := K) h
  rw [List.length_map] at h1
  exact h1
theorem src_tup {a : Addr} {xs : List V} {tl : TE} (h : Ev tl σ H (.ref a)) (hs : SqT K H a xs) : Src (iTup K tl) σ H xs.length (fun b => b = a) (fun i v _ => xs[i]? = some v) := fun H1 e R q =>
  h H1 e _ fun H2 e2 => ⟨a, rfl, ⟨xs, ex_t (e.trans e2) hs⟩, q _ H2 _ e2 (walk_tup.mono (fun _ z => z) fun i Ha v Hb _ _ hy => by
    obtain ⟨rfl, hy⟩ := hy
    exact ⟨Ex.refl _, hy⟩) fun B Ha hB ea => ea.tp (fun z => (hB a z).2 rfl) (ex_t (e.trans e2) hs)⟩
theorem src_tupM {α : Type} {f : α → V} {a : Addr} {xs : List α} {tl : TE} (h : Ev tl σ H (.ref a)) (hs : SqT K H a (xs.map f)) : Src (iTup K tl) σ H xs.length (fun b => b = a) (fun i v _ => (xs.map f)[i]? = some v) := by
  have h1 := src_tup h hs
  rw [List.length_map] at h1
  exact h1
theorem src_str {a : Tx} {tl : TE} (h : Ev tl σ H (T a)) : Src (iStr tl) σ H a.length (fun _ => False) (fun i v _ => (a.map fun c => T [c])[i]? = some v) := fun H1 e R q =>
  h H1 e _ fun H2 e2 => ⟨_, rfl, q _ H2 (fun _ => True) e2 (by
    have w := (walk_str (z := SX.S a)).mono (fun _ z => z) (Y' := fun i Ha v Hb => Ex Ha Hb ∧ (a.map fun c => T [c])[i]? = some v) (fun i Ha v Hb _ _ hy => by
      obtain ⟨rfl, c, hc, rfl⟩ := hy
      refine ⟨Ex.refl _, ?_⟩
      have hc' : a[i]? = some c := by
        have : (a.toArray)[i]? = some c := hc
        simpa using this
      rw [List.getElem?_map, hc']
      rfl)
    have e3 : (SX.S a).cps.size = a.length := S_length a
    rw [e3] at w
    exact w) fun _ _ _ _ => True.intro⟩
theorem src_range1 {tq : TA} {n : Nat} (h : EvA tq σ H [.int (n : Int)]) (hn : n ≤ 1000000000) : Src (iRng1 tq) σ H n (fun _ => False) (fun i v _ => v = .int (i : Int)) := fun H1 e R q =>
  h H1 e _ fun H2 e2 => ⟨_, rfl, by omega, by omega, by
    have w := (walk_range (lo := 0) (n := n)).mono (fun _ z => z) (Y' := fun i Ha v Hb => Ex Ha Hb ∧ v = .int (i : Int)) (fun i Ha v Hb _ _ hy => by
      obtain ⟨rfl, rfl⟩ := hy
      exact ⟨Ex.refl _, by show V.int (0 + (i : Int)) = V.int (i : Int); rw [Int.zero_add]⟩)
    exact q _ H2 _ e2 w fun _ _ _ _ => True.intro⟩
theorem src_range2 {tq : TA} {lo hi : Int} {n : Nat} (h : EvA tq σ H [.int lo, .int hi]) (h0 : -1000000000 ≤ lo) (h1 : lo ≤ 1000000000) (h2 : -1000000000 ≤ hi) (h3 : hi ≤ 1000000000) (hn : n = (hi - lo).toNat) : Src (iRng2 tq) σ H n (fun _ => False) (fun i v _ => v = .int (lo + (i : Int))) := fun H1 e R q =>
  h H1 e _ fun H2 e2 => ⟨lo, hi, rfl, ⟨by omega, by omega, by omega, by omega⟩, by
    subst hn
    have w := (walk_range (lo := lo) (n := (hi - lo).toNat)).mono (fun _ z => z) (Y' := fun i Ha v Hb => Ex Ha Hb ∧ v = .int (lo + (i : Int))) (fun i Ha v Hb _ _ hy => by
      obtain ⟨rfl, rfl⟩ := hy
      exact ⟨Ex.refl _, rfl⟩)
    exact q _ H2 _ e2 w fun _ _ _ _ => True.intro⟩
theorem src_enum {a : Addr} {xs : List V} {tl : TE} (h : Ev tl σ H (.ref a)) (hs : SqL K H a xs) : Src (iEnum K (tCons tl tNil)) σ H xs.length (fun b => b = a) (fun i v Hb => ∃ p x, v = .ref p ∧ xs[i]? = some x ∧ Hb p = some (.tup [.int (i : Nat), x])) := fun H1 e R q =>
  h H1 e _ fun H2 e2 => ⟨a, xs, rfl, ex_l (e.trans e2) hs, q _ H2 _ e2 (walk_enum.mono (fun _ z => z) fun i Ha v Hb _ _ hy => by
    obtain ⟨p, y, x, rfl, hn, rfl, h1, h2⟩ := hy
    refine ⟨Ex.new hn, p, x, rfl, h2, ?_⟩
    rw [← Option.some.inj h1]
    exact upd_same) fun B Ha hB ea => ea.l (fun z => (hB a z).2 rfl) (ex_l (e.trans e2) hs)⟩
theorem src_zip {a b : Addr} {xs ys : List V} {n : Nat} {tl tr : TE} (h : Ev tl σ H (.ref a)) (h2 : Ev tr σ H (.ref b)) (hs : SqL K H a xs) (hs2 : SqL K H b ys) (hn : n = min xs.length ys.length) :
    Src (iZip K (tCons tl (tCons tr tNil))) σ H n (fun c => c = a ∨ c = b) (fun i v Hb => ∃ p x y, v = .ref p ∧ xs[i]? = some x ∧ ys[i]? = some y ∧ Hb p = some (.tup [x, y])) := fun H1 e R q =>
  h H1 e _ fun H2 e2 => h2 H2 (e.trans e2) _ fun H3 e3 => ⟨a, b, xs, ys, rfl, ex_l ((e.trans e2).trans e3) hs, ex_l ((e.trans e2).trans e3) hs2, q _ H3 _ (e2.trans e3) ((walk_zip hn).mono (fun _ z => z) fun i Ha v Hb _ _ hy => by
    obtain ⟨p, x, y, rfl, hf, rfl, h1, h2⟩ := hy
    exact ⟨Ex.new hf, p, x, y, rfl, h1, h2, upd_same⟩) fun B Ha hB ea => ⟨ea.l (fun z => (hB a z).2 (.inl rfl)) (ex_l ((e.trans e2).trans e3) hs), ea.l (fun z => (hB b z).2 (.inr rfl)) (ex_l ((e.trans e2).trans e3) hs2)⟩⟩
theorem src_as {wi : TI} {n : Nat} {own : Addr → Prop} {P P' : Nat → V → Hp → Prop} (h : Src wi σ H n own P) (hp : ∀ i v H', i < n → P i v H' → P' i v H') : Src wi σ H n own P' := fun H1 e R q => h H1 e R fun J H2 S e2 w hS => q J H2 S e2 ⟨w.goes, w.stops, fun i Ha v Hb hi hg hy => ⟨(w.yields i Ha v Hb hi hg hy).1, hp i v Hb hi (w.yields i Ha v Hb hi hg hy).2⟩⟩ hS
theorem src_range1L {tq : TA} {n : Nat} (h : EvA tq σ H [.int (n : Int)]) (hn : n ≤ 1000000000) : Src (iRng1 tq) σ H (List.range n).length (fun _ => False) (fun i v _ => ((List.range n).map fun (i : Nat) => V.int (i : Int))[i]? = some v) := by
  have h1 := src_as (P' := fun i v _ => ((List.range n).map fun (i : Nat) => V.int (i : Int))[i]? = some v) (src_range1 h hn) fun i v _ hi hp => by
    subst hp
    show ((List.range n).map fun (i : Nat) => V.int (i : Int))[i]? = _
    rw [List.getElem?_map, List.getElem?_range hi]
    rfl
  have e : (List.range n).length = n := List.length_range
  rw [e]
  exact h1
theorem src_range2L {tq : TA} {lo hi : Int} {n : Nat} (h : EvA tq σ H [.int lo, .int hi]) (h0 : -1000000000 ≤ lo) (h1 : lo ≤ 1000000000) (h2 : -1000000000 ≤ hi) (h3 : hi ≤ 1000000000) (hn : n = (hi - lo).toNat) : Src (iRng2 tq) σ H (List.range n).length (fun _ => False) (fun i v _ => ((List.range n).map fun (i : Nat) => V.int (lo + (i : Int)))[i]? = some v) := by
  have h1 := src_as (P' := fun i v _ => ((List.range n).map fun (i : Nat) => V.int (lo + (i : Int)))[i]? = some v) (src_range2 h h0 h1 h2 h3 hn) fun i v _ hi hp => by
    subst hp
    show ((List.range n).map fun (i : Nat) => V.int (lo + (i : Int)))[i]? = _
    rw [List.getElem?_map, List.getElem?_range hi]
    rfl
  have e : (List.range n).length = n := List.length_range
  rw [e]
  exact h1

/-! ### comprehensions over such -/
/-- the target a name -/
theorem el_lcW {wi : TI} {j : Nat} {vs : List Nat} {n : Nat} {own : Addr → Prop} {P : Nat → V → Hp → Prop} (f : Nat → Bool) (v : Nat → V) (hs : Src wi σ H n own P) (hn : n ≤ 40000) (hw : ∀ x, wipe ((wipe σ vs).set j (some x)) vs = wipe σ vs)
    (ht : ∀ (i : Nat) (x : V) H1, Ex H H1 → i < n → P i x H1 → EvT t ((wipe σ vs).set j (some x)) H1 (f i)) (he : ∀ (i : Nat) (x : V) H1, Ex H H1 → i < n → P i x H1 → f i = true → Ev te ((wipe σ vs).set j (some x)) H1 (v i)) :
    EvL (tLc wi (gName j) t te vs) σ H (given n f v) := fun H0 e Q q => hs H0 e _ fun J H1 S e1 w hS => fun Dl hD =>
  lc_it w (Qd := fun H3 => Q (.ref Dl) H3) (Cw H1 f v Dl) ⟨hD, Ex.new hD, upd_same⟩ (fun i Hi _ p => hS (fun _ => False) Hi (fun _ z => z.elim) (.of p.2.1)) (fun i x Hi Hj hi p hy => by
    obtain ⟨ey, hP⟩ := hy
    have p' : Cw H1 f v Dl i Hj := ⟨p.1, p.2.1.trans ey, ey _ _ p.2.2⟩
    have eAll : Ex H Hj := (e.trans e1).trans p'.2.1
    refine ⟨hw x, ?_⟩
    have p2 : Cw H1 f v Dl i Hj := p'
    obtain ⟨p1, p3, p4⟩ := p2
    refine ht i x Hj eAll hi hP Hj (Ex.refl _) _ fun H3 e3 => ?_
    cases hf : f i with
    | true =>
      show te _ H3 fun y H4 => ∃ acc, H4 Dl = some (.lst acc) ∧ acc.length < sizeLine ∧ Cw H1 f v Dl (i + 1) (upd H4 Dl (.lst (acc ++ [y])))
      refine he i x Hj eAll hi hP hf H3 e3 _ fun H4 e4 => ⟨given i f v, e4 Dl _ (e3 Dl _ p4), sz_lt (by have := given_len i f v; omega), p1, Ex.mut ((p3.trans e3).trans e4) p1, ?_⟩
      rw [given_yes hf]
      exact upd_same
    | false =>
      show Cw H1 f v Dl (i + 1) H3
      refine ⟨p1, p3.trans e3, ?_⟩
      rw [given_no hf]
      exact e3 Dl _ p4) (fun H3 p => q Dl H3 (fresh_back e1 p.1) (e1.trans p.2.1) p.2.2)
theorem given_map {α : Type} (xs : List α) (p : α → Bool) (g : α → V) (f : Nat → Bool) (v : Nat → V) (hf : ∀ i a, xs[i]? = some a → f i = p a) (hv : ∀ i a, xs[i]? = some a → v i = g a) : given xs.length f v = (xs.filter p).map g := by
  have key : ∀ n, n ≤ xs.length → given n f v = ((xs.take n).filter p).map g := fun n => by
    induction n with
    | zero => intro _; rfl
    | succ n ih =>
      intro hn
      have ha : xs[n]? = some xs[n] := List.getElem?_eq_getElem (by omega)
      rw [List.take_add_one, ha, List.filter_append, List.map_append, ← ih (by omega)]
      cases hp : p xs[n] with
      | true =>
        rw [given_yes ((hf n _ ha).trans hp), hv n _ ha]
        simp [hp]
      | false =>
        rw [given_no ((hf n _ ha).trans hp)]
        simp [hp]
  have := key xs.length (Nat.le_refl _)
  rw [List.take_length] at this
  exact this
/-- over values that stand for xs, one by one; the target a name -/
theorem el_lcX {α : Type} {wi : TI} {j : Nat} {vs : List Nat} {n : Nat} {own : Addr → Prop} {P : Nat → V → Hp → Prop} {g : α → V} {p : α → Bool} (xs : List α) (R : α → V → Hp → Prop) (hs : Src wi σ H n own P) (hn : n ≤ 40000) (hw : ∀ x, wipe ((wipe σ vs).set j (some x)) vs = wipe σ vs)
    (hx : xs.length = n) (hP : ∀ i x H1, P i x H1 → ∃ a, xs[i]? = some a ∧ R a x H1)
    (ht : ∀ (a : α) (x : V) H1, Ex H H1 → a ∈ xs → R a x H1 → EvT t ((wipe σ vs).set j (some x)) H1 (p a)) (he : ∀ (a : α) (x : V) H1, Ex H H1 → a ∈ xs → R a x H1 → p a = true → Ev te ((wipe σ vs).set j (some x)) H1 (g a)) :
    EvL (tLc wi (gName j) t te vs) σ H ((xs.filter p).map g) := by
  subst hx
  have h0 := el_lcW (te := te) (t := t) (fun i => match xs[i]? with | some a => p a | none => false) (fun i => match xs[i]? with | some a => g a | none => .non) hs hn hw
    (fun i x H1 e hi hp => by
      obtain ⟨a, ha, hr⟩ := hP i x H1 hp
      simp only [ha]
      exact ht a x H1 e (List.mem_of_getElem? ha) hr)
    (fun i x H1 e hi hp hf => by
      obtain ⟨a, ha, hr⟩ := hP i x H1 hp
      simp only [ha] at hf ⊢
      exact he a x H1 e (List.mem_of_getElem? ha) hr hf)
  rw [given_map xs p g _ _ (fun i a ha => by simp only [ha]) (fun i a ha => by simp only [ha])] at h0
  exact h0
theorem et_yes : EvT tYes σ H true := fun H1 _ _ q => q H1 (Ex.refl H1)
theorem at_map {α : Type} {xs : List α} {f : α → V} {i : Nat} {x : V} (h : (xs.map f)[i]? = some x) : ∃ a, xs[i]? = some a ∧ x = f a := by
  rw [List.getElem?_map] at h
  cases e : xs[i]? with
  | none => rw [e] at h; cases h
  | some a => rw [e] at h; exact ⟨a, rfl, (Option.some.inj h).symm⟩
/-- over a list of values f a; no test -/
theorem el_lcM {α : Type} {wi : TI} {j : Nat} {vs : List Nat} {own : Addr → Prop} {f g : α → V} (xs : List α) (hs : Src wi σ H xs.length own (fun i v _ => (xs.map f)[i]? = some v)) (hn : xs.length ≤ 40000) (hw : ∀ x, wipe ((wipe σ vs).set j (some x)) vs = wipe σ vs)
    (he : ∀ (a : α) H1, Ex H H1 → a ∈ xs → Ev te ((wipe σ vs).set j (some (f a))) H1 (g a)) : EvL (tLc wi (gName j) tYes te vs) σ H (xs.map g) := by
  have h := el_lcX (te := te) (t := tYes) (p := fun _ => true) (g := g) xs (fun a x _ => x = f a) hs hn hw rfl (fun i x _ hp => at_map hp) (fun _ _ _ _ _ _ => et_yes) (fun a x H1 e hm hr _ => by rw [hr]; exact he a H1 e hm)
  rw [List.filter_eq_self.mpr (fun _ _ => rfl)] at h
  exact h
/-- .. with a test -/
theorem el_lcF {α : Type} {wi : TI} {j : Nat} {vs : List Nat} {own : Addr → Prop} {f g : α → V} {p : α → Bool} (xs : List α) (hs : Src wi σ H xs.length own (fun i v _ => (xs.map f)[i]? = some v)) (hn : xs.length ≤ 40000) (hw : ∀ x, wipe ((wipe σ vs).set j (some x)) vs = wipe σ vs)
    (ht : ∀ (a : α) H1, Ex H H1 → a ∈ xs → EvT t ((wipe σ vs).set j (some (f a))) H1 (p a)) (he : ∀ (a : α) H1, Ex H H1 → a ∈ xs → p a = true → Ev te ((wipe σ vs).set j (some (f a))) H1 (g a)) : EvL (tLc wi (gName j) t te vs) σ H ((xs.filter p).map g) :=
  el_lcX (te := te) (t := t) xs (fun a x _ => x = f a) hs hn hw rfl (fun i x _ hp => at_map hp) (fun a x H1 e hm hr => by rw [hr]; exact ht a H1 e hm) (fun a x H1 e hm hr hf => by rw [hr]; exact he a H1 e hm hf)

/-! ### for loops over such; B: what the turns may change; the word speaks of the heap Hs at the loop's start -/
variable {D : Ends} {tu tz : TS}
theorem s_forW {wi : TI} {g : TG} {n : Nat} {own : Addr → Prop} {P : Nat → V → Hp → Prop} (B : Addr → Prop) (hs : Src wi σ H n own P) (hB : ∀ b, B b → H b ≠ none ∧ ¬ own b) (Pv : Hp → Nat → L2.St → Hp → Prop)
    (h0 : ∀ Hs, Ex H Hs → Pv Hs 0 σ Hs) (hE : ∀ Hs i σ' H', Pv Hs i σ' H' → Exc B Hs H') (hst : ∀ Hs i σ' Ha Hb, Pv Hs i σ' Ha → Ex Ha Hb → Pv Hs i σ' Hb)
    (hb : ∀ Hs i x σ' H', Ex H Hs → i < n → Pv Hs i σ' H' → P i x H' → g x σ' H' fun σ2 H2 => tu { D with nx := Pv Hs (i + 1), ct := Pv Hs (i + 1), bk := D.nx } σ2 H2) (hd : ∀ Hs σ' H', Ex H Hs → Pv Hs n σ' H' → D.nx σ' H') : tFor wi g tu D σ H :=
  hs H (Ex.refl H) _ fun J Hs S e w hS => for_it w (Pv Hs) (h0 Hs e) (fun i σ' H' _ p => hS B H' hB (hE Hs i σ' H' p)) (fun i x σ' Ha Hb hi p hy => hb Hs i x σ' Hb e hi (hst Hs i σ' Ha Hb p hy.1) hy.2) (fun σ' H' p => hd Hs σ' H' e p)
theorem q_forW {wi : TI} {g : TG} {n : Nat} {own : Addr → Prop} {P : Nat → V → Hp → Prop} (B : Addr → Prop) (hs : Src wi σ H n own P) (hB : ∀ b, B b → H b ≠ none ∧ ¬ own b) (Pv : Hp → Nat → L2.St → Hp → Prop)
    (h0 : ∀ Hs, Ex H Hs → Pv Hs 0 σ Hs) (hE : ∀ Hs i σ' H', Pv Hs i σ' H' → Exc B Hs H') (hst : ∀ Hs i σ' Ha Hb, Pv Hs i σ' Ha → Ex Ha Hb → Pv Hs i σ' Hb)
    (hb : ∀ Hs i x σ' H', Ex H Hs → i < n → Pv Hs i σ' H' → P i x H' → g x σ' H' fun σ2 H2 => tu { D with nx := Pv Hs (i + 1), ct := Pv Hs (i + 1), bk := tz D } σ2 H2) (hd : ∀ Hs σ' H', Ex H Hs → Pv Hs n σ' H' → tz D σ' H') : tSeq (tFor wi g tu) tz D σ H :=
  s_forW (D := { D with nx := tz D }) B hs hB Pv h0 hE hst hb hd
end
end Wc
set_option Elab.async false
set_option linter.all false
set_option maxRecDepth 100000
set_option maxHeartbeats 2000000
/-! loops that search, calls of promises -/
namespace Wc
open PySem PySem.Spec PyProof.Rows L2 Evl
section
variable {K : PySem.W.Frag} {σ : L2.St} {H H' : Hp} {ta tb te : TE} {t : TT} {x y z v : V} {D : Ends} {tu tr tz : TS}
theorem set_self {σ : L2.St} {j : Nat} (hj : j < σ.length) : ∃ y, σ = σ.set j y := ⟨σ[j], by simp⟩
/-- for x in ..: if t: return .. -/
theorem q_search {wi : TI} {j : Nat} {n : Nat} {own : Addr → Prop} {P : Nat → V → Hp → Prop} (hs : Src wi σ H n own P) (hj : j < σ.length) (f : Nat → Bool)
    (ht : ∀ i x H1, Ex H H1 → i < n → P i x H1 → (∀ k, k < i → f k = false) → EvT t (σ.set j (some x)) H1 (f i))
    (hr : ∀ i x H1 H2, Ex H H1 → i < n → P i x H1 → Ex H1 H2 → (∀ k, k < i → f k = false) → f i = true → ∀ D' : Ends, D'.rt = D.rt → tr D' (σ.set j (some x)) H2)
    (hd : ∀ y H1, Ex H H1 → (∀ i, i < n → f i = false) → tz D (σ.set j y) H1) : tSeq (tFor wi (gName j) (tIfS t tr tNext)) tz D σ H := by
  refine q_forW (fun _ => False) hs (fun _ z => z.elim) (fun Hs i σ' H' => (∃ y, σ' = σ.set j y) ∧ Ex Hs H' ∧ ∀ k, k < i → f k = false) ?_ ?_ ?_ ?_ ?_
  · intro Hs e
    exact ⟨set_self hj, Ex.refl _, fun k hk => absurd hk (Nat.not_lt_zero _)⟩
  · intro Hs i σ' H' p
    exact .of p.2.1
  · intro Hs i σ' Ha Hb p e
    exact ⟨p.1, p.2.1.trans e, p.2.2⟩
  · rintro Hs i x σ' H' e hi ⟨⟨y, rfl⟩, e2, hk⟩ hP
    have eA : Ex H H' := e.trans e2
    show tIfS t tr tNext _ ((σ.set j y).set j (some x)) H'
    rw [List.set_set]
    refine s_when (ht i x H' eA hi hP hk) (fun hb H1 e1 => ?_) (fun hb H1 e1 => ?_)
    · exact hr i x H' H1 eA hi hP e1 hk hb _ rfl
    · exact ⟨⟨_, rfl⟩, e2.trans e1, fun k hk' => by
        rcases Nat.lt_succ_iff_lt_or_eq.mp hk' with h | h
        · exact hk k h
        · rw [h]; exact hb⟩
  · rintro Hs σ' H' e ⟨⟨y, rfl⟩, e2, hk⟩
    exact hd y H' (e.trans e2) hk
theorem rc_allM {α : Type} {p : Addr} {xs : List α} {f : α → Bool} (h : SqL K H p (xs.map fun a => V.bl (f a))) : RC (rAll K) [.ref p] H (.bl (xs.all f)) := by
  have h2 : SqL K H p ((xs.map f).map V.bl) := by
    rw [List.map_map]
    exact h
  have e := rc_all h2
  rw [List.all_map] at e
  exact e
theorem rc_anyM {α : Type} {p : Addr} {xs : List α} {f : α → Bool} (h : SqL K H p (xs.map fun a => V.bl (f a))) : RC (rAny K) [.ref p] H (.bl (xs.any f)) := by
  have h2 : SqL K H p ((xs.map f).map V.bl) := by
    rw [List.map_map]
    exact h
  have e := rc_any h2
  rw [List.any_map] at e
  exact e
theorem rc_sumM {α : Type} {p : Addr} {xs : List α} {f : α → Int} (h : SqL K H p (xs.map fun a => V.int (f a))) : RC (rSum K) [.ref p] H (.int (xs.map f).sum) := by
  have h2 : SqL K H p ((xs.map f).map V.int) := by
    rw [List.map_map]
    exact h
  exact rc_sum h2
theorem divW {i j : Int} (h : 0 < j) (h1 : j ≤ 1000000000) : CDivW i j := wide_div (b := 31) h (by omega) (by decide) (by decide)
theorem et_andI {u : TT} {a b : Bool} (h1 : EvT t σ H a) (h2 : a = true → EvT u σ H b) : EvT (tAnd t u) σ H (a && b) := et_and h1 h2
/-- and: what stands behind is asked only where the first holds -/
theorem et_andG {u : TT} {a : Bool} {b : Bool} (h1 : EvT t σ H a) (h2 : a = true → EvT u σ H b) (h3 : a = false → b = false) : EvT (tAnd t u) σ H b := by
  have h := et_and h1 h2
  cases a with
  | true => exact h
  | false =>
    rw [h3 rfl] at h ⊢
    exact h
/-- a slice of a new list -/
theorem el_slN {xs : List V} {tl th : TO} {lo hi : Option Int} (h : EvL te σ H xs) (h1 : EvO tl σ H lo) (h2 : EvO th σ H hi) : EvL (tSl (rSlL K) te tl th) σ H (cutV xs lo hi) := fun H1 e _ q =>
  h H1 e _ fun a H2 ha e2 hx => h1 H2 (e.trans e2) _ fun H3 e3 => h2 H3 ((e.trans e2).trans e3) _ fun H4 e4 =>
    ⟨a, xs, rfl, ex_l (e3.trans e4) (sq_of hx), fun p hp => q p _ (fresh_back ((e2.trans e3).trans e4) hp) (((e2.trans e3).trans e4).trans (Ex.new hp)) upd_same⟩
theorem cutV_to (xs : List V) (n : Nat) : cutV xs none (some (n : Int)) = xs.take n := by
  unfold cutV
  rw [HT.sIx_none, HT.sIx_nat, List.drop_zero, Nat.sub_zero]
  by_cases h : n ≤ xs.length
  · rw [Nat.min_eq_left h]
  · rw [Nat.min_eq_right (by omega), List.take_of_length_le (Nat.le_refl _), List.take_of_length_le (by omega)]
theorem cutV_from (xs : List V) (n : Nat) : cutV xs (some (n : Int)) none = xs.drop n := by
  unfold cutV
  rw [HT.sIx_none, HT.sIx_nat]
  by_cases h : n ≤ xs.length
  · rw [Nat.min_eq_left h]
    exact List.take_of_length_le (by rw [List.length_drop]; exact Nat.le_refl _)
  · rw [Nat.min_eq_right (by omega), List.drop_eq_nil_of_le (Nat.le_refl _), List.drop_eq_nil_of_le (by omega), List.take_nil]
/-- xs.extend(ys), ys a new list -/
theorem s_ext {l : Addr} {xs ys : List V} (hl : H l = some (.lst xs)) (ha : Ev ta σ H (.ref l)) (h : EvL te σ H ys) (hz : xs.length + ys.length ≤ 1000000) (k : ∀ H1, Ex H H1 → D.nx σ (upd H1 l (.lst (xs ++ ys)))) :
    tDrop (tBM K "list" rExtend ta (tCons te tNil)) D σ H := ha H (Ex.refl H) _ fun H1 e1 =>
  ⟨Or.inl ⟨rfl, xs, sq_of (e1 l _ hl)⟩, h H1 e1 _ fun p H2 hp e2 h2 => ⟨l, p, xs, ys, rfl, rfl, e2 l _ (e1 l _ hl), h2, Nat.le_trans hz (by decide), k H2 (e1.trans e2)⟩⟩
/-- return f(..), x = f(..), whatever f hands back -/
theorem s_retC {sp : Sp} {dvs vs : List V} {E : XK} {tq : TA} (h : EvA tq σ H vs) (k : ∀ H1, Ex H H1 → sp (vs ++ dvs) H1 D.rt E) : tRet (tCall sp dvs E tq) D σ H := h H (Ex.refl H) _ fun H1 e1 => k H1 e1
theorem q_asgC {i : Nat} {sp : Sp} {dvs vs : List V} {E : XK} {tq : TA} (h : EvA tq σ H vs) (k : ∀ H1, Ex H H1 → sp (vs ++ dvs) H1 (fun v H2 => tz D (σ.set i (some v)) H2) E) : tSeq (tAsg (tCall sp dvs E tq) (gName i)) tz D σ H := h H (Ex.refl H) _ fun H1 e1 => k H1 e1
/-- a promise that hands back a value | a new list | a new tuple, all else kept -/
def RetU (xs : List V) (H : Hp) (Q : VK) : Prop := ∀ p H2, H p = none → Ex H H2 → H2 p = some (.tup xs) → Q (.ref p) H2
theorem RetV.mono {v : V} {H H1 : Hp} {Q : VK} (k : RetV v H Q) (e : Ex H H1) : RetV v H1 Q := fun H2 e2 => k H2 (e.trans e2)
theorem RetL.mono {xs : List V} {H H1 : Hp} {Q : VK} (k : RetL xs H Q) (e : Ex H H1) : RetL xs H1 Q := fun p H2 hp e2 h2 => k p H2 (fresh_back e hp) (e.trans e2) h2
theorem RetU.mono {xs : List V} {H H1 : Hp} {Q : VK} (k : RetU xs H Q) (e : Ex H H1) : RetU xs H1 Q := fun p H2 hp e2 h2 => k p H2 (fresh_back e hp) (e.trans e2) h2
theorem RetV.is {v w : V} {H : Hp} {Q : VK} (k : RetV v H Q) (e : v = w) : RetV w H Q := e ▸ k
end
end Wc
set_option Elab.async false
set_option linter.all false
set_option maxRecDepth 100000
set_option maxHeartbeats 2000000
/-! the feed of draws: a list of three ints at fa; how often it has been stirred -/
namespace Wc
open PySem PySem.Spec PyProof.Rows L2 Evl
def capF : Nat := 1000000000000000000
/-- a feed that has been stirred n times at most -/
def Fd (fa : Addr) (n : Nat) (H : Hp) : Prop := ∃ (a b c : Int) (e : Nat), H fa = some (.lst [.int a, .int b, .int c]) ∧ 0 ≤ a ∧ 1 ≤ e ∧ e ≤ 2000000 ∧ a.natAbs < 2 ^ e ∧ 0 ≤ b ∧ b < 10 ^ 40 ∧ 0 ≤ c ∧ c ≤ (n : Int)
theorem Fd.mono {fa : Addr} {n m : Nat} {H : Hp} (h : Fd fa n H) (hm : n ≤ m) : Fd fa m H := by
  obtain ⟨a, b, c, e, h1, h2, h3, h4, h5, h6, h7, h8, h9⟩ := h
  exact ⟨a, b, c, e, h1, h2, h3, h4, h5, h6, h7, h8, by omega⟩
/-- so many draws may be made -/
def GF (fa : Addr) (B : Nat) (H : Hp) : Prop := ∃ n, n + B ≤ capF ∧ Fd fa n H
/-- at most m draws behind: all else stands -/
structure Rf (fa : Addr) (m : Nat) (H H' : Hp) : Prop where
  keep : Exc (fun c => c = fa) H H'
  feed : ∀ n, n + m ≤ capF → Fd fa n H → Fd fa (n + m) H'
section
variable {K : PySem.W.Frag} {fa p : Addr} {m m' B : Nat} {H H1 H2 : Hp} {o : HO} {xs : List V}
theorem Fd.is (h : Fd fa m H) : H fa ≠ none := by
  obtain ⟨a, b, c, e, h1, _⟩ := h
  rw [h1]
  exact fun z => nomatch z
theorem GF.is (h : GF fa B H) : H fa ≠ none := by
  obtain ⟨n, _, h⟩ := h
  exact h.is
theorem GF.new (h : GF fa B H) (hp : H p = none) : p ≠ fa := fun z => h.is (z ▸ hp)
theorem GF.ofTup (h : GF fa B H) (hp : H p = Option.some (HO.tup xs)) : p ≠ fa := by
  rintro rfl
  obtain ⟨n, _, a, b, c, e, h1, _⟩ := h
  rw [hp] at h1
  cases h1
theorem Rf.refl (H : Hp) : Rf fa 0 H H := ⟨Exc.refl _, fun _ _ h => h⟩
theorem Rf.of_ex (e : Ex H H1) : Rf fa 0 H H1 := ⟨.of e, fun n _ h => by
  obtain ⟨a, b, c, e', h1, h2⟩ := h
  exact ⟨a, b, c, e', e _ _ h1, h2⟩⟩
theorem Rf.trans (a : Rf fa m H H1) (b : Rf fa m' H1 H2) : Rf fa (m + m') H H2 := ⟨a.keep.trans b.keep, fun n hn h => by
  have h1 := b.feed (n + m) (by omega) (a.feed n (by omega) h)
  rw [← Nat.add_assoc]
  exact h1⟩
theorem Rf.mono (a : Rf fa m H H1) (h : m ≤ m') : Rf fa m' H H1 := ⟨a.keep, fun n hn hf => (a.feed n (by omega) hf).mono (by omega)⟩
theorem Rf.then (a : Rf fa m H H1) (e : Ex H1 H2) : Rf fa m H H2 := (a.trans (.of_ex e)).mono (Nat.le_refl _)
theorem Rf.pre (e : Ex H H1) (a : Rf fa m H1 H2) : Rf fa m H H2 := ((Rf.of_ex e).trans a).mono (by omega)
theorem Rf.upd (a : Rf fa m H H1) (h : H p = none) (hf : H fa ≠ none) : Rf fa m H (upd H1 p o) := by
  have hne : fa ≠ p := fun z => hf (z ▸ h)
  refine ⟨a.keep.upd (.inr h), fun n hn hF => ?_⟩
  obtain ⟨x, b, c, e', h1, h2⟩ := a.feed n hn hF
  exact ⟨x, b, c, e', by rw [upd_ne hne]; exact h1, h2⟩
theorem GF.go (g : GF fa B H) (a : Rf fa m H H1) (h : m + m' ≤ B) : GF fa m' H1 := by
  obtain ⟨n, hn, hf⟩ := g
  exact ⟨n + m, by omega, a.feed n (by omega) hf⟩
theorem GF.mono (g : GF fa B H) (h : m ≤ B) : GF fa m H := by
  obtain ⟨n, hn, hf⟩ := g
  exact ⟨n, by omega, hf⟩
theorem GF.ex (g : GF fa B H) (e : Ex H H1) : GF fa B H1 := g.go (Rf.of_ex e) (by omega)
theorem Rf.at_ (a : Rf fa m H H1) (h : H p = some o) (hp : p ≠ fa) : H1 p = some o := a.keep _ _ hp h
theorem Rf.l (a : Rf fa m H H1) (hp : p ≠ fa) (h : SqL K H p xs) : SqL K H1 p xs := a.keep.l hp h
theorem Rf.t (a : Rf fa m H H1) (hp : p ≠ fa) (h : SqT K H p xs) : SqT K H1 p xs := a.keep.tp hp h
theorem Rf.free (a : Rf fa m H H1) (g : H fa ≠ none) (h : H1 p = none) (g1 : H1 fa ≠ none) : H p = none := by
  refine a.keep.fresh ?_ h
  rintro rfl
  exact g1 h
end
/-! ### draw -/
def sp_draw : Sp := fun vs H Q _ => ∃ (fa : Addr) (many : Int), vs = [.ref fa, .int many] ∧ GF fa 1 H ∧ 0 < many ∧ many ≤ 10 ^ 61 ∧ ∀ (d : Nat) H', (d : Int) < many → Rf fa 1 H H' → Q (.int (d : Int)) H'
/-- one of a text's signs, of a list's or a tuple's items -/
def sp_one (K : PySem.W.Frag) : Sp := fun vs H Q _ => ∃ (fa : Addr), GF fa 1 H ∧
  ((∃ (s : Tx), vs = [.ref fa, T s] ∧ s ≠ [] ∧ s.length ≤ 16777216 ∧ ∀ c H', c ∈ s → Rf fa 1 H H' → Q (T [c]) H') ∨
   (∃ (p : Addr) (xs : List V), vs = [.ref fa, .ref p] ∧ (SqL K H p xs ∨ SqT K H p xs) ∧ p ≠ fa ∧ xs ≠ [] ∧ xs.length ≤ 16777216 ∧ ∀ v H', v ∈ xs → Rf fa 1 H H' → Q v H'))
/-- a text of at most so many signs of some -/
def sp_text : Sp := fun vs H Q _ => ∃ (fa : Addr) (s : Tx) (most : Nat), vs = [.ref fa, T s, .int (most : Int)] ∧ GF fa (most + 1) H ∧ most ≤ 30000 ∧ s ≠ [] ∧ s.length ≤ 16777216 ∧ ∀ (t : Tx) H', t.length ≤ most → (∀ c ∈ t, c ∈ s) → Rf fa (most + 1) H H' → Q (T t) H'
/-! ### things and draws in a comprehension; the element a value that is good -/
section
variable {K : PySem.W.Frag} {fa : Addr} {σ : L2.St} {H : Hp} {te : TE}
theorem lcD {wi : TI} {j : Nat} {vs : List Nat} {n : Nat} {own : Addr → Prop} {P : Nat → V → Hp → Prop} {Q : VK} (good : V → Prop) (c : Nat) (hf : H fa ≠ none) (hs : Src wi σ H n own P) (ho : ¬ own fa) (hn : n ≤ 40000) (hw : ∀ x, wipe ((wipe σ vs).set j (some x)) vs = wipe σ vs)
    (he : ∀ (i : Nat) (x : V) H1, i < n → P i x H1 → Rf fa (i * c) H H1 → ∀ Q' : VK, (∀ y H2, good y → Rf fa c H1 H2 → Q' y H2) → te ((wipe σ vs).set j (some x)) H1 Q')
    (k : ∀ p H2 acc, H p = none → Rf fa (n * c) H H2 → H2 p = some (.lst acc) → acc.length = n → (∀ v ∈ acc, good v) → Q (.ref p) H2) : tLc wi (gName j) tYes te vs σ H Q :=
  hs H (Ex.refl H) _ fun J H1 S e1 w hS => fun Dl hD => by
    have hDH : H Dl = none := fresh_back e1 hD
    have hne : Dl ≠ fa := fun z => hf (z ▸ hDH)
    have hf1 : H1 fa ≠ none := by
      cases hq : H fa with
      | none => exact absurd hq hf
      | some o => rw [e1 _ _ hq]; exact fun z => nomatch z
    refine lc_it w (Qd := fun H3 => Q (.ref Dl) H3) (fun i Hi => Rf fa (i * c) H1 Hi ∧ ∃ acc, Hi Dl = some (.lst acc) ∧ acc.length = i ∧ ∀ v ∈ acc, good v) ?_ (fun i Hi hi p => hS (fun b => b = fa) Hi (by rintro b rfl; exact ⟨hf, ho⟩) p.1.keep) ?_ ?_
    · refine ⟨?_, [], upd_same, rfl, fun v hv => nomatch hv⟩
      exact ((Rf.refl H1).upd hD hf1).mono (Nat.zero_le _)
    · rintro i x Ha Hb hi ⟨R, acc, h1, h2, h3⟩ ⟨ey, hP⟩
      refine ⟨hw x, ?_⟩
      show te ((wipe σ vs).set j (some x)) Hb fun y H4 => _
      have Rb : Rf fa (i * c) H1 Hb := R.then ey
      refine he i x Hb hi hP (Rf.pre e1 Rb) _ fun y H4 hy R4 => ?_
      have h4 : H4 Dl = some (.lst acc) := R4.at_ (ey _ _ h1) hne
      refine ⟨acc, h4, sz_lt (by omega), ?_, acc ++ [y], upd_same, by rw [List.length_append, h2]; rfl, fun v hv => ?_⟩
      · have := (Rb.trans R4).upd (p := Dl) (o := .lst (acc ++ [y])) hD hf1
        exact this.mono (by rw [Nat.succ_mul]; exact Nat.le_refl _)
      · rcases List.mem_append.mp hv with hv | hv
        · exact h3 v hv
        · rw [List.mem_singleton.mp hv]
          exact hy
    · rintro H3 ⟨R, acc, h1, h2, h3⟩
      exact k Dl H3 acc hDH (Rf.pre e1 R) h1 h2 h3
end
theorem ix_any {X : Cx} : IxR X (fun x y H Q => (L2.rIxL X.K x y H Q ∨ L2.rIxT X.K x y H Q) ∨ Wc.rIxT x y H Q) := (ix_list.or ix_tup).or ix_T
theorem cr_lenAny {X : Cx} : CallR X (.builtin "len") (fun xs H Q => rLenT xs H Q ∨ (∃ p ys, xs = [.ref p] ∧ (SqL X.K H p ys ∨ SqT X.K H p ys) ∧ Q (.int ys.length) H)) := CallR.or cr_lenT call_len_seq
theorem atI_mem {α : Type} {xs : List α} {d : Nat} (h : d < xs.length) : ∃ v, atI xs (d : Int) = some v ∧ v ∈ xs := ⟨xs[d], atI_nat (List.getElem?_eq_getElem h), List.getElem_mem h⟩
/-- a list of texts -/
theorem texts_of {acc : List V} {g : Tx → Prop} (h : ∀ v ∈ acc, ∃ t, v = T t ∧ g t) : ∃ ts : List Tx, acc = ts.map T ∧ ∀ t ∈ ts, g t := by
  induction acc with
  | nil => exact ⟨[], rfl, fun _ h => nomatch h⟩
  | cons v acc ih =>
    obtain ⟨t, rfl, ht⟩ := h v List.mem_cons_self
    obtain ⟨ts, rfl, hts⟩ := ih fun v hv => h v (List.mem_cons_of_mem _ hv)
    exact ⟨t :: ts, rfl, fun x hx => by
      rcases List.mem_cons.mp hx with rfl | hx
      · exact ht
      · exact hts x hx⟩
end Wc
set_option Elab.async false
set_option linter.all false
set_option maxRecDepth 100000
set_option maxHeartbeats 2000000
/-! data at any depth: texts, ints, lists, tuples -/
namespace Wc
open PySem PySem.Spec PyProof.Rows L2 Evl
/-- a text of low signs -/
def LowT (a : Tx) : Prop := ∀ c ∈ a, c < 1000
abbrev dT (a : Tx) : PyData := .str (SX.S a)
theorem lay_T {a : Tx} (h : LowT a) : (dT a).canLay0 = true := by
  show (SX.S a).cps.all (· < 0x110000) = true
  rw [← Array.all_toList, List.all_eq_true]
  intro c hc
  have := h c hc
  exact decide_eq_true (by omega)
theorem lay_all {α : Type} {g : α → PyData} : ∀ {xs : List α}, (∀ x ∈ xs, (g x).canLay0 = true) → PyData.canLayAll0 (xs.map g) = true
  | [], _ => rfl
  | x :: xs, h => by
    show ((g x).canLay0 && PyData.canLayAll0 (xs.map g)) = true
    rw [h x List.mem_cons_self, lay_all fun y hy => h y (List.mem_cons_of_mem _ hy)]
    rfl
theorem lay_list {α : Type} {g : α → PyData} {xs : List α} (h : ∀ x ∈ xs, (g x).canLay0 = true) : (PyData.list (xs.map g)).canLay0 = true := by
  show PyData.canLayAll0 _ = true
  exact lay_all h
theorem depth_all {α : Type} {g : α → PyData} {m : Nat} : ∀ {xs : List α}, (∀ x ∈ xs, (g x).depth ≤ m) → PyData.depthAll (xs.map g) ≤ m
  | [], _ => Nat.zero_le _
  | x :: xs, h => Nat.max_le.mpr ⟨h x List.mem_cons_self, depth_all fun y hy => h y (List.mem_cons_of_mem _ hy)⟩
theorem shaped_of {d : PyData} (h : d.canLay0 = true) (hd : d.depth ≤ 64) : SeqAt.shaped d = true := by
  unfold SeqAt.shaped
  rw [h, decide_eq_true hd]
  rfl
theorem shaped_list {α : Type} {g : α → PyData} {xs : List α} {m : Nat} (h : ∀ x ∈ xs, (g x).canLay0 = true) (hd : ∀ x ∈ xs, (g x).depth ≤ m) (hm : m + 1 ≤ 64) : SeqAt.shaped (.list (xs.map g)) = true :=
  shaped_of (lay_list h) (by
    show PyData.depthAll _ + 1 ≤ 64
    have := depth_all hd
    omega)
theorem dp_all {α : Type} {K : PySem.W.Frag} {H : Hp} {f : α → V} {g : α → PyData} : ∀ {xs : List α}, (∀ x ∈ xs, Dp K H (f x) (g x)) → DpAll K H (xs.map f) (xs.map g)
  | [], _ => .nil
  | x :: xs, h => .cons (h x List.mem_cons_self) (dp_all fun y hy => h y (List.mem_cons_of_mem _ hy))
theorem dp_list {α : Type} {K : PySem.W.Frag} {H : Hp} {f : α → V} {g : α → PyData} {xs : List α} {p : Addr} (hp : SqL K H p (xs.map f)) (h : ∀ x ∈ xs, Dp K H (f x) (g x)) : Dp K H (.ref p) (.list (xs.map g)) := .lst hp (dp_all h)
theorem eqv_list {α : Type} [DecidableEq α] {g : α → PyData} (h : ∀ x y, PyData.eqv (g x) (g y) = decide (x = y)) : ∀ (xs ys : List α), PyData.eqv (.list (xs.map g)) (.list (ys.map g)) = decide (xs = ys) := by
  intro xs ys
  show PyData.eqvAll _ _ = _
  induction xs generalizing ys with
  | nil => cases ys with
    | nil => rfl
    | cons y ys => rfl
  | cons x xs ih => cases ys with
    | nil => rfl
    | cons y ys =>
      show (PyData.eqv (g x) (g y) && PyData.eqvAll _ _) = _
      rw [h, ih]
      by_cases e : x = y
      · by_cases e2 : xs = ys
        · simp [e, e2]
        · simp [e, e2]
      · simp [e]
theorem eqv_T (a b : Tx) : PyData.eqv (dT a) (dT b) = decide (a = b) := by
  show (SX.S a == SX.S b) = _
  exact SX.S_beq_eq
theorem eqv_int (a b : Int) : PyData.eqv (.int a) (.int b) = decide (a = b) := by
  show (a == b) = _
  by_cases h : a = b
  · simp [h]
  · simp [h]
section
variable {K : PySem.W.Frag} {H : Hp} {x y : V} {d e : PyData}
theorem rv_eqD {b : Bool} (h : ∀ H1, Ex H H1 → Dp K H1 x d) (h2 : ∀ H1, Ex H H1 → Dp K H1 y e) (s1 : SeqAt.shaped d = true) (s2 : SeqAt.shaped e = true) (hb : PyData.eqv d e = b) : RV (rEqD K) x y H (.bl b) := fun H1 e1 _ q => ⟨d, e, h H1 e1, h2 H1 e1, s1, s2, by rw [hb]; exact q H1 (Ex.refl H1)⟩
theorem rv_neD {b : Bool} (h : ∀ H1, Ex H H1 → Dp K H1 x d) (h2 : ∀ H1, Ex H H1 → Dp K H1 y e) (s1 : SeqAt.shaped d = true) (s2 : SeqAt.shaped e = true) (hb : PyData.eqv d e = b) : RV (rNeD K) x y H (.bl (!b)) := fun H1 e1 _ q => ⟨d, e, h H1 e1, h2 H1 e1, s1, s2, by rw [hb]; exact q H1 (Ex.refl H1)⟩
mutual
theorem Dp.ex {H1 : Hp} (e : Ex H H1) : ∀ {v : V} {d : PyData}, Dp K H v d → Dp K H1 v d
  | _, _, .non => .non
  | _, _, .bl b => .bl b
  | _, _, .int i => .int i
  | _, _, .str x => .str x
  | _, _, .lst h a => .lst (ex_l e h) (DpAll.ex e a)
  | _, _, .tup h a => .tup (ex_t e h) (DpAll.ex e a)
theorem DpAll.ex {H1 : Hp} (e : Ex H H1) : ∀ {vs : List V} {ds : List PyData}, DpAll K H vs ds → DpAll K H1 vs ds
  | _, _, .nil => .nil
  | _, _, .cons h a => .cons (Dp.ex e h) (DpAll.ex e a)
end
end
/-- values that are ints or texts, none a truth -/
inductive FlatV : V → PyData → Prop
  | int (i : Int) : FlatV (.int i) (.int i)
  | str {a : Tx} (h : LowT a) : FlatV (T a) (dT a)
/-- a list of such -/
def sp_list_same (K : PySem.W.Frag) : Sp := fun vs H Q _ => ∃ (p q : Addr) (xs : List V), vs = [.ref p, .ref q] ∧ H p = some (.lst xs) ∧ SqL K H q xs ∧ (∀ v ∈ xs, ∃ d, FlatV v d) ∧ xs.length ≤ 30000 ∧ RetV (.bl true) H Q
theorem flat_data {K : PySem.W.Frag} {H : Hp} {xs : List V} (h : ∀ v ∈ xs, ∃ d, FlatV v d) : ∃ ds : List PyData, DpAll K H xs ds ∧ PyData.canLayAll0 ds = true ∧ PyData.depthAll ds ≤ 0 := by
  induction xs with
  | nil => exact ⟨[], .nil, rfl, Nat.le_refl _⟩
  | cons v xs ih =>
    obtain ⟨ds, h1, h2, h3⟩ := ih fun v hv => h v (List.mem_cons_of_mem _ hv)
    obtain ⟨d, hd⟩ := h v List.mem_cons_self
    cases hd with
    | int i => exact ⟨.int i :: ds, .cons (.int i) h1, by show (true && PyData.canLayAll0 ds) = true; rw [h2]; rfl, Nat.max_le.mpr ⟨Nat.le_refl _, h3⟩⟩
    | str ha => exact ⟨_ :: ds, .cons (.str _) h1, by show ((dT _).canLay0 && PyData.canLayAll0 ds) = true; rw [h2, lay_T ha]; rfl, Nat.max_le.mpr ⟨Nat.le_refl _, h3⟩⟩
end Wc
set_option Elab.async false
set_option linter.all false
set_option maxRecDepth 100000
set_option maxHeartbeats 2000000
/-! the rules that name the written part: with the part K given -/
namespace Wc
open PySem PySem.Spec PyProof.Rows L2 Evl
def rLenAny (K : PySem.W.Frag) : List V → Hp → VK → Prop := fun xs H Q => rLenT xs H Q ∨ (∃ p ys, xs = [.ref p] ∧ (SqL K H p ys ∨ SqT K H p ys) ∧ Q (.int ys.length) H)
def rIxAny (K : PySem.W.Frag) : R2 := fun x y H Q => (L2.rIxL K x y H Q ∨ L2.rIxT K x y H Q) ∨ Wc.rIxT x y H Q
def rTupS (K : PySem.W.Frag) : List V → Hp → VK → Prop := fun xs H Q => ∃ p ys, xs = [.ref p] ∧ ((SqL K H p ys ∧ ∀ l, H l = none → Q (.ref l) (upd H l (.tup ys))) ∨ (SqT K H p ys ∧ Q (.ref p) H))
section
variable {X : Cx} (K : PySem.W.Frag)
theorem kcr {f : Value} {r : PySem.W.Frag → List V → Hp → VK → Prop} (h : CallR X f (r X.K)) (hK : X.K = K := by rfl) : CallR X f (r K) := hK ▸ h
theorem kop {f : Value → Value → Sem Value} {r : PySem.W.Frag → R2} (h : OpR X f (r X.K)) (hK : X.K = K := by rfl) : OpR X f (r K) := hK ▸ h
theorem kix {r : PySem.W.Frag → R2} (h : IxR X (r X.K)) (hK : X.K = K := by rfl) : IxR X (r K) := hK ▸ h
theorem ksl {r : PySem.W.Frag → V → Option Int → Option Int → Hp → VK → Prop} (h : SlR X (r X.K)) (hK : X.K = K := by rfl) : SlR X (r K) := hK ▸ h
theorem kmt {id : String} {r : PySem.W.Frag → V → List V → Hp → VK → Prop} (h : MtR X id (r X.K)) (hK : X.K = K := by rfl) : MtR X id (r K) := hK ▸ h
theorem kbm {e : Expr} {T : String} {r : V → List V → Hp → VK → Prop} {to : TE} {t : TA} (h : PE X e (tBM X.K T r to t)) (hK : X.K = K := by rfl) : PE X e (tBM K T r to t) := hK ▸ h
theorem kbm0 {e : Expr} {T : String} {r : V → List V → Hp → VK → Prop} {to : TE} (h : PE X e (tBM0 X.K T r to)) (hK : X.K = K := by rfl) : PE X e (tBM0 K T r to) := hK ▸ h
theorem kil {tg it : Expr} {tl : TE} (h : PI X tg it (iList X.K tl)) (hK : X.K = K := by rfl) : PI X tg it (iList K tl) := hK ▸ h
theorem kit {tg it : Expr} {tl : TE} (h : PI X tg it (iTup X.K tl)) (hK : X.K = K := by rfl) : PI X tg it (iTup K tl) := hK ▸ h
theorem kie {tg it : Expr} {ta : TA} (h : PI X tg it (iEnum X.K ta)) (hK : X.K = K := by rfl) : PI X tg it (iEnum K ta) := hK ▸ h
theorem kiz {tg it : Expr} {ta : TA} (h : PI X tg it (iZip X.K ta)) (hK : X.K = K := by rfl) : PI X tg it (iZip K ta) := hK ▸ h
theorem kgt {tg : Expr} {n : Nat} {t : TGs} (h : PG X tg (gTup X.K n t)) (hK : X.K = K := by rfl) : PG X tg (gTup K n t) := hK ▸ h
theorem kgl {tg : Expr} {n : Nat} {t : TGs} (h : PG X tg (gLst X.K n t)) (hK : X.K = K := by rfl) : PG X tg (gLst K n t) := hK ▸ h
theorem kso {e : Expr} {t : TA} (h : PE X e (tSortLen X.K t)) (hK : X.K = K := by rfl) : PE X e (tSortLen K t) := hK ▸ h
end
end Wc
set_option Elab.async false
set_option linter.all false
set_option maxRecDepth 100000
set_option maxHeartbeats 2000000
/-! draws by their promises -/
namespace Wc
open PySem PySem.Spec PyProof.Rows L2 Evl
section
variable {K : PySem.W.Frag} {σ : L2.St} {H : Hp} {te tm : TE} {fa : Addr} {i : Nat} {Q : VK} {B : Nat}
theorem wp_draw {many : Int} (h0 : σ[i]? = some (some (.ref fa))) (h : Ev te σ H (.int many)) (G : GF fa B H) (h1 : 0 < many) (h2 : many ≤ 10 ^ 61) (k : ∀ (d : Nat) H', (d : Int) < many → Rf fa 1 H H' → Q (.int (d : Int)) H') (hB : 1 ≤ B := by omega) : tCall sp_draw [] E0 (tCons (tVar i) (tCons te tNil)) σ H Q :=
  ⟨.ref fa, h0, h H (Ex.refl _) _ fun H1 e1 => ⟨fa, many, rfl, (G.ex e1).mono hB, h1, h2, fun d H' hd R => k d H' hd (.pre e1 R)⟩⟩
theorem wp_oneT {s : Tx} (h0 : σ[i]? = some (some (.ref fa))) (h : Ev te σ H (T s)) (G : GF fa B H) (hs : s ≠ []) (hl : s.length ≤ 16777216) (k : ∀ c H', c ∈ s → Rf fa 1 H H' → Q (T [c]) H') (hB : 1 ≤ B := by omega) : tCall (sp_one K) [] E0 (tCons (tVar i) (tCons te tNil)) σ H Q :=
  ⟨.ref fa, h0, h H (Ex.refl _) _ fun H1 e1 => ⟨fa, (G.ex e1).mono hB, .inl ⟨s, rfl, hs, hl, fun c H' hc R => k c H' hc (.pre e1 R)⟩⟩⟩
/-- of a new list -/
theorem wp_oneL {vs : List V} (h0 : σ[i]? = some (some (.ref fa))) (h : EvL te σ H vs) (G : GF fa B H) (hs : vs ≠ []) (hl : vs.length ≤ 16777216) (k : ∀ v H', v ∈ vs → Rf fa 1 H H' → Q v H') (hB : 1 ≤ B := by omega) : tCall (sp_one K) [] E0 (tCons (tVar i) (tCons te tNil)) σ H Q :=
  ⟨.ref fa, h0, h H (Ex.refl _) _ fun p H1 hp e1 h1 => ⟨fa, (G.ex e1).mono hB, .inr ⟨p, vs, rfl, .inl (sq_of h1), G.new hp, hs, hl, fun v H' hv R => k v H' hv (.pre e1 R)⟩⟩⟩
/-- of a list or tuple that stands -/
theorem wp_oneS {p : Addr} {xs : List V} (h0 : σ[i]? = some (some (.ref fa))) (h : Ev te σ H (.ref p)) (hS : SqL K H p xs ∨ SqT K H p xs) (hp : p ≠ fa) (G : GF fa B H) (hs : xs ≠ []) (hl : xs.length ≤ 16777216) (k : ∀ v H', v ∈ xs → Rf fa 1 H H' → Q v H') (hB : 1 ≤ B := by omega) : tCall (sp_one K) [] E0 (tCons (tVar i) (tCons te tNil)) σ H Q :=
  ⟨.ref fa, h0, h H (Ex.refl _) _ fun H1 e1 => ⟨fa, (G.ex e1).mono hB, .inr ⟨p, xs, rfl, hS.imp (ex_l e1) (ex_t e1), hp, hs, hl, fun v H' hv R => k v H' hv (.pre e1 R)⟩⟩⟩
theorem wp_text {s : Tx} {most : Nat} (h0 : σ[i]? = some (some (.ref fa))) (h : Ev te σ H (T s)) (hm : Ev tm σ H (.int (most : Int))) (G : GF fa B H) (hm1 : most ≤ 30000) (hs : s ≠ []) (hl : s.length ≤ 16777216) (k : ∀ (t : Tx) H', t.length ≤ most → (∀ c ∈ t, c ∈ s) → Rf fa (most + 1) H H' → Q (T t) H') (hB : most + 1 ≤ B := by omega) :
    tCall sp_text [] E0 (tCons (tVar i) (tCons te (tCons tm tNil))) σ H Q :=
  ⟨.ref fa, h0, h H (Ex.refl _) _ fun H1 e1 => hm H1 e1 _ fun H2 e2 => ⟨fa, s, most, rfl, (G.ex (e1.trans e2)).mono hB, hm1, hs, hl, fun t H' h1 h2 R => k t H' h1 h2 (.pre (e1.trans e2) R)⟩⟩
end
/-- a feed out of a cell of the script -/
def sp_feed (K : PySem.W.Frag) : Sp := fun vs H Q _ => ∃ (a : Addr) (ns : List Int) (k e : Nat), vs = [.ref a, .int (k : Int)] ∧ SqL K H a (ns.map V.int) ∧ k ≤ 1000 ∧ 1 ≤ e ∧ e ≤ 1100000 ∧ (∀ z ∈ ns, z.natAbs < 2 ^ e) ∧
  ∀ fa H', H fa = none → Ex H H' → Fd fa 0 H' → Q (.ref fa) H'
theorem pow_add_small {x c : Int} {e : Nat} (hx : x.natAbs < 2 ^ e) (hc : c.natAbs ≤ 2 ^ 70) : (x + c).natAbs < 2 ^ (e + 72) := by
  have h1 : (x + c).natAbs ≤ x.natAbs + c.natAbs := Int.natAbs_add_le _ _
  have h2 : 1 ≤ 2 ^ e := Nat.pow_pos (by decide)
  have h3 : (2 : Nat) ^ (e + 72) = 2 ^ e * (4 * 2 ^ 70) := by rw [Nat.pow_add]
  have hA : 1 ≤ (2 : Nat) ^ 70 := Nat.pow_pos (by decide)
  rw [h3]
  generalize (2 : Nat) ^ e = E at hx h2 ⊢
  generalize (2 : Nat) ^ 70 = A at hc hA ⊢
  have h5 : E ≤ E * A := Nat.le_mul_of_pos_right _ hA
  have h6 : A ≤ E * A := Nat.le_mul_of_pos_left _ h2
  rw [Nat.mul_left_comm]
  omega
end Wc
set_option Elab.async false
set_option linter.all false
set_option maxRecDepth 100000
set_option maxHeartbeats 2000000
/-! readings that draw: what is told of the value alone -/
namespace Wc
open PySem PySem.Spec PyProof.Rows L2 Evl
/-- te draws m times at most and gives a value that is good -/
def Dw (fa : Addr) (σ : L2.St) (m : Nat) (te : TE) (g : V → Prop) : Prop := ∀ H, GF fa m H → ∀ Q : VK, (∀ v H', g v → Rf fa m H H' → Q v H') → te σ H Q
def GdT (ok : Nat → Prop) (lo n : Nat) (v : V) : Prop := ∃ s : Tx, v = T s ∧ lo ≤ s.length ∧ s.length ≤ n ∧ ∀ c ∈ s, ok c
def GdI (lo hi : Int) (v : V) : Prop := ∃ i : Int, v = .int i ∧ lo ≤ i ∧ i ≤ hi
section
variable {K : PySem.W.Frag} {σ : L2.St} {ta tb te : TE} {fa : Addr} {m m1 m2 : Nat} {g g1 g2 : V → Prop} {ok : Nat → Prop}
theorem dw_mono {m' : Nat} (h : Dw fa σ m te g) (hm : m ≤ m') : Dw fa σ m' te g := fun H G Q q => h H (G.mono hm) Q fun v H' hg R => q v H' hg (R.mono hm)
theorem dw_as {g' : V → Prop} (h : Dw fa σ m te g) (hg : ∀ v, g v → g' v) : Dw fa σ m te g' := fun H G Q q => h H G Q fun v H' hv R => q v H' (hg v hv) R
theorem dw_var {i : Nat} {v : V} (h : σ[i]? = some (some v)) (hg : g v) : Dw fa σ 0 (tVar i) g := fun H G Q q => ⟨v, h, q v H hg (Rf.refl H)⟩
theorem dw_c {v : V} (hg : g v) : Dw fa σ 0 (tC v) g := fun H G Q q => q v H hg (Rf.refl H)
theorem dw_op {r : R2} (h1 : Dw fa σ m1 ta g1) (h2 : Dw fa σ m2 tb g2) (hr : ∀ x y, g1 x → g2 y → ∃ z, g z ∧ ∀ H (Q : VK), Q z H → r x y H Q) : Dw fa σ (m1 + m2) (tOp r ta tb) g := fun H G Q q =>
  h1 H (G.mono (by omega)) _ fun x H1 hx R1 => h2 H1 (G.go R1 (by omega)) _ fun y H2 hy R2 => by
    obtain ⟨z, hz, hk⟩ := hr x y hx hy
    exact hk H2 Q (q z H2 hz (R1.trans R2))
theorem dI_var {i : Nat} {x lo hi : Int} (h : σ[i]? = some (some (.int x))) (h1 : lo ≤ x) (h2 : x ≤ hi) : Dw fa σ 0 (tVar i) (GdI lo hi) := dw_var h ⟨x, rfl, h1, h2⟩
theorem dI_c {x : Int} : Dw fa σ 0 (tC (.int x)) (GdI x x) := dw_c ⟨x, rfl, Int.le_refl _, Int.le_refl _⟩
theorem dT_var {i : Nat} {s : Tx} {lo n : Nat} (h : σ[i]? = some (some (T s))) (h1 : lo ≤ s.length) (h2 : s.length ≤ n) (h3 : ∀ c ∈ s, ok c) : Dw fa σ 0 (tVar i) (GdT ok lo n) := dw_var h ⟨s, rfl, h1, h2, h3⟩
theorem dT_c {s : Tx} (h3 : ∀ c ∈ s, ok c) : Dw fa σ 0 (tC (T s)) (GdT ok s.length s.length) := dw_c ⟨s, rfl, Nat.le_refl _, Nat.le_refl _, h3⟩
theorem dI_add {a b c d : Int} (h1 : Dw fa σ m1 ta (GdI a b)) (h2 : Dw fa σ m2 tb (GdI c d)) : Dw fa σ (m1 + m2) (tOp (rI0 fun i j => .int (i + j)) ta tb) (GdI (a + c) (b + d)) := dw_op h1 h2 fun x y ⟨i, hi, h3, h4⟩ ⟨j, hj, h5, h6⟩ => ⟨.int (i + j), ⟨i + j, rfl, by omega, by omega⟩, fun H Q q => ⟨i, j, hi, hj, q⟩⟩
theorem dT_add {a b c d : Nat} (h1 : Dw fa σ m1 ta (GdT ok a b)) (h2 : Dw fa σ m2 tb (GdT ok c d)) (hb : b + d ≤ 16777216 := by omega) : Dw fa σ (m1 + m2) (tOp rAddT ta tb) (GdT ok (a + c) (b + d)) := dw_op h1 h2 fun x y ⟨s, hs, h3, h4, h5⟩ ⟨t, ht, h6, h7, h8⟩ => ⟨T (s ++ t), ⟨s ++ t, rfl, by rw [List.length_append]; omega, by rw [List.length_append]; omega, fun c hc => by
  rcases List.mem_append.mp hc with hc | hc
  · exact h5 c hc
  · exact h8 c hc⟩, fun H Q q => ⟨s, t, hs, ht, by omega, q⟩⟩
theorem repT_mem {n : Nat} {a : Tx} {c : Nat} (h : c ∈ repT n a) : c ∈ a := by
  unfold repT at h
  obtain ⟨l, hl, hc⟩ := List.mem_flatten.mp h
  rw [List.eq_of_mem_replicate hl] at hc
  exact hc
theorem dT_mul {a b c d : Nat} (h1 : Dw fa σ m1 ta (GdT ok a b)) (h2 : Dw fa σ m2 tb (GdI (c : Int) (d : Int))) (hb : b * d ≤ 16777216 := by omega) (hd : d ≤ 1000000000 := by omega) : Dw fa σ (m1 + m2) (tOp rMulT ta tb) (GdT ok (c * a) (d * b)) := dw_op h1 h2 fun x y ⟨s, hs, h3, h4, h5⟩ ⟨j, hj, h6, h7⟩ => ⟨T (repT j.toNat s), ⟨repT j.toNat s, rfl, by
    rw [repT_len]
    exact Nat.mul_le_mul (by omega) h3, by
    rw [repT_len]
    exact Nat.mul_le_mul (by omega) h4, fun c hc => h5 c (repT_mem hc)⟩, fun H Q q => ⟨s, j, hs, hj, by omega, by omega, Nat.le_trans (Nat.mul_le_mul h4 (show j.toNat ≤ d by omega)) hb, q⟩⟩
theorem dI_len {a b : Nat} (h1 : Dw fa σ m te (GdT ok a b)) (hb : b ≤ 16777216 := by omega) : Dw fa σ m (tCB rLenT (tCons te tNil)) (GdI a b) := fun H G Q q => h1 H G _ fun v H1 ⟨s, hs, h3, h4, h5⟩ R => ⟨s, by rw [hs], by omega, q _ H1 ⟨_, rfl, by omega, by omega⟩ R⟩
/-- the ends of a slice -/
def Dwo (fa : Addr) (σ : L2.St) (m : Nat) (to : TO) : Prop := ∀ H, GF fa m H → ∀ Q : Option Int → Hp → Prop, (∀ v H', Rf fa m H H' → Q v H') → to σ H Q
theorem do_none : Dwo fa σ 0 tNoPart := fun H G Q q => q none H (Rf.refl H)
theorem do_some {a b : Int} (h : Dw fa σ m te (GdI a b)) : Dwo fa σ m (tPart te) := fun H G Q q => h H G _ fun v H1 ⟨i, hi, _, _⟩ R => ⟨i, hi, q (some i) H1 R⟩
theorem dT_sl {a b m3 : Nat} {tl th : TO} (h : Dw fa σ m1 te (GdT ok a b)) (h1 : Dwo fa σ m2 tl) (h2 : Dwo fa σ m3 th) (hb : b ≤ 16777216 := by omega) : Dw fa σ (m1 + (m2 + m3)) (tSl rSlT te tl th) (GdT ok 0 b) := fun H G Q q =>
  h H (G.mono (by omega)) _ fun v H1 ⟨s, hs, h3, h4, h5⟩ R1 => h1 H1 (G.go R1 (by omega)) _ fun l H2 R2 => h2 H2 (G.go (R1.trans R2) (by omega)) _ fun u H3 R3 =>
    ⟨s, hs, by omega, q _ H3 ⟨cutT s l u, rfl, Nat.zero_le _, Nat.le_trans (cutT_len s l u) h4, fun c hc => h5 c (cutT_mem hc)⟩ ((R1.trans (R2.trans R3)).mono (by omega))⟩
theorem dI_draw {i : Nat} {lo hi : Int} (h0 : σ[i]? = some (some (.ref fa))) (h : Dw fa σ m te (GdI lo hi)) (h1 : 0 < lo := by omega) (h2 : hi ≤ 10 ^ 61 := by decide) : Dw fa σ (m + 1) (tCall sp_draw [] E0 (tCons (tVar i) (tCons te tNil))) (GdI 0 (hi - 1)) := fun H G Q q =>
  ⟨.ref fa, h0, h H (G.mono (by omega)) _ fun v H1 ⟨j, hj, h3, h4⟩ R => ⟨fa, j, by rw [hj]; rfl, G.go R (Nat.le_refl _), by omega, by omega, fun d H' hd R2 => q _ H' ⟨(d : Int), rfl, by omega, by omega⟩ (R.trans R2)⟩⟩
theorem dT_one {i : Nat} {lo n : Nat} (h0 : σ[i]? = some (some (.ref fa))) (h : Dw fa σ m te (GdT ok lo n)) (h1 : 0 < lo := by omega) (h2 : n ≤ 16777216 := by omega) : Dw fa σ (m + 1) (tCall (sp_one K) [] E0 (tCons (tVar i) (tCons te tNil))) (GdT ok 1 1) := fun H G Q q =>
  ⟨.ref fa, h0, h H (G.mono (by omega)) _ fun v H1 ⟨s, hs, h3, h4, h5⟩ R => ⟨fa, G.go R (Nat.le_refl _), .inl ⟨s, by rw [hs]; rfl, fun z => by rw [z] at h3; simp at h3; omega, by omega, fun c H' hc R2 => q _ H' ⟨[c], rfl, Nat.le_refl _, Nat.le_refl _, fun d hd => by rw [List.mem_singleton.mp hd]; exact h5 c hc⟩ (R.trans R2)⟩⟩⟩
/-- of a list that is displayed -/
theorem dw_oneL {i : Nat} {vs : List V} (h0 : σ[i]? = some (some (.ref fa))) (h : ∀ H, EvL te σ H vs) (hg : ∀ v ∈ vs, g v) (hs : vs ≠ []) (hl : vs.length ≤ 16777216) : Dw fa σ 1 (tCall (sp_one K) [] E0 (tCons (tVar i) (tCons te tNil))) g := fun H G Q q => wp_oneL h0 (h H) G hs hl fun v H' hv R => q v H' (hg v hv) R
theorem dT_text {i : Nat} {a b c : Nat} {tm : TE} (h0 : σ[i]? = some (some (.ref fa))) (h : Dw fa σ m1 te (GdT ok a b)) (hm : Dw fa σ m2 tm (GdI 0 (c : Int))) (h1 : 0 < a := by omega) (h2 : b ≤ 16777216 := by omega) (h3 : c ≤ 30000 := by omega) : Dw fa σ (m1 + m2 + (c + 1)) (tCall sp_text [] E0 (tCons (tVar i) (tCons te (tCons tm tNil)))) (GdT ok 0 c) := fun H G Q q =>
  ⟨.ref fa, h0, h H (G.mono (by omega)) _ fun v H1 ⟨s, hs, h4, h5, h6⟩ R1 => hm H1 (G.go R1 (by omega)) _ fun y H2 ⟨j, hj, h7, h8⟩ R2 => by
    obtain ⟨n, rfl⟩ := Int.eq_ofNat_of_zero_le h7
    exact ⟨fa, s, n, by rw [hs, hj]; rfl, (G.go (R1.trans R2) (m' := n + 1) (by omega)), by omega, fun z => by rw [z] at h4; simp at h4; omega, by omega, fun t H' ht hc R3 => q _ H' ⟨t, rfl, Nat.zero_le _, by omega, fun c hc' => h6 c (hc c hc')⟩ (((R1.trans R2).trans R3).mono (by omega))⟩⟩
/-- a statement that draws -/
theorem q_dw {i : Nat} {D : Ends} {tz : TS} {H : Hp} {B : Nat} (h : Dw fa σ m te g) (G : GF fa B H) (k : ∀ v H1, g v → Rf fa m H H1 → tz D (σ.set i (some v)) H1) (hm : m ≤ B := by omega) : tSeq (tAsg te (gName i)) tz D σ H := h H (G.mono hm) _ fun v H1 hv R => k v H1 hv R
/-- a displayed pair, returned -/
theorem s_pair {D : Ends} {H : Hp} {B : Nat} (h1 : Dw fa σ m1 ta g1) (h2 : Dw fa σ m2 tb g2) (G : GF fa B H) (k : ∀ x y p H1, g1 x → g2 y → H p = none → Rf fa (m1 + m2) H H1 → H1 p = some (.lst [x, y]) → D.rt (.ref p) H1) (hm : m1 + m2 ≤ B := by omega) : tRet (tLst (tCons ta (tCons tb tNil))) D σ H :=
  h1 H (G.mono (by omega)) _ fun x H1 hx R1 => h2 H1 (G.go R1 (by omega)) _ fun y H2 hy R2 => ⟨by show 2 ≤ sizeLine; decide, fun p np => by
    have R := R1.trans R2
    have G2 : GF fa 0 H2 := G.go R (by omega)
    exact k x y p _ hx hy (R.free G.is np G2.is) (R.upd (R.free G.is np G2.is) G.is) upd_same⟩
/-- a test -/
theorem s_dif {D : Ends} {H : Hp} {tt ts : TS} {tu : TT} (h : ∀ Q : Bool → Hp → Prop, (∀ b H1, Rf fa m H H1 → Q b H1) → tu σ H Q) (k : ∀ b H1, Rf fa m H H1 → if b = true then tt D σ H1 else ts D σ H1) : tIfS tu tt ts D σ H := h _ k
theorem dw_test {H : Hp} {B : Nat} {a b c d : Int} {f : Int → Int → Bool} (h1 : Dw fa σ m1 ta (GdI a b)) (h2 : Dw fa σ m2 tb (GdI c d)) (G : GF fa B H) (Q : Bool → Hp → Prop) (k : ∀ b H1, Rf fa (m1 + m2) H H1 → Q b H1) (hm : m1 + m2 ≤ B := by omega) : tTest (tOp (rI0 fun i j => .bl (f i j)) ta tb) σ H Q :=
  h1 H (G.mono (by omega)) _ fun x H1 ⟨i, hi, _, _⟩ R1 => h2 H1 (G.go R1 (by omega)) _ fun y H2 ⟨j, hj, _, _⟩ R2 => ⟨i, j, hi, hj, f i j, rfl, k _ H2 (R1.trans R2)⟩
/-- a displayed pair -/
theorem wp_pair {H : Hp} {Q : VK} {B : Nat} (h1 : Dw fa σ m1 ta g1) (h2 : Dw fa σ m2 tb g2) (G : GF fa B H) (k : ∀ x y p H1, g1 x → g2 y → H p = none → Rf fa (m1 + m2) H H1 → H1 p = some (.lst [x, y]) → Q (.ref p) H1) (hm : m1 + m2 ≤ B := by omega) : tLst (tCons ta (tCons tb tNil)) σ H Q := s_pair (D := { nx := fun _ _ => False, bk := fun _ _ => False, ct := fun _ _ => False, rt := Q }) h1 h2 G k hm
/-- a loop of so many turns as are drawn -/
theorem q_forD {D : Ends} {tz tu : TS} {gg : TG} {H : Hp} {B : Nat} {a b : Int} (h : Dw fa σ m te (GdI a b)) (G : GF fa B H) (k : ∀ n H1, a ≤ n → n ≤ b → Rf fa m H H1 → tSeq (tFor (iRng1 fun _ H' Q' => Q' [.int n] H') gg tu) tz D σ H1) (hm : m ≤ B := by omega) : tSeq (tFor (iRng1 (tCons te tNil)) gg tu) tz D σ H := h H (G.mono hm) _ fun v H1 ⟨n, hn, h1, h2⟩ R => by
  subst hn
  exact k n H1 h1 h2 R
theorem s_retIf {D : Ends} {H : Hp} {b : Bool} {tu : TT} (h : EvT tu σ H b) (h1 : b = true → ∀ H1, Ex H H1 → tRet ta D σ H1) (h2 : b = false → ∀ H1, Ex H H1 → tRet tb D σ H1) : tRet (tIf tu ta tb) D σ H := h H (Ex.refl H) _ fun H1 e1 => by
  cases b with
  | true => exact h1 rfl H1 e1
  | false => exact h2 rfl H1 e1
theorem s_retIfD {D : Ends} {H : Hp} {B : Nat} {tc td : TE} {a b c d : Int} {f : Int → Int → Bool} (h : Dw fa σ m1 tc (GdI a b)) (h' : Dw fa σ m2 td (GdI c d)) (G : GF fa B H) (h1 : ∀ H1, Rf fa (m1 + m2) H H1 → tRet ta D σ H1) (h2 : ∀ H1, Rf fa (m1 + m2) H H1 → tRet tb D σ H1) (hm : m1 + m2 ≤ B := by omega) : tRet (tIf (tTest (tOp (rI0 fun i j => .bl (f i j)) tc td)) ta tb) D σ H := dw_test h h' G _ (fun b H1 R => by
  cases b with
  | true => exact h1 H1 R
  | false => exact h2 H1 R) hm
/-- a fresh list is written at -/
theorem Rf.exc {H H1 H2 : Hp} {p : Addr} (a : Rf fa m H H1) (h : Exc (fun c => c = p) H1 H2) (hp : H p = none) (hne : p ≠ fa) : Rf fa m H H2 := ⟨fun c o hc hs => h c o (fun z => by rw [z, hp] at hs; cases hs) (a.keep c o hc hs), fun n hn hF => by
  obtain ⟨x, b, c, e', h1, h2⟩ := a.feed n hn hF
  exact ⟨x, b, c, e', h _ _ (Ne.symm hne) h1, h2⟩⟩
theorem atI_back2 {α : Type} (xs : List α) (a b : α) : atI (xs ++ [a] ++ [b]) (-2) = some a := by
  have hl : (xs ++ [a] ++ [b]).length = xs.length + 2 := by simp
  have e : ixN (xs ++ [a] ++ [b]).length (-2) = some xs.length := by
    unfold ixN
    rw [if_neg (by decide), hl, if_pos (by omega)]
    congr 1
    omega
  unfold atI
  rw [e]
  simp
/-- [.., .., ..][i], returned -/
theorem s_ix3 {D : Ends} {H : Hp} {t1 t2 t3 tw : TE} (h : t1 σ H fun v1 H1 => t2 σ H1 fun v2 H2 => t3 σ H2 fun v3 H3 => [v1, v2, v3].length ≤ sizeLine ∧ ∀ p, H3 p = none → tw σ (upd H3 p (.lst [v1, v2, v3])) fun i H4 => L2.rIxL K (.ref p) i H4 D.rt) : tRet (tOp (L2.rIxL K) (tLst (tCons t1 (tCons t2 (tCons t3 tNil)))) tw) D σ H := h
end
end Wc
set_option Elab.async false
set_option linter.all false
set_option maxRecDepth 100000
set_option maxHeartbeats 4000000
/-! sets of texts: filled out of a list, sorted -/
namespace Wt
open PySem PySem.Spec PyProof.Rows L2
/-- the text that a value is -/
def txOf : Value → Str
  | .str k _ => k
  | _ => Str.empty
/-- an entry whose value is a text -/
def Ent (P : Program) (w : World) (e : Int × Value) : Prop := ∃ (k : Str) (u : Tok), e.2 = .str k u ∧ e.1 = (PySem.strKind P w).hash k
def ek (e : Int × Value) : Str := txOf e.2
/-- entries and table hold just the texts l -/
structure Pay (P : Program) (w : World) (es : Array (Int × Value)) (t : SetTable) (l : List Str) : Prop where
  ents : ∀ e ∈ es.toList, Ent P w e
  keys : (es.toList.map ek).Perm l
  nd : l.Nodup
  few : es.size < scanBound
  fit : t.fits es.size = true
  ris : Ris t.place.toList
  led : w.params.followText "set-order" = true ∨ t.led = true
def SetX (P : Program) (w : World) (h : Heap) (a : Addr) (l : List Str) : Prop := ∃ o es ep t, h.get? a = some o ∧ o.ExactSet ∧ o.data = .set es ep t ∧ Pay P w es t l
section
variable {P : Program} {w : World} {h h' : Heap} {a : Addr} {l : List Str} {es es1 : Array (Int × Value)} {t t1 : SetTable}
theorem SetX.at (R : SetX P w h a l) (k : ∀ o, h.get? a = some o → h'.get? a = some o) : SetX P w h' a l := by
  obtain ⟨o, es, ep, t, ho, r⟩ := R
  exact ⟨o, es, ep, t, k o ho, r⟩
theorem ent_is {e : Int × Value} (g : Ent P w e) (k : Str) : (PySem.strKind P w).is k e.2 = true ↔ ek e = k := by
  obtain ⟨k0, u, h1, _⟩ := g
  unfold ek
  rw [h1]
  show (Value.isStrOf k (.str k0 u) = true) ↔ k0 = k
  simp [Value.isStrOf]
theorem Pay.size (p : Pay P w es t l) : es.size = l.length := by
  have := p.keys.length_eq
  rw [List.length_map, Array.length_toList] at this
  exact this
theorem Pay.elems (p : Pay P w es t l) : ElemsOf (PySem.strKind P w) es.toList := fun e he => by
  obtain ⟨k, u, h1, h2⟩ := p.ents e he
  exact ⟨⟨k, by rw [h1]; exact PySem.strKind_is P w k u, h2⟩, by rw [h1]; rfl⟩
theorem Pay.mem (p : Pay P w es t l) (k : Str) : k ∈ l ↔ ∃ e ∈ es.toList, (PySem.strKind P w).is k e.2 = true := by
  rw [← p.keys.mem_iff, List.mem_map]
  exact ⟨fun ⟨e, he, q⟩ => ⟨e, he, (ent_is (p.ents e he) k).mpr q⟩, fun ⟨e, he, q⟩ => ⟨e, he, (ent_is (p.ents e he) k).mp q⟩⟩
/-- laid anew -/
theorem Pay.anew (p : Pay P w es t l) (pm : es1.toList.Perm es.toList) (hf : t1.fits es1.size = true) (hr : Ris t1.place.toList) (hl : t1.led = t.led) : Pay P w es1 t1 l where
  ents := fun e he => p.ents e (pm.mem_iff.mp he)
  keys := (pm.map ek).trans p.keys
  nd := p.nd
  few := by
    have := pm.length_eq
    rw [Array.length_toList, Array.length_toList] at this
    rw [this]
    exact p.few
  fit := hf
  ris := hr
  led := p.led.imp id fun z => hl.trans z
/-- one more -/
theorem Pay.more {k : Str} {u : Tok} (p : Pay P w es t l) (hk : k ∉ l) (room : l.length + 1 < scanBound) (pm : es1.toList.Perm (es.push ((PySem.strKind P w).hash k, .str k u)).toList) (hf : t1.fits es1.size = true) (hr : Ris t1.place.toList) (hl : t1.led = t.led) : Pay P w es1 t1 (k :: l) := by
  rw [Array.toList_push] at pm
  have pc := pm.trans (List.perm_append_singleton _ _)
  have pk : (es1.toList.map ek).Perm (k :: es.toList.map ek) := pc.map ek
  refine ⟨fun e he => ?_, pk.trans (p.keys.cons k), List.nodup_cons.mpr ⟨hk, p.nd⟩, ?_, hf, hr, p.led.imp id fun z => hl.trans z⟩
  · rcases List.mem_cons.mp (pc.mem_iff.mp he) with z | z
    · rw [z]
      exact ⟨k, u, rfl, rfl⟩
    · exact p.ents e z
  · have := pc.length_eq
    rw [List.length_cons, Array.length_toList, Array.length_toList, p.size] at this
    rw [this]
    exact room
end
section
variable {P : Program} {w : World} {A : Around} {E : Value → Shared → Prop} {s : Shared} {a : Addr} {l : List Str}
/-- behind the table's own step -/
theorem add_end {g : Bool → Sem Unit} (hg : ∀ (b : Bool) (s1 : Shared) (Q' : Unit → Shared → Prop), Q' () s1 → wpAny (model P w) A (g b) Q' E s1) {o : Obj} {es es1 : Array (Int × Value)} {ep : Nat} {t t2 : SetTable} {l2 : List Str}
    (ho : s.heap.get? a = some o) (hex : o.ExactSet) (hd : o.data = .set es ep t) (p : Pay P w es1 t2 l2) {dm : Bool} {R : Option Bool → Shared → Prop} (hR : ∀ h', Heap.SameBut a s.heap h' → SetX P w h' a l2 → R (some true) { s with heap := h' }) :
    wpAny (model P w) A (do
        storeSet a es1 t2
        if (!dm && t2.tooFull) = true then do
            g (relayAll t2 es1 (SetTable.grown es1.size)).2.2
            storeSet a (relayAll t2 es1 (SetTable.grown es1.size)).1 (relayAll t2 es1 (SetTable.grown es1.size)).2.1
            pure (some true)
          else pure (some true)) R E s := by
  have hz := fits_of_scanBound p.few
  refine wpAny_bind (wpAny_storeSet_of ho hd ?_ hz)
  have at1 := store_at (es' := es1) (t' := t2) ho hd
  have same1 := Heap.SameBut.update s.heap a (Obj.putSet es1 t2)
  by_cases c : (!dm && t2.tooFull) = true
  · rw [if_pos c]
    have p2 := p.anew (relayAll_perm t2 es1 (SetTable.grown es1.size)) (relayAll_fits t2 es1 _) (relayAll_ris t2 es1 _) (relayAll_led t2 es1 _)
    generalize relayAll t2 es1 (SetTable.grown es1.size) = Z at p2 ⊢
    refine wpAny_bind (hg _ _ _ ?_)
    refine wpAny_bind (wpAny_storeSet_of at1 rfl ?_ (fits_of_scanBound p2.few))
    exact wpAny_pure (hR _ (same1.trans (Heap.SameBut.update _ a _)) ⟨_, Z.1, _, Z.2.1, store_at (es' := Z.1) (t' := Z.2.1) at1 rfl, hex, rfl, p2⟩)
  · rw [if_neg c]
    exact wpAny_pure (hR _ same1 ⟨_, es1, _, t2, at1, hex, rfl, p⟩)
theorem add_text {k : Str} {u : Tok} {Q : Bool → Shared → Prop} (R : SetX P w s.heap a l) (room : l.length + 1 < scanBound)
    (hQ : ∀ h' b, Heap.SameBut a s.heap h' → SetX P w h' a (if k ∈ l then l else k :: l) → Q b { s with heap := h' }) : wpAny (model P w) A (setAddHashed a (.str k u) ((PySem.strKind P w).hash k)) Q E s := by
  obtain ⟨o, es, ep, t, ho, hex, hd, p⟩ := id R
  have is1 : (PySem.strKind P w).is k (.str k u) = true := PySem.strKind_is P w k u
  unfold setAddHashed setAddHashedIn
  refine wpAny_holding (wpAny_bind (wpAny_setState_of ho hd p.fit ?_))
  dsimp only
  rw [byScan_of (x := Value.str k u) rfl p.few p.elems, if_pos rfl]
  unfold setAddByScan
  refine wpAny_bind (wpAny_bind (wpAny_rule (wpAny_bind (wpAny_setScan_of is1 ho hd p.fit p.elems ?_))))
  cases hfi : List.findIdx? (fun e => (PySem.strKind P w).is k e.2) es.toList with
  | some j =>
    obtain ⟨hj, pj, _⟩ := List.findIdx?_eq_some_iff_getElem.mp hfi
    have hin : k ∈ l := (p.mem k).mpr ⟨es.toList[j], List.getElem_mem hj, pj⟩
    dsimp only
    refine wpAny_pure (wpAny_pure ?_)
    have q := hQ s.heap false (Heap.SameBut.refl a s.heap)
    rw [if_pos hin] at q
    exact q R
  | none =>
    have hno : k ∉ l := fun z => by
      obtain ⟨e, he, q⟩ := (p.mem k).mp z
      have c := List.findIdx?_eq_none_iff.mp hfi e he
      rw [q] at c
      cases c
    dsimp only
    have p1 := p.more (u := u) hno room (layNew_perm t es _ _) (layNew_fits t es _ _) (layNew_ris t es _ _ p.ris) (layNew_led t es _ _)
    generalize layNew t es ((PySem.strKind P w).hash k) (.str k u) = Z at p1 ⊢
    obtain ⟨es1, t1, dm, gave⟩ := Z
    dsimp only at p1 ⊢
    have both : ∀ (g : Bool) {s1 : Shared} {Q' : Unit → Shared → Prop}, Q' () s1 → wpAny (model P w) A (match g with | true => rule "set.scan.the-table-gave-way" | false => pure ()) Q' E s1 := fun g s1 Q' q => by
      cases g
      · exact wpAny_pure q
      · exact wpAny_rule q
    have fin : ∀ h', Heap.SameBut a s.heap h' → SetX P w h' a (k :: l) → Q true { s with heap := h' } := fun h' sb r => hQ h' true sb (by rw [if_neg hno]; exact r)
    refine wpAny_bind (both _ ?_)
    by_cases hp : t1.plain = true
    · rw [if_pos hp]
      refine wpAny_bind ?_
      rw [hashByValue_scannable 8 (x := Value.str k u) rfl]
      refine wpAny_pure ?_
      have p2 : Pay P w es1 { t1 with plain := false } (k :: l) := ⟨p1.ents, p1.keys, p1.nd, p1.few, SetTable.fits_plain_off p1.fit, p1.ris, p1.led⟩
      refine add_end (l2 := k :: l) ?_ ho hex hd (by split <;> first | exact p1 | exact p2) fun h' sb r => wpAny_pure (fin h' sb r)
      exact fun b s1 Q' q => by cases b <;> first | exact wpAny_pure q | exact wpAny_rule q
    · rw [if_neg hp]
      refine wpAny_bind (wpAny_pure ?_)
      refine add_end (l2 := k :: l) ?_ ho hex hd (by rw [if_pos rfl]; exact p1) fun h' sb r => wpAny_pure (fin h' sb r)
      exact fun b s1 Q' q => by cases b <;> first | exact wpAny_pure q | exact wpAny_rule q
/-- the set as set() makes it -/
abbrev so (w : World) : Obj := { cls := .type "set", dict := none, data := .set #[] 0 (.fresh 0 0 (!w.params.followText "set-order")) }
theorem SetX.new {h : Heap} (ho : h.get? a = some (so w)) : SetX P w h a [] := ⟨_, #[], 0, _, ho, ⟨rfl, rfl, rfl⟩, rfl, fun e he => by simp at he, List.Perm.refl _, List.nodup_nil, by decide, by rfl, List.Pairwise.nil, by
  show _ ∨ (!w.params.followText "set-order") = true
  cases w.params.followText "set-order" <;> simp⟩
/-- what is met among the first ones -/
structure Met (xs : List Str) (i : Nat) (l : List Str) : Prop where
  nd : l.Nodup
  mem : ∀ x, x ∈ l ↔ x ∈ xs.take i
  len : l.length ≤ i
theorem Met.next {xs l : List Str} {i : Nat} {x : Str} (m : Met xs i l) (h : xs[i]? = some x) : Met xs (i + 1) (if x ∈ l then l else x :: l) := by
  have e : xs.take (i + 1) = xs.take i ++ [x] := by rw [List.take_add_one, h]; rfl
  by_cases hx : x ∈ l
  · rw [if_pos hx]
    refine ⟨m.nd, fun y => ?_, Nat.le_succ_of_le m.len⟩
    rw [e, List.mem_append, m.mem y]
    exact ⟨.inl, fun z => z.elim id fun z => by rw [List.mem_singleton.mp z]; exact (m.mem x).mp hx⟩
  · rw [if_neg hx]
    refine ⟨List.nodup_cons.mpr ⟨hx, m.nd⟩, fun y => ?_, Nat.succ_le_succ m.len⟩
    rw [e, List.mem_append, List.mem_cons, List.mem_singleton, m.mem y]
    exact Or.comm
theorem fill_texts {I S : Addr} {fp wr : List Addr} {G : Array GenState → Array GenState → Prop} {n : Nat} {Pv : Nat → Value → Prop} {St : Nat → Shared → Prop} {R : Result → Shared → Prop} {xs : List Str}
    (W : WalksS P w A.in1 I fp wr G n Pv St) (hS : S ∉ fp) (hn : xs.length = n) (hb : n + 1 < scanBound) (hv : ∀ i v, Pv i v → ∃ x u, xs[i]? = some x ∧ v = .str x u) :
    ∀ (d i : Nat) (s : Shared) (l : List Str), n = i + d → St i s → Met xs i l → SetX P w s.heap S l → (∀ s2 l2, Moved (S :: wr) G s s2 → Met xs n l2 → SetX P w s2.heap S l2 → R (.ok (.ret .none)) s2) →
      codeAny (model P w) A (.builtin "set.update.loop" ⟨[.ref S, .ref I], []⟩) R s := by
  have hw : S ∉ wr := fun z => hS (W.sub _ z)
  have wide : ∀ b ∈ wr, b ∈ S :: wr := fun b z => List.mem_cons_of_mem _ z
  intro d
  induction d with
  | zero =>
    intro i s l hd st m X hR
    obtain rfl : i = n := by omega
    refine codeAny_builtin F.entry_set_update_loop (by
      rw [Around.under_plainId F.plain_set_update_loop _]
      exact wpAny_bind (W.done s _ _ st fun s2 mv => wpAny_pure (hR s2 l (mv.mono wide) m (X.at fun o e => mv.heap S o hw e))))
  | succ d ih =>
    intro i s l hd st m X hR
    refine codeAny_builtin F.entry_set_update_loop (by
      rw [Around.under_plainId F.plain_set_update_loop _]
      refine wpAny_bind (W.item i s _ _ (by omega) st fun v s2 hP st2 mv => ?_)
      obtain ⟨x, u, hx, rfl⟩ := hv i v hP
      have X2 : SetX P w s2.heap S l := X.at fun o e => mv.heap S o hw e
      have hl := m.len
      refine wpAny_bind (m := holding [Value.str x u] (setAdd S (.str x u))) (wpAny_holding ?_)
      unfold setAdd
      refine wpAny_holding (wpAny_bind ((PySem.strKind P w).pyHash (k := x) (PySem.strKind_is _ _ _ _) ?_))
      refine add_text (s := { s2 with toks := s2.toks + 1 }) X2 (by omega) fun h' b sb X3 => wpAny_pure ⟨plainId_quiet F.plain_set_update_loop _, ?_⟩
      refine ih (i + 1) _ _ (by omega) (W.frame _ s2 _ _ st2 (Nat.le_succ _) fun c hc o e => ?_) (m.next hx) X3 fun s3 l3 mv3 m3 X4 => hR s3 l3 (Moved.trans W.gtrans ((mv.mono wide).then_heap (Nat.le_succ _) fun c o hc e => ?_) mv3) m3 X4
      · rw [sb.2 c fun z => hS (z ▸ hc)]
        exact e
      · rw [sb.2 c fun z => hc (z ▸ List.mem_cons_self)]
        exact e)
set_option maxHeartbeats 3200000 in
theorem call_set_texts {src : Addr} {its : Array Value} {xs : List Str} {Q : Value → Shared → Prop} (noH : A.handled = none) (isl : s.heap.IsList src its) (hit : StrsAre its.toList xs) (room : xs.length + 1 < scanBound)
    (fin : ∀ (h2 : Heap) (tk : Nat) (l : List Str), Met xs xs.length l → SetX P w h2 s.heap.objs.size l → (∀ b o, s.heap.get? b = some o → h2.get? b = some o) → Q (.ref s.heap.objs.size) { s with heap := h2, toks := tk }) :
    wpAny (model P w) A (call (.type "set") [.ref src]) Q E s := by
  have lx : xs.length = its.size := by rw [← Array.length_toList, hit.len_eq]
  obtain ⟨c, tl, q0⟩ := PySem.F.called_set.mro
  have q1 := PySem.F.called_set.made; have q2 := PySem.F.called_set.sub
  refine wpAny_call (codeAny_of_tree (wpAny_pure ⟨Code.quiet_builtin _ (by decide +kernel), codeAny_builtin PySem.F.entry_type_call ?_⟩))
  rw [Around.under_plain (weight_type_call_type "set" [.ref src] []) rfl]
  have q3 := PySem.F.called_set.notType; have q4 := PySem.F.called_set.canCreate
  have q5 := PySem.F.typeCall_set_1 (.ref src)
  repeat (any_goals (first | assumption | wp_step))
  refine codeAny_mono (code_set_led1 (.ref src) (E := E) (Q₁ := fun ob t1 => ob = .ref s.heap.objs.size ∧ t1 = { s with heap := s.heap.push (so w) }) ⟨rfl, rfl⟩) fun r t1 hr => ?_
  match r, hr with
  | .error e, hr => exact hr
  | .ok (.ret ob), hr =>
    obtain ⟨rfl, rfl⟩ := hr
    have atS : (s.heap.push (so w)).get? s.heap.objs.size = some (so w) := Heap.get?_push_size _ rfl
    have tyS : Shared.TypeIs { s with heap := s.heap.push (so w) } (.ref s.heap.objs.size) "set" := ⟨_, atS, rfl⟩
    have q6 := PySem.F.called_set.init.lookup
    have q7 := PySem.F.called_set.init.bind (.ref s.heap.objs.size)
    repeat (any_goals (first | assumption | wp_step))
    refine codeAny_mono (codeAny_call_builtin (R := wants (fun r t2 => r = .none ∧ ∃ h2 tk l, t2 = { s with heap := h2, toks := tk } ∧ Met xs xs.length l ∧ SetX P w h2 s.heap.objs.size l ∧ ∀ b o, s.heap.get? b = some o → h2.get? b = some o) E) PySem.F.called_set.init.plain PySem.F.entry_set_init (check_set_init_1 tyS ?_)) fun r2 t2 hr2 => ?_
    · obtain ⟨ol, atl, cl, nl, dl⟩ := isl
      obtain ⟨ocls, odict, odata, oslots⟩ := ol
      simp only at cl dl
      subst cl; subst dl
      have lt := Heap.lt_size atl
      have isl2 : (s.heap.push (so w)).IsList src its := ⟨_, Heap.get?_push_of_some _ atl, rfl, nl, rfl⟩
      have q8 := PySem.F.sub_list_set; have q9 := PySem.F.sub_list_frozenset
      have q10 : (Value.type "list" == Value.type "dict") = false := by decide
      have atl2 : (s.heap.push (so w)).get? src = some { cls := .type "list", dict := odict, data := .seq its nl, slots := oslots } := Heap.get?_push_of_some _ atl
      unfold Builtin.«set.__init__» noKeywords Builtin.Frozenset.updateFrom
      generalize hI : pyIter = iter
      wp_walk
      subst hI
      refine wpAny_pyIter_list isl2 (wpAny_bind (wpAny_runValue ?_))
      have no3 : A.in1.in1.in1.handled = none := by simp [noH]
      have zI : (s.heap.push (so w)).objs.size = s.heap.objs.size + 1 := Heap.size_push ..
      have ne1 : src ≠ (s.heap.push (so w)).objs.size := by rw [zI]; exact Nat.ne_of_lt (Nat.lt_succ_of_lt lt)
      have out1 : s.heap.objs.size ∉ [(s.heap.push (so w)).objs.size, src] := by
        rw [zI]
        intro z
        rcases List.mem_cons.mp z with z | z
        · exact absurd z (Nat.ne_of_lt (Nat.lt_succ_self _))
        · exact absurd (List.mem_singleton.mp z) (Nat.ne_of_gt lt)
      refine fill_texts (P := P) (xs := xs) ((Walks.list no3 _ src ne1 its).toS) out1 lx (by rw [← lx]; exact room) (fun i v hv => ?_) its.size 0 _ [] (by omega) ⟨⟨_, Heap.get?_push_size _ rfl, rfl, rfl⟩, isl2.push _⟩ ⟨List.nodup_nil, fun x => by simp, Nat.le_refl _⟩ (SetX.new (Heap.get?_push_of_some _ atS)) fun s2 l2 mv m2 X2 => ?_
      · obtain ⟨y, u, h1, h2⟩ := hit.item i v (by rw [Array.getElem?_toList]; exact hv)
        exact ⟨y, u, h2, h1⟩
      · obtain ⟨h2, g2, d2, tk2, os2⟩ := s2
        obtain rfl : g2 = s.gens := mv.gens
        obtain rfl : d2 = s.drawn := mv.drawn
        obtain rfl : os2 = s.os := mv.os
        rw [← lx] at m2
        show wpAny _ _ (Bind.bind (pure _) _) _ _ _
        refine wpAny_pure (wpAny_pure ⟨rfl, h2, tk2, l2, rfl, m2, X2, fun b o e => ?_⟩)
        have hb := Heap.lt_size e
        refine mv.heap b o (fun z => ?_) (Heap.get?_push_of_some _ (Heap.get?_push_of_some _ e))
        rw [zI] at z
        rcases List.mem_cons.mp z with z | z
        · exact absurd z (Nat.ne_of_lt hb)
        · exact absurd (List.mem_singleton.mp z) (Nat.ne_of_lt (Nat.lt_succ_of_lt hb))
    · match r2, hr2 with
      | .error e, hr2 => exact hr2
      | .ok (.ret v2), hr2 =>
        obtain ⟨rfl, h2, tk, l, rfl, m, X, k⟩ := hr2
        repeat (any_goals (first | assumption | wp_step))
        exact fin _ _ _ m X k
end
end Wt
set_option Elab.async false
set_option linter.all false
set_option maxRecDepth 100000
set_option maxHeartbeats 4000000
/-! sorted(texts), set(texts), sorted(set) as rules -/
namespace Wt
open PySem PySem.Spec PyProof.Rows L2 Wc
/-- texts in the sequence of their signs -/
def sortT (xs : List Tx) : List Tx := xs.mergeSort (fun a b => decide (a ≤ b))
theorem sortT_perm (xs : List Tx) : (sortT xs).Perm xs := List.mergeSort_perm _ _
theorem sortT_len (xs : List Tx) : (sortT xs).length = xs.length := List.length_mergeSort _
theorem sortT_mem {xs : List Tx} {t : Tx} : t ∈ sortT xs ↔ t ∈ xs := (sortT_perm xs).mem_iff
theorem sortT_pw (xs : List Tx) : (sortT xs).Pairwise (· ≤ ·) := by
  have h := List.pairwise_mergeSort (le := fun a b : Tx => decide (a ≤ b)) (fun a b c h1 h2 => decide_eq_true (List.le_trans (of_decide_eq_true h1) (of_decide_eq_true h2))) (fun a b => by
    rcases List.le_total a b with h | h
    · simp [h]
    · simp [h]) xs
  exact h.imp fun z => of_decide_eq_true z
theorem enc_le : (PySem.W.dataLe false fun b : Tx => PyData.str (SX.S b)) = fun a b => decide (a ≤ b) := by
  rw [PySem.W.dataLe_str]
theorem alike_tx (xs : List Tx) : PySem.W.AllAlike (xs.map fun b => PyData.str (SX.S b)) := by
  intro d hd d' hd'
  obtain ⟨a, _, rfl⟩ := List.mem_map.mp hd
  obtain ⟨b, _, rfl⟩ := List.mem_map.mp hd'
  rfl
theorem sortable_tx (xs : List Tx) : PySem.W.Sortable (xs.map fun b => PyData.str (SX.S b)) := by
  refine .inr fun d hd => ?_
  obtain ⟨a, _, rfl⟩ := List.mem_map.mp hd
  exact ⟨fun z => (nomatch z), fun _ z => (nomatch z)⟩
theorem reads_tx {h : Heap} {vs : List Value} {xs : List Tx} (e : PySem.W.EachIs IsT vs xs) : PySem.W.EachIs (fun v b => ∃ as, Reads h v (PyData.str (SX.S b)) as) vs xs := e.mono fun v b ⟨t, hv⟩ => ⟨[], by rw [hv]; exact .str _ _⟩
theorem reads_out {h : Heap} {a : Addr} {vs : List Value} {xs : List Tx} (e : PySem.W.EachIs IsT vs xs) : PySem.W.EachIs (fun v b => ∃ as, Reads h v (PyData.str (SX.S b)) as ∧ a ∉ as) vs xs := e.mono fun v b ⟨t, hv⟩ => ⟨[], by rw [hv]; exact .str _ _, fun z => nomatch z⟩
theorem strs_of_each : ∀ {vs : List Value} {xs : List Tx}, PySem.W.EachIs IsT vs xs → StrsAre vs (xs.map SX.S)
  | _, _, .nil => .nil
  | _, _, .cons ⟨t, rfl⟩ r => .cons _ t (strs_of_each r)
section
variable {X : Cx}
def rSortTx (K : PySem.W.Frag) : List V → Hp → VK → Prop := fun vs H Q => ∃ (p : Addr) (xs : List Tx), vs = [.ref p] ∧ SqL K H p (xs.map T) ∧ ∀ q, H q = none → Q (.ref q) (upd H q (.lst ((sortT xs).map T)))
theorem cr_sortTx (hu : X.A.units + 64 < cLine) : CallR X (.builtin "sorted") (rSortTx X.K) := by
  intro pins s σ H vs us Q I r h
  obtain ⟨p, xs, rfl, hp, q⟩ := h
  rw [Vals.ref1 r]
  obtain ⟨its, rv, pl, hz⟩ := I.list hp
  rw [List.length_map] at hz
  have ev := each_of_vals rv
  refine PySem.W.sorted_data (R := IsT) (enc := fun b : Tx => PyData.str (SX.S b)) pl.isList ev (reads_tx ev) (alike_tx xs) (sortable_tx xs) hz (fun b _ => ?_) fun out hlen eo => ?_
  · show X.A.units + 2 + _ < cLine
    have : (PyData.str (SX.S b)).depth ≤ 1 := by simp [PyData.depth]
    omega
  · rw [enc_le] at eo
    obtain ⟨c, hc⟩ := sortedAll_at s.heap its out.toArray
    have hn : H (s.heap.objs.size + 1) = none := I.hok.fresh (Nat.le_succ _)
    refine ⟨.ref _, upd H (s.heap.objs.size + 1) (.lst ((sortT xs).map T)), I.laid (t' := s.toks) (fun b u e => sortedAll_old e) (Nat.le_succ _) ⟨?_, out, c, vals_of_each eo, hc⟩, rfl, q _ hn⟩
    rw [List.length_map, sortT_len]
    exact hz
/-- the set of these texts -/
def SetXO (P : Program) (w : World) (a : Addr) (l : List Str) : HO := .ext fun h => SetX P w h a l
theorem setXO_new {w : World} {P : Program} {H : Hp} {h : Heap} {a : Addr} {l : List Str} (R : SetX P w h a l) : ObjOk P w H h a (SetXO P w a l) := by
  have ⟨o, _, _, _, ho, _⟩ := R
  exact ⟨R, ⟨o, ho⟩, fun h1 h2 p k => SetX.at p k⟩
/-- the texts without repetition -/
structure Uniq (xs ys : List Tx) : Prop where
  nd : ys.Nodup
  mem : ∀ x, x ∈ ys ↔ x ∈ xs
def rSetTx (K : PySem.W.Frag) (P : Program) (w : World) : List V → Hp → VK → Prop := fun vs H Q => ∃ (p : Addr) (xs : List Tx), vs = [.ref p] ∧ SqL K H p (xs.map T) ∧ xs.length ≤ 4000 ∧ ∀ q ys, Uniq xs ys → ys.length ≤ xs.length → H q = none → Q (.ref q) (upd H q (SetXO P w q (ys.map SX.S)))
theorem tx_back (l : List Str) : l = (l.map fun x => x.cps.toList).map SX.S := by
  rw [List.map_map]
  conv => lhs; rw [← List.map_id l]
  apply List.map_congr_left
  intro x _
  rfl
theorem S_inj {a b : Tx} (h : SX.S a = SX.S b) : a = b := by
  have := congrArg (fun x : Str => x.cps.toList) h
  simpa using this
theorem uniq_of {xs : List Tx} {l : List Str} (m : Met (xs.map SX.S) (xs.map SX.S).length l) : ∃ ys, l = ys.map SX.S ∧ Uniq xs ys ∧ ys.length ≤ xs.length := by
  refine ⟨_, tx_back l, ⟨?_, fun x => ?_⟩, ?_⟩
  · have nd := m.nd
    rw [tx_back l] at nd
    exact List.Pairwise.of_map SX.S (fun a b hne e => hne (congrArg SX.S e)) nd
  · have h := m.mem (SX.S x)
    rw [List.take_length] at h
    constructor
    · intro hx
      obtain ⟨y, hy, rfl⟩ := List.mem_map.mp hx
      obtain ⟨z, hz, e⟩ := List.mem_map.mp (h.mp hy)
      rw [← S_inj e]
      exact hz
    · intro hx
      have h2 := h.mpr (List.mem_map.mpr ⟨x, hx, rfl⟩)
      exact List.mem_map.mpr ⟨_, h2, rfl⟩
  · rw [List.length_map]
    have := m.len
    rw [List.length_map] at this
    exact this
theorem cr_setTx (hc : X.calm = true) : CallR X (.type "set") (rSetTx X.K X.prog X.w) := by
  intro pins s σ H vs us Q I r h
  obtain ⟨p, xs, rfl, hp, hl, q⟩ := h
  rw [Vals.ref1 r]
  obtain ⟨its, rv, pl, hz⟩ := I.list hp
  refine call_set_texts (P := X.prog) (xs := xs.map SX.S) (I.ok.hd hc) pl.isList (by simpa using strs_of_each (each_of_vals rv)) (by rw [List.length_map]; unfold scanBound; omega) fun h2 tk l m R k => ?_
  obtain ⟨ys, rfl, u, hly⟩ := uniq_of m
  have hn : H s.heap.objs.size = none := I.hok.fresh (Nat.le_refl _)
  exact ⟨.ref _, upd H s.heap.objs.size (SetXO X.prog X.w s.heap.objs.size (ys.map SX.S)), I.laid (t' := tk) k (Nat.le_refl _) (setXO_new R), rfl, q _ ys u hly hn⟩
def rSortSet (P : Program) (w : World) : List V → Hp → VK → Prop := fun vs H Q => ∃ (a : Addr) (ys : List Tx), vs = [.ref a] ∧ H a = some (SetXO P w a (ys.map SX.S)) ∧ ∀ zs q, zs.Perm ys → H q = none → Q (.ref q) (upd H q (.lst ((sortT zs).map T)))
theorem ents_texts {P : Program} {w : World} : ∀ {l : List (Int × Value)}, (∀ e ∈ l, Ent P w e) → PySem.W.EachIs IsT (l.map (·.2)) (l.map fun e => (ek e).cps.toList)
  | [], _ => .nil
  | e :: l, h => .cons (by
      obtain ⟨k, u, h1, _⟩ := h e List.mem_cons_self
      refine ⟨u, ?_⟩
      show e.2 = .str (SX.S (ek e).cps.toList) u
      unfold ek
      rw [h1]
      rfl) (ents_texts fun x hx => h x (List.mem_cons_of_mem _ hx))
theorem each_perm {vs ws : List Value} {xs : List Tx} (e : PySem.W.EachIs IsT ws xs) (p : vs.Perm ws) : ∃ zs, zs.Perm xs ∧ PySem.W.EachIs IsT vs zs := by
  have key : ∀ {us : List Value} {zs : List Tx}, PySem.W.EachIs IsT us zs → zs = us.map (fun v => (txOf v).cps.toList) := by
    intro us zs h
    induction h with
    | nil => rfl
    | cons h1 _ ih =>
      obtain ⟨t, rfl⟩ := h1
      rw [List.map_cons, ← ih]
      rfl
  have all : ∀ {us : List Value} {zs : List Tx}, PySem.W.EachIs IsT us zs → ∀ v ∈ us, ∃ k t, v = Value.str k t := by
    intro us zs h
    induction h with
    | nil => intro v hv; cases hv
    | cons h1 _ ih =>
      intro v hv
      obtain ⟨t, rfl⟩ := h1
      rcases List.mem_cons.mp hv with rfl | hv
      · exact ⟨_, t, rfl⟩
      · exact ih v hv
  have hv : ∀ v ∈ vs, ∃ k t, v = Value.str k t := fun v h => all e v (p.mem_iff.mp h)
  refine ⟨vs.map fun v => (txOf v).cps.toList, ?_, ?_⟩
  · rw [key e]
    exact p.map _
  · clear p
    induction vs with
    | nil => exact .nil
    | cons v vs ih =>
      refine .cons ?_ (ih fun x hx => hv x (List.mem_cons_of_mem _ hx))
      obtain ⟨k, t, rfl⟩ := hv v List.mem_cons_self
      exact ⟨t, rfl⟩
theorem cr_sortSet (hc : X.calm = true) (hu : X.A.units + 64 < cLine) : CallR X (.builtin "sorted") (rSortSet X.prog X.w) := by
  intro pins s σ H vs us Q I r h
  obtain ⟨a, ys, rfl, ha, q⟩ := h
  rw [Vals.ref1 r]
  obtain ⟨o, es, ep, t, ho, hex, hd, py⟩ := (I.hok a _ ha).1
  refine Calls.call_function_entry kind_sorted plain_sorted entry_sorted (args_sorted1 _) ?_
  unfold Builtin.«sorted»
  refine wpAny_bind (m := checkCount "sorted" 1 1 _) (wpAny_pure (wpAny_bind (collect_set (A := X.A.in1) (I.ok.hd hc) ⟨o, ho, hex.1, hd⟩ py.fit py.few py.ris py.led fun s1 ws k1 sz g1 o1 pm => ?_)))
  obtain ⟨zs, pz, ez⟩ := each_perm (ents_texts py.ents) pm
  have few := py.few
  have lw : ws.length = es.size := by rw [pm.length_eq, List.length_map, Array.length_toList]
  have small : ws.length ≤ sizeLine := by
    rw [lw]
    exact fits_of_scanBound few
  refine wpAny_bind (wpAny_newList ?_ small)
  have atL : (s1.heap.push (seqObj "list" ws.toArray 0)).get? s1.heap.objs.size = some (seqObj "list" ws.toArray 0) := Heap.get?_push_size _ rfl
  refine wpAny_bind (wpAny_holding (PySem.W.list_sort_data (s := { s1 with heap := s1.heap.push (seqObj "list" ws.toArray 0) }) (R := IsT) (enc := fun b : Tx => PyData.str (SX.S b)) atL ez (reads_out ez) (alike_tx zs) (sortable_tx zs) (by rw [← ez.length]; exact small) (fun b _ => ?_) fun out hlen eo => ?_))
  · show X.A.in1.units + 1 + _ < cLine
    have h1 : X.A.in1.units ≤ X.A.units + 8 := by
      show X.A.units + _ ≤ _
      first | omega | exact Nat.add_le_add_left (by decide) _
    have : (PyData.str (SX.S b)).depth ≤ 1 := by simp [PyData.depth]
    omega
  · rw [enc_le] at eo
    obtain ⟨c, hc2⟩ := sortedHeap_at (vs := ws) (out := out.toArray) atL
    have pzy : zs.Perm ys := by
      refine pz.trans ?_
      have h1 := py.keys.map (fun x : Str => x.cps.toList)
      rw [List.map_map, List.map_map] at h1
      exact h1.trans (by rw [show ((fun x : Str => x.cps.toList) ∘ SX.S) = (fun x : Tx => x) from by funext x; simp, List.map_id'])
    have kk : ∀ b u, s.heap.get? b = some u → (sortedHeap (s1.heap.push (seqObj "list" ws.toArray 0)) s1.heap.objs.size ws out.toArray).get? b = some u := fun b u e => by
      have lt := Heap.lt_size (k1 b u e)
      rw [sortedHeap_old (Nat.ne_of_lt lt) (by rw [size_push']; exact Nat.lt_succ_of_lt lt)]
      exact Heap.get?_push_of_some _ (k1 b u e)
    have hn : H s1.heap.objs.size = none := I.hok.fresh sz
    have J := I.call (ch := []) (g' := s1.gens) (d' := s1.drawn) (t' := s1.toks) (Un.laid kk sz hn) (I.hok.laid kk sz (o := .lst ((sortT zs).map T)) ⟨by rw [List.length_map, sortT_len, ← ez.length]; exact small, out, c, vals_of_each eo, hc2⟩) (by rw [g1]; exact I.bare) (fun _ z => nomatch z)
    refine wpAny_pure ⟨_, rfl, .ref s1.heap.objs.size, _, ?_, rfl, q zs _ pzy hn⟩
    have e : ({ s1 with heap := sortedHeap (s1.heap.push (seqObj "list" ws.toArray 0)) s1.heap.objs.size ws out.toArray } : Shared) = { s with heap := sortedHeap (s1.heap.push (seqObj "list" ws.toArray 0)) s1.heap.objs.size ws out.toArray, gens := s1.gens, drawn := s1.drawn, toks := s1.toks } := by
      cases s1
      cases s
      cases o1
      rfl
    rw [e]
    exact J
end
end Wt
set_option Elab.async false
set_option linter.all false
set_option maxRecDepth 100000
set_option maxHeartbeats 2000000
/-! text[::-1]; rules with the part given; lists put behind one another -/
namespace Wt
open PySem PySem.Spec PyProof.Rows L2 Evl Wc
theorem rev_range (a : Tx) : (List.range a.length).map (fun k => a.getD (a.length - 1 - k) 0) = a.reverse := by
  apply List.ext_getElem
  · simp
  · intro i h1 h2
    have hl : i < a.length := by simpa using h1
    rw [List.getElem_map, List.getElem_range, List.getElem_reverse, List.getD_eq_getElem?_getD, List.getElem?_eq_getElem (by omega)]
    rfl
theorem made_rev (a : Tx) (t u : Tok) : sliceMade (SX.S a) t none none (some ((-1 : Int), u)) = .str (SX.S a.reverse) := by
  unfold sliceMade slicePicked
  rw [if_neg (by
    rw [show ((((some ((-1 : Int), u)).map (·.1)).getD 1 == 1)) = false from rfl]
    simp)]
  show Made.str ⟨((Builtin.Str.strSliceIndices none none (-1) (SX.S a).length).filterMap ((SX.S a).cps[·]?)).toArray⟩ = _
  rw [picked_rev, filterMap_get, List.map_map]
  · have e : (SX.S a).length = a.length := S_length a
    rw [e]
    congr 1
    show (⟨((List.range a.length).map fun k => (SX.S a).cps.getD (a.length - 1 - k) 0).toArray⟩ : Str) = SX.S a.reverse
    rw [← rev_range]
    congr 2
    apply List.map_congr_left
    intro k hk
    show a.toArray.getD _ 0 = _
    simp [Array.getD, List.getD_eq_getElem?_getD]
    split
    · rename_i h
      rw [List.getElem?_eq_getElem h]
      rfl
    · rename_i h
      rw [List.getElem?_eq_none (by omega)]
      rfl
  · intro i hi
    obtain ⟨k, hk, rfl⟩ := List.mem_map.mp hi
    have := List.mem_range.mp hk
    show _ < (SX.S a).length
    omega
def tRevT (te : TE) : TE := fun σ H Q => te σ H fun x H1 => ∃ a : Tx, x = T a ∧ a.length ≤ 16777216 ∧ Q (T a.reverse) H1
section
variable {X : Cx}
theorem pe_revT {e : Expr} {te : TE} {k : Nat} {p1 p2 p3 pos : Pos} (he : PE X e te) : PE X (.Subscript e (.Slice none none (some (.UnaryOp .USub (.Constant (.int 1) k p1) p2)) p3) pos) (tRevT te) := by
  refine ⟨fun pins s σ H Q I h => Subscript_ (thn (he.run pins s σ H _ I h) fun v s1 ⟨x, H1, I1, r1, q1⟩ => ?_)⟩
  obtain ⟨a, ex, hz, q⟩ := q1
  subst ex
  obtain ⟨t, rfl⟩ := r1
  have neg : PO X (some (.UnaryOp .USub (.Constant (.int 1) k p1) p2)) (tPart (tUn (rU fun i => .int (-i)) (tC (.int 1)))) := po_some (pe_un un_neg pe_int)
  refine wpAny_Slice (thn (po_none.run pins s1 σ H1 (fun o G => o = none ∧ G = H1) I1 ⟨rfl, rfl⟩) fun vl s2 ⟨l, H2, I2, pl, el, e2⟩ => ?_)
  subst el e2
  refine thn (po_none.run pins s2 σ H2 (fun o G => o = none ∧ G = H2) I2 ⟨rfl, rfl⟩) fun vu s3 ⟨u, H3, I3, pu, eu, e3⟩ => ?_
  subst eu e3
  refine thn (neg.run pins s3 σ H3 (fun o G => o = some (-1) ∧ G = H3) I3 ⟨1, rfl, -1, rfl, rfl, rfl⟩) fun vs s4 ⟨o, H4, I4, ps, eo, e4⟩ => ?_
  subst eo e4
  obtain ⟨l', rfl, hl⟩ := IsPart.raw pl
  obtain ⟨u', rfl, hu⟩ := IsPart.raw pu
  obtain ⟨st, rfl, hst⟩ := IsPart.raw ps
  cases l' with
  | some z => cases hl
  | none => cases u' with
    | some z => cases hu
    | none => cases st with
      | none => cases hst
      | some z =>
        obtain ⟨n, w⟩ := z
        have hn : n = -1 := Option.some.inj hst
        subst hn
        have I5 : Inv X pins σ H4 { s4 with heap := s4.heap.push { cls := .type "slice", data := .fields #[partValue none, partValue none, partValue (some (-1, w))] } } := I4.kept (t' := s4.toks) fun b ob q => Heap.get?_push_of_some _ q
        refine tail_any (T := "str") (ops := [.str (SX.S a) t, .ref s4.heap.objs.size]) (typeIs_str _ _ _) (PySem.F.slot_str_getitem.lookup) ?_ (by with_unfolding_all rfl)
        refine wpAny_getItem_str_slice (l := none) (u := none) (st := some (-1, w)) ⟨_, Heap.get?_push_size _ rfl, rfl, rfl⟩ rfl ?_
        rw [made_rev]
        refine ⟨?_, .str _, _, I5.tok _, ⟨_, rfl⟩, q⟩
        rw [S_length, List.length_reverse]
        exact Nat.le_trans hz (by decide)
end
section
variable {X : Cx} (P : Program) (w : World) (K : PySem.W.Frag)
def rSortX (K : PySem.W.Frag) (P : Program) (w : World) : List V → Hp → VK → Prop := fun vs H Q => rSortTx K vs H Q ∨ rSortSet P w vs H Q
theorem kset (hc : X.calm = true := by rfl) (hK : X.K = K := by rfl) (hP : X.prog = P := by rfl) (hw : X.w = w := by rfl) : CallR X (.type "set") (rSetTx K P w) := by
  subst hK hP hw
  exact cr_setTx hc
theorem ksorted (hu : X.A.units + 64 < cLine) (hc : X.calm = true := by rfl) (hK : X.K = K := by rfl) (hP : X.prog = P := by rfl) (hw : X.w = w := by rfl) : CallR X (.builtin "sorted") (rSortX K P w) := by
  subst hK hP hw
  exact CallR.or (cr_sortTx hu) (cr_sortSet hc hu)
theorem krev {e : Expr} {te : TE} (h : PE X e (tRevL X.K te)) (hK : X.K = K := by rfl) : PE X e (tRevL K te) := hK ▸ h
end
section
variable {K : PySem.W.Frag} {P : Program} {w : World} {σ : L2.St} {H : Hp} {te : TE}
theorem ev_revT {a : Tx} (h : Ev te σ H (T a)) (hl : a.length ≤ 16777216) : Ev (tRevT te) σ H (T a.reverse) := fun H1 e _ q => h H1 e _ fun H2 e2 => ⟨a, rfl, hl, q H2 e2⟩
theorem el_revL {p : Addr} {xs : List V} (h : Ev te σ H (.ref p)) (hp : SqL K H p xs) : EvL (tRevL K te) σ H xs.reverse := fun H1 e _ q => h H1 e _ fun H2 e2 => ⟨p, xs, rfl, ex_l (e.trans e2) hp, fun r hr => q r _ (fresh_back e2 hr) (e2.trans (Ex.new hr)) upd_same⟩
theorem el_revN {xs : List V} (h : EvL te σ H xs) : EvL (tRevL K te) σ H xs.reverse := fun H1 e _ q => h H1 e _ fun p H2 hp e2 h2 => ⟨p, xs, rfl, sq_of h2, fun r hr => q r _ (fresh_back e2 hr) (e2.trans (Ex.new hr)) upd_same⟩
/-- sorted(set(..)), of a new list of texts -/
theorem el_sortSet {xs : List Tx} (h : EvL te σ H (xs.map T)) (hl : xs.length ≤ 4000) (Q : VK) (k : ∀ p ys H1, Uniq xs ys → ys.length ≤ xs.length → H p = none → Ex H H1 → H1 p = some (.lst ((sortT ys).map T)) → Q (.ref p) H1) :
    tCB (rSortX K P w) (tCons (tCB (rSetTx K P w) (tCons te tNil)) tNil) σ H Q := h H (Ex.refl _) _ fun p H1 hp e1 h1 => ⟨p, xs, rfl, sq_of h1, hl, fun q ys u hly hq => .inr ⟨q, ys, rfl, upd_same, fun zs r pz hr => by
  have hr1 : H1 r = none := fresh_back (Ex.new hq) hr
  exact k r zs _ ⟨pz.nodup_iff.mpr u.nd, fun x => (pz.mem_iff).trans (u.mem x)⟩ (by rw [pz.length_eq]; exact hly) (fresh_back e1 hr1) ((e1.trans (Ex.new hq)).trans (Ex.new hr)) upd_same⟩⟩
/-- sorted(..) of a standing list of texts -/
theorem el_sorted {p : Addr} {xs : List Tx} (h : Ev te σ H (.ref p)) (hp : SqL K H p (xs.map T)) : EvL (tCB (rSortX K P w) (tCons te tNil)) σ H ((sortT xs).map T) := fun H1 e _ q => h H1 e _ fun H2 e2 => .inl ⟨p, xs, rfl, ex_l (e.trans e2) hp, fun r hr => q r _ (fresh_back e2 hr) (e2.trans (Ex.new hr)) upd_same⟩
end
end Wt
set_option Elab.async false
set_option linter.all false
set_option maxRecDepth 100000
set_option maxHeartbeats 2000000
/-! small things for lists and tests -/
namespace Wt
open PySem PySem.Spec PyProof.Rows L2 Evl Wc
section
variable {K : PySem.W.Frag} {σ : L2.St} {H : Hp} {ta tb tc te : TE} {x y z : V}
theorem ev_chain {r r' : R2} {b1 b2 : Bool} (ha : Ev ta σ H x) (hb : Ev tb σ H y) (h1 : RV r x y H (.bl b1)) (hc : Ev tc σ H z) (h2 : RV r' y z H (.bl b2)) : Ev (tChain r r' ta tb tc) σ H (.bl (b1 && b2)) := fun H1 e1 Q q =>
  ha H1 e1 _ fun H2 e2 => hb H2 (e1.trans e2) _ fun H3 e3 => h1 H3 ((e1.trans e2).trans e3) _ fun H4 e4 => ⟨b1, rfl, by
    have e14 := (e2.trans e3).trans e4
    cases b1 with
    | true =>
      show tc σ H4 _
      exact hc H4 (e1.trans e14) _ fun H5 e5 => h2 H5 ((e1.trans e14).trans e5) _ fun H6 e6 => q H6 ((e14.trans e5).trans e6)
    | false => exact q H4 e14⟩
theorem erase_perm {α : Type} {xs : List α} {d : Nat} (h : d < xs.length) : (xs[d] :: xs.eraseIdx d).Perm xs := by
  rw [List.eraseIdx_eq_take_drop_succ]
  have e : xs = xs.take d ++ xs[d] :: xs.drop (d + 1) := by
    rw [List.getElem_cons_drop, List.take_append_drop]
  conv => rhs; rw [e]
  exact List.perm_middle.symm
/-- the signs of a text's value -/
def unT : V → Tx
  | .str x => x.cps.toList
  | _ => []
theorem map_unT (xs : List Tx) : (xs.map T).map unT = xs := by
  rw [List.map_map]
  conv => rhs; rw [← List.map_id xs]
  rfl
theorem perm_texts {ys : List V} {xs : List Tx} (h : ys.Perm (xs.map T)) : ∃ zs : List Tx, ys = zs.map T ∧ zs.Perm xs := by
  obtain ⟨zs, rfl, _⟩ := texts_of (acc := ys) (g := fun _ => True) fun v hv => by
    obtain ⟨t, _, rfl⟩ := List.mem_map.mp (h.mem_iff.mp hv)
    exact ⟨t, rfl, trivial⟩
  have := h.map unT
  rw [map_unT, map_unT] at this
  exact ⟨zs, rfl, this⟩
theorem seqIx_nat {d n : Nat} (h : d < n) : seqIndex? (d : Int) n = some d := by
  have : ¬ (d : Int) < 0 := by omega
  unfold seqIndex?
  simp [this, h]
/-- lists put behind one another: both new | the first stands -/
theorem el_catNN {xs ys : List V} (ha : EvL ta σ H xs) (hb : EvL tb σ H ys) (hz : xs.length + ys.length ≤ 100000) : EvL (tOp rCat ta tb) σ H (xs ++ ys) := fun H1 e1 Q q =>
  ha H1 e1 _ fun p H2 hp e2 h2 => hb H2 (e1.trans e2) _ fun r H3 hr e3 h3 => ⟨p, r, xs, ys, rfl, rfl, e3 _ _ h2, h3, sz_of hz, fun n hn => q n _ (fresh_back (e2.trans e3) hn) ((e2.trans e3).trans (Ex.new hn)) upd_same⟩
theorem el_catVN {p : Addr} {xs ys : List V} (ha : Ev ta σ H (.ref p)) (hp : H p = some (.lst xs)) (hb : EvL tb σ H ys) (hz : xs.length + ys.length ≤ 100000) : EvL (tOp rCat ta tb) σ H (xs ++ ys) := fun H1 e1 Q q =>
  ha H1 e1 _ fun H2 e2 => hb H2 (e1.trans e2) _ fun r H3 hr e3 h3 => ⟨p, r, xs, ys, rfl, rfl, ((e1.trans e2).trans e3) _ _ hp, h3, sz_of hz, fun n hn => q n _ (fresh_back (e2.trans e3) hn) ((e2.trans e3).trans (Ex.new hn)) upd_same⟩
theorem ev_lenU {p : Addr} {xs : List V} (h : Ev ta σ H (.ref p)) (hp : SqT K H p xs) : Ev (tCB (rLenS K) (tCons ta tNil)) σ H (.int (xs.length : Int)) := fun H1 e Q q => h H1 e _ fun H2 e2 => ⟨p, xs, rfl, .inr (ex_t (e.trans e2) hp), q H2 e2⟩
end
end Wt
set_option Elab.async false
set_option linter.all false
set_option maxRecDepth 100000
set_option maxHeartbeats 2000000
/-! comprehensions of so many turns as are drawn -/
namespace Wt
open PySem PySem.Spec PyProof.Rows L2 Evl Wc
section
variable {K : PySem.W.Frag} {fa : Addr} {σ : L2.St} {H : Hp} {te te0 : TE}
theorem lcRD {j : Nat} {vs : List Nat} {lo N c m0 : Nat} (good : V → Prop) (hc : Dw fa σ m0 te0 (GdI (lo : Int) (N : Int))) (hN : N ≤ 1000) (G : GF fa (m0 + N * c) H) (hw : ∀ x, wipe ((wipe σ vs).set j (some x)) vs = wipe σ vs)
    (he : ∀ x n H1, Rf fa n H H1 → GF fa c H1 → ∀ Q' : VK, (∀ y H2, good y → Rf fa c H1 H2 → Q' y H2) → te ((wipe σ vs).set j (some x)) H1 Q') (Q : VK)
    (k : ∀ p H2 acc, H p = none → Rf fa (m0 + N * c) H H2 → H2 p = some (.lst acc) → lo ≤ acc.length → acc.length ≤ N → (∀ v ∈ acc, good v) → Q (.ref p) H2) : tLc (iRng1 (tCons te0 tNil)) (gName j) tYes te vs σ H Q :=
  hc H (G.mono (by omega)) _ fun v H1 ⟨n, hv, h0, h1⟩ R1 => by
    obtain ⟨n, rfl⟩ := Int.eq_ofNat_of_zero_le (show 0 ≤ n by omega)
    subst hv
    have hn : n ≤ N := by omega
    have hnc : n * c ≤ N * c := Nat.mul_le_mul_right c hn
    have G1 : GF fa (N * c) H1 := G.go R1 (by omega)
    have h : tLc (iRng1 fun _ H' Q' => Q' [.int (n : Int)] H') (gName j) tYes te vs σ H1 Q := by
      refine lcD good c G1.is (src_range1 (n := n) (fun H2 e2 Q2 q => q H2 (Ex.refl _)) (by omega)) (fun z => z) (by omega) hw (fun i x H2 hi _ R2 Q2 q2 => ?_) fun p H2 acc hp R2 h2 hl hg => k p H2 acc (R1.free G.is hp G1.is) ((R1.trans R2).mono (by omega)) h2 (by omega) (by omega) hg
      have hic : i * c + c ≤ N * c := by
        have := Nat.mul_le_mul_right c (show i + 1 ≤ N by omega)
        rw [Nat.succ_mul] at this
        exact this
      exact he x _ H2 (R1.trans R2) (G1.go R2 hic) Q2 q2
    exact h
/-- over a standing list of texts, with a test that draws; what is kept is of the list -/
theorem texts_GdT {acc : List V} {ok : Nat → Prop} {lo n : Nat} (h : ∀ v ∈ acc, GdT ok lo n v) : ∃ ws : List Tx, acc = ws.map T ∧ ∀ t ∈ ws, lo ≤ t.length ∧ t.length ≤ n ∧ ∀ c ∈ t, ok c := texts_of fun v hv => by
  obtain ⟨s, rfl, h1, h2, h3⟩ := h v hv
  exact ⟨s, rfl, h1, h2, h3⟩
theorem dI_sub {ta tb : TE} {m1 m2 : Nat} {a b c d : Int} (h1 : Dw fa σ m1 ta (GdI a b)) (h2 : Dw fa σ m2 tb (GdI c d)) : Dw fa σ (m1 + m2) (tOp (rI0 fun i j => .int (i - j)) ta tb) (GdI (a - d) (b - c)) := dw_op h1 h2 fun x y ⟨i, hi, h3, h4⟩ ⟨j, hj, h5, h6⟩ => ⟨.int (i - j), ⟨i - j, rfl, by omega, by omega⟩, fun H Q q => ⟨i, j, hi, hj, q⟩⟩
theorem dI_wk {m : Nat} {a b c d : Int} (h : Dw fa σ m te (GdI a b)) (h1 : c ≤ a := by omega) (h2 : b ≤ d := by omega) : Dw fa σ m te (GdI c d) := dw_as h fun v ⟨i, hi, h3, h4⟩ => ⟨i, hi, by omega, by omega⟩
theorem dT_wk {m : Nat} {ok : Nat → Prop} {a b c d : Nat} (h : Dw fa σ m te (GdT ok a b)) (h1 : c ≤ a := by omega) (h2 : b ≤ d := by omega) : Dw fa σ m te (GdT ok c d) := dw_as h fun v ⟨i, hi, h3, h4, h5⟩ => ⟨i, hi, by omega, by omega, h5⟩
/-- one of displayed numbers -/
theorem dI_oneL {i : Nat} {ns : List Int} {lo hi : Int} (h0 : σ[i]? = some (some (.ref fa))) (h : ∀ H, EvL te σ H (ns.map V.int)) (hg : ∀ n ∈ ns, lo ≤ n ∧ n ≤ hi) (hs : ns ≠ []) (hl : ns.length ≤ 1000) : Dw fa σ 1 (tCall (sp_one K) [] E0 (tCons (tVar i) (tCons te tNil))) (GdI lo hi) :=
  dw_oneL h0 h (fun v hv => by
    obtain ⟨n, hn, rfl⟩ := List.mem_map.mp hv
    exact ⟨n, rfl, (hg n hn).1, (hg n hn).2⟩) (fun z => hs (List.map_eq_nil_iff.mp z)) (by rw [List.length_map]; omega)
/-- a list comprehension over a list, at which draws are made: test and step -/
theorem lcDT {wi : TI} {tt : TT} {j : Nat} {vs : List Nat} {n : Nat} {own : Addr → Prop} {P : Nat → V → Hp → Prop} {Q : VK} (good : V → Prop) (c : Nat) (hf : H fa ≠ none) (hs : Src wi σ H n own P) (ho : ¬ own fa) (hn : n ≤ 40000) (hw : ∀ x, wipe ((wipe σ vs).set j (some x)) vs = wipe σ vs)
    (ht : ∀ (i : Nat) (x : V) H1, i < n → P i x H1 → Rf fa (i * c) H H1 → ∀ Q' : Bool → Hp → Prop, (∀ b H2, Rf fa c H1 H2 → Q' b H2) → tt ((wipe σ vs).set j (some x)) H1 Q')
    (he : ∀ (i : Nat) (x : V) H0 H1, i < n → P i x H0 → Rf fa c H0 H1 → ∀ Q' : VK, (∀ y H2, good y → Ex H1 H2 → Q' y H2) → te ((wipe σ vs).set j (some x)) H1 Q')
    (k : ∀ p H2 acc, H p = none → Rf fa (n * c) H H2 → H2 p = some (.lst acc) → acc.length ≤ n → (∀ v ∈ acc, good v) → Q (.ref p) H2) : tLc wi (gName j) tt te vs σ H Q :=
  hs H (Ex.refl H) _ fun J H1 S e1 w hS => fun Dl hD => by
    have hDH : H Dl = none := fresh_back e1 hD
    have hne : Dl ≠ fa := fun z => hf (z ▸ hDH)
    have hf1 : H1 fa ≠ none := by
      cases hq : H fa with
      | none => exact absurd hq hf
      | some o => rw [e1 _ _ hq]; exact fun z => nomatch z
    refine lc_it w (Qd := fun H3 => Q (.ref Dl) H3) (fun i Hi => Rf fa (i * c) H1 Hi ∧ ∃ acc, Hi Dl = some (.lst acc) ∧ acc.length ≤ i ∧ ∀ v ∈ acc, good v) ?_ (fun i Hi hi p => hS (fun b => b = fa) Hi (by rintro b rfl; exact ⟨hf, ho⟩) p.1.keep) ?_ ?_
    · exact ⟨((Rf.refl H1).upd hD hf1).mono (Nat.zero_le _), [], upd_same, Nat.le_refl _, fun v hv => nomatch hv⟩
    · rintro i x Ha Hb hi ⟨R, acc, h1, h2, h3⟩ ⟨ey, hP⟩
      refine ⟨hw x, ?_⟩
      have Rb : Rf fa (i * c) H1 Hb := R.then ey
      refine ht i x Hb hi hP (Rf.pre e1 Rb) _ fun b H3 R3 => ?_
      have h13 : H3 Dl = some (.lst acc) := R3.at_ (ey _ _ h1) hne
      have Rc : Rf fa ((i + 1) * c) H1 H3 := (Rb.trans R3).mono (by rw [Nat.succ_mul]; exact Nat.le_refl _)
      cases b with
      | true =>
        show te ((wipe σ vs).set j (some x)) H3 fun y H4 => _
        refine he i x Hb H3 hi hP R3 _ fun y H4 hy e4 => ⟨acc, e4 _ _ h13, sz_lt (by omega), (Rc.then e4).upd hD hf1, acc ++ [y], upd_same, by rw [List.length_append]; exact Nat.succ_le_succ h2, fun v hv => ?_⟩
        rcases List.mem_append.mp hv with hv | hv
        · exact h3 v hv
        · rw [List.mem_singleton.mp hv]
          exact hy
      | false => exact ⟨Rc, acc, h13, Nat.le_succ_of_le h2, h3⟩
    · rintro H3 ⟨R, acc, h1, h2, h3⟩
      exact k Dl H3 acc hDH (Rf.pre e1 R) h1 h2 h3
/-- the list is the value of a reading -/
theorem lc_of {te0 : TE} {g : TG} {tt : TT} {vs : List Nat} {Q : VK} (h : te0 σ H fun v H1 => tLc (iList K (fun _ H' Q' => Q' v H')) g tt te vs σ H1 Q) : tLc (iList K te0) g tt te vs σ H Q := h
end
end Wt
set_option Elab.async false
set_option linter.all false
set_option maxRecDepth 100000
set_option maxHeartbeats 2000000
/-! enumerate(t), t a tuple -/
namespace Wt
open PySem PySem.Spec PyProof.Rows L2 Evl Wc
theorem meets_enum1 {v : Value} {o : Obj} {Hh : Heap → Prop} (B : Begins v o Hh) :
    Meets (Builtin.«enumerate.__new__» ⟨[.type "enumerate", v], []⟩) (fun _ R s => Hh s.heap ∧ R (.ok (.ret (.ref (s.heap.push o).objs.size))) { s with heap := (s.heap.push o).push { cls := .type "enumerate", data := .fields #[.none, .bool false, .ref s.heap.objs.size, rawInt 0, .none, .none] } }) :=
  .of_wp fun P w A R s h => by
    obtain ⟨hp, g, d, tk, os⟩ := s
    obtain ⟨h1, h2⟩ := h
    have hsub := sub_enumerate
    have begin_ : ∀ {A' : Around} {E : Value → Shared → Prop} {Q : Value → Shared → Prop}, Q (.ref hp.objs.size) ⟨hp.push o, g, d, tk, os⟩ → wpAny (model P w) A' (pyIter v) Q E ⟨hp, g, d, tk, os⟩ := fun q => B.iter P w _ _ ⟨hp, g, d, tk, os⟩ _ h1 q
    wp_walk
    refine wpAny_stack_any fun st => wpAny_pure ?_
    split
    · rename_i c _ _ _ _ _
      cases (c == Value.type "enumerate")
      · wp_walk using begin_
        exact ⟨_, rfl, h2⟩
      · wp_walk using begin_
        exact ⟨_, rfl, h2⟩
    · wp_walk using begin_
      exact ⟨_, rfl, h2⟩
section
variable {P : Program} {w : World} {A : Around} {E : Value → Shared → Prop} {s : Shared}
theorem call_enum1 {v : Value} {o : Obj} {Hh : Heap → Prop} {Q : Value → Shared → Prop} (B : Begins v o Hh) (h1 : Hh s.heap)
    (h : ∀ h', IsEnum h' (s.heap.objs.size + 1) s.heap.objs.size 0 .none → h'.get? s.heap.objs.size = some o → (∀ b o, s.heap.get? b = some o → h'.get? b = some o) → Q (.ref (s.heap.objs.size + 1)) { s with heap := h' }) :
    wpAny (model P w) A (call (.type "enumerate") [v]) Q E s := by
  refine callType_new F.called_enumerate (by decide) (F.typeCall_enumerate_1 _) (F.newCall_enumerate_1 _) (fun obj => F.args_object_init_2 obj _) F.entry_enumerate_new (meets_enum1 B) ⟨h1, ?_⟩
  have z : (s.heap.push o).objs.size = s.heap.objs.size + 1 := Heap.size_push ..
  show _ ∧ _
  rw [z]
  have he : IsEnum ((s.heap.push o).push { cls := .type "enumerate", data := .fields #[.none, .bool false, .ref s.heap.objs.size, rawInt 0, .none, .none] }) (s.heap.objs.size + 1) s.heap.objs.size 0 .none := by
    rw [← z]
    exact Heap.get?_push_size (s.heap.push o) rfl
  exact ⟨⟨_, he, rfl⟩, h _ he (Heap.get?_push_of_some _ (Heap.get?_push_size _ B.free)) fun b u x => Heap.get?_push_of_some _ (Heap.get?_push_of_some _ x)⟩
end
/-- the tuple at a, each item in a new pair with its number -/
def ItEt (K : PySem.W.Frag) (a : Addr) : It :=
  ⟨fun i H => ∃ (xs : List V) (x : V), SqT K H a xs ∧ xs[i]? = some x, fun i H v H' => ∃ T x, v = .ref T ∧ H T = none ∧ H' = upd H T (.tup [.int (i : Nat), x]) ∧ ∀ xs, SqT K H a xs → xs[i]? = some x, fun i H => ∃ xs : List V, SqT K H a xs ∧ xs.length ≤ i⟩
theorem turn_enumT {P : Program} {w : World} {K : PySem.W.Frag} {elts : List Expr} {kk : Nat} {tpos : Pos} (a e it : Addr) (hne : e ≠ it) (ha1 : a ≠ it) (ha2 : a ≠ e) :
    Turn P w K (.Tuple elts kk tpos) (ItEt K a) [e, it] e (fun i h => (∃ old, IsEnum h e it ((i : Nat) : Int) old) ∧ h.IsTupleIter it a i) where
  mem := List.mem_cons_self
  obj := fun i h st b hb => by
    obtain ⟨⟨old, he⟩, o, ho, hc, hd⟩ := st
    rcases List.mem_cons.mp hb with z | z
    · rw [z]
      exact ⟨_, he, fun v q => nomatch q⟩
    · rw [List.mem_singleton.mp z]
      exact ⟨o, ho, fun v q => by rw [hd] at q; cases q⟩
  keep := fun i h h' st k => let ⟨⟨old, he⟩, hi⟩ := st; ⟨⟨old, k e List.mem_cons_self _ he⟩, hi.at fun o q => k it (by simp) o q⟩
  item := by
    intro X hP hw hK hc i pins s σ H E I hf st hg
    subst hP hw hK
    obtain ⟨⟨old, he⟩, hit⟩ := st
    obtain ⟨xs, x, hq, hx⟩ := hg
    obtain ⟨its, rv, p, hz⟩ := I.tuple hq
    obtain ⟨u, hu, ru⟩ := rv.get hx
    have le : e < s.heap.objs.size := Heap.lt_size he
    have li : it < s.heap.objs.size := by obtain ⟨_, q, _⟩ := hit; exact Heap.lt_size q
    have hlt : i < its.toArray.size := by
      rw [List.size_toArray]
      exact (List.getElem?_eq_some_iff.mp hu).1
    have D := Draws.tuple (prog := X.prog) (w := X.w) (A := X.A.in1) (I.ok.hd hc) it a ha1 its.toArray
    refine wpAny_pyNext_enum_itemD D he ⟨hit, p⟩ hlt hne (by simp [hne, ha2.symm]) fun y h' tk hP2 ho hst hT hsz hk => ?_
    have hyu : y = u := by
      have e1 : its.toArray[i]? = some u := by simpa using hu
      rw [e1] at hP2
      exact (Option.some.inj hP2).symm
    subst hyu
    refine ⟨_, rfl, wpAny_letOwnedTupleGo_enum (s := { s with heap := h', toks := tk + 1 }) ho fun h2 he2 sb => ?_⟩
    have hT2 : h2.get? s.heap.objs.size = some { cls := .type "tuple", data := .seq #[.int i tk, y] } := (sb.2 _ (Nat.ne_of_gt le)).trans hT
    have new : ObjOk X.prog X.w (upd H s.heap.objs.size (.tup [.int (i : Nat), x])) h2 s.heap.objs.size (.tup [.int (i : Nat), x]) := ⟨by show 2 ≤ sizeLine; decide, [.int i tk, y], .cons ⟨_, rfl⟩ (.cons ru .nil), ⟨_, hT2, rfl, _, rfl⟩⟩
    have I1 : Inv X pins σ (upd H s.heap.objs.size (.tup [.int (i : Nat), x])) { s with heap := h2, toks := tk + 1 } :=
      I.turnedNew (ch := [e, it]) (fun b ob hb q => (sb.2 b (fun z => hb (by simp [z]))).trans (hk b ob (fun z => hb (by simp [z])) (fun z => hb (by simp [z])) q)) hf (Nat.le_refl _) new
    refine ⟨.ref s.heap.objs.size, _, I1, rfl, ⟨_, x, rfl, I.hok.fresh (Nat.le_refl _), rfl, fun ys hy => by rw [I.tuple_inj hy hq]; exact hx⟩, ⟨⟨y, ?_⟩, hst.1.at fun o q => (sb.2 it (Ne.symm hne)).trans q⟩, fun b hb => ?_⟩
    · rw [show ((i + 1 : Nat) : Int) = (i : Int) + 1 by omega]
      exact he2
    · have lb : b < s.heap.objs.size := by
        rcases List.mem_cons.mp hb with z | z
        · rw [z]; exact le
        · rw [List.mem_singleton.mp z]; exact li
      rw [upd_ne (Nat.ne_of_lt lb)]
      exact (hf b hb).1
  done := by
    intro X hP hw hK hc i pins s σ H E I hf st hg
    subst hP hw hK
    obtain ⟨⟨old, he⟩, hit⟩ := st
    obtain ⟨xs, hq, hx⟩ := hg
    obtain ⟨its, rv, p, hz⟩ := I.tuple hq
    obtain ⟨f0, f1, f2, f3, f4, f5⟩ := hf it (by simp)
    have hl := rv.length
    have none_ : its.toArray[i]? = none := by simp; omega
    have D : Draws X.prog X.w X.A.in1 it [it, a] 0 (fun _ _ => False) (fun _ h => h.IsTupleIter it a i ∧ h.IsTuple a its.toArray) := ⟨fun _ _ st => let ⟨o, ho, _⟩ := st.1; ⟨o, ho⟩, fun _ _ _ st k => ⟨st.1.at fun o q => k it (by simp) o q, st.2.at fun o q => k a (by simp) o q⟩, fun _ _ _ _ z => absurd z (Nat.not_lt_zero _), fun s Q E st hE => wpAny_nextOf_tuple_end (I.ok.hd hc) st.1 st.2 none_ hE⟩
    exact wpAny_pyNext_enum_endD D he ⟨hit, p⟩ fun h' eb => ⟨rfl, I.turned (t' := s.toks) (fun b o hb q => eb b o hb q) f0 f1 f3 f4 f5⟩
  self := fun A i s Q E st h => let ⟨⟨_, he⟩, _⟩ := st; wpAny_pyIter_enum he h
def iEnumT (K : PySem.W.Frag) (ta : TA) : TI := fun σ H R => ta σ H fun vs H1 => ∃ a xs, vs = [.ref a] ∧ SqT K H1 a xs ∧ R (ItEt K a) H1
theorem pi_enumT {X : Cx} {e : Expr} {ta : TA} {p pos tpos : Pos} {elts : List Expr} {kk : Nat} (hg : Gl X "enumerate") (hm : X.mg "enumerate" = none) (ha : PA X [e] ta) (hs : starEach [e] X.env = [(false, eval e X.env)] := by rfl) : PI X (.Tuple elts kk tpos) (.Call (.Name "enumerate" p) [e] [] pos) (iEnumT X.K ta) := by
  refine ⟨fun pins s σ H R I h => Call_ (ld_blt I hg hm boot_enumerate (PyProof.Rows.callWith_type1 (thn (ha.run pos pins s σ H _ I h) fun us s1 ⟨vs, H1, I1, r1, q1⟩ => ?_) hs rfl))⟩
  obtain ⟨a, xs, ex, hq, q⟩ := q1
  subst ex
  obtain rfl := Vals.ref1 r1
  obtain ⟨its, rv, pt, hz⟩ := I1.tuple hq
  have la : a < s1.heap.objs.size := by obtain ⟨o, ho, _⟩ := pt; exact Heap.lt_size ho
  refine call_enum1 (begins_tuple a its.toArray) pt fun h' he hi hk => wpAny_pyIter_enum he ?_
  have I2 : Inv X pins σ H1 { s1 with heap := h' } := I1.kept (t' := s1.toks) hk
  refine ⟨s1.heap.objs.size + 1, [s1.heap.objs.size + 1, s1.heap.objs.size], _, _, H1, rfl, I2, turn_enumT a (s1.heap.objs.size + 1) s1.heap.objs.size (Nat.succ_ne_self _) (Nat.ne_of_lt la) (Nat.ne_of_lt (Nat.lt_succ_of_lt la)), ⟨⟨.none, he⟩, ⟨_, hi, rfl, rfl⟩⟩, fun b hb => ?_, q⟩
  have hle : s1.heap.objs.size ≤ b := by
    rcases List.mem_cons.mp hb with z | z
    · rw [z]; exact Nat.le_succ _
    · rw [List.mem_singleton.mp z]; exact Nat.le_refl _
  exact I1.fpOk hle (I1.hok.fresh hle)
section
variable {K : PySem.W.Frag} {σ : L2.St} {H : Hp}
theorem walk_enumT {a : Addr} {xs : List V} : Walk (ItEt K a) xs.length (fun H => SqT K H a xs) (YPair (fun i => some (.int (i : Nat))) (fun i => xs[i]?)) := by
  refine ⟨fun i _ hi q => ⟨xs, xs[i], q, by simp [hi]⟩, fun _ q => ⟨xs, q, Nat.le_refl _⟩, fun i H v H' _ q y => ?_⟩
  obtain ⟨t, x, y1, y2, y3, y4⟩ := y
  exact ⟨t, .int (i : Nat), x, y1, y2, y3, rfl, y4 xs q⟩
theorem src_enumT {a : Addr} {xs : List V} {tl : TE} (h : Ev tl σ H (.ref a)) (hs : SqT K H a xs) : Src (iEnumT K (tCons tl tNil)) σ H xs.length (fun b => b = a) (fun i v Hb => ∃ p x, v = .ref p ∧ xs[i]? = some x ∧ Hb p = some (.tup [.int (i : Nat), x])) := fun H1 e R q =>
  h H1 e _ fun H2 e2 => ⟨a, xs, rfl, ex_t (e.trans e2) hs, q _ H2 _ e2 (walk_enumT.mono (fun _ z => z) fun i Ha v Hb _ _ hy => by
    obtain ⟨p, y, x, rfl, hn, rfl, h1, h2⟩ := hy
    refine ⟨Ex.new hn, p, x, rfl, h2, ?_⟩
    rw [← Option.some.inj h1]
    exact upd_same) fun B Ha hB ea => ea.tp (fun z => (hB a z).2 rfl) (ex_t (e.trans e2) hs)⟩
theorem kiet {X : Cx} (K : PySem.W.Frag) {tg it : Expr} {ta : TA} (h : PI X tg it (iEnumT X.K ta)) (hK : X.K = K := by rfl) : PI X tg it (iEnumT K ta) := hK ▸ h
theorem kiza {X : Cx} (K : PySem.W.Frag) {tg it : Expr} {ta : TA} (h : PI X tg it (RZ.iZipA X.K ta)) (hK : X.K = K := by rfl) : PI X tg it (RZ.iZipA K ta) := hK ▸ h
theorem kfl {X : Cx} (K : PySem.W.Frag) {e : Expr} {ta : TE} {f : Str} (h : PE X e (tFld X.K ta f)) (hK : X.K = K := by rfl) : PE X e (tFld K ta f) := hK ▸ h
theorem walk_zipT {a b : Addr} {xs ys : List V} {n : Nat} (hn : n = min xs.length ys.length) : Walk (RZ.ItzT K a b) n (fun H => SqT K H a xs ∧ SqT K H b ys) (YPair (fun i => xs[i]?) (fun i => ys[i]?)) := by
  subst hn
  refine ⟨fun i _ hi q => ⟨xs, ys, xs[i]'(by omega), ys[i]'(by omega), q.1, q.2, by simp [show i < xs.length by omega], by simp [show i < ys.length by omega]⟩, fun _ q => ⟨xs, ys, q.1, q.2, by omega⟩, fun i H v H' _ q y => ?_⟩
  obtain ⟨t, x, z, y1, y2, y3, y4, y5⟩ := y
  exact ⟨t, x, z, y1, y2, y3, y4 xs q.1, y5 ys q.2⟩
theorem src_zipT {a : Addr} {xs ys : List V} {n : Nat} {tl tr : TE} (h : Ev tl σ H (.ref a)) (h2 : EvU tr σ H ys) (hs : SqT K H a xs) (hn : n = min xs.length ys.length) :
    Src (RZ.iZipA K (tCons tl (tCons tr tNil))) σ H n (fun c => c = a ∨ H c = none) (fun i v Hb => ∃ p x y, v = .ref p ∧ xs[i]? = some x ∧ ys[i]? = some y ∧ Hb p = some (.tup [x, y])) := fun H1 e R q =>
  h H1 e _ fun H2 e2 => h2 H2 (e.trans e2) _ fun b H3 hb e3 hb3 => ⟨a, b, xs, ys, rfl, .inr ⟨ex_t ((e.trans e2).trans e3) hs, st_of hb3, q _ H3 _ (e2.trans e3) ((walk_zipT hn).mono (fun _ z => z) fun i Ha v Hb _ _ hy => by
    obtain ⟨p, x, y, rfl, hf, rfl, h1, h2⟩ := hy
    exact ⟨Ex.new hf, p, x, y, rfl, h1, h2, upd_same⟩) fun B Ha hB ea => ⟨ea.tp (fun z => (hB a z).2 (.inl rfl)) (ex_t ((e.trans e2).trans e3) hs), ea.tp (fun z => (hB b z).2 (.inr (fresh_back (e.trans e2) hb))) (st_of hb3)⟩⟩⟩
end
end Wt
set_option Elab.async false
set_option linter.all false
set_option maxRecDepth 100000
set_option maxHeartbeats 2000000
namespace K24
open PySem PySem.Spec PyProof.Rows L2 Evl Wc
def topS (i : Nat) : Stmt := PySem.Challenge.pw_wordscut_k24_lengths_of_lists_and_texts.main.body.getD i (.Pass ⟨0, 0, 0, 0⟩)
abbrev st_is_integer : Stmt := topS 10
abbrev st_is_within : Stmt := topS 11
abbrev st_need_number : Stmt := topS 12
abbrev st_are_signs : Stmt := topS 13
abbrev st_is_word : Stmt := topS 14
abbrev st_is_ascending : Stmt := topS 15
abbrev st_is_lot_form : Stmt := topS 16
abbrev st_need_lot : Stmt := topS 17
abbrev st_lengths_of : Stmt := topS 19
abbrev st_list_counts : Stmt := topS 20
abbrev st_step_and_from : Stmt := topS 21
abbrev st_count_lists : Stmt := topS 24
abbrev st_recurrence : Stmt := topS 25
abbrev st_first_longer : Stmt := topS 26
abbrev st_all_lengths : Stmt := topS 27
abbrev st__law_feed : Stmt := topS 29
abbrev st__law_draw : Stmt := topS 30
abbrev st__law_one : Stmt := topS 31
abbrev st__law_mixed : Stmt := topS 32
abbrev st__law_piece : Stmt := topS 33
abbrev st__law_tree : Stmt := topS 34
abbrev st__law_some_words : Stmt := topS 35
abbrev st__law_made : Stmt := topS 36
abbrev st__law_late : Stmt := topS 37
abbrev st__law_words : Stmt := topS 38
abbrev st__law_lot : Stmt := topS 39
abbrev st__law_lists : Stmt := topS 40
abbrev st__law_divisor : Stmt := topS 41
abbrev st__law_step : Stmt := topS 42
abbrev st__law_near_lot : Stmt := topS 43
abbrev st__law_asked : Stmt := topS 44
abbrev st__law_right : Stmt := topS 45
abbrev st_law : Stmt := topS 46
/-- what the top has left of names that are no defs -/
structure Md (K : PySem.W.Frag) (mg : Str → Option Value) : Prop where
  n_ValueError : mg "ValueError" = none
  n_all : mg "all" = none
  n_any : mg "any" = none
  n_bool : mg "bool" = none
  n_enumerate : mg "enumerate" = none
  n_int : mg "int" = none
  n_isinstance : mg "isinstance" = none
  n_len : mg "len" = none
  n_list : mg "list" = none
  n_max : mg "max" = none
  n_min : mg "min" = none
  n_range : mg "range" = none
  n_repr : mg "repr" = none
  n_set : mg "set" = none
  n_sorted : mg "sorted" = none
  n_str : mg "str" = none
  n_sum : mg "sum" = none
  n_tuple : mg "tuple" = none
  n_zip : mg "zip" = none
  c_SIGNS : ∃ t, mg "SIGNS" = some (.str (Str.ofString "abcd") t)
  c_MOST_LETTERS : ∃ t, mg "MOST_LETTERS" = some (.int 12 t)
  c_MOST_WORDS : ∃ t, mg "MOST_WORDS" = some (.int 12 t)
  c_MOST_COUNTED : ∃ t, mg "MOST_COUNTED" = some (.int 400 t)
  f_gcd : mg "gcd" = some (.builtin "math.gcd")
abbrev N_is_integer : List Str := ["thing"]
theorem sc_is_integer : FnScope N_is_integer ["thing"] (defScope st_is_integer) := ⟨rfl, rfl, rfl, by decide +kernel, rfl, by decide +kernel, by decide +kernel⟩
abbrev N_is_within : List Str := ["thing", "least", "most"]
theorem sc_is_within : FnScope N_is_within ["thing", "least", "most"] (defScope st_is_within) := ⟨rfl, rfl, rfl, by decide +kernel, rfl, by decide +kernel, by decide +kernel⟩
abbrev N_need_number : List Str := ["thing", "least", "most"]
theorem sc_need_number : FnScope N_need_number ["thing", "least", "most"] (defScope st_need_number) := ⟨rfl, rfl, rfl, by decide +kernel, rfl, by decide +kernel, by decide +kernel⟩
abbrev N_are_signs : List Str := ["thing", "most", "sign"]
theorem sc_are_signs : FnScope N_are_signs ["thing", "most"] (defScope st_are_signs) := ⟨rfl, rfl, rfl, by decide +kernel, rfl, by decide +kernel, by decide +kernel⟩
abbrev N_is_word : List Str := ["thing"]
theorem sc_is_word : FnScope N_is_word ["thing"] (defScope st_is_word) := ⟨rfl, rfl, rfl, by decide +kernel, rfl, by decide +kernel, by decide +kernel⟩
abbrev N_is_ascending : List Str := ["things", "one", "other"]
theorem sc_is_ascending : FnScope N_is_ascending ["things"] (defScope st_is_ascending) := ⟨rfl, rfl, rfl, by decide +kernel, rfl, by decide +kernel, by decide +kernel⟩
abbrev N_is_lot_form : List Str := ["thing", "word"]
theorem sc_is_lot_form : FnScope N_is_lot_form ["thing"] (defScope st_is_lot_form) := ⟨rfl, rfl, rfl, by decide +kernel, rfl, by decide +kernel, by decide +kernel⟩
abbrev N_need_lot : List Str := ["lot"]
theorem sc_need_lot : FnScope N_need_lot ["lot"] (defScope st_need_lot) := ⟨rfl, rfl, rfl, by decide +kernel, rfl, by decide +kernel, by decide +kernel⟩
abbrev N_lengths_of : List Str := ["lot", "longest", "word", "many"]
theorem sc_lengths_of : FnScope N_lengths_of ["lot"] (defScope st_lengths_of) := ⟨rfl, rfl, rfl, by decide +kernel, rfl, by decide +kernel, by decide +kernel⟩
abbrev N_list_counts : List Str := ["lot", "most", "lengths", "found", "many", "at", "number"]
theorem sc_list_counts : FnScope N_list_counts ["lot", "most"] (defScope st_list_counts) := ⟨rfl, rfl, rfl, by decide +kernel, rfl, by decide +kernel, by decide +kernel⟩
abbrev N_step_and_from : List Str := ["lot", "lengths", "word", "step", "many", "most", "there", "one", "missing"]
theorem sc_step_and_from : FnScope N_step_and_from ["lot"] (defScope st_step_and_from) := ⟨rfl, rfl, rfl, by decide +kernel, rfl, by decide +kernel, by decide +kernel⟩
abbrev N_count_lists : List Str := ["lot", "count"]
theorem sc_count_lists : FnScope N_count_lists ["lot", "count"] (defScope st_count_lists) := ⟨rfl, rfl, rfl, by decide +kernel, rfl, by decide +kernel, by decide +kernel⟩
abbrev N_recurrence : List Str := ["lot"]
theorem sc_recurrence : FnScope N_recurrence ["lot"] (defScope st_recurrence) := ⟨rfl, rfl, rfl, by decide +kernel, rfl, by decide +kernel, by decide +kernel⟩
abbrev N_first_longer : List Str := ["lot", "other", "count", "ones", "others", "found", "many"]
theorem sc_first_longer : FnScope N_first_longer ["lot", "other", "count"] (defScope st_first_longer) := ⟨rfl, rfl, rfl, by decide +kernel, rfl, by decide +kernel, by decide +kernel⟩
abbrev N_all_lengths : List Str := ["lot"]
theorem sc_all_lengths : FnScope N_all_lengths ["lot"] (defScope st_all_lengths) := ⟨rfl, rfl, rfl, by decide +kernel, rfl, by decide +kernel, by decide +kernel⟩
abbrev N__law_feed : List Str := ["script", "k", "cell"]
theorem sc__law_feed : FnScope N__law_feed ["script", "k"] (defScope st__law_feed) := ⟨rfl, rfl, rfl, by decide +kernel, rfl, by decide +kernel, by decide +kernel⟩
abbrev N__law_draw : List Str := ["feed", "many", "rest", "got", "stir"]
theorem sc__law_draw : FnScope N__law_draw ["feed", "many"] (defScope st__law_draw) := ⟨rfl, rfl, rfl, by decide +kernel, rfl, by decide +kernel, by decide +kernel⟩
abbrev N__law_one : List Str := ["feed", "things"]
theorem sc__law_one : FnScope N__law_one ["feed", "things"] (defScope st__law_one) := ⟨rfl, rfl, rfl, by decide +kernel, rfl, by decide +kernel, by decide +kernel⟩
abbrev N__law_mixed : List Str := ["feed", "things", "pool", "got", "turn"]
theorem sc__law_mixed : FnScope N__law_mixed ["feed", "things"] (defScope st__law_mixed) := ⟨rfl, rfl, rfl, by decide +kernel, rfl, by decide +kernel, by decide +kernel⟩
abbrev N__law_piece : List Str := ["feed", "signs", "long", "turn"]
theorem sc__law_piece : FnScope N__law_piece ["feed", "signs", "long"] (defScope st__law_piece) := ⟨rfl, rfl, rfl, by decide +kernel, rfl, by decide +kernel, by decide +kernel⟩
abbrev N__law_tree : List Str := ["feed", "signs", "most", "leaves", "turn", "at", "leaf", "sign"]
theorem sc__law_tree : FnScope N__law_tree ["feed", "signs", "most"] (defScope st__law_tree) := ⟨rfl, rfl, rfl, by decide +kernel, rfl, by decide +kernel, by decide +kernel⟩
abbrev N__law_some_words : List Str := ["feed", "signs", "words", "long", "turn", "word", "way", "base"]
theorem sc__law_some_words : FnScope N__law_some_words ["feed", "signs"] (defScope st__law_some_words) := ⟨rfl, rfl, rfl, by decide +kernel, rfl, by decide +kernel, by decide +kernel⟩
abbrev N__law_made : List Str := ["feed", "signs", "inner", "word", "outer", "way", "sign"]
theorem sc__law_made : FnScope N__law_made ["feed", "signs"] (defScope st__law_made) := ⟨rfl, rfl, rfl, by decide +kernel, rfl, by decide +kernel, by decide +kernel⟩
abbrev N__law_late : List Str := ["feed", "signs", "words", "late", "turn"]
theorem sc__law_late : FnScope N__law_late ["feed"] (defScope st__law_late) := ⟨rfl, rfl, rfl, by decide +kernel, rfl, by decide +kernel, by decide +kernel⟩
abbrev N__law_words : List Str := ["feed", "way", "signs", "root", "turn", "first", "more", "words", "word", "rest", "other"]
theorem sc__law_words : FnScope N__law_words ["feed"] (defScope st__law_words) := ⟨rfl, rfl, rfl, by decide +kernel, rfl, by decide +kernel, by decide +kernel⟩
abbrev N__law_lot : List Str := ["feed", "words", "word"]
theorem sc__law_lot : FnScope N__law_lot ["feed"] (defScope st__law_lot) := ⟨rfl, rfl, rfl, by decide +kernel, rfl, by decide +kernel, by decide +kernel⟩
abbrev N__law_lists : List Str := ["lot", "most", "got", "many", "word"]
theorem sc__law_lists : FnScope N__law_lists ["lot", "most"] (defScope st__law_lists) := ⟨rfl, rfl, rfl, by decide +kernel, rfl, by decide +kernel, by decide +kernel⟩
abbrev N__law_divisor : List Str := ["numbers", "many", "number"]
theorem sc__law_divisor : FnScope N__law_divisor ["numbers"] (defScope st__law_divisor) := ⟨rfl, rfl, rfl, by decide +kernel, rfl, by decide +kernel, by decide +kernel⟩
abbrev N__law_step : List Str := ["lot", "lengths", "there", "row", "word", "step", "short", "many", "length"]
theorem sc__law_step : FnScope N__law_step ["lot"] (defScope st__law_step) := ⟨rfl, rfl, rfl, by decide +kernel, rfl, by decide +kernel, by decide +kernel⟩
abbrev N__law_near_lot : List Str := ["feed", "lot", "way", "at", "words"]
theorem sc__law_near_lot : FnScope N__law_near_lot ["feed", "lot"] (defScope st__law_near_lot) := ⟨rfl, rfl, rfl, by decide +kernel, rfl, by decide +kernel, by decide +kernel⟩
abbrev N__law_asked : List Str := ["lot", "other", "count", "found", "caught", "error", "kinds", "word", "kind"]
theorem sc__law_asked : FnScope N__law_asked ["lot", "other", "count"] (defScope st__law_asked) := ⟨rfl, rfl, rfl, by decide +kernel, rfl, by decide +kernel, by decide +kernel⟩
abbrev N__law_right : List Str := ["feed", "lot", "other", "most", "longest", "word", "due", "many", "lists", "others", "parts", "at", "number", "one", "two", "first", "second", "some", "found", "step", "wrong", "told"]
theorem sc__law_right : FnScope N__law_right ["feed"] (defScope st__law_right) := ⟨rfl, rfl, rfl, by decide +kernel, rfl, by decide +kernel, by decide +kernel⟩
abbrev N_law : List Str := ["script", "k"]
theorem sc_law : FnScope N_law ["script"] (defScope st_law) := ⟨rfl, rfl, rfl, by decide +kernel, rfl, by decide +kernel, by decide +kernel⟩
end K24
set_option Elab.async false
set_option linter.all false
set_option maxRecDepth 100000
set_option maxHeartbeats 2000000
set_option exponentiation.threshold 5000
namespace K24
open PySem PySem.Spec PyProof.Rows L2 Evl Wc
section
variable {P : Program} {w : World} {K : PySem.W.Frag} {mg : Str → Option Value} {base : Heap}
theorem ok__law_draw {f : Addr} {fd : FuncData} (F : Fun K "_law_draw" "_law_draw" st__law_draw f fd) (M : Md K mg) : FnOk P w K mg base CX0 1 f fd ["feed", "many"] sp_draw := by
  have nd := sc__law_draw.nd
  refine F.ok sc__law_draw (fun vs H Q E h => ?_) (fun cdv A outer s H vs Q E hr h => ?_)
  · obtain ⟨_, _, rfl, _⟩ := h
    rfl
  · obtain ⟨fa, many, rfl, ⟨n0, hn0, a, b, c, e, hfa, ha0, he1, he2, hae, hb0, hb1, hc0, hc1⟩, hm0, hm1, k⟩ := h
    refine ⟨_, (pss_cons (ps_if (pt_cmpR op_gt (pe_ix (kix K (r := L2.rIxL) ix_list) (pv 0) pe_int (fun _ _ => rfl)) pe_int (nomark _))
  (pss_cons (ps_set (i := 2) nd rfl (Or.inl rfl) (pe_op op_fdivW (pe_ix (kix K (r := L2.rIxL) ix_list) (pv 0) pe_int (fun _ _ => rfl)) (pv 1)))
  (pss_cons (ps_set (i := 3) nd rfl (Or.inl rfl) (pe_op op_sub (pe_ix (kix K (r := L2.rIxL) ix_list) (pv 0) pe_int (fun _ _ => rfl)) (pe_op op_mulB (pv 2) (pv 1))))
  (pss_cons (ps_asg (pv 2) (pg_sub (pv 0) pe_int set_list))
  (pss_one (ps_ret (pv 3))))))
  pss_nil)
  (pss_cons (ps_asg (pe_op op_add (pe_ix (kix K (r := L2.rIxL) ix_list) (pv 0) pe_int (fun _ _ => rfl)) pe_int) (pg_sub (pv 0) pe_int set_list))
  (pss_cons (ps_set (i := 4) nd rfl (Or.inl rfl) (pe_op op_add (pe_ix (kix K (r := L2.rIxL) ix_list) (pv 0) pe_int (fun _ _ => rfl)) (pe_op op_mulB pe_int (pe_ix (kix K (r := L2.rIxL) ix_list) (pv 0) pe_int (fun _ _ => rfl)))))
  (pss_cons (ps_set (i := 4) nd rfl (Or.inl rfl) (pe_op op_modP (pe_callTy call_int1 (by rfl) M.n_int boot_int (pa_cons (pe_op op_add (pe_op op_mulB (pe_op op_mulB (pv 4) (pv 4)) (pv 4)) (pe_op op_mulB pe_int (pe_ix (kix K (r := L2.rIxL) ix_list) (pv 0) pe_int (fun _ _ => rfl)))) pa_nil)) (pe_op op_add (pe_op op_pow pe_int pe_int) pe_int)))
  (pss_cons (ps_set (i := 4) nd rfl (Or.inl rfl) (pe_op op_modP (pe_callTy call_int1 (by rfl) M.n_int boot_int (pa_cons (pe_op op_add (pe_op op_mulB (pv 4) (pv 4)) pe_int) pa_nil)) (pe_op op_add (pe_op op_pow pe_int pe_int) pe_int)))
  (pss_one (ps_ret (pe_op op_modP (pe_callTy call_int1 (by rfl) M.n_int boot_int (pa_cons (pe_op op_fdivW (pv 4) (pe_op op_pow pe_int pe_int)) pa_nil)) (pv 1))))))))), ?_⟩
    have hcap : (n0 : Int) + 1 ≤ 1000000000000000000 := by
      have : n0 + 1 ≤ 1000000000000000000 := hn0
      omega
    have hmany : many.natAbs < 2 ^ 300 := Nat.lt_of_le_of_lt (show many.natAbs ≤ 10 ^ 61 by omega) (by decide)
    have hdm : CDivW a many := wide_div (b := 300) hm0 hmany (by decide) (by decide)
    have ge0 : ∀ H1, Ex H H1 → Ev (tOp (L2.rIxL K) (tVar 0) (tC (.int 0))) (start N__law_draw [.ref fa, .int many]) H1 (.int a) := fun H1 e1 => ev_op (ev_var rfl) ev_c (rv_ixL (sq_of (e1 _ _ hfa)) rfl)
    refine q_when (et_test (ev_op (ge0 H (Ex.refl _)) ev_c rv_I0)) (fun h1 H1 e1 => ?_) (fun h1 H1 e1 => ?_)
    · have hap : 0 < a := of_decide_eq_true h1
      refine q_asg (ev_op (ev_op (ev_var rfl) ev_c (rv_ixL (sq_of (e1 _ _ hfa)) rfl)) (ev_var rfl) (rv_I hdm)) fun H2 e2 => ?_
      have hr0 : 0 ≤ a / many := Int.ediv_nonneg ha0 (by omega)
      have hr1 : a / many ≤ a := Int.ediv_le_self _ ha0
      have hrn : (a / many).natAbs < 2 ^ e := Nat.lt_of_le_of_lt (by omega) hae
      have hg : a - a / many * many = a % many := by
        rw [Int.emod_def, Int.mul_comm]
      have hg0 : 0 ≤ a % many := Int.emod_nonneg _ (by omega)
      have hg1 : a % many < many := Int.emod_lt_of_pos _ hm0
      refine q_asg (v := .int (((a % many).toNat : Nat) : Int)) (ev_is (ev_op (ev_op (ev_var rfl) ev_c (rv_ixL (sq_of (e2 _ _ (e1 _ _ hfa))) rfl)) (ev_op (ev_var rfl) (ev_var rfl) (rv_I (mulB hrn hmany (by omega) (by decide) (by omega)))) rv_I0) (by rw [hg]; congr 1; omega)) fun H3 e3 => ?_
      have hf3 := e3 _ _ (e2 _ _ (e1 _ _ hfa))
      refine q_setL (j := 0) hf3 (ev_var rfl) (ev_var rfl) ev_c (by show 0 < 3; decide) fun H4 e4 => ?_
      refine s_ret (ev_var rfl) fun H5 e5 => k (a % many).toNat H5 (by omega) ⟨?_, fun n hn hF => ?_⟩
      · exact Exc.then (Exc.upd (B := fun c => c = fa) (Exc.of (((e1.trans e2).trans e3).trans e4)) (.inl rfl)) e5
      · obtain ⟨a', b', c', e', g1, g2, g3, g4, g5, g6, g7, g8, g9⟩ := hF
        rw [hfa] at g1
        injection g1 with g1
        injection g1 with g1
        injection g1 with x1 g1
        injection g1 with x2 g1
        injection g1 with x3 g1
        injection x1 with x1
        injection x2 with x2
        injection x3 with x3
        subst x1 x2 x3
        exact ⟨a / many, b, c, e, e5 _ _ upd_same, hr0, he1, he2, hrn, hb0, hb1, hc0, by omega⟩
    · have ha : a = 0 := by
        have := of_decide_eq_false h1
        omega
      subst ha
      -- feed[2] = feed[2] + 1
      refine q_setL (j := 2) (e1 _ _ hfa) (ev_op (ev_op (ev_var rfl) ev_c (rv_ixL (sq_of (e1 _ _ hfa)) rfl)) ev_c rv_I0) (ev_var rfl) ev_c (by show 2 < 3; decide) fun H2 e2 => ?_
      have hf2 : (upd H2 fa (.lst ([V.int 0, V.int b, V.int c].set 2 (V.int (c + 1))))) fa = some (.lst [.int 0, .int b, .int (c + 1)]) := upd_same
      generalize hH3 : upd H2 fa (.lst ([V.int 0, V.int b, V.int c].set 2 (V.int (c + 1)))) = H3 at hf2 ⊢
      have g1 : ∀ H4, Ex H3 H4 → ∀ σ : L2.St, σ[0]? = some (some (.ref fa)) → Ev (tOp (L2.rIxL K) (tVar 0) (tC (.int 1))) σ H4 (.int b) := fun H4 e4 σ h0 => ev_op (ev_var h0) ev_c (rv_ixL (sq_of (e4 _ _ hf2)) rfl)
      have g2 : ∀ H4, Ex H3 H4 → ∀ σ : L2.St, σ[0]? = some (some (.ref fa)) → Ev (tOp (L2.rIxL K) (tVar 0) (tC (.int 2))) σ H4 (.int (c + 1)) := fun H4 e4 σ h0 => ev_op (ev_var h0) ev_c (rv_ixL (sq_of (e4 _ _ hf2)) rfl)
      have lit : ∀ {i : Int} {k : Nat}, 0 ≤ i → i ≤ k → k < 2 ^ 600 → i.natAbs < 2 ^ 600 := fun h1 h2 h3 => Nat.lt_of_le_of_lt (by omega) h3
      -- stir = feed[1] + 6700417 * feed[2]
      have hc9 : (c + 1).natAbs < 2 ^ 600 := lit (k := 1000000000000000000) (by omega) (by omega) (by decide)
      refine q_asg (ev_op (g1 _ (Ex.refl _) _ rfl) (ev_op ev_c (g2 _ (Ex.refl _) _ rfl) (rv_I (mulB (a := 600) (b := 600) (by decide) hc9 (by decide) (by decide) (by decide)))) rv_I0) fun H4 e4 => ?_
      have hs0 : 0 ≤ b + 6700417 * (c + 1) := by omega
      have hs1 : b + 6700417 * (c + 1) ≤ 10 ^ 41 := by omega
      generalize b + 6700417 * (c + 1) = x at hs0 hs1 ⊢
      have hx : x.natAbs < 2 ^ 600 := lit (k := 10 ^ 41) hs0 hs1 (by decide)
      have hxx : (x * x).natAbs < 2 ^ 1200 := wide_lt hx hx
      -- stir = int(stir * stir * stir + 15485863 * feed[2]) % (10 ** 43 + 57)
      refine q_asg (ev_op (ev_cb (ea_cons (ev_op (ev_op (ev_op (ev_var rfl) (ev_var rfl) (rv_I (mulB hx hx (by decide) (by decide) (by decide)))) (ev_var rfl) (rv_I (mulB hxx hx (by decide) (by decide) (by decide)))) (ev_op ev_c (g2 _ e4 _ rfl) (rv_I (mulB (a := 600) (b := 600) (by decide) hc9 (by decide) (by decide) (by decide)))) rv_I0) ea_nil) rc_int)
        (ev_op (ev_op ev_c ev_c (rv_I ⟨by decide, by decide, by decide⟩)) ev_c rv_I0) (rv_I (by decide))) fun H5 e5 => ?_
      have hy0 : 0 ≤ (x * x * x + 15485863 * (c + 1)) % ((10 : Int) ^ (43 : Int).toNat + 57) := Int.emod_nonneg _ (by decide)
      have hy1 : (x * x * x + 15485863 * (c + 1)) % ((10 : Int) ^ (43 : Int).toNat + 57) < (10 : Int) ^ 43 + 57 := Int.emod_lt_of_pos _ (by decide)
      generalize (x * x * x + 15485863 * (c + 1)) % ((10 : Int) ^ (43 : Int).toNat + 57) = y at hy0 hy1 ⊢
      have hy : y.natAbs < 2 ^ 600 := lit (k := 10 ^ 44) hy0 (by omega) (by decide)
      refine q_asg (ev_op (ev_cb (ea_cons (ev_op (ev_op (ev_var rfl) (ev_var rfl) (rv_I (mulB hy hy (by decide) (by decide) (by decide)))) ev_c rv_I0) ea_nil) rc_int) (ev_op (ev_op ev_c ev_c (rv_I ⟨by decide, by decide, by decide⟩)) ev_c rv_I0) (rv_I (by decide))) fun H6 e6 => ?_
      have hz0 : 0 ≤ (y * y + 32452843) % ((10 : Int) ^ (38 : Int).toNat + 133) := Int.emod_nonneg _ (by decide)
      generalize (y * y + 32452843) % ((10 : Int) ^ (38 : Int).toNat + 133) = z at hz0 ⊢
      have hq0 : 0 ≤ (z / (10 : Int) ^ (9 : Int).toNat) % many := Int.emod_nonneg _ (by omega)
      have hq1 : (z / (10 : Int) ^ (9 : Int).toNat) % many < many := Int.emod_lt_of_pos _ hm0
      refine s_ret (v := .int ((((z / (10 : Int) ^ (9 : Int).toNat) % many).toNat : Nat) : Int)) (ev_is (ev_op (ev_cb (ea_cons (ev_op (ev_var rfl) (ev_op ev_c ev_c (rv_I ⟨by decide, by decide, by decide⟩)) (rv_I (divW (by decide) (by decide)))) ea_nil) rc_int) (ev_var rfl) (rv_I hm0)) (by congr 1; omega)) fun H7 e7 => k _ H7 (by omega) ⟨?_, fun n hn hF => ?_⟩
      · have : Exc (fun c => c = fa) H H3 := by
          rw [← hH3]
          exact (Exc.of (e1.trans e2)).upd (.inl rfl)
        exact this.then (((e4.trans e5).trans e6).trans e7)
      · obtain ⟨a', b', c', e', g1, g2, g3, g4, g5, g6, g7, g8, g9⟩ := hF
        rw [hfa] at g1
        injection g1 with g1
        injection g1 with g1
        injection g1 with x1 g1
        injection g1 with x2 g1
        injection g1 with x3 g1
        injection x2 with x2
        injection x3 with x3
        subst x2 x3
        exact ⟨0, b, c + 1, 1, (((e4.trans e5).trans e6).trans e7) _ _ hf2, Int.le_refl _, Nat.le_refl _, by decide, by decide, hb0, hb1, by omega, by omega⟩
theorem ok__law_one {f : Addr} {fd : FuncData} (F : Fun K "_law_one" "_law_one" st__law_one f fd) (M : Md K mg) (C__law_draw : Cal P w K mg base "_law_draw" st__law_draw 1 ["feed", "many"] sp_draw) : FnOk P w K mg base CX0 2 f fd ["feed", "things"] (sp_one K) := by
  have nd := sc__law_one.nd
  refine F.ok sc__law_one (fun vs H Q E h => ?_) (fun cdv A outer s H vs Q E hr h => ?_)
  · obtain ⟨_, _, ⟨_, rfl, _⟩ | ⟨_, _, rfl, _⟩⟩ := h <;> rfl
  · obtain ⟨fa, G, h⟩ := h
    rcases h with ⟨s, rfl, hs, hl, k⟩ | ⟨p, xs, rfl, hS, hp, hx, hl, k⟩
    · refine ⟨_, (pss_one (ps_ret (pe_ix (kix K (r := rIxAny) ix_any) (pv 1) (pe_cl C__law_draw hr (pa_cons (pv 0) (pa_cons (pe_callB (kcr K (r := rLenAny) cr_lenAny) (by rfl) M.n_len boot_len (pa_cons (pv 1) pa_nil)) pa_nil))) (fun _ _ => rfl)))), ?_⟩
      have hpos : 0 < s.length := List.length_pos_iff.mpr hs
      refine ⟨T s, rfl, .ref fa, rfl, T s, rfl, .inl ⟨s, rfl, hl, fa, (s.length : Int), rfl, G, by omega, by omega, fun d H1 hd R => ?_⟩⟩
      obtain ⟨c, hc, hm⟩ := atI_mem (xs := s) (d := d) (by omega)
      exact .inr ⟨s, d, c, rfl, rfl, hl, hc, k c H1 hm R⟩
    · refine ⟨_, (pss_one (ps_ret (pe_ix (kix K (r := rIxAny) ix_any) (pv 1) (pe_cl C__law_draw hr (pa_cons (pv 0) (pa_cons (pe_callB (kcr K (r := rLenAny) cr_lenAny) (by rfl) M.n_len boot_len (pa_cons (pv 1) pa_nil)) pa_nil))) (fun _ _ => rfl)))), ?_⟩
      have hpos : 0 < xs.length := List.length_pos_iff.mpr hx
      refine ⟨.ref p, rfl, .ref fa, rfl, .ref p, rfl, .inr ⟨p, xs, rfl, hS, fa, (xs.length : Int), rfl, G, by omega, by omega, fun d H1 hd R => ?_⟩⟩
      obtain ⟨v, hv, hm⟩ := atI_mem (xs := xs) (d := d) (by omega)
      rcases hS with hS | hS
      · exact .inl (.inl ⟨p, xs, d, v, rfl, rfl, R.l hp hS, hv, k v H1 hm R⟩)
      · exact .inl (.inr ⟨p, xs, d, v, rfl, rfl, R.t hp hS, hv, k v H1 hm R⟩)
theorem sum_le {ts : List Tx} {m : Nat} (h : ∀ t ∈ ts, t.length ≤ m) : (ts.map List.length).sum ≤ ts.length * m := by
  induction ts with
  | nil => simp
  | cons t ts ih =>
    have h1 := h t List.mem_cons_self
    have h2 := ih fun x hx => h x (List.mem_cons_of_mem _ hx)
    simp only [List.map_cons, List.sum_cons, List.length_cons, Nat.succ_mul]
    omega
theorem flat_len {ts : List Tx} : ts.flatten.length = (ts.map List.length).sum := by
  simp [List.length_flatten]
end
end K24
set_option Elab.async false
set_option linter.all false
set_option maxRecDepth 100000
set_option maxHeartbeats 4000000
/-! sets of numbers out of a list, sorted -/
namespace Wt
open PySem PySem.Spec PyProof.Rows L2 Evl Wc
section
variable {P : Program} {w : World} {A : Around} {E : Value → Shared → Prop} {s : Shared}
set_option maxHeartbeats 3200000 in
theorem call_set_ints {src : Addr} {its : Array Value} {xs : List Int} {Q : Value → Shared → Prop} (noH : A.handled = none) (isl : s.heap.IsList src its) (hit : IntsAre its.toList xs) (room : xs.length + 1 < scanBound)
    (fin : ∀ (h2 : Heap) (tk c : Nat), SetR w h2 s.heap.objs.size (fun j => decide (j ∈ xs)) c → c ≤ xs.length → (∀ b o, s.heap.get? b = some o → h2.get? b = some o) → Q (.ref s.heap.objs.size) { s with heap := h2, toks := tk }) :
    wpAny (model P w) A (call (.type "set") [.ref src]) Q E s := by
  have lx : xs.length = its.size := by rw [← Array.length_toList, IntsAre.length hit]
  obtain ⟨c, tl, q0⟩ := PySem.F.called_set.mro
  have q1 := PySem.F.called_set.made; have q2 := PySem.F.called_set.sub
  refine wpAny_call (codeAny_of_tree (wpAny_pure ⟨Code.quiet_builtin _ (by decide +kernel), codeAny_builtin PySem.F.entry_type_call ?_⟩))
  rw [Around.under_plain (weight_type_call_type "set" [.ref src] []) rfl]
  have q3 := PySem.F.called_set.notType; have q4 := PySem.F.called_set.canCreate
  have q5 := PySem.F.typeCall_set_1 (.ref src)
  repeat (any_goals (first | assumption | wp_step))
  refine codeAny_mono (code_set_led1 (.ref src) (E := E) (Q₁ := fun ob t1 => ob = .ref s.heap.objs.size ∧ t1 = { s with heap := s.heap.push (so w) }) ⟨rfl, rfl⟩) fun r t1 hr => ?_
  match r, hr with
  | .error e, hr => exact hr
  | .ok (.ret ob), hr =>
    obtain ⟨rfl, rfl⟩ := hr
    have atS : (s.heap.push (so w)).get? s.heap.objs.size = some (so w) := Heap.get?_push_size _ rfl
    have tyS : Shared.TypeIs { s with heap := s.heap.push (so w) } (.ref s.heap.objs.size) "set" := ⟨_, atS, rfl⟩
    have q6 := PySem.F.called_set.init.lookup
    have q7 := PySem.F.called_set.init.bind (.ref s.heap.objs.size)
    repeat (any_goals (first | assumption | wp_step))
    refine codeAny_mono (codeAny_call_builtin (R := wants (fun r t2 => r = .none ∧ ∃ h2 tk c, t2 = { s with heap := h2, toks := tk } ∧ SetR w h2 s.heap.objs.size (fun j => decide (j ∈ xs)) c ∧ c ≤ xs.length ∧ ∀ b o, s.heap.get? b = some o → h2.get? b = some o) E) PySem.F.called_set.init.plain PySem.F.entry_set_init (check_set_init_1 tyS ?_)) fun r2 t2 hr2 => ?_
    · obtain ⟨ol, atl, cl, nl, dl⟩ := isl
      obtain ⟨ocls, odict, odata, oslots⟩ := ol
      simp only at cl dl
      subst cl; subst dl
      have lt := Heap.lt_size atl
      have isl2 : (s.heap.push (so w)).IsList src its := ⟨_, Heap.get?_push_of_some _ atl, rfl, nl, rfl⟩
      have q8 := PySem.F.sub_list_set; have q9 := PySem.F.sub_list_frozenset
      have q10 : (Value.type "list" == Value.type "dict") = false := by decide
      have atl2 : (s.heap.push (so w)).get? src = some { cls := .type "list", dict := odict, data := .seq its nl, slots := oslots } := Heap.get?_push_of_some _ atl
      unfold Builtin.«set.__init__» noKeywords Builtin.Frozenset.updateFrom
      generalize hI : pyIter = iter
      wp_walk
      subst hI
      refine wpAny_pyIter_list isl2 (wpAny_bind (wpAny_runValue ?_))
      have no3 : A.in1.in1.in1.handled = none := by simp [noH]
      have zI : (s.heap.push (so w)).objs.size = s.heap.objs.size + 1 := Heap.size_push ..
      have ne1 : src ≠ (s.heap.push (so w)).objs.size := by rw [zI]; exact Nat.ne_of_lt (Nat.lt_succ_of_lt lt)
      have out1 : s.heap.objs.size ∉ [(s.heap.push (so w)).objs.size, src] := by
        rw [zI]
        intro z
        rcases List.mem_cons.mp z with z | z
        · exact absurd z (Nat.ne_of_lt (Nat.lt_succ_self _))
        · exact absurd (List.mem_singleton.mp z) (Nat.ne_of_gt lt)
      refine set_update_ints (P := P) ((Walks.list no3 _ src ne1 its).toS) s.heap.objs.size out1 xs lx.symm room (fun i v hv => ?_) its.size 0 _ (Nat.sub_zero _) (Nat.zero_le _) ⟨⟨_, Heap.get?_push_size _ rfl, rfl, rfl⟩, isl2.push _⟩ ⟨0, Nat.le_refl _, setR_new_at (ns := xs) (Heap.get?_push_of_some _ atS)⟩ fun s2 l2 mv hc2 X2 => ?_
      · have hv2 : its.toList[i]? = some v := by rw [Array.getElem?_toList]; exact hv
        obtain ⟨t, e⟩ := IntsAre.int_at hit i v hv2
        have hi : i < xs.length := by
          have := (List.getElem?_eq_some_iff.mp hv2).1
          rw [Array.length_toList] at this
          omega
        exact ⟨xs[i], t, List.getElem?_eq_getElem hi, by rw [e, List.getD_eq_getElem?_getD, List.getElem?_eq_getElem hi]; rfl⟩
      · obtain ⟨h2, g2, d2, tk2, os2⟩ := s2
        obtain rfl : g2 = s.gens := mv.gens
        obtain rfl : d2 = s.drawn := mv.drawn
        obtain rfl : os2 = s.os := mv.os
        show wpAny _ _ (Bind.bind (pure _) _) _ _ _
        refine wpAny_pure (wpAny_pure ⟨rfl, h2, tk2, l2, rfl, X2, by omega, fun b o e => ?_⟩)
        have hb := Heap.lt_size e
        refine mv.heap b o (fun z => ?_) (Heap.get?_push_of_some _ (Heap.get?_push_of_some _ e))
        rw [zI] at z
        rcases List.mem_cons.mp z with z | z
        · exact absurd z (Nat.ne_of_lt hb)
        · exact absurd (List.mem_singleton.mp z) (Nat.ne_of_lt (Nat.lt_succ_of_lt hb))
    · match r2, hr2 with
      | .error e, hr2 => exact hr2
      | .ok (.ret v2), hr2 =>
        obtain ⟨rfl, h2, tk, l, rfl, X, m, k⟩ := hr2
        repeat (any_goals (first | assumption | wp_step))
        exact fin _ _ _ X m k
end
section
variable {X : Cx}
def rSetI (K : PySem.W.Frag) (w : World) : List V → Hp → VK → Prop := fun vs H Q => ∃ (p : Addr) (ns : List Int), vs = [.ref p] ∧ SqL K H p (ns.map V.int) ∧ ns.length ≤ 60 ∧ ∀ q c, c ≤ ns.length → H q = none → Q (.ref q) (upd H q (SetO w q (fun j => decide (j ∈ ns)) c))
theorem cr_setI (hc : X.calm = true) : CallR X (.type "set") (rSetI X.K X.w) := by
  intro pins s σ H vs us Q I r h
  obtain ⟨p, ns, rfl, hp, hl, q⟩ := h
  rw [Vals.ref1 r]
  obtain ⟨its, rv, pl, hz⟩ := I.list hp
  refine call_set_ints (P := X.prog) (xs := ns) (I.ok.hd hc) pl.isList (ints_of_vals rv) (by unfold scanBound; omega) fun h2 tk c R m k => ?_
  have hn : H s.heap.objs.size = none := I.hok.fresh (Nat.le_refl _)
  exact ⟨.ref _, upd H s.heap.objs.size (SetO X.w s.heap.objs.size (fun j => decide (j ∈ ns)) c), I.laid (t' := tk) k (Nat.le_refl _) (setO_new R), rfl, q _ c m hn⟩
theorem ksetI {K : PySem.W.Frag} {w : World} (hc : X.calm = true := by rfl) (hK : X.K = K := by rfl) (hw : X.w = w := by rfl) : CallR X (.type "set") (rSetI K w) := by
  subst hK hw
  exact cr_setI hc
theorem ksortI {w : World} (hc : X.calm = true := by rfl) (hw : X.w = w := by rfl) : CallR X (.builtin "sorted") (rSortedSet w) := by
  subst hw
  exact cr_sortedSet hc
end
/-- sorted(set(..)) of the numbers of a standing list -/
theorem sortIntsAt {K : PySem.W.Frag} {w : World} {p : Addr} {ns : List Int} {H : Hp} {Q : VK} (hp : H p = some (.lst (ns.map V.int))) (hl : ns.length ≤ 60) (k : ∀ (r : Addr) (zs : List Int) (H3 : Hp), zs.Pairwise (· < ·) → (∀ z, z ∈ zs ↔ z ∈ ns) → H r = none → Ex H H3 → H3 r = some (.lst (zs.map V.int)) → Q (.ref r) H3) : rSetI K w [.ref p] H fun s H2 => rSortedSet w [s] H2 Q :=
  ⟨p, ns, rfl, Evl.sq_of hp, hl, fun q c hc hq => ⟨q, _, c, rfl, upd_same, by omega, fun zs r ha hm hz hr => k r zs _ ha (fun z => (hm z).trans decide_eq_true_iff) (fresh_back (Ex.new hq) hr) ((Ex.new hq).trans (Ex.new hr)) upd_same⟩⟩
end Wt
set_option Elab.async false
set_option linter.all false
set_option maxRecDepth 100000
set_option maxHeartbeats 2000000
/-! comprehensions with any target -/
namespace Wt
open PySem PySem.Spec PyProof.Rows L2 Evl Wc
section
variable {K : PySem.W.Frag} {σ : L2.St} {H : Hp} {te : TE} {t : TT}
theorem el_lcG {α : Type} {wi : TI} {g : TG} {vs : List Nat} {n : Nat} {own : Addr → Prop} {P : Nat → V → Hp → Prop} {gv : α → V} {p : α → Bool} (xs : List α) (st : α → L2.St) (R : α → V → Hp → Prop) (hs : Src wi σ H n own P) (hn : n ≤ 40000) (hx : xs.length = n)
    (hP : ∀ i x H1, P i x H1 → ∃ a, xs[i]? = some a ∧ R a x H1) (hg : ∀ a x H1 (Q' : L2.St → Hp → Prop), R a x H1 → Q' (st a) H1 → g x (wipe σ vs) H1 Q') (hw : ∀ a, wipe (st a) vs = wipe σ vs)
    (ht : ∀ a H1, Ex H H1 → a ∈ xs → EvT t (st a) H1 (p a)) (he : ∀ a H1, Ex H H1 → a ∈ xs → p a = true → Ev te (st a) H1 (gv a)) : EvL (tLc wi g t te vs) σ H ((xs.filter p).map gv) := fun H0 e Q q => by
  have hgm := given_map xs p gv (fun i => match xs[i]? with | some a => p a | none => false) (fun i => match xs[i]? with | some a => gv a | none => .non) (fun i a ha => by simp only [ha]) (fun i a ha => by simp only [ha])
  rw [hx] at hgm
  generalize hf : (fun (i : Nat) => match xs[i]? with | some a => p a | none => false) = f at hgm
  generalize hv : (fun (i : Nat) => match xs[i]? with | some a => gv a | none => V.non) = v at hgm
  exact hs H0 e _ fun J H1 S e1 w hS => fun Dl hD =>
    lc_it w (Qd := fun H3 => Q (.ref Dl) H3) (Cw H1 f v Dl) ⟨hD, Ex.new hD, upd_same⟩ (fun i Hi _ c => hS (fun _ => False) Hi (fun _ z => z.elim) (.of c.2.1)) (fun i x Hi Hj hi c hy => by
      obtain ⟨ey, hPi⟩ := hy
      obtain ⟨a, ha, hr⟩ := hP i x Hj hPi
      have hm : a ∈ xs := List.mem_of_getElem? ha
      have fa : f i = p a := by rw [← hf]; simp only [ha]
      have va : v i = gv a := by rw [← hv]; simp only [ha]
      have c' : Cw H1 f v Dl i Hj := ⟨c.1, c.2.1.trans ey, ey _ _ c.2.2⟩
      have eAll : Ex H Hj := (e.trans e1).trans c'.2.1
      obtain ⟨c1, c2, c3⟩ := c'
      refine hg a x Hj _ hr ⟨hw a, ht a Hj eAll hm Hj (Ex.refl _) _ fun H3 e3 => ?_⟩
      cases hp : p a with
      | true =>
        show te (st a) H3 fun y H4 => ∃ acc, H4 Dl = some (.lst acc) ∧ acc.length < sizeLine ∧ Cw H1 f v Dl (i + 1) (upd H4 Dl (.lst (acc ++ [y])))
        refine he a Hj eAll hm hp H3 e3 _ fun H4 e4 => ⟨given i f v, e4 Dl _ (e3 Dl _ c3), sz_lt (by have := given_len i f v; omega), c1, Ex.mut ((c2.trans e3).trans e4) c1, ?_⟩
        rw [given_yes (fa.trans hp), va]
        exact upd_same
      | false =>
        show Cw H1 f v Dl (i + 1) H3
        refine ⟨c1, c2.trans e3, ?_⟩
        rw [given_no (fa.trans hp)]
        exact e3 Dl _ c3) (fun H3 c => by
      refine q Dl H3 (fresh_back e1 c.1) (e1.trans c.2.1) ?_
      rw [← hgm]
      exact c.2.2)
theorem rc_allT {α : Type} {q : Addr} {xs : List α} (h : SqL K H q (xs.map fun _ => V.bl true)) : RC (rAll K) [.ref q] H (.bl true) := by
  have e := rc_allM (f := fun _ : α => true) h
  rw [show (xs.all fun _ => true) = true by simp] at e
  exact e
/-- t[1:] -/
theorem el_dropU {p : Addr} {xs : List V} (h : Ev te σ H (.ref p)) (hp : SqT K H p xs) (hn : 0 < xs.length) : EvU (tSl (rSlA K) te (tPart (tC (.int 1))) tNoPart) σ H (xs.drop 1) := fun H1 e Q q => h H1 e _ fun H2 e2 => ⟨1, rfl, p, xs, rfl, ex_t (e.trans e2) hp, fun z => by
    have := z.1
    rw [show (1 : Int) = ((1 : Nat) : Int) from rfl, HT.sIx_nat] at this
    omega, fun _ r hr => by
    have := q r _ (fresh_back e2 hr) (e2.trans (Ex.new (o := .tup (cutV xs (some ((1 : Nat) : Int)) none)) hr)) (by rw [upd_same, cutV_from])
    exact this⟩
end
end Wt
set_option Elab.async false
set_option linter.all false
set_option maxRecDepth 100000
set_option maxHeartbeats 2000000
/-! objects of an own class; ranges downwards; repeated lists -/
namespace Wt
open PySem PySem.Spec PyProof.Rows L2 Evl Wc
/-- the class at C, as it is made by a call -/
structure Mak (P : Program) (w : World) (K : PySem.W.Frag) (mg : Str → Option Value) (base : Heap) (k : Nat) (C : Addr) (x : Str) (sp : Sp) : Prop where
  ex : ∃ (f : Addr) (fd : FuncData) (ps : List Str), Mk K C f ∧ FnOk P w K mg base CX0 k f fd ps sp ∧ Binds K fd ps [] ∧ mg x = some (.ref C)
theorem pe_mkM {X : Cx} {k n : Nat} {C : Addr} {x : Str} {sp : Sp} {p pos : Pos} {e : Expr} {es : List Expr} {t : TA} (c : Mak X.prog X.w X.K X.mg X.base k C x sp) (hr : Room n X.A) (ha : PA X (e :: es) t) (hk : k + 1 ≤ n := by decide) (hg : Gl X x := by rfl)
    (hdb : (x == ("__debug__" : Str)) = false := by decide) (he : starEach (e :: es) X.env = (false, eval e X.env) :: starEach es X.env := by rfl) (hpl : (backTo pos (starEach es X.env)).any (·.1) = false := by rfl) : PE X (.Call (.Name x p) (e :: es) [] pos) (tMake C sp [] E0 t) := by
  obtain ⟨f, fd, ps, M, F, b, hm⟩ := c.ex
  exact pe_make M F (hr.mono hk) hg hm b .nil pass0 ha hdb he hpl
section
variable {K : PySem.W.Frag} {σ : L2.St} {H : Hp} {te ta tb : TE} {C x dx : Addr} {fs : List (Str × V)} {f : Str} {v : V}
theorem ev_fld (h : Ev te σ H (.ref x)) (hx : H x = some (.ins C dx fs)) (c : Cls K C) (n : NoAttr K C f) (l : fs.lookup f = some v) : Ev (tFld K te f) σ H v := fun H1 e Q q => h H1 e _ fun H2 e2 => ⟨x, C, dx, fs, v, rfl, (e.trans e2) _ _ hx, c, n, l, q H2 e2⟩
/-- a field is stored -/
theorem q_fld {D : Ends} {tz : TS} (h : Ev te σ H v) (hx : σ[0]? = some (some (.ref x))) (hH : H x = some (.ins C dx fs)) (c : Cls K C) (n : NoAttr K C f) (hl : fs.length < 1000) (k : ∀ H1, Ex H H1 → tz D σ (upd H1 x (.ins C dx (putF f v fs)))) : tSeq (sFld K (tVar 0) te f) tz D σ H :=
  h H (Ex.refl _) _ fun H1 e1 => ⟨_, hx, x, C, dx, fs, rfl, e1 _ _ hH, c, n, hl, k H1 e1⟩
theorem q_fldL {D : Ends} {tz : TS} {xs : List V} (h : EvL te σ H xs) (hx : σ[0]? = some (some (.ref x))) (hH : H x = some (.ins C dx fs)) (c : Cls K C) (n : NoAttr K C f) (hl : fs.length < 1000) (k : ∀ p H1, H p = none → Ex H H1 → H1 p = some (.lst xs) → tz D σ (upd H1 x (.ins C dx (putF f (.ref p) fs)))) : tSeq (sFld K (tVar 0) te f) tz D σ H :=
  h H (Ex.refl _) _ fun p H1 hp e1 h1 => ⟨_, hx, x, C, dx, fs, rfl, e1 _ _ hH, c, n, hl, k p H1 hp e1 h1⟩
theorem el_rep {xs : List V} {n : Nat} (h : EvL ta σ H xs) (h2 : Ev tb σ H (.int (n : Int))) (hz : xs.length * n ≤ 100000) (hn : n ≤ 1000000) : EvL (tOp rRep ta tb) σ H (List.replicate n xs).flatten := fun H1 e Q q => h H1 e _ fun p H2 hp e2 hp2 => h2 H2 (e.trans e2) _ fun H3 e3 => ⟨p, (n : Int), xs, rfl, rfl, e3 _ _ hp2, by omega, by omega, sz_of hz, fun r hr => by
  have := q r _ (fresh_back (e2.trans e3) hr) ((e2.trans e3).trans (Ex.new (o := .lst (List.replicate (n : Int).toNat xs).flatten) hr)) upd_same
  exact this⟩
theorem rep_one (n : Nat) (v : V) : (List.replicate n [v]).flatten = List.replicate n v := by
  induction n with
  | zero => rfl
  | succ n ih => rw [List.replicate_succ, List.flatten_cons, ih, List.replicate_succ]; rfl
theorem el_catNV {p : Addr} {xs ys : List V} (ha : EvL ta σ H xs) (hb : Ev tb σ H (.ref p)) (hp : H p = some (.lst ys)) (hz : xs.length + ys.length ≤ 100000) : EvL (tOp rCat ta tb) σ H (xs ++ ys) := fun H1 e1 Q q =>
  ha H1 e1 _ fun r H2 hr e2 h2 => hb H2 (e1.trans e2) _ fun H3 e3 => ⟨r, p, xs, ys, rfl, rfl, e3 _ _ h2, ((e1.trans e2).trans e3) _ _ hp, sz_of hz, fun n hn => q n _ (fresh_back (e2.trans e3) hn) ((e2.trans e3).trans (Ex.new hn)) upd_same⟩
/-- n - 1, n - 2, .. 0 -/
theorem src_down {tq : TA} {n : Nat} (h : EvA tq σ H [.int ((n : Int) - 1), .int (-1), .int (-1)]) (hn : n ≤ 1000000000) : Src (iRng3 tq) σ H n (fun _ => False) (fun i v _ => v = .int ((n : Int) - 1 - (i : Int))) := fun H1 e R q =>
  h H1 e _ fun H2 e2 => ⟨_, _, _, n, rfl, by
    have := RgC.neg (i := (n : Int) - 1) (j := -1) (by omega) (by omega) (by decide) (by decide)
    have e : ((n : Int) - 1 - -1).toNat = n := by omega
    rw [e] at this
    exact this, by
    have w := (walk_rangeC (lo := (n : Int) - 1) (c := -1) (n := n)).mono (fun _ z => z) (Y' := fun i Ha v Hb => Ex Ha Hb ∧ v = .int ((n : Int) - 1 - (i : Int))) (fun i Ha v Hb _ _ hy => by
      obtain ⟨rfl, rfl⟩ := hy
      exact ⟨Ex.refl _, by show V.int ((n : Int) - 1 + ((i : Nat) : Int) * -1) = _; congr 1; omega⟩)
    exact q _ H2 _ e2 w fun _ _ _ _ => True.intro⟩
end
/-- xs[k], by values -/
def rGetN (K : PySem.W.Frag) : V → V → Hp → VK → Prop := fun o i H Q => ∃ (p : Addr) (xs : List V) (k : Nat) (z : V), o = .ref p ∧ i = .int (k : Int) ∧ SqL K H p xs ∧ xs[k]? = some z ∧ Q z H
theorem get_listN {X : Cx} : PGet X (rGetN X.K) := by
  intro pins s σ H o i ov iv Q I ro ri h
  obtain ⟨p, xs, k, z, rfl, rfl, hp, hz, q⟩ := h
  cases ro
  obtain ⟨t, rfl⟩ := ri
  obtain ⟨its, rv, pl, hs⟩ := I.list hp
  obtain ⟨u, hu, ru⟩ := rv.get hz
  have hk := (List.getElem?_eq_some_iff.mp hz).1
  have h63 : ((k : Int) < 2 ^ 63) := by
    have : sizeLine < 2 ^ 63 := by decide
    omega
  exact wpAny_getItem_list pl.isList (by omega) h63 (x := u) (by simpa using hu) ⟨z, H, I, ru, q⟩
theorem kget {X : Cx} (K : PySem.W.Frag) (hK : X.K = K := by rfl) : PGet X (rGetN K) := hK ▸ get_listN
end Wt
set_option Elab.async false
set_option linter.all false
set_option maxRecDepth 100000
set_option maxHeartbeats 2000000
namespace Wt
open PySem PySem.Spec PyProof.Rows L2 Evl Wc
/-! ### (number, text) < (number, text) -/
def rLtIT (K : PySem.W.Frag) : R2 := fun x y H Q => ∃ (a b : Addr) (m n : Int) (s t : Tx), x = .ref a ∧ y = .ref b ∧ SqT K H a [.int m, T s] ∧ SqT K H b [.int n, T t] ∧ Q (.bl (decide (m < n ∨ (m = n ∧ s < t)))) H
theorem op_ltIT {X : Cx} (hu0 : X.A.units + 64 < cLine) : OpR X (compareOp .Lt) (rLtIT X.K) := by
  intro pins s σ H x y v u Q I rx ry h
  have hu : X.A.units < cLine := Nat.lt_of_le_of_lt (Nat.le_add_right _ _) hu0
  obtain ⟨a, b, m, n, c, d, rfl, rfl, ha, hb, q⟩ := h
  cases rx
  cases ry
  obtain ⟨its, r1, p1, _⟩ := I.tuple ha
  obtain ⟨its2, r2, p2, _⟩ := I.tuple hb
  cases r1 with
  | cons rm r1 =>
  cases r1 with
  | cons rc r1 =>
  cases r1
  cases r2 with
  | cons rn r2 =>
  cases r2 with
  | cons rd r2 =>
  cases r2
  obtain ⟨_, rfl⟩ := rm
  obtain ⟨_, rfl⟩ := rc
  obtain ⟨_, rfl⟩ := rn
  obtain ⟨_, rfl⟩ := rd
  have R := Ob.RcOp.tuples_lt (A := X.A) (s := s) (e := fun j => if j = 0 then decide (m = n) else decide (c = d)) (r := fun j => if j = 0 then decide (m < n) else decide (c < d)) p1 p2 hu (fun j h1 h2 => by
    have h1' : j < 2 := h1
    have hj : j = 0 ∨ j = 1 := by omega
    rcases hj with rfl | rfl
    · have z : (m == n) = decide (m = n) := by
        by_cases q : m = n
        · rw [decide_eq_true q]; exact beq_iff_eq.mpr q
        · rw [decide_eq_false q]; exact beq_eq_false_iff_ne.mpr q
      show SeqAt.EqAt X.A.in1 s _ _ (decide (m = n))
      rw [← z]
      exact SeqAt.EqAt.int_int _ _ _ _
    · have z : (SX.S c == SX.S d) = decide (c = d) := by
        by_cases q : c = d
        · rw [decide_eq_true q, q]; exact beq_iff_eq.mpr rfl
        · rw [decide_eq_false q]; exact beq_eq_false_iff_ne.mpr fun e => q (congrArg (fun z : Str => z.cps.toList) e)
      show SeqAt.EqAt X.A.in1 s _ _ (decide (c = d))
      rw [← z]
      exact SeqAt.EqAt.str_str _ _ _ _) (fun j h1 h2 _ => by
    have h1' : j < 2 := h1
    have hj : j = 0 ∨ j = 1 := by omega
    rcases hj with rfl | rfl
    · exact Ob.RcOp.lt_int _ _ _ _
    · exact fun prog w E Q h => lt_str h)
  have e : Ob.lexAt (fun j => if j = 0 then decide (m = n) else decide (c = d)) (fun j => if j = 0 then decide (m < n) else decide (c < d)) (decide (2 < 2)) 0 2 = decide (m < n ∨ (m = n ∧ c < d)) := by
    simp only [Ob.lexAt]
    by_cases h1 : m = n
    · subst h1
      by_cases h2 : c = d
      · subst h2
        simp [List.lt_irrefl]
      · simp [h2]
    · simp [h1]
  have z : wpAny (model X.prog X.w) X.A (compareOp .Lt (.ref a) (.ref b)) (EP X pins σ Q) X.xe s := R X.prog X.w X.xe (EP X pins σ Q) ⟨.bl _, H, I, rfl, by
    show Q (.bl (Ob.lexAt _ _ (decide (2 < 2)) 0 2)) H
    rw [e]
    exact q⟩
  exact z
end Wt
set_option Elab.async false
set_option linter.all false
set_option maxRecDepth 100000
set_option maxHeartbeats 2000000
/-! zip(a, b) of two texts -/
namespace Wt
open PySem PySem.Spec PyProof.Rows L2 Evl Wc
def ItzS (a b : Tx) : It :=
  ⟨fun i _ => i < min a.length b.length, fun i H v H' => ∃ t c d, v = .ref t ∧ H t = none ∧ H' = upd H t (.tup [T [c], T [d]]) ∧ a[i]? = some c ∧ b[i]? = some d, fun i _ => i = min a.length b.length⟩
theorem sgn {a : Tx} {i : Nat} {v : Value} (h : ∃ c u, (SX.S a).cps[i]? = some c ∧ v = .str ⟨#[c]⟩ u) : ∃ c, a[i]? = some c ∧ RelV (T [c]) v := by
  obtain ⟨c, u, h1, rfl⟩ := h
  exact ⟨c, by simpa [SX.S] using h1, u, rfl⟩
theorem turn_zipS {P : Program} {w : World} {K : PySem.W.Frag} {elts : List Expr} {kk : Nat} {tpos : Pos} {a b : Tx} {ta tb : Tok} {z TI TO i1 i2 : Addr} (D : ZipSep2 z TI TO i1 i2 [i1] [i2]) :
    Turn P w K (.Tuple elts kk tpos) (ItzS a b) [z, TI, TO, i1, i2] z (fun i h => IsZip h z TI TO .none ∧ IsTupOf2 h TI (.ref i1) (.ref i2) ∧ (∃ x y, IsTupOf2 h TO x y) ∧ h.IsStrIter i1 (strIterType (SX.S a)) (SX.S a) ta i ∧ h.IsStrIter i2 (strIterType (SX.S b)) (SX.S b) tb i) where
  mem := by simp
  obj := fun i h st c hc => by
    obtain ⟨hz, hTI, ⟨x, y, hTO⟩, ⟨o1, e1, _, d1⟩, ⟨o2, e2, _, d2⟩⟩ := st
    have e' : c = z ∨ c = TI ∨ c = TO ∨ c = i1 ∨ c = i2 := by simpa using hc
    rcases e' with q | q | q | q | q
    · rw [q]; exact ⟨_, hz, fun v q => nomatch q⟩
    · rw [q]; exact ⟨_, hTI, fun v q => nomatch q⟩
    · rw [q]; exact ⟨_, hTO, fun v q => nomatch q⟩
    · rw [q]; exact ⟨o1, e1, fun v q => by rw [d1] at q; cases q⟩
    · rw [q]; exact ⟨o2, e2, fun v q => by rw [d2] at q; cases q⟩
  keep := fun i h h' st k => by
    obtain ⟨hz, hTI, ⟨x, y, hTO⟩, ⟨o1, e1, f1⟩, ⟨o2, e2, f2⟩⟩ := st
    exact ⟨k z (by simp) _ hz, k TI (by simp) _ hTI, ⟨x, y, k TO (by simp) _ hTO⟩, ⟨o1, k i1 (by simp) _ e1, f1⟩, ⟨o2, k i2 (by simp) _ e2, f2⟩⟩
  item := by
    intro X hP hw hK hc i pins s σ H E I hf st hg
    subst hP hw hK
    obtain ⟨hz, hTI, ⟨x0, y0, hTO⟩, h1, h2⟩ := st
    have hlt : i < min a.length b.length := hg
    have D1 := Draws.text (prog := X.prog) (w := X.w) (A := X.A.in1) (I.ok.hd hc) i1 (SX.S a) ta
    have D2 := Draws.text (prog := X.prog) (w := X.w) (A := X.A.in1) (I.ok.hd hc) i2 (SX.S b) tb
    have s1 : (SX.S a).cps.size = a.length := by simp [SX.S]
    have s2 : (SX.S b).cps.size = b.length := by simp [SX.S]
    have hzl : z < s.heap.objs.size := Heap.lt_size hz
    refine wpAny_pyNext_zipD2_item D D1 D2 hz hTI hTO h1 h2 (by omega) (by omega) fun u u2 h' tk p1 p2 z' TO' h1' h2' hT hsz hk => ?_
    obtain ⟨c, hcx, ru⟩ := sgn p1
    obtain ⟨d, hdy, ru2⟩ := sgn p2
    refine ⟨_, rfl, wpAny_letOwnedTupleGo_zip (s := { s with heap := h', toks := tk }) z' fun h'' z'' sb => ?_⟩
    have hT2 : h''.get? s.heap.objs.size = some { cls := .type "tuple", data := .seq #[u, u2] } := (sb.2 _ (Nat.ne_of_gt hzl)).trans hT
    have new : ObjOk X.prog X.w (upd H s.heap.objs.size (.tup [T [c], T [d]])) h'' s.heap.objs.size (.tup [T [c], T [d]]) :=
      ⟨by show 2 ≤ sizeLine; decide, [u, u2], .cons ru (.cons ru2 .nil), ⟨_, hT2, rfl, _, rfl⟩⟩
    have I1 : Inv X pins σ (upd H s.heap.objs.size (.tup [T [c], T [d]])) { s with heap := h'', toks := tk } :=
      I.turnedNew (ch := [z, TI, TO, i1, i2]) (fun c o hb q => (sb.2 c (fun q' => hb (by simp [q']))).trans (hk c o (fun q' => hb (by simp [q'])) (fun q' => hb (by simp [q'])) (fun q' => hb (by simp [q'])) (fun q' => hb (by simp [q'])) q)) hf (Nat.le_refl _) new
    refine ⟨.ref s.heap.objs.size, _, I1, rfl, ⟨_, c, d, rfl, I.hok.fresh (Nat.le_refl _), rfl, hcx, hdy⟩, ⟨z'', ?_, ⟨u, u2, ?_⟩, ?_, ?_⟩, fun c hcm => ?_⟩
    · exact (sb.2 _ D.TIz).trans (hk _ _ D.TIz D.TITO D.TIi1 D.TIi2 hTI)
    · exact (sb.2 _ D.TOz).trans TO'
    · obtain ⟨o1, e1, f1⟩ := h1'
      exact ⟨o1, (sb.2 _ (Ne.symm D.zi1)).trans e1, f1⟩
    · obtain ⟨o2, e2, f2⟩ := h2'
      exact ⟨o2, (sb.2 _ (Ne.symm D.zi2)).trans e2, f2⟩
    · have hlt : c < s.heap.objs.size := by
        have e' : c = z ∨ c = TI ∨ c = TO ∨ c = i1 ∨ c = i2 := by simpa using hcm
        rcases e' with q | q | q | q | q
        · rw [q]; exact hzl
        · rw [q]; exact Heap.lt_size hTI
        · rw [q]; exact Heap.lt_size hTO
        · rw [q]; obtain ⟨_, e1, _⟩ := h1; exact Heap.lt_size e1
        · rw [q]; obtain ⟨_, e2, _⟩ := h2; exact Heap.lt_size e2
      rw [upd_ne (Nat.ne_of_lt hlt)]
      exact (hf c hcm).1
  done := by
    intro X hP hw hK hc i pins s σ H E I hf st hg
    subst hP hw hK
    obtain ⟨hz, hTI, ⟨x0, y0, hTO⟩, h1, h2⟩ := st
    have hend : i = min a.length b.length := hg
    have D1 := Draws.text (prog := X.prog) (w := X.w) (A := X.A.in1) (I.ok.hd hc) i1 (SX.S a) ta
    have D2 := Draws.text (prog := X.prog) (w := X.w) (A := X.A.in1) (I.ok.hd hc) i2 (SX.S b) tb
    have s1 : (SX.S a).cps.size = a.length := by simp [SX.S]
    have s2 : (SX.S b).cps.size = b.length := by simp [SX.S]
    exact wpAny_pyNext_zipD2_end D D1 D2 hz hTI hTO h1 h2 (by omega) (by omega) (by omega) fun h' tk hk => ⟨rfl, I.turnedL (t' := tk) (ch := [z, TI, TO, i1, i2]) (fun c o hb q =>
      hk c o (fun q' => hb (by simp [q'])) (fun q' => hb (by simp [q'])) (fun q' => hb (by simp [q'])) (fun q' => hb (by simp [q'])) q) hf⟩
  self := fun A i s Q E st h => wpAny_pyIter_zip st.1 h
def iZipS (ta : TA) : TI := fun σ H R => ta σ H fun vs H1 => ∃ a b : Tx, vs = [T a, T b] ∧ R (ItzS a b) H1
theorem pi_zipS {X : Cx} {e e2 : Expr} {ta : TA} {p pos tpos : Pos} {elts : List Expr} {kk : Nat} (hg : Gl X "zip") (hm : X.mg "zip" = none) (ha : PA X [e, e2] ta)
    (hs : starEach [e, e2] X.env = (false, eval e X.env) :: starEach [e2] X.env := by rfl) (hpl : (backTo pos (starEach [e2] X.env)).any (·.1) = false := by rfl) :
    PI X (.Tuple elts kk tpos) (.Call (.Name "zip" p) [e, e2] [] pos) (iZipS ta) := by
  refine ⟨fun pins s σ H R I h => ?_⟩
  refine Call_ (ld_blt I hg hm PyProof.Rows.boot_zip (PyProof.Rows.callWith_type1 (thn (ha.run pos pins s σ H _ I h) fun us s1 ⟨vs, H1, I1, r1, q1⟩ => ?_) hs hpl))
  obtain ⟨a, b, ex, q⟩ := q1
  subst ex
  cases r1 with
  | cons r rr =>
    cases rr with
    | cons r' rr =>
      cases rr
      obtain ⟨ta, rfl⟩ := r
      obtain ⟨tb, rfl⟩ := r'
      have fresh5 : ∀ c, c ∈ [s1.heap.objs.size + 4, s1.heap.objs.size + 2, s1.heap.objs.size + 3, s1.heap.objs.size, s1.heap.objs.size + 1] → FpOk X pins H1 c := fun c hcm => by
        have e' : c = s1.heap.objs.size + 4 ∨ c = s1.heap.objs.size + 2 ∨ c = s1.heap.objs.size + 3 ∨ c = s1.heap.objs.size ∨ c = s1.heap.objs.size + 1 := by simpa using hcm
        have hle : s1.heap.objs.size ≤ c := by
          rcases e' with z | z | z | z | z
          · rw [z]; exact Nat.le_add_right _ _
          · rw [z]; exact Nat.le_add_right _ _
          · rw [z]; exact Nat.le_add_right _ _
          · rw [z]; exact Nat.le_refl _
          · rw [z]; exact Nat.le_add_right _ _
        exact I1.fpOk hle (I1.hok.fresh hle)
      refine zip_begins2 (begins_text (SX.S a) ta) (begins_text (SX.S b) tb) trivial trivial fun h' hz hTI hTO h1 h2 hsz hk => wpAny_pyIter_zip hz ?_
      have I2 : Inv X pins σ H1 { s1 with heap := h' } := I1.kept (t' := s1.toks) hk
      exact ⟨s1.heap.objs.size + 4, [s1.heap.objs.size + 4, s1.heap.objs.size + 2, s1.heap.objs.size + 3, s1.heap.objs.size, s1.heap.objs.size + 1], _, _, H1, rfl, I2, turn_zipS (ta := ta) (tb := tb) (zip_sep2 (fun b hb => by cases hb) (fun b hb => by cases hb)), ⟨hz, hTI, ⟨_, _, hTO⟩, ⟨_, h1, rfl, rfl⟩, ⟨_, h2, rfl, rfl⟩⟩, fresh5, q⟩
section
variable {K : PySem.W.Frag} {σ : L2.St} {H : Hp}
theorem walk_zipS {a b : Tx} : Walk (ItzS a b) (min a.length b.length) (fun _ => True) (YPair (fun i => (a[i]?).map fun c => T [c]) (fun i => (b[i]?).map fun c => T [c])) := by
  refine ⟨fun i _ hi _ => hi, fun _ _ => rfl, fun i H v H' _ _ y => ?_⟩
  obtain ⟨t, c, d, y1, y2, y3, y4, y5⟩ := y
  exact ⟨t, _, _, y1, y2, y3, by show (a[i]?).map _ = _; rw [y4]; rfl, by show (b[i]?).map _ = _; rw [y5]; rfl⟩
theorem src_zipS {a b : Tx} {tl tr : TE} (h : Ev tl σ H (T a)) (h2 : Ev tr σ H (T b)) : Src (iZipS (tCons tl (tCons tr tNil))) σ H (min a.length b.length) (fun _ => False) (fun i v Hb => ∃ p c d, v = .ref p ∧ a[i]? = some c ∧ b[i]? = some d ∧ Hb p = some (.tup [T [c], T [d]])) := fun H1 e R q =>
  h H1 e _ fun H2 e2 => h2 H2 (e.trans e2) _ fun H3 e3 => ⟨a, b, rfl, q _ H3 _ (e2.trans e3) (walk_zipS.mono (fun _ z => z) fun i Ha v Hb _ _ hy => by
    obtain ⟨p, x, y, rfl, hn, rfl, h1, h2⟩ := hy
    have h1 : (a[i]?).map (fun c => T [c]) = some x := h1
    have h2 : (b[i]?).map (fun c => T [c]) = some y := h2
    cases ha : a[i]? with
    | none => rw [ha] at h1; cases h1
    | some c =>
      cases hb : b[i]? with
      | none => rw [hb] at h2; cases h2
      | some d =>
        rw [ha] at h1
        rw [hb] at h2
        cases h1
        cases h2
        exact ⟨Ex.new hn, p, c, d, rfl, by first | rfl | exact ha, by first | rfl | exact hb, upd_same⟩) fun B Ha hB ea => trivial⟩
end
end Wt
set_option Elab.async false
set_option linter.all false
set_option maxRecDepth 100000
set_option maxHeartbeats 2000000
/-! defs that are called while no repr runs: their promises, their calls, repr itself, and a law's end by them -/
namespace Wg
open PySem PySem.Spec PyProof.Rows L2 Evl Wc
/-- a promise for calls around which no repr runs -/
structure FnOkG (P : Program) (w : World) (K : PySem.W.Frag) (mg : Str → Option Value) (base : Heap) (k : Nat) (f : Addr) (fd : FuncData) (ps : List Str) (sp : Sp) : Prop where
  len : ∀ vs H Q E, sp vs H Q E → vs.length = ps.length
  run : ∀ (A : Around) (outer : List Env) (s : Shared) (H : Hp) (args : Args) (us : List Value) (vs : List V) (Q : VK) (E : XK), Room k A → A.guards = some [] →
    Env0 P w K mg base A outer s H → BindsTo s fd args (ps.zip us) → Vals vs us → sp vs H Q E → codeAny (model P w) A (.call (.ref f) args) (CR CX0 outer P w H s Q E) s
section
variable {P : Program} {w : World} {K : PySem.W.Frag} {mg : Str → Option Value} {base : Heap} {k : Nat} {f : Addr} {fd : FuncData} {ps : List Str} {sp : Sp}
theorem FnOkG.of (F : FnOk P w K mg base CX0 k f fd ps sp) : FnOkG P w K mg base k f fd ps sp := ⟨F.len, fun A outer s H args us vs Q E hr _ => F.run A outer s H args us vs Q E hr⟩
/-- what ends a body ends the call -/
theorem ends_call {X : Cx} {s s' : Shared} {H : Hp} {Q : VK} {fl : Flow} {outer : List Env} (hp : X.prog = P) (hw : X.w = w)
    (fin : ∀ {σ' : L2.St} {H' : Hp} {v : V} {u : Value}, Inv X [] σ' H' s' → RelV v u → Q v H' → CE outer P w H s Q u s')
    (h : SP X [] { nx := fun _ H' => Q .non H', rt := Q } fl s') : match fl with
      | .ret u => CE outer P w H s Q u s'
      | .next => CE outer P w H s Q .none s'
      | _ => False := by
  cases fl with
  | next => obtain ⟨σ', H', J, q⟩ := h; exact fin (v := V.non) J rfl q
  | ret u => obtain ⟨v, σ', H', J, rv, q⟩ := h; exact fin J rv q
  | brk => obtain ⟨_, _, _, q⟩ := h; exact q.elim
  | cont => obtain ⟨_, _, _, q⟩ := h; exact q.elim
theorem Fun.okG {x qual : Str} {st : Stmt} {N : List Str} (F : Fun K x qual st f fd) (S : FnScope N ps (defScope st)) (len : ∀ vs H Q E, sp vs H Q E → vs.length = ps.length)
    (hbody : ∀ (cdv : Value) (A : Around) (outer : List Env) (s : Shared) (H : Hp) (vs : List V) (Q : VK) (E : XK), Room k (A.deeper (envOfC qual (defScope st) s.heap.objs.size f cdv)) → A.guards = some [] → sp vs H Q E →
      ∃ t, PSs (cxOf CX0 P w K mg base N qual (defScope st) f cdv A outer s H E).nox (defBody st) t ∧ t { nx := fun _ H' => Q .non H', rt := Q } (start N vs) H) : FnOkG P w K mg base (k + 1) f fd ps sp := by
  obtain ⟨oc, od, kV, doc, pm, an, cdv, ct, osl, rfl, lk, hcd⟩ := F.ex
  refine ⟨len, fun A outer s H args us vs Q E hr hgd e0 hb r hsp => ?_⟩
  have stay : ∀ b o, base.get? b = some o → s.heap.get? b = some o := fun b o e => (e0.bs b o e).1
  have KX := e0.mod.kin.keeps stay
  refine codeAny_call_function hr.depth (KX _ _ lk) rfl S.co S.gen rfl (PySem.W.codeRec_of KX hcd) (hb _ _ _ _ (wpAny_newFunctionEnv_cells S.kind (fun y hy => ?_) fun env he s1 new => ?_))
  · obtain ⟨n, v⟩ := y
    rcases S.par n (List.of_mem_zip hy).1 with q | q
    · exact .inl q
    · exact .inr ⟨q, PySem.W.cellsFrom_some _ _ _ (.inl q)⟩
  · subst he
    obtain ⟨t, ht, hq⟩ := hbody cdv A outer s H vs Q E (hr.deeper _) hgd hsp
    have I := inv_start (CX := CX0) (E := E) S hr.hd e0 (len _ _ _ _ hsp) r new
    refine ⟨(e0.mod.nolimit.keeps stay).keeps new.toInCall.keep, codeAny_func (wpAny_mono (ht.nox.run [] s1 (start N vs) H _ I hq) (fun fl s' hs => ?_) fun e s' hs => hs)⟩
    have done := ends_call (outer := outer) (s := s) (H := H) rfl rfl (fun J rv q => ⟨_, _, J.os, J.bare, J.base, J.hok, rv, q⟩) hs
    cases fl <;> first
      | exact done
      | exact False.elim done
end
/-- a def that may be called by its name while no repr runs -/
structure CalG (P : Program) (w : World) (K : PySem.W.Frag) (mg : Str → Option Value) (base : Heap) (x : Str) (st : Stmt) (k : Nat) (ps : List Str) (sp : Sp) : Prop where
  ex : ∃ f fd, FnOkG P w K mg base k f fd ps sp ∧ mg x = some (.ref f) ∧ Fun K x x st f fd ∧ Binds K fd ps []
section
variable {X : Cx} {x : Str} {st : Stmt} {k n : Nat} {ps : List Str} {sp : Sp} {p pos : Pos} {e : Expr} {es : List Expr} {t : TA}
theorem pe_clG (C : CalG X.prog X.w X.K X.mg X.base x st k ps sp) (hr : Room n X.A) (hgd : X.A.guards = some []) (ha : PA X (e :: es) t) (hkn : k ≤ n := by decide) (hg : Gl X x := by rfl) (hdb : (x == ("__debug__" : Str)) = false := by decide)
    (he : starEach (e :: es) X.env = (false, eval e X.env) :: starEach es X.env := by rfl) (hpl : (backTo pos (starEach es X.env)).any (·.1) = false := by rfl) : PE X (.Call (.Name x p) (e :: es) [] pos) (tCall sp [] E0 t) := by
  obtain ⟨f, fd, F, hm, hF, hb⟩ := C.ex
  refine ⟨fun pins s σ H Q I h => wpAny_Call_Name_kw (ld_glob I hg hm (PySem.W.callWith_K (h₀ := X.base) I.ok.mod.kin hF.kp (thn (ha.run pos pins s σ H _ I h) fun us s1 got => ?_) he hpl) hdb)⟩
  obtain ⟨vs, H1, I1, r, q⟩ := got
  rw [List.append_nil] at q
  refine ⟨I1.kIn, wpAny_call (codeAny_mono (F.run X.A X.stack s1 H1 ⟨us, []⟩ us vs Q E0 (hr.mono hkn) hgd I1.env0 ?_ r q) fun z s' hz => ?_)⟩
  · have := hb s1 us I1.kIn (by rw [List.append_nil, ← r.length]; exact F.len _ _ _ _ q)
    rwa [List.append_nil] at this
  · cases z with
    | error e => exact hz.elim
    | ok fl => cases fl with
      | ret u => exact I1.after hz
      | _ => exact hz.elim
/-- repr of a list or tuple of plain data -/
def rRepr (K : PySem.W.Frag) : List V → Hp → VK → Prop := fun xs H Q => ∃ (p : Addr) (d : PyData), xs = [.ref p] ∧ Dp K H (.ref p) d ∧ d.showable = true ∧ d.hasDict = false ∧ d.depth ≤ 50 ∧ d.shown.length ≤ sizeLine ∧ Q (T d.shown.cps.toList) H
theorem cr_repr (hgd : X.A.guards = some []) (hu : X.A.units + 64 < cLine) : CallR X (.builtin "repr") (rRepr X.K) := by
  intro pins s σ H xs us Q I r h
  obtain ⟨p, d, rfl, hd, h1, h2, h3, h4, q⟩ := h
  rw [Vals.ref1 r]
  obtain ⟨as, rd⟩ := Dp.reads I d _ _ hd rfl
  refine repr_of_reads' rd h1 (fun z => by rw [h2] at z; cases z) hgd (by omega) (fun b o e => e) (fun h' u tk hk => ?_) h4
  exact ⟨T d.shown.cps.toList, H, I.kept (t' := tk) hk, ⟨u, congrArg (fun z => Value.str z u) (SX.S_tl d.shown).symm⟩, q⟩
end
section
variable {P : Program} {w : World} {K : PySem.W.Frag} {mg mb : Str → Option Value} {k : Nat} {fa a : Addr} {fd : FuncData} {x : Str} {sp : Sp} {s₁ : Shared} {vs : List Value} {ns : List Int}
/-- the law's def at the heap behind the top, H telling of the script at most -/
theorem call_at (KX : K.In s₁.heap) (hns : s₁.heap.Ns mainGlobals mg) (hb : s₁.heap.Ns builtinsNs mb) (hbb : ∀ x : Str, x ≠ "__name__" → mb x = bootBuiltins x) (hlim : s₁.heap.NoLimit) (hg : s₁.gens = #[])
    (ha : s₁.heap.get? a = some { cls := .type "list", data := .seq vs.toArray }) (hr : Room k callerA) (F : ∀ base : Heap, K.In base → base.Ns mainGlobals mg → FnOkG P w K mg base k fa fd [x] sp) (hbind : ∀ (s : Shared) (u : Value), BindsTo s fd ⟨[u], []⟩ [(x, u)])
    (H : Hp) (hO : Only H) (hok : HOk P w H s₁.heap) (hA : ∀ b u, H b = some u → b = a ∧ K.lookup a = none) (hsp : sp [.ref a] H (fun v _ => v = .bl true) fun _ _ _ => False) :
    codeAny (model P w) callerA (.call (.ref fa) ⟨[.ref a], []⟩) (fun r s' => r = .ok (.ret (.bool true)) ∧ OldK s₁.heap s'.heap ∧ s'.os = s₁.os ∧ AllBare s'.gens) s₁ := by
  have free : ∀ {b : Addr}, (b = a → K.lookup a = none → False) → H b = none := fun {b} no => by
    cases q : H b with
    | none => rfl
    | some u => exact (no (hA b u q).1 (hA b u q).2).elim
  have dict : ∀ {b : Addr} {m : Str → Option Value}, s₁.heap.Ns b m → (hidT s₁.heap H).Ns b m := fun {b m} got => by
    obtain ⟨o, es, ep, e, d, r⟩ := got
    refine ⟨o, es, ep, hidT_get e (free fun z _ => ?_), d, r⟩
    subst z
    rw [ha] at e
    cases e
    cases d
  have own : K.In (hidT s₁.heap H) := fun b o e => hidT_get (KX b o e) (free fun z q => by subst z; rw [q] at e; cases e)
  have mod : Mod K mg (hidT s₁.heap H) := by
    obtain ⟨mc, l1, l2⟩ := hlim
    exact ⟨own, dict hns, ⟨mb, dict hb, hbb⟩, ⟨mc, dict l1, l2⟩⟩
  have none_in : ∀ {b : Addr}, b ∉ ([] : List Addr) := fun {b} z => nomatch z
  have e0 : Env0 P w K mg (hidT s₁.heap H) callerA [] s₁ H := ⟨rfl, mod, fun b o e => of_hidT e, Nat.le_of_eq (hidT_size _ _), trivial, fun b hb => (none_in hb).elim, hok, .of_eq hg⟩
  refine codeAny_mono ((F _ own (dict hns)).run callerA [] s₁ H ⟨[.ref a], []⟩ [.ref a] [.ref a] _ _ hr rfl e0 (hbind s₁ (.ref a)) (.cons rfl .nil) hsp) fun r s' h => ?_
  match r, h with
  | .ok (.ret u), ⟨v, H', os, bare, un, hok', rel, q⟩ =>
    have q' : v = .bl true := q
    subst q'
    have rel' : u = Value.bool true := rel
    subst rel'
    refine ⟨rfl, OldK.of_keep fun b o e => ?_, os, bare⟩
    rcases hO b with z | ⟨ob, xs, z⟩
    · exact un.keep b o e z none_in none_in
    · have e1 := (hok b _ z).1
      rw [e] at e1
      cases e1
      exact (hok' b _ (un.frzs b _ _ z)).1
theorem law_callG (KX : K.In s₁.heap) (hns : s₁.heap.Ns mainGlobals mg) (hb : s₁.heap.Ns builtinsNs mb) (hbb : ∀ x : Str, x ≠ "__name__" → mb x = bootBuiltins x) (hlim : s₁.heap.NoLimit) (hg : s₁.gens = #[])
    (ha : s₁.heap.get? a = some { cls := .type "list", data := .seq vs.toArray }) (hi : IntsAre vs ns) (hl : ns.length ≤ sizeLine) (hr : Room k callerA) (F : ∀ base : Heap, K.In base → base.Ns mainGlobals mg → FnOkG P w K mg base k fa fd [x] sp) (hbind : ∀ (s : Shared) (u : Value), BindsTo s fd ⟨[u], []⟩ [(x, u)])
    (hsp : ∀ H : Hp, Only H → SqL K H a (ns.map V.int) → sp [.ref a] H (fun v _ => v = .bl true) fun _ _ _ => False) :
    codeAny (model P w) callerA (.call (.ref fa) ⟨[.ref a], []⟩) (fun r s' => r = .ok (.ret (.bool true)) ∧ OldK s₁.heap s'.heap ∧ s'.os = s₁.os ∧ AllBare s'.gens) s₁ := by
  have rv := vals_ints hi
  have go := call_at (x := x) (sp := sp) KX hns hb hbb hlim hg ha hr F hbind
  cases hk : K.lookup a with
  | some o =>
    have e := KX a o hk
    rw [ha] at e
    cases e
    exact go (fun _ => none) (fun _ => .inl rfl) (fun b u z => nomatch (show (none : Option HO) = some u from z)) (fun b u z => nomatch (show (none : Option HO) = some u from z)) (hsp _ (fun _ => .inl rfl) (.inr ⟨_, vs.toArray, _, hk, rfl, rfl, rfl, by rw [List.size_toArray, hi.length]; exact hl, by simpa using rv⟩))
  | none =>
    obtain ⟨H, hH1, hH2⟩ : ∃ H : Hp, H a = some (.frz { cls := .type "list", data := .seq vs.toArray } (.lst (ns.map V.int))) ∧ ∀ b, b ≠ a → H b = none := ⟨fun b => if b = a then some (.frz { cls := .type "list", data := .seq vs.toArray } (.lst (ns.map V.int))) else none, if_pos rfl, fun b hb => if_neg hb⟩
    have only : Only H := fun b => by
      by_cases h : b = a
      · subst h; exact .inr ⟨_, _, hH1⟩
      · exact .inl (hH2 b h)
    refine go H only (fun b u z => ?_) (fun b u z => ?_) (hsp H only (.inl (.inr ⟨_, hH1⟩)))
    · by_cases h : b = a
      · subst h
        rw [hH1] at z
        cases z
        exact ⟨ha, by rw [List.length_map]; exact hl, vs, _, rv, ha⟩
      · rw [hH2 b h] at z
        cases z
    · by_cases h : b = a
      · exact ⟨h, hk⟩
      · rw [hH2 b h] at z
        cases z
end
theorem walk_ofG {l : PySem.W.OpenLaw} {n k : Nat} {q : Program} {loose : List Str} {XP : (Str → Option Value) → Heap → Prop} {YP : World → Heap → Prop} {d : DefRec} {K : Params → PySem.W.Frag} {sp : World → Sp} {x : Str}
    (hn : l.most = some n) (hn2 : n ≤ sizeLine) (hdf : d.params.defaults = []) (hr : Room k callerA) (hY : ∀ (w : World) (h : Heap), YP w h → (K w.params).In h)
    (F : ∀ (w : World) (mg : Str → Option Value) (fa : Addr) (h : Heap), (K w.params).In h → h.Ns mainGlobals mg → mg d.name = some (.ref fa) →
      ∃ fd : FuncData, (∀ (s : Shared) (u : Value), BindsTo s fd ⟨[u], []⟩ [(x, u)]) ∧ ∀ base : Heap, (K w.params).In base → base.Ns mainGlobals mg → FnOkG l.prog w (K w.params) mg base k fa fd [x] (sp w))
    (hsp : ∀ (w : World) (H : Hp) (a : Addr) (ns : List Int), ns.length ≤ n → (∀ z ∈ ns, Builtin.Int.intBits z ≤ 1048576) → Only H → SqL (K w.params) H a (ns.map V.int) → sp w [.ref a] H (fun v _ => v = .bl true) fun _ _ _ => False) :
    PySem.W.WalkO q loose XP YP l.row.toRowW d [] (fun f vs => PySem.call f vs) :=
  Att.attach_callB hn hdf fun w s₀ s₁ mg mb fa o pm cd doc a vs ns G Y _ _ _ hmg hobj hints hlen hbits hg => by
    obtain ⟨fd, hb, hF⟩ := F w mg fa _ (hY w _ Y) G.T.g hmg
    exact law_callG (hY w _ Y) G.T.g G.T.b G.T.builtins G.T.nolimit hg hobj hints (Nat.le_trans hlen hn2) hr hF hb fun H hO hS => hsp w H a ns hlen hbits hO hS
end Wg
set_option Elab.async false
set_option linter.all false
set_option maxRecDepth 100000
set_option maxHeartbeats 2000000
/-! a loop over a list or a tuple -/
namespace Wg
open PySem PySem.Spec PyProof.Rows L2 Evl Wc
theorem pi_or {X : Cx} {tg it : Expr} {w1 w2 : TI} (h1 : PI X tg it w1) (h2 : PI X tg it w2) : PI X tg it (fun σ H R => w1 σ H R ∨ w2 σ H R) := ⟨fun pins s σ H R I h => h.elim (h1.run pins s σ H R I) (h2.run pins s σ H R I)⟩
def iSeq (K : PySem.W.Frag) (tl : TE) : TI := fun σ H R => iList K tl σ H R ∨ iTup K tl σ H R
theorem pi_seq {X : Cx} {K : PySem.W.Frag} {tg l : Expr} {tl : TE} (hl : PE X l tl) (hK : X.K = K := by rfl) : PI X tg l (iSeq K tl) := hK ▸ pi_or (pi_list hl) (pi_tup hl)
section
variable {w1 w2 : TI} {σ : L2.St} {H : Hp} {n : Nat} {own : Addr → Prop} {P : Nat → V → Hp → Prop}
theorem src_orL (h : Src w1 σ H n own P) : Src (fun σ H R => w1 σ H R ∨ w2 σ H R) σ H n own P := fun H1 e R q => .inl (h H1 e R q)
theorem src_orR (h : Src w2 σ H n own P) : Src (fun σ H R => w1 σ H R ∨ w2 σ H R) σ H n own P := fun H1 e R q => .inr (h H1 e R q)
end
end Wg
set_option Elab.async false
set_option linter.all false
set_option maxRecDepth 100000
set_option maxHeartbeats 2000000
/-! comprehensions that make new objects, ranges backwards, smaller rules -/
namespace Wg
open PySem PySem.Spec PyProof.Rows L2 Evl Wc
section
variable {K : PySem.W.Frag} {σ : L2.St} {H : Hp} {te ta tb : TE}
theorem ex_of_exc {fa : Addr} {H H1 H2 : Hp} (e : Ex H H1) (hf : H fa = none) (x : Exc (fun c => c = fa) H1 H2) : Ex H H2 := fun c o hc => x c o (fun z => by rw [z, hf] at hc; cases hc) (e c o hc)
/-- new objects, one for each o i, in p -/
structure News (H H' : Hp) (o : Nat → HO) (ps : List Addr) : Prop where
  new : ∀ p ∈ ps, H p = none
  at_ : ∀ i p, ps[i]? = some p → H' p = some (o i)
  nd : ps.Nodup
theorem lcN {wi : TI} {j : Nat} {vs : List Nat} {n : Nat} {own : Addr → Prop} {P : Nat → V → Hp → Prop} {Q : VK} (o : Nat → HO) (hs : Src wi σ H n own P) (hn : n ≤ 40000) (hw : ∀ x, wipe ((wipe σ vs).set j (some x)) vs = wipe σ vs)
    (he : ∀ (i : Nat) (x : V) H1, i < n → P i x H1 → Ex H H1 → ∀ Q' : VK, (∀ p H2, H1 p = none → Ex H1 H2 → H2 p = some (o i) → Q' (.ref p) H2) → te ((wipe σ vs).set j (some x)) H1 Q')
    (k : ∀ q H2 ps, H q = none → Ex H H2 → H2 q = some (.lst (ps.map V.ref)) → ps.length = n → News H H2 o ps → q ∉ ps → Q (.ref q) H2) : tLc wi (gName j) tYes te vs σ H Q :=
  hs H (Ex.refl H) _ fun J H1 S e1 w hS => fun Dl hD => by
    have hDH : H Dl = none := fresh_back e1 hD
    refine lc_it w (Qd := fun H3 => Q (.ref Dl) H3) (fun i Hi => Ex H1 Hi ∧ ∃ ps : List Addr, Hi Dl = some (.lst (ps.map V.ref)) ∧ ps.length = i ∧ News H1 Hi o ps ∧ Dl ∉ ps) ?_ (fun i Hi hi p => hS (fun _ => False) Hi (fun b z => z.elim) (.of p.1)) ?_ ?_
    · exact ⟨Ex.new hD, [], upd_same, rfl, ⟨fun p hp => (nomatch hp), fun i p hp => (by rw [List.getElem?_nil] at hp; cases hp), List.Pairwise.nil⟩, fun hp => (nomatch hp)⟩
    · rintro i x Ha Hb hi ⟨R, ps, h1, h2, h3, h4⟩ ⟨ey, hP⟩
      refine ⟨hw x, ?_⟩
      show te ((wipe σ vs).set j (some x)) Hb fun y H4 => _
      refine he i x Hb hi hP (e1.trans (R.trans ey)) _ fun p H4 hp e4 hp4 => ?_
      have hDl4 : H4 Dl = some (.lst (ps.map V.ref)) := e4 _ _ (ey _ _ h1)
      have npD : p ≠ Dl := fun z => by rw [z, ey _ _ h1] at hp; cases hp
      refine ⟨ps.map V.ref, hDl4, sz_lt (by rw [List.length_map]; omega), Ex.mut ((R.trans ey).trans e4) hD, ps ++ [p], by rw [upd_same, List.map_append]; rfl, by rw [List.length_append, h2]; rfl, ⟨fun q hq => ?_, fun t q hq => ?_, ?_⟩, fun hq => ?_⟩
      · rcases List.mem_append.mp hq with hq | hq
        · exact h3.new q hq
        · rw [List.mem_singleton.mp hq]
          exact fresh_back (R.trans ey) hp
      · by_cases ht : t < ps.length
        · rw [List.getElem?_append_left ht] at hq
          have hne : q ≠ Dl := fun z => h4 (z ▸ List.mem_of_getElem? hq)
          rw [upd_ne hne]
          exact e4 _ _ (ey _ _ (h3.at_ t q hq))
        · rw [List.getElem?_append_right (by omega)] at hq
          have ht0 : t - ps.length = 0 := by
            by_cases z : t - ps.length = 0
            · exact z
            · rw [List.getElem?_eq_none (by simp; omega)] at hq
              cases hq
          rw [ht0] at hq
          cases hq
          rw [upd_ne npD, hp4]
          congr 2
          omega
      · refine List.nodup_append.mpr ⟨h3.nd, List.pairwise_singleton _ _, fun a ha b hb => ?_⟩
        rw [List.mem_singleton.mp hb]
        rintro rfl
        obtain ⟨t, ht⟩ := List.mem_iff_getElem?.mp ha
        have := ey _ _ (h3.at_ t _ ht)
        rw [hp] at this
        cases this
      · rcases List.mem_append.mp hq with hq | hq
        · exact h4 hq
        · exact npD (List.mem_singleton.mp hq).symm
    · rintro H3 ⟨R, ps, h1, h2, h3, h4⟩
      exact k Dl H3 ps hDH (e1.trans R) h1 h2 ⟨fun p hp => fresh_back e1 (h3.new p hp), h3.at_, h3.nd⟩ h4
/-- from the end of a range -/
theorem src_revR {n : Nat} (h : Ev te σ H (.int (n : Int))) (hn : n ≤ 1000000000) : Src (iRevR (tRg1 te)) σ H n (fun _ => False) (fun i v _ => v = .int ((n : Int) - 1 - (i : Int))) := fun H1 e R q =>
  h H1 e _ fun H2 e2 => ⟨(n : Int), rfl, by omega, by omega, by omega, by omega, by
    have e0 : ((n : Int) - 0).toNat = n := by omega
    rw [e0, show (0 : Int) + (n : Int) - 1 = (n : Int) - 1 by omega]
    have w := (walk_rangeC (lo := (n : Int) - 1) (c := -1) (n := n)).mono (fun _ z => z) (Y' := fun i Ha v Hb => Ex Ha Hb ∧ v = .int ((n : Int) - 1 - (i : Int))) (fun i Ha v Hb _ _ hy => by
      obtain ⟨rfl, rfl⟩ := hy
      exact ⟨Ex.refl _, by show V.int ((n : Int) - 1 + ((i : Nat) : Int) * -1) = _; congr 1; omega⟩)
    exact q _ H2 _ e2 w fun _ _ _ _ => True.intro⟩
theorem q_parLC {i j : Nat} {c : V} {tz : TS} {D : Ends} {xs : List V} (h : EvL ta σ H xs) (k : ∀ p H1, H p = none → Ex H H1 → H1 p = some (.lst xs) → tz D ((σ.set i (some (.ref p))).set j (some c)) H1) : tSeq (tPar i j (tCons ta (tCons (tC c) tNil))) tz D σ H :=
  h H (Ex.refl _) _ fun p H1 hp e1 h1 => ⟨.ref p, c, rfl, k p H1 hp e1 h1⟩
theorem q_parCC {i j : Nat} {c d : V} {tz : TS} {D : Ends} (k : tz D ((σ.set i (some c)).set j (some d)) H) : tSeq (tPar i j (tCons (tC c) (tCons (tC d) tNil))) tz D σ H := ⟨c, d, rfl, k⟩
/-- two names, two constants -/
theorem q_asg2C {i j : Nat} {c d : V} {tz : TS} {D : Ends} (k : ∀ H1, Ex H H1 → tz D ((σ.set i (some c)).set j (some d)) H1) : tSeq (tAsg (tTup (tCons (tC c) (tCons (tC d) tNil))) (gTup K 2 (gCons (gName i) (gCons (gName j) gNil)))) tz D σ H :=
  ⟨by show 2 ≤ sizeLine; decide, fun pt hpt => ⟨pt, _, rfl, st_of upd_same, rfl, c, [d], rfl, d, [], rfl, rfl, k _ (Ex.new hpt)⟩⟩
theorem q_asgIf {i : Nat} {tu : TT} {tz : TS} {D : Ends} {b : Bool} (h : EvT tu σ H b) (h1 : b = true → ∀ H1, Ex H H1 → ta σ H1 fun v H2 => tz D (σ.set i (some v)) H2) (h2 : b = false → ∀ H1, Ex H H1 → tb σ H1 fun v H2 => tz D (σ.set i (some v)) H2) : tSeq (tAsg (tIf tu ta tb) (gName i)) tz D σ H := h H (Ex.refl H) _ fun H1 e1 => by
  cases b with
  | true => exact h1 rfl H1 e1
  | false => exact h2 rfl H1 e1
theorem hix {i : Nat} {x : Addr} {xs : List V} {j : Int} {v : V} (hx : H x = some (.tup xs)) (h0 : σ[i]? = some (some (.ref x))) (ha : atI xs j = some v) : Ev (tOp (rIxAny K) (tVar i) (tC (.int j))) σ H v := ev_op (ev_var h0) ev_c fun H3 e3 Q3 q3 => .inl (.inr (rv_ixT (K := K) (st_of hx) ha H3 e3 Q3 q3))
def rMin2 : List V → Hp → VK → Prop := fun xs H Q => ∃ i j, xs = [.int i, .int j] ∧ Q (.int (if j < i then j else i)) H
theorem ev_min2 {i j : Int} (ha : Ev ta σ H (.int i)) (hb : Ev tb σ H (.int j)) : Ev (tCB rMin2 (tCons ta (tCons tb tNil))) σ H (.int (if j < i then j else i)) := fun H1 e Q q =>
  ha H1 e _ fun H2 e2 => hb H2 (e.trans e2) _ fun H3 e3 => ⟨i, j, rfl, q H3 (e2.trans e3)⟩
end
end Wg
set_option Elab.async false
set_option linter.all false
set_option maxRecDepth 100000
set_option maxHeartbeats 2000000
/-! errors of own classes: raised, passed on, caught; three named values -/
namespace Wg
open PySem PySem.Spec PyProof.Rows L2 Evl Wc
/-- an own class of errors under ValueError, by its name -/
structure Err (K : PySem.W.Frag) (mg : Str → Option Value) (x : Str) (C : Addr) : Prop where
  gP : mg x = some (.ref C)
  xP : PySem.W.excIn K C [.type "ValueError", .type "Exception", .type "BaseException", .type "object"] "ValueError.__new__" = true
  kP : PySem.W.keepIn K (.ref C) = true
  bP : PySem.W.subIn K (.ref C) (.type "BaseException") = some true
  tP : PySem.W.typeIn K (.ref C) = some (.type "type")
/-- .. caught by its own name, asked for its kind -/
structure ErrI (K : PySem.W.Frag) (C : Addr) : Prop where
  te : PySem.W.exmOne K (.ref C) (.ref C) = some true
  cl : ExcC K C
/-- isinstance of the error that the suite holds, of whatever class -/
def rIsE2 (K : PySem.W.Frag) (D a : Addr) (cls : Value) (d : Option Addr) : List V → Hp → VK → Prop := fun xs H Q => cls = .ref D ∧ d = none ∧ rIsE K D a xs H Q
theorem call_isE2 {X : Cx} {a D : Addr} {oe : Obj} {pn : List (Addr × Obj)} {cls : Value} {d : Option Addr} (C : ExcC X.K D) (hz : Zc cls d oe) (hf : ∃ vs, oe.data = .fields vs) : CallR (X.suite a ((a, oe) :: pn)) (.builtin "isinstance") (rIsE2 X.K D a cls d) := by
  intro pins s σ H xs us Q I r h
  obtain ⟨rfl, rfl, h⟩ := h
  exact (call_isE C hz hf) pins s σ H xs us Q I r h
theorem is_err {K : PySem.W.Frag} {D a B : Addr} {b : Bool} {H : Hp} {Q : VK} (h : PySem.W.kitOne K (.ref D) (.ref B) = some b) (q : Q (.bl b) H) : rIsE2 K D a (.ref D) none [.ref a, .ref B] H Q := ⟨rfl, rfl, .ref B, .ref B, b, rfl, fun u hu => by cases hu; rfl, h, q⟩
section
variable {P : Program} {w : World} {K : PySem.W.Frag} {mg : Str → Option Value} {base : Heap}
/-- a def that may raise, called by its name -/
structure CalS (P : Program) (w : World) (K : PySem.W.Frag) (mg : Str → Option Value) (base : Heap) (x : Str) (st : Stmt) (k : Nat) (ps : List Str) (sp : Sp) : Prop where
  ex : ∃ f fd, FnOk P w K mg base (L2.CX P w) k f fd ps sp ∧ mg x = some (.ref f) ∧ Fun K x x st f fd ∧ Binds K fd ps []
/-- .. where it raises nothing -/
def calm (sp : Sp) : Sp := fun vs H Q _ => sp vs H Q E0
theorem CalS.calm {x : Str} {st : Stmt} {k : Nat} {ps : List Str} {sp : Sp} (C : CalS P w K mg base x st k ps sp) : Cal P w K mg base x st k ps (calm sp) := by
  obtain ⟨f, fd, F, hm, hF, hb⟩ := C.ex
  refine ⟨f, fd, ⟨fun vs H Q E h => F.len _ _ _ _ h, fun A outer s H args us vs Q E hr he hb r h => codeAny_mono (F.run A outer s H args us vs Q E0 hr he hb r h) fun z s' hz => ?_⟩, hm, hF, hb⟩
  cases z with
  | ok fl => cases fl <;> exact hz
  | error e =>
    obtain ⟨_, _, _, _, _, _, _, _, _, _, _, _, no⟩ := hz
    exact no
end
section
variable {X : Cx} {x : Str} {st : Stmt} {k n : Nat} {ps : List Str} {sp : Sp} {p pos pos' p2 : Pos} {e : Expr} {es : List Expr} {t : TA} {W : WX} {m : Str} {j : Nat} {C : Addr}
theorem pe_clS (Cl : CalS X.prog X.w X.K X.mg X.base x st k ps sp) (hr : Room n X.A) (tk : Takes X W) (ha : PA X (e :: es) t) (hkn : k ≤ n := by decide) (hg : Gl X x := by rfl) (hdb : (x == ("__debug__" : Str)) = false := by decide)
    (he : starEach (e :: es) X.env = (false, eval e X.env) :: starEach es X.env := by rfl) (hpl : (backTo pos (starEach es X.env)).any (·.1) = false := by rfl) : PE X (.Call (.Name x p) (e :: es) [] pos) (tCallS sp (WE W) t) := by
  obtain ⟨f, fd, F, hm, hF, hb⟩ := Cl.ex
  exact pe_callS F (hr.mono hkn) hg hm hF.kp hb (fun σ => passAt tk σ) ha hdb he hpl
theorem ps_raiseE (hc : X.calm = true) (tk : Takes X W) (Er : Err X.K X.mg x C) (hg : Gl X x := by rfl) (hdb : (x == ("__debug__" : Str)) = false := by decide) : PS X (.Raise (some (.Call (.Name x p) [.Constant (.str m) j p2] [] pos)) none pos') (fun _ σ H => W (.ref C) none σ H) :=
  ps_raise hc tk (pmk_own PySem.F.excBase_ValueError Er.xP Er.gP Er.kP (raises_own Er.bP Er.tP) hg hdb)
end
/-- three named values, the last one first -/
def sw3 {α : Type} : List α → List α → List α
  | [], [a, b, c] => [c, b, a]
  | _, _ => []
theorem sw3_rel {vs zs : List V} {us ws : List Value} (r : Vals vs us) (rz : Vals zs ws) : Vals (sw3 vs zs) (sw3 us ws) := by
  cases r with
  | cons => exact .nil
  | nil =>
    match zs, ws, rz with
    | [], _, .nil => exact .nil
    | [_], _, .cons _ .nil => exact .nil
    | [_, _], _, .cons _ (.cons _ .nil) => exact .nil
    | [_, _, _], _, .cons h1 (.cons h2 (.cons h3 .nil)) => exact .cons h3 (.cons h2 (.cons h1 .nil))
    | _ :: _ :: _ :: _ :: _, _, .cons _ (.cons _ (.cons _ (.cons _ _))) => exact .nil
theorem kb3 {x : Str} {st : Stmt} {ps ks : List Str} (hp : ps.length = 3)
    (h : ∀ (kV doc pm : Value) (an : Option Addr) (cdv ct a b c : Value), bindArgs (PySem.W.fnOf x x (defArgs st) (defBody st) (defScope st) .none kV doc pm an cdv ct) ⟨[], ks.zip [a, b, c]⟩ = pure (ps.zip (sw3 [] [a, b, c]))) : KB x st 0 ps ks sw3 sw3 := by
  intro K f fd F
  obtain ⟨oc, od, kV, doc, pm, an, cdv, ct, osl, rfl, lk, hcd⟩ := F.ex
  refine ⟨fun s us ws _ hl => ?_, fun r rz => sw3_rel r rz⟩
  rw [hp] at hl
  match us, ws, hl with
  | [], [a, b, c], _ => exact .of_eq (h kV doc pm an cdv ct a b c)
  | [], [], hl => exact absurd hl (by simp [sw3])
  | [], [_], hl => exact absurd hl (by simp [sw3])
  | [], [_, _], hl => exact absurd hl (by simp [sw3])
  | [], _ :: _ :: _ :: _ :: _, hl => exact absurd hl (by simp [sw3])
  | _ :: _, ws, hl => exact absurd hl (by simp [sw3])
end Wg
set_option Elab.async false
set_option linter.all false
set_option maxRecDepth 100000
set_option maxHeartbeats 2000000
/-! two lists, item by item; a pair popped off a list -/
namespace Wg
open PySem PySem.Spec PyProof.Rows L2 Evl Wc
inductive All2 {α β : Type} (R : α → β → Prop) : List α → List β → Prop
  | nil : All2 R [] []
  | cons {a : α} {b : β} {as : List α} {bs : List β} : R a b → All2 R as bs → All2 R (a :: as) (b :: bs)
namespace All2
variable {α β : Type} {R R' : α → β → Prop} {as as' : List α} {bs bs' : List β}
theorem mono (h : All2 R as bs) (k : ∀ a b, R a b → R' a b) : All2 R' as bs := by
  induction h with
  | nil => exact .nil
  | cons r _ ih => exact .cons (k _ _ r) ih
theorem len (h : All2 R as bs) : as.length = bs.length := by
  induction h with
  | nil => rfl
  | cons _ _ ih => rw [List.length_cons, List.length_cons, ih]
theorem app (h : All2 R as bs) (h' : All2 R as' bs') : All2 R (as ++ as') (bs ++ bs') := by
  induction h with
  | nil => exact h'
  | cons r _ ih => exact .cons r ih
theorem one {a : α} {b : β} (r : R a b) : All2 R [a] [b] := .cons r .nil
theorem push {a : α} {b : β} (h : All2 R as bs) (r : R a b) : All2 R (as ++ [a]) (bs ++ [b]) := h.app (one r)
theorem pop : ∀ {as : List α} {bs : List β} {b : β}, All2 R as (bs ++ [b]) → ∃ as' a, as = as' ++ [a] ∧ All2 R as' bs ∧ R a b
  | [], [], _, h => nomatch h
  | [], _ :: _, _, h => nomatch h
  | a :: as, [], b, h => by
    cases h with
    | cons r h' => cases h' with
      | nil => exact ⟨[], a, rfl, .nil, r⟩
  | a :: as, b0 :: bs, b, h => by
    cases h with
    | cons r h' =>
      obtain ⟨as', x, rfl, h1, h2⟩ := pop h'
      exact ⟨a :: as', x, rfl, .cons r h1, h2⟩
theorem at_ (h : All2 R as bs) : ∀ {i : Nat} {b : β}, bs[i]? = some b → ∃ a, as[i]? = some a ∧ R a b := by
  induction h with
  | nil => intro i b h; simp at h
  | cons r _ ih =>
    intro i b h
    cases i with
    | zero =>
      rw [List.getElem?_cons_zero] at h
      cases h
      exact ⟨_, rfl, r⟩
    | succ i => exact ih (by rwa [List.getElem?_cons_succ] at h)
theorem take (h : All2 R as bs) (n : Nat) : All2 R (as.take n) (bs.take n) := by
  induction h generalizing n with
  | nil => simp; exact .nil
  | cons r _ ih => cases n with
    | zero => exact .nil
    | succ n => exact .cons r (ih n)
end All2
section
variable {K : PySem.W.Frag} {σ : L2.St} {H : Hp}
theorem q_popP {i a b : Nat} {pw t : Addr} {xs : List V} {u v : V} {D : Ends} {tz : TS} (h0 : σ[i]? = some (some (.ref pw))) (h : H pw = some (.lst (xs ++ [.ref t]))) (ht : H t = some (.tup [u, v])) (k : tz D ((σ.set a (some u)).set b (some v)) (upd H pw (.lst xs))) :
    tSeq (tAsg (tBM0 K "list" rPop (tVar i)) (gTup K 2 (gCons (gName a) (gCons (gName b) gNil)))) tz D σ H := by
  have hne : t ≠ pw := fun z => by rw [z, h] at ht; cases ht
  refine ⟨.ref pw, h0, Or.inl ⟨rfl, _, sq_of h⟩, pw, xs ++ [.ref t], .ref t, rfl, rfl, h, by simp, ?_⟩
  rw [List.dropLast_concat]
  exact ⟨t, _, rfl, st_of (by rw [upd_ne hne]; exact ht), rfl, u, [v], rfl, v, [], rfl, rfl, k⟩
theorem s_appT {i : Nat} {l : Addr} {xs : List V} {te : TE} {D : Ends} (h0 : σ[i]? = some (some (.ref l))) (hl : H l = some (.lst xs)) (h : te σ H fun v H2 => rAppend (.ref l) [v] H2 fun _ H3 => D.nx σ H3) : tDrop (tBM K "list" rAppend (tVar i) (tCons te tNil)) D σ H := ⟨.ref l, h0, Or.inl ⟨rfl, xs, sq_of hl⟩, h⟩
end
end Wg
set_option Elab.async false
set_option linter.all false
set_option maxRecDepth 100000
set_option maxHeartbeats 2000000
/-! len(set(ints)), dicts that serve as sets of numbers, dict comprehensions, comprehensions of two clauses -/
namespace Wd
open PySem PySem.Spec PyProof.Rows L2 Evl Wc Wt Wg
theorem hu1 {A : Around} (h : A.units + 64 < cLine) : A.units + 1 < cLine := by omega
theorem len_nodup {α : Type} {l l' : List α} (h1 : l.Nodup) (h2 : l'.Nodup) (h : ∀ a, a ∈ l ↔ a ∈ l') : l.length = l'.length := ((List.perm_ext_iff_of_nodup h1 h2).mpr h).length_eq
/-- the distinct ones -/
def uniq : List Int → List Int
  | [] => []
  | x :: xs => if x ∈ xs then uniq xs else x :: uniq xs
theorem mem_uniq {z : Int} : ∀ {l : List Int}, z ∈ uniq l ↔ z ∈ l
  | [] => Iff.rfl
  | x :: xs => by
    unfold uniq
    split
    · rename_i h
      rw [mem_uniq, List.mem_cons]
      exact ⟨.inr, fun z => z.elim (fun e => e ▸ h) id⟩
    · rw [List.mem_cons, List.mem_cons, mem_uniq]
theorem uniq_nodup : ∀ l : List Int, (uniq l).Nodup
  | [] => List.Pairwise.nil
  | x :: xs => by
    unfold uniq
    split
    · exact uniq_nodup xs
    · rename_i h
      exact List.nodup_cons.mpr ⟨fun z => h (mem_uniq.mp z), uniq_nodup xs⟩
theorem uniq_le : ∀ l : List Int, (uniq l).length ≤ l.length
  | [] => Nat.le_refl _
  | x :: xs => by
    have := uniq_le xs
    unfold uniq
    split
    · rw [List.length_cons]; omega
    · rw [List.length_cons, List.length_cons]; omega
theorem uniq_all {l : List Int} (h : l.Nodup) : (uniq l).length = l.length := len_nodup (uniq_nodup l) h fun _ => mem_uniq
section
variable {X : Cx}
def rSetN (K : PySem.W.Frag) (w : World) : List V → Hp → VK → Prop := fun vs H Q => ∃ (p : Addr) (ns : List Int), vs = [.ref p] ∧ SqL K H p (ns.map V.int) ∧ ns.length ≤ 4000 ∧ ∀ q, H q = none → Q (.ref q) (upd H q (SetO w q (fun j => decide (j ∈ ns)) (uniq ns).length))
theorem cr_setN (hc : X.calm = true) : CallR X (.type "set") (rSetN X.K X.w) := by
  intro pins s σ H vs us Q I r h
  obtain ⟨p, ns, rfl, hp, hl, q⟩ := h
  rw [Vals.ref1 r]
  obtain ⟨its, rv, pl, hz⟩ := I.list hp
  refine call_set_ints (P := X.prog) (xs := ns) (I.ok.hd hc) pl.isList (ints_of_vals rv) (by unfold scanBound; omega) fun h2 tk c R m k => ?_
  have hn : H s.heap.objs.size = none := I.hok.fresh (Nat.le_refl _)
  have hc : c = (uniq ns).length := by
    obtain ⟨o, es, ep, t, _, _, _, _, nd, hm, _, _, hn, _⟩ := R
    rw [← hn, ← Array.length_toList, ← List.length_map (f := keyOf)]
    exact len_nodup nd (uniq_nodup ns) fun z => (hm z).symm.trans (decide_eq_true_iff.trans mem_uniq.symm)
  subst hc
  exact ⟨.ref _, upd H s.heap.objs.size (SetO X.w s.heap.objs.size (fun j => decide (j ∈ ns)) (uniq ns).length), I.laid (t' := tk) k (Nat.le_refl _) (setO_new R), rfl, q _ hn⟩
theorem ksetN {K : PySem.W.Frag} {w : World} (hc : X.calm = true := by rfl) (hK : X.K = K := by rfl) (hw : X.w = w := by rfl) : CallR X (.type "set") (rSetN K w) := by
  subst hK hw
  exact cr_setN hc
def rLenO (w : World) : List V → Hp → VK → Prop := fun vs H Q => ∃ (p : Addr) (S : Int → Bool) (n : Nat), vs = [.ref p] ∧ H p = some (SetO w p S n) ∧ n ≤ 4000 ∧ Q (.int (n : Int)) H
theorem cr_lenO : CallR X (.builtin "len") (rLenO X.w) := by
  intro pins s σ H vs us Q I r h
  obtain ⟨p, S, n, rfl, hp, hl, q⟩ := h
  rw [Vals.ref1 r]
  obtain ⟨o, es, ep, t, ho, hex, hd, _, _, _, _, hf, hn, _⟩ := setO_get I hp
  exact call_len_set ho hex hd hf (by omega) ⟨.int (n : Int), H, I.tok _, ⟨_, by rw [hn]⟩, q⟩
theorem kLenO {w : World} (hw : X.w = w := by rfl) : CallR X (.builtin "len") (rLenO w) := by
  subst hw
  exact cr_lenO
def rDictP (K : PySem.W.Frag) : List V → Hp → VK → Prop := fun xs H Q => ∃ (a : Addr) (ps : List Addr) (kvs : List (Key × V)), xs = [.ref a] ∧ SqL K H a (ps.map V.ref) ∧ Paired (fun p kv => SqT K H p [kV kv.1, kv.2]) ps kvs ∧
    ∀ p, H p = none → Q (.ref p) (upd H p (.dK (mergeK [] kvs)))
theorem kDictP {K : PySem.W.Frag} (hc : X.calm = true := by rfl) (hK : X.K = K := by rfl) : CallR X (.type "dict") (rDictP K) := by
  subst hK
  exact call_dictP hc
end
section
variable {K : PySem.W.Frag} {w : World} {σ : L2.St} {H : Hp} {ta td ty tv : TE} {D : Ends}
theorem ev_lenSet {p : Addr} {ns : List Int} (h : Ev ta σ H (.ref p)) (hp : SqL K H p (ns.map V.int)) (hl : ns.length ≤ 4000) : Ev (tCB (rLenO w) (tCons (tCB (rSetN K w) (tCons ta tNil)) tNil)) σ H (.int ((uniq ns).length : Int)) := fun H1 e Q q =>
  h H1 e _ fun H2 e2 => ⟨p, ns, rfl, ex_l (e.trans e2) hp, hl, fun r hr => ⟨r, _, _, rfl, upd_same, by have := uniq_le ns; omega, q _ (e2.trans (Ex.new hr))⟩⟩
/-! ### dicts as sets of numbers -/
def DS (ks : List Nat) : List (Key × V) := ks.map fun (n : Nat) => ((Sum.inl (n : Int) : Key), V.bl true)
def addN (ks : List Nat) (n : Nat) : List Nat := if n ∈ ks then ks else ks ++ [n]
theorem mem_addN {ks : List Nat} {n m : Nat} : m ∈ addN ks n ↔ m ∈ ks ∨ m = n := by
  unfold addN
  split
  · rename_i h
    exact ⟨.inl, fun z => z.elim id fun e => e ▸ h⟩
  · rw [List.mem_append, List.mem_singleton]
theorem addN_nodup {ks : List Nat} {n : Nat} (h : ks.Nodup) : (addN ks n).Nodup := by
  unfold addN
  split
  · exact h
  · rename_i hn
    refine List.nodup_append.mpr ⟨h, List.pairwise_singleton _ _, fun a ha b hb => ?_⟩
    rw [List.mem_singleton.mp hb]
    exact fun z => hn (z ▸ ha)
theorem addN_len (ks : List Nat) (n : Nat) : (addN ks n).length ≤ ks.length + 1 := by
  unfold addN
  split
  · omega
  · simp
theorem val_DS (ks : List Nat) (n : Nat) : valV (DS ks) (Sum.inl (n : Int)) = if n ∈ ks then some (.bl true) else none := by
  induction ks with
  | nil => rfl
  | cons m ks ih =>
    by_cases h : m = n
    · subst h
      show valV ((Sum.inl (m : Int), V.bl true) :: DS ks) _ = _
      rw [valV_pos rfl, if_pos List.mem_cons_self]
    · show valV ((Sum.inl (m : Int), V.bl true) :: DS ks) _ = _
      rw [valV_neg (fun z => h (Int.ofNat.inj (Sum.inl.inj z))), ih]
      by_cases h2 : n ∈ ks
      · rw [if_pos h2, if_pos (List.mem_cons_of_mem _ h2)]
      · rw [if_neg h2, if_neg fun z => (List.mem_cons.mp z).elim (fun e => h e.symm) h2]
theorem put_DS (ks : List Nat) (n : Nat) : putK (DS ks) (Sum.inl (n : Int)) (.bl true) = DS (addN ks n) := by
  have ha := valV_any (Sum.inl (n : Int) : Key) (DS ks)
  rw [val_DS] at ha
  unfold putK addN
  by_cases h : n ∈ ks
  · rw [if_pos h] at ha
    rw [if_pos (show ((DS ks).any fun kv => decide (kv.1 = (Sum.inl (n : Int) : Key))) = true from ha), if_pos h]
    unfold DS
    rw [List.map_map]
    refine List.map_congr_left fun m _ => ?_
    show (if (Sum.inl (m : Int) : Key) = Sum.inl (n : Int) then _ else _) = _
    split <;> rfl
  · rw [if_neg h] at ha
    rw [if_neg (show ¬ ((DS ks).any fun kv => decide (kv.1 = (Sum.inl (n : Int) : Key))) = true from fun z => Bool.false_ne_true (ha.symm.trans z)), if_neg h]
    unfold DS
    rw [List.map_append]
    rfl
theorem DS_len (ks : List Nat) : (DS ks).length = ks.length := by unfold DS; rw [List.length_map]
/-- d[n] = True -/
theorem s_putD {d : Addr} {ks : List Nat} {n : Nat} (hd : Ev td σ H (.ref d)) (hn : Ev ty σ H (.int (n : Int))) (h : H d = some (.dK (DS ks))) (hl : ks.length ≤ 10000) (k : ∀ H1, Ex H H1 → D.nx σ (upd H1 d (.dK (DS (addN ks n))))) : sDPut td ty (tC (.bl true)) D σ H :=
  hd H (Ex.refl _) _ fun H2 e2 => hn H2 e2 _ fun H3 e3 => ⟨d, _, rfl, DPut.k (k := Sum.inl (n : Int)) ((e2.trans e3) _ _ h) (by rw [DS_len]; unfold sizeLine; omega), by rw [put_DS]; exact k H3 (e2.trans e3)⟩
theorem q_putD {tz : TS} {d : Addr} {ks : List Nat} {n : Nat} (hd : Ev td σ H (.ref d)) (hn : Ev ty σ H (.int (n : Int))) (h : H d = some (.dK (DS ks))) (hl : ks.length ≤ 10000) (k : ∀ H1, Ex H H1 → tz D σ (upd H1 d (.dK (DS (addN ks n))))) : tSeq (sDPut td ty (tC (.bl true))) tz D σ H := s_putD (D := { D with nx := tz D }) hd hn h hl k
theorem some_if {b : Prop} [Decidable b] {v : V} : (if b then some v else none).isSome = decide b := by
  by_cases h : b
  · rw [if_pos h, decide_eq_true h]; rfl
  · rw [if_neg h, decide_eq_false h]; rfl
theorem ev_inD {d : Addr} {ks : List Nat} {n : Nat} (hn : Ev ty σ H (.int (n : Int))) (hd : Ev td σ H (.ref d)) (h : H d = some (.dK (DS ks))) : Ev (tDIn ty td) σ H (.bl (decide (n ∈ ks))) := fun H1 e Q q =>
  hn H1 e _ fun H2 e2 => hd H2 (e.trans e2) _ fun H3 e3 => ⟨d, _, rfl, DGet.k (k := Sum.inl (n : Int)) (((e.trans e2).trans e3) _ _ h), by rw [val_DS, some_if]; exact q H3 (e2.trans e3)⟩
theorem ev_notinD {d : Addr} {ks : List Nat} {n : Nat} (hn : Ev ty σ H (.int (n : Int))) (hd : Ev td σ H (.ref d)) (h : H d = some (.dK (DS ks))) : Ev (tDNotIn ty td) σ H (.bl (!decide (n ∈ ks))) := fun H1 e Q q =>
  hn H1 e _ fun H2 e2 => hd H2 (e.trans e2) _ fun H3 e3 => ⟨d, _, rfl, DGet.k (k := Sum.inl (n : Int)) (((e.trans e2).trans e3) _ _ h), by rw [val_DS, some_if]; exact q H3 (e2.trans e3)⟩
/-- list(d) -/
theorem el_listD {d : Addr} {ks : List Nat} (hd : Ev td σ H (.ref d)) (h : H d = some (.dK (DS ks))) : EvL (tCB rListD (tCons td tNil)) σ H (ks.map fun (n : Nat) => V.int (n : Int)) := fun H1 e Q q =>
  hd H1 e _ fun H2 e2 => ⟨d, DS ks, rfl, (e.trans e2) _ _ h, fun r hr => q r _ (fresh_back e2 hr) (e2.trans (Ex.new hr)) (by
    rw [upd_same]
    unfold DS
    rw [List.map_map]
    rfl)⟩
end
/-! ### numbers, ascending -/
/-- the members of ks, ascending, below n -/
def asc (n : Nat) (p : Nat → Bool) : List Nat := (List.range n).filter p
theorem asc_lt (n : Nat) (p : Nat → Bool) : (asc n p).Pairwise (· < ·) := List.Pairwise.filter _ List.pairwise_lt_range
theorem sorted_is {l l' : List Int} (h1 : l.Pairwise (· ≤ ·)) (h2 : l'.Pairwise (· ≤ ·)) (h : l.Perm l') : l = l' := h.eq_of_pairwise (fun a b _ _ h1 h2 => Int.le_antisymm h1 h2) h1 h2
/-- what any ascending order of ks is -/
theorem asc_is {n : Nat} {p : Nat → Bool} {ks : List Nat} {ys : List Int} (hk : ks.Nodup) (hm : ∀ m, m ∈ ks ↔ m < n ∧ p m = true) (hp : ys.Perm (ks.map fun (m : Nat) => (m : Int))) (hs : ys.Pairwise (· ≤ ·)) : ys = (asc n p).map fun (m : Nat) => (m : Int) := by
  refine sorted_is hs ?_ (hp.trans (List.Perm.map _ ?_))
  · exact List.pairwise_map.mpr ((asc_lt n p).imp fun h => by omega)
  · refine (List.perm_ext_iff_of_nodup hk ((asc_lt n p).imp fun h => Nat.ne_of_lt h)).mpr fun m => ?_
    unfold asc
    rw [hm, List.mem_filter, List.mem_range]
end Wd
set_option Elab.async false
set_option linter.all false
set_option maxRecDepth 100000
set_option maxHeartbeats 2000000
/-! dict comprehensions, comprehensions of two clauses -/
namespace Wd
open PySem PySem.Spec PyProof.Rows L2 Evl Wc Wt Wg
section
variable {J : It} {n : Nat} {G : Hp → Prop} {Y : Nat → Hp → V → Hp → Prop}
theorem dc_it (w : Walk J n G Y) {g : TG} {tt : TT} {tk tv : TE} {vs : List Nat} {σ : L2.St} {H1 : Hp} {D : Addr} {Qd : Hp → Prop} (Pv : Nat → Hp → Prop) (h0 : Pv 0 (upd H1 D (.dK []))) (hG : ∀ i H, i ≤ n → Pv i H → G H)
    (hs : ∀ i x H H', i < n → Pv i H → Y i H x H' → g x (wipe σ vs) H' fun σ2 H2 => wipe σ2 vs = wipe σ vs ∧ tt σ2 H2 fun b H3 =>
      if b = true then tk σ2 H3 fun y H4 => tv σ2 H4 fun z H5 => ∃ kvs k, y = kV k ∧ H5 D = some (.dK kvs) ∧ kvs.length < sizeLine ∧ Pv (i + 1) (upd H5 D (.dK (putK kvs k z))) else Pv (i + 1) H3) (hd : ∀ H, Pv n H → Qd H) :
    ∃ W : Nat → Nat → Hp → Prop, (∃ m, W 0 m (upd H1 D (.dK []))) ∧ ∀ i m H, W i m H →
      (J.stop i H ∧ Qd H) ∨ (J.go i H ∧ ∃ Nx : Hp → Prop, (∀ H', Nx H' → ∃ m', m' < m ∧ W (i + 1) m' H') ∧ ∀ x H', J.yld i H x H' → g x (wipe σ vs) H' fun σ2 H2 => wipe σ2 vs = wipe σ vs ∧ tt σ2 H2 fun b H3 =>
        if b = true then tk σ2 H3 fun y H4 => tv σ2 H4 fun z H5 => ∃ kvs k, y = kV k ∧ H5 D = some (.dK kvs) ∧ kvs.length < sizeLine ∧ Nx (upd H5 D (.dK (putK kvs k z))) else Nx H3) := by
  refine ⟨fun i m H => m = n - i ∧ i ≤ n ∧ Pv i H, ⟨n, by simp, Nat.zero_le _, h0⟩, ?_⟩
  rintro i m H ⟨rfl, hi, p⟩
  have q := hG i H hi p
  by_cases hlt : i < n
  · exact .inr ⟨w.goes i H hlt q, Pv (i + 1), fun H' p' => ⟨n - (i + 1), by omega, rfl, hlt, p'⟩, fun x H' y => hs i x H H' hlt p (w.yields i H x H' hlt q y)⟩
  · have e : i = n := by omega
    subst e
    exact .inl ⟨w.stops H q, hd H p⟩
theorem in_it (w : Walk J n G Y) {g : TG} {tt : TT} {te : TE} {vs : List Nat} {σ : L2.St} {H1 : Hp} {D : Addr} {Qd : Hp → Prop} (Pv : Nat → Hp → Prop) (h0 : Pv 0 H1) (hG : ∀ i H, i ≤ n → Pv i H → G H)
    (hs : ∀ i x H H', i < n → Pv i H → Y i H x H' → g x (wipe σ vs) H' fun σ2 H2 => wipe σ2 vs = wipe σ vs ∧ tt σ2 H2 fun b H3 =>
      if b = true then te σ2 H3 fun y H4 => ∃ acc, H4 D = some (.lst acc) ∧ acc.length < sizeLine ∧ Pv (i + 1) (upd H4 D (.lst (acc ++ [y]))) else Pv (i + 1) H3) (hd : ∀ H, Pv n H → Qd H) :
    ∃ W : Nat → Nat → Hp → Prop, (∃ m, W 0 m H1) ∧ ∀ i m H, W i m H →
      (J.stop i H ∧ Qd H) ∨ (J.go i H ∧ ∃ Nx : Hp → Prop, (∀ H', Nx H' → ∃ m', m' < m ∧ W (i + 1) m' H') ∧ ∀ x H', J.yld i H x H' → g x (wipe σ vs) H' fun σ2 H2 => wipe σ2 vs = wipe σ vs ∧ tt σ2 H2 fun b H3 =>
        if b = true then te σ2 H3 fun y H4 => ∃ acc, H4 D = some (.lst acc) ∧ acc.length < sizeLine ∧ Nx (upd H4 D (.lst (acc ++ [y]))) else Nx H3) := by
  refine ⟨fun i m H => m = n - i ∧ i ≤ n ∧ Pv i H, ⟨n, by simp, Nat.zero_le _, h0⟩, ?_⟩
  rintro i m H ⟨rfl, hi, p⟩
  have q := hG i H hi p
  by_cases hlt : i < n
  · exact .inr ⟨w.goes i H hlt q, Pv (i + 1), fun H' p' => ⟨n - (i + 1), by omega, rfl, hlt, p'⟩, fun x H' y => hs i x H H' hlt p (w.yields i H x H' hlt q y)⟩
  · have e : i = n := by omega
    subst e
    exact .inl ⟨w.stops H q, hd H p⟩
end
def addAll (ks ns : List Nat) : List Nat := ns.foldl addN ks
theorem mem_addAll {m : Nat} : ∀ {ns ks : List Nat}, m ∈ addAll ks ns ↔ m ∈ ks ∨ m ∈ ns
  | [], ks => ⟨.inl, fun z => z.elim id fun h => nomatch h⟩
  | n :: ns, ks => by
    show m ∈ addAll (addN ks n) ns ↔ _
    rw [mem_addAll, mem_addN, List.mem_cons, or_assoc]
theorem addAll_nodup : ∀ {ns ks : List Nat}, ks.Nodup → (addAll ks ns).Nodup
  | [], _, h => h
  | n :: ns, ks, h => addAll_nodup (ns := ns) (addN_nodup h)
theorem addAll_len : ∀ (ns ks : List Nat), (addAll ks ns).length ≤ ks.length + ns.length
  | [], _ => Nat.le_refl _
  | n :: ns, ks => by
    have h1 := addAll_len ns (addN ks n)
    have h2 := addN_len ks n
    show (addAll (addN ks n) ns).length ≤ _
    rw [List.length_cons]
    omega
theorem addAll_succ {ns : List Nat} {i n : Nat} (h : ns[i]? = some n) : addAll [] (ns.take (i + 1)) = addN (addAll [] (ns.take i)) n := by
  rw [List.take_add_one, h]
  unfold addAll
  rw [List.foldl_append]
  rfl
section
variable {K : PySem.W.Frag} {σ : L2.St} {H : Hp} {te : TE} {Q : VK}
/-- {n: True for n in ns} -/
theorem dc_nums {wi : TI} {j : Nat} {vs : List Nat} {own : Addr → Prop} (ns : List Nat) (hs : Src wi σ H ns.length own (fun i v _ => (ns.map fun (n : Nat) => V.int (n : Int))[i]? = some v)) (hn : ns.length ≤ 4000) (hw : ∀ x, wipe ((wipe σ vs).set j (some x)) vs = wipe σ vs) (hj : ∀ x, ((wipe σ vs).set j (some x))[j]? = some (some x))
    (k : ∀ d H2, H d = none → Ex H H2 → H2 d = some (.dK (DS (addAll [] ns))) → Q (.ref d) H2) : tDc wi (gName j) tYes (tVar j) (tC (.bl true)) vs σ H Q :=
  hs H (Ex.refl H) _ fun J H1 S e1 w hS => fun Dl hD => by
    refine dc_it w (Qd := fun H3 => Q (.ref Dl) H3) (fun i Hi => Ex H1 Hi ∧ Hi Dl = some (.dK (DS (addAll [] (ns.take i))))) ?_ (fun i Hi hi p => hS (fun _ => False) Hi (fun b z => z.elim) (.of p.1)) ?_ ?_
    · exact ⟨Ex.new hD, upd_same⟩
    · rintro i x Ha Hb hi ⟨R, h1⟩ ⟨ey, hP⟩
      obtain ⟨n, hn1, rfl⟩ := at_map hP
      refine ⟨hw _, ?_⟩
      unfold tYes
      dsimp only
      rw [if_pos rfl]
      refine ⟨.int (n : Int), hj _, ?_⟩
      have hl := addAll_len (ns.take i) []
      refine ⟨DS (addAll [] (ns.take i)), Sum.inl (n : Int), rfl, ey _ _ h1, ?_, Ex.mut (R.trans ey) hD, ?_⟩
      · rw [DS_len]
        rw [List.length_take] at hl
        have : ([] : List Nat).length = 0 := rfl
        unfold sizeLine
        omega
      · rw [upd_same, put_DS, addAll_succ hn1]
    · rintro H3 ⟨R, h1⟩
      rw [List.take_length] at h1
      exact k Dl H3 (fresh_back e1 hD) (e1.trans R) h1
theorem sum_part {α : Type} (f : α → Nat) (xs : List α) (i : Nat) : ((xs.take i).map f).sum ≤ (xs.map f).sum := by
  conv => rhs; rw [← List.take_append_drop i xs, List.map_append, List.sum_append]
  omega
/-- [g a b for a in xs for b in ys a] -/
theorem el_lc2 {α β : Type} {wi wi1 : TI} {j j1 : Nat} {vs vs1 : List Nat} {own : Addr → Prop} {own1 : α → Addr → Prop} {f : α → V} {h : β → V} {g : α → β → V} (xs : List α) (ys : α → List β) (hs : Src wi σ H xs.length own (fun i v _ => (xs.map f)[i]? = some v))
    (hs1 : ∀ a H1, Ex H H1 → a ∈ xs → Src wi1 ((wipe σ vs).set j (some (f a))) H1 (ys a).length (own1 a) (fun i v _ => ((ys a).map h)[i]? = some v))
    (ho : ∀ a c, own1 a c → H c ≠ none) (hz : (xs.map fun a => (ys a).length).sum ≤ 40000) (hw : ∀ x, wipe ((wipe σ vs).set j (some x)) vs = wipe σ vs) (hw1 : ∀ x y, wipe ((wipe ((wipe σ vs).set j (some x)) vs1).set j1 (some y)) vs1 = wipe ((wipe σ vs).set j (some x)) vs1)
    (he : ∀ a b H1, Ex H H1 → a ∈ xs → b ∈ ys a → Ev te ((wipe ((wipe σ vs).set j (some (f a))) vs1).set j1 (some (h b))) H1 (g a b)) :
    EvL (tLc2 wi (gName j) tYes wi1 (gName j1) tYes te vs vs1) σ H (xs.flatMap fun a => (ys a).map (g a)) := fun H0 e0 Q q => hs H0 e0 _ fun J H1 S e1 w hS => fun Dl hD => by
  have e01 := e0.trans e1
  refine ⟨fun i m Hi => m = xs.length - i ∧ i ≤ xs.length ∧ Ex H1 Hi ∧ Hi Dl = some (.lst ((xs.take i).flatMap fun a => (ys a).map (g a))), ⟨xs.length, by simp, Nat.zero_le _, Ex.new hD, upd_same⟩, ?_⟩
  rintro i m Hi ⟨rfl, hi, hE, hL⟩
  have hG : S Hi := hS (fun _ => False) Hi (fun b z => z.elim) (.of hE)
  by_cases hlt : i < xs.length
  · refine .inr ⟨w.goes i Hi hlt hG, fun H' => Ex H1 H' ∧ H' Dl = some (.lst ((xs.take (i + 1)).flatMap fun a => (ys a).map (g a))), fun H' p' => ⟨xs.length - (i + 1), by omega, rfl, hlt, p'.1, p'.2⟩, fun x H' y => ?_⟩
    obtain ⟨ey, hP⟩ := w.yields i Hi x H' hlt hG y
    obtain ⟨a, ha, rfl⟩ := at_map hP
    have ham := List.mem_of_getElem? ha
    have hEy := hE.trans ey
    refine ⟨hw _, ?_⟩
    show wi1 ((wipe σ vs).set j (some (f a))) H' _
    refine hs1 a H' (e01.trans hEy) ham H' (Ex.refl _) _ fun J1 H4 S1 e4 w1 hS1 => ?_
    have hL4 : H4 Dl = some (.lst ((xs.take i).flatMap fun a => (ys a).map (g a))) := e4 _ _ (ey _ _ hL)
    have hE4 := hEy.trans e4
    have htk : (xs.take (i + 1)).flatMap (fun a => (ys a).map (g a)) = (xs.take i).flatMap (fun a => (ys a).map (g a)) ++ (ys a).map (g a) := by
      rw [List.take_add_one, ha, List.flatMap_append]
      simp
    refine in_it w1 (Qd := fun H' => Ex H1 H' ∧ H' Dl = some (.lst ((xs.take (i + 1)).flatMap fun a => (ys a).map (g a)))) (fun t Ht => Ex H1 Ht ∧ Exc (fun c => c = Dl) H4 Ht ∧ Ht Dl = some (.lst ((xs.take i).flatMap (fun a => (ys a).map (g a)) ++ ((ys a).take t).map (g a)))) ?_ ?_ ?_ ?_
    · exact ⟨hE4, Exc.refl _, by rw [hL4]; simp⟩
    · intro t Ht ht p
      refine hS1 (fun c => c = Dl) Ht (fun b z => ?_) p.2.1
      subst z
      exact ⟨(by rw [ey _ _ hL]; exact fun z => nomatch z), fun z => ho a b z (fresh_back e01 hD)⟩
    · rintro t y Ht Hu ht ⟨p1, p2, p3⟩ ⟨eu, hy⟩
      obtain ⟨b, hb, rfl⟩ := at_map hy
      refine ⟨hw1 _ _, ?_⟩
      show te ((wipe ((wipe σ vs).set j (some (f a))) vs1).set j1 (some (h b))) Hu fun y H7 => _
      refine he a b Hu (e01.trans (p1.trans eu)) ham (List.mem_of_getElem? hb) Hu (Ex.refl _) _ fun H7 e7 => ?_
      refine ⟨_, e7 _ _ (eu _ _ p3), ?_, Ex.mut (p1.trans (eu.trans e7)) hD, (p2.then (eu.trans e7)).upd (.inl rfl), ?_⟩
      · refine sz_lt ?_
        rw [List.length_append, List.length_flatMap, List.length_map, List.length_take]
        have h1 := sum_part (fun a => (ys a).length) xs (i + 1)
        rw [List.take_add_one, ha, List.map_append, List.sum_append] at h1
        simp at h1 ⊢
        omega
      · rw [upd_same, List.take_add_one, hb, List.map_append, List.append_assoc]
        rfl
    · rintro Ht ⟨p1, _, p3⟩
      rw [List.take_length] at p3
      exact ⟨p1, by rw [p3, htk]⟩
  · have e : i = xs.length := by omega
    subst e
    rw [List.take_length] at hL
    exact .inl ⟨w.stops Hi hG, q Dl Hi (fresh_back e1 hD) (e1.trans hE) hL⟩
end
end Wd
set_option Elab.async false
set_option linter.all false
set_option maxRecDepth 100000
set_option maxHeartbeats 2000000
/-! set comprehensions of any kind of things -/
namespace Ws
open PySem PySem.Spec PyProof.Rows L2 Evl Wc Wt Wg Wd
/-- how a set of some kind begins (nw) and takes one thing more (ad) -/
structure Fill (P : Program) (w : World) (nw : Addr → HO) (ad : Addr → HO → V → HO → Prop) : Prop where
  new : ∀ (H : Hp) (h : Heap), ObjOk P w H (h.push (so w)) h.objs.size (nw h.objs.size)
  add : ∀ (X : Cx), X.prog = P → X.w = w → ∀ (pins : List (Addr × Obj)) (σ : L2.St) (H : Hp) (s : Shared) (E : Value → Shared → Prop) (D : Addr) (o o' : HO) (y : V) (v : Value) (Q : Value → Shared → Prop), Inv X pins σ H s → H D = some o → ad D o y o' → RelV y v →
    (∀ s', Inv X pins σ (upd H D o') s' → Q .none s') → wpAny (model X.prog X.w) X.A (call (.builtin "set.add") [.ref D, v]) Q E s
/-- one turn's end: the thing y goes into the set at D, behind it Z -/
def tInto (ad : Addr → HO → V → HO → Prop) (D : Addr) (Z : Hp → Prop) : VK := fun y H => ∃ o o', H D = some o ∧ ad D o y o' ∧ Z (upd H D o')
/-- {te for g in wi if tt} -/
def tSet (nw : Addr → HO) (ad : Addr → HO → V → HO → Prop) (wi : TI) (g : TG) (tt : TT) (te : TE) (vs : List Nat) : TE := fun σ H Q => wi σ H fun J H1 => ∀ D, H1 D = none → ∃ W : Nat → Nat → Hp → Prop, (∃ m, W 0 m (upd H1 D (nw D))) ∧ ∀ i m H, W i m H →
  (J.stop i H ∧ Q (.ref D) H) ∨ (J.go i H ∧ ∃ Z : Hp → Prop, (∀ H', Z H' → ∃ m', m' < m ∧ W (i + 1) m' H') ∧ ∀ x H', J.yld i H x H' →
    g x (wipe σ vs) H' fun σ2 H2 => wipe σ2 vs = wipe σ vs ∧ tt σ2 H2 fun b H3 => if b = true then te σ2 H3 (tInto ad D Z) else Z H3)
/-- {te for g in wi if tt for g1 in wi1 if tt1} -/
def tSet2 (nw : Addr → HO) (ad : Addr → HO → V → HO → Prop) (wi : TI) (g : TG) (tt : TT) (wi1 : TI) (g1 : TG) (tt1 : TT) (te : TE) (vs vs1 : List Nat) : TE := fun σ H Q => wi σ H fun J H1 => ∀ D, H1 D = none → ∃ W : Nat → Nat → Hp → Prop, (∃ m, W 0 m (upd H1 D (nw D))) ∧ ∀ i m H, W i m H →
  (J.stop i H ∧ Q (.ref D) H) ∨ (J.go i H ∧ ∃ Z : Hp → Prop, (∀ H', Z H' → ∃ m', m' < m ∧ W (i + 1) m' H') ∧ ∀ x H', J.yld i H x H' →
    g x (wipe σ vs) H' fun σ2 H2 => wipe σ2 vs = wipe σ vs ∧ tt σ2 H2 fun b H3 => if b = true then
      wi1 σ2 H3 fun J1 H4 => ∃ W1 : Nat → Nat → Hp → Prop, (∃ m, W1 0 m H4) ∧ ∀ j k H, W1 j k H →
        (J1.stop j H ∧ Z H) ∨ (J1.go j H ∧ ∃ Z1 : Hp → Prop, (∀ H', Z1 H' → ∃ k', k' < k ∧ W1 (j + 1) k' H') ∧ ∀ x H', J1.yld j H x H' →
          g1 x (wipe σ2 vs1) H' fun σ3 H5 => wipe σ3 vs1 = wipe σ2 vs1 ∧ tt1 σ3 H5 fun b H6 => if b = true then te σ3 H6 (tInto ad D Z1) else Z1 H6)
    else Z H3)
/-! ### the turns of two clauses -/
section
variable {prog : Program} {w : World} {A : Around} {R : Result → Shared → Prop} {s : Shared} {elt t0 i0 t1 i1 : Expr} {ifs0 ifs1 : List Expr} {scope : Scope} {pos : Pos} {it acc : Value} {env : Env}
theorem turn_first (elt t0 i0 t1 i1 : Expr) (ifs0 ifs1 : List Expr) (scope : Scope) (pos : Pos) (it acc : Value) (env : Env) :
    compTurn (.SetComp elt [⟨t0, i0, ifs0, 0⟩, ⟨t1, i1, ifs1, 0⟩] scope pos) 0 it acc env = (do
      standAt i0.pos
      match ← pyNext it with
      | none => pure (.done .next)
      | some v =>
        letOwnedTupleGo t0 it v
        assign t0 env v
        let mut ok := true
        for c in ifs0 do
          if ok then ok ← isTrue c env (eval c env)
        if ok then
          let x ← eval i1 env
          standAt i1.pos
          let x ← foldedSetIterable i1 env x
          let _ ← runOwn (.compStart (.SetComp elt [⟨t0, i0, ifs0, 0⟩, ⟨t1, i1, ifs1, 0⟩] scope pos) 1 (← holding [x] (pyIter x)) acc env) env
        again (.compLoop (.SetComp elt [⟨t0, i0, ifs0, 0⟩, ⟨t1, i1, ifs1, 0⟩] scope pos) 0 it acc env)) := by rfl
theorem turn_second (elt t0 i0 t1 i1 : Expr) (ifs0 ifs1 : List Expr) (scope : Scope) (pos : Pos) (it acc : Value) (env : Env) :
    compTurn (.SetComp elt [⟨t0, i0, ifs0, 0⟩, ⟨t1, i1, ifs1, 0⟩] scope pos) 1 it acc env = (do
      standAt i1.pos
      match ← pyNext it with
      | none => pure (.done .next)
      | some v =>
        letOwnedTupleGo t1 it v
        assign t1 env v
        let mut ok := true
        for c in ifs1 do
          if ok then ok ← isTrue c env (eval c env)
        if ok then
          (do let v ← eval elt env; standAt elt.pos; let _ ← call (.builtin "set.add") [acc, v])
        again (.compLoop (.SetComp elt [⟨t0, i0, ifs0, 0⟩, ⟨t1, i1, ifs1, 0⟩] scope pos) 1 it acc env)) := by rfl
/-- a raise out of the block -/
abbrev Out (prog : Program) (w : World) (A : Around) (env : Env) (R : Result → Shared → Prop) : Value → Shared → Prop := notedBy (model prog w) A env fun e s' => R (.error e) s'
/-- the tests of a clause -/
abbrev oks (ifs : List Expr) (env : Env) : Sem Bool := forIn ifs true fun c r => if r = true then do let ok ← isTrue c env (eval c env); pure (ForInStep.yield ok) else pure (ForInStep.yield r)
theorem loop_first (hs : ∀ x, foldedSetIterable i1 env x = pure x) (I : Nat → Shared → Prop)
    (turn : ∀ n s, I n s → wpAny (model prog w) A (pyNext it) (fun r s₁ => match r with
      | none => R (.ok .next) s₁
      | some v => wpAny (model prog w) A (letOwnedTupleGo t0 it v) (fun _ s₂ => wpAny (model prog w) A (assign t0 env v) (fun _ s₃ => wpAny (model prog w) A (oks ifs0 env) (fun ok s₄ =>
            if ok = true then wpAny (model prog w) A (eval i1 env) (fun x s₅ => wpAny (model prog w) A (pyIter x) (fun it1 s₆ =>
              codeAny (model prog w) A (.compStart (.SetComp elt [⟨t0, i0, ifs0, 0⟩, ⟨t1, i1, ifs1, 0⟩] scope pos) 1 it1 acc env) (fun r s' => match r with
                | .ok _ => ∃ m, m < n ∧ I m s'
                | .error _ => False) s₆) (Out prog w A env R) s₅) (Out prog w A env R) s₄
            else ∃ m, m < n ∧ I m s₄) (Out prog w A env R) s₃) (Out prog w A env R) s₂) (Out prog w A env R) s₁) (Out prog w A env R) s)
    (n : Nat) (h : I n s) : codeAny (model prog w) A (.compLoop (.SetComp elt [⟨t0, i0, ifs0, 0⟩, ⟨t1, i1, ifs1, 0⟩] scope pos) 0 it acc env) R s := by
  refine codeAny_loop rfl I (fun n s hI => ?_) n h
  show wpAny _ A ((compTurn (.SetComp elt [⟨t0, i0, ifs0, 0⟩, ⟨t1, i1, ifs1, 0⟩] scope pos) 0 it acc env).onRaise (fun x => do noteFrame x env; theTreesLotGoes x)) _ _ s
  refine wpAny_noted ?_
  rw [turn_first]
  refine wpAny_bind (wpAny_standAt (wpAny_bind (wpAny_mono (turn n s hI) (fun r s₁ h₁ => ?_) fun _ _ z => z)))
  cases r with
  | none => exact wpAny_pure h₁
  | some v =>
    refine wpAny_bind (wpAny_mono h₁ (fun _ s₂ h₂ => wpAny_bind (wpAny_mono h₂ (fun _ s₃ h₃ => wpAny_bind (wpAny_mono h₃ (fun ok s₄ h₄ => ?_) fun _ _ z => z)) fun _ _ z => z)) fun _ _ z => z)
    cases ok with
    | false => exact wpAny_pure ⟨rfl, h₄⟩
    | true =>
      refine wpAny_bind (wpAny_mono h₄ (fun x s₅ h₅ => wpAny_bind (wpAny_standAt (wpAny_bind (wpAny_of_eq (hs x) (wpAny_bind (wpAny_holding (wpAny_mono h₅ (fun it1 s₆ h₆ => wpAny_bind (wpAny_runOwn ?_)) fun _ _ z => z))))))) fun _ _ z => z)
      rw [Around.mark_none]
      refine codeAny_mono h₆ fun r s' hr => ?_
      cases r with
      | error e => exact hr.elim
      | ok f => first | exact wpAny_pure ⟨rfl, hr⟩ | exact wpAny_bind (wpAny_pure (wpAny_pure ⟨rfl, hr⟩))
theorem loop_second (I : Nat → Shared → Prop)
    (turn : ∀ n s, I n s → wpAny (model prog w) A (pyNext it) (fun r s₁ => match r with
      | none => R (.ok .next) s₁
      | some v => wpAny (model prog w) A (letOwnedTupleGo t1 it v) (fun _ s₂ => wpAny (model prog w) A (assign t1 env v) (fun _ s₃ => wpAny (model prog w) A (oks ifs1 env) (fun ok s₄ =>
            if ok = true then wpAny (model prog w) A (eval elt env) (fun x s₅ => wpAny (model prog w) A (call (.builtin "set.add") [acc, x]) (fun _ s₆ => ∃ m, m < n ∧ I m s₆) (Out prog w A env R) s₅) (Out prog w A env R) s₄
            else ∃ m, m < n ∧ I m s₄) (Out prog w A env R) s₃) (Out prog w A env R) s₂) (Out prog w A env R) s₁) (Out prog w A env R) s)
    (n : Nat) (h : I n s) : codeAny (model prog w) A (.compLoop (.SetComp elt [⟨t0, i0, ifs0, 0⟩, ⟨t1, i1, ifs1, 0⟩] scope pos) 1 it acc env) R s := by
  refine codeAny_loop rfl I (fun n s hI => ?_) n h
  show wpAny _ A ((compTurn (.SetComp elt [⟨t0, i0, ifs0, 0⟩, ⟨t1, i1, ifs1, 0⟩] scope pos) 1 it acc env).onRaise (fun x => do noteFrame x env; theTreesLotGoes x)) _ _ s
  refine wpAny_noted ?_
  rw [turn_second]
  refine wpAny_bind (wpAny_standAt (wpAny_bind (wpAny_mono (turn n s hI) (fun r s₁ h₁ => ?_) fun _ _ z => z)))
  cases r with
  | none => exact wpAny_pure h₁
  | some v =>
    refine wpAny_bind (wpAny_mono h₁ (fun _ s₂ h₂ => wpAny_bind (wpAny_mono h₂ (fun _ s₃ h₃ => wpAny_bind (wpAny_mono h₃ (fun ok s₄ h₄ => ?_) fun _ _ z => z)) fun _ _ z => z)) fun _ _ z => z)
    cases ok with
    | false => exact wpAny_pure ⟨rfl, h₄⟩
    | true => exact wpAny_bind (wpAny_bind (wpAny_mono h₄ (fun x s₅ h₅ => wpAny_bind (wpAny_standAt (wpAny_bind (wpAny_mono h₅ (fun _ s₆ h₆ => wpAny_pure (wpAny_pure ⟨rfl, h₆⟩)) fun _ _ z => z)))) fun _ _ z => z))
theorem start_second (h0 : codeAny (model prog w) A (.compLoop (.SetComp elt [⟨t0, i0, ifs0, 0⟩, ⟨t1, i1, ifs1, 0⟩] scope pos) 1 it acc env) R s)
    (h : wpAny (model prog w) A (pyIter it) (fun it' s' => codeAny (model prog w) A (.compLoop (.SetComp elt [⟨t0, i0, ifs0, 0⟩, ⟨t1, i1, ifs1, 0⟩] scope pos) 1 it' acc env) R s') (Out prog w A env R) s) :
    codeAny (model prog w) A (.compStart (.SetComp elt [⟨t0, i0, ifs0, 0⟩, ⟨t1, i1, ifs1, 0⟩] scope pos) 1 it acc env) R s := by
  refine codeAny_of_tree ?_
  show wpAny _ _ ((compStart (.SetComp elt [⟨t0, i0, ifs0, 0⟩, ⟨t1, i1, ifs1, 0⟩] scope pos) 1 it acc env).onRaise (fun x => do noteFrame x env; standAt theWindowsPlace)) _ _ s
  refine wpAny_notedAt ?_
  unfold compStart
  show wpAny _ _ (ask >>= _) _ _ s
  refine wpAny_bind (wpAny_askSetting (wpAny_ite ?_))
  split
  · first
      | exact wpAny_bind (wpAny_pure (wpAny_pure (And.intro rfl h0)))
      | exact wpAny_pure (And.intro rfl h0)
  · first
      | exact wpAny_bind (wpAny_rule (wpAny_bind (wpAny_standAt (wpAny_bind (wpAny_mono h (fun it' s' h' => wpAny_pure (And.intro rfl h')) fun _ _ x => x)))))
      | (refine wpAny_bind (wpAny_rule ?_); show wpAny _ _ (standAt i1.pos >>= _) _ _ s; exact wpAny_bind (wpAny_standAt (wpAny_bind (wpAny_mono h (fun it' s' h' => wpAny_pure (And.intro rfl h')) fun _ _ x => x))))
end
section
variable {X : Cx} {nw : Addr → HO} {ad : Addr → HO → V → HO → Prop}
/-- what a rule of a block's part tells at each of its contexts -/
abbrev InBlk (X : Cx) (scope : Scope) (G : Cx → Prop) : Prop := ∀ (s : Shared) (H : Hp) (C : Addr) (cl : List (PySem.Str × Addr)) (fp : List Addr), G (X.blk s H scope (compEnvC scope cl C X.env) fp)
/-- the block's frame stands: H3 what is there, D the set, s3 the state ahead of the frame, ce its names -/
structure Frame (X : Cx) (pins : List (Addr × Obj)) (σ : L2.St) (vs : List Nat) (scope : Scope) (H3 : Hp) (s3 s4 : Shared) (ce : Env) (fp : List Addr) : Prop where
  loc : ce.locals = s3.heap.objs.size
  inv : Inv X pins σ H3 s3
  fps : ∀ b ∈ fp, FpOk X pins H3 b ∧ b < s3.heap.objs.size
  blk : Inv (X.blk s3 H3 scope ce fp) [] (wipe σ vs) H3 s4
/-- the source's objects at a turn -/
theorem Frame.stat {pins : List (Addr × Obj)} {σ σ' : L2.St} {vs : List Nat} {scope : Scope} {H3 H' : Hp} {s3 s4 s' : Shared} {ce : Env} {fp : List Addr} (F : Frame X pins σ vs scope H3 s3 s4 ce fp) (I : Inv (X.blk s3 H3 scope ce fp) [] σ' H' s') (hn : ∀ b ∈ fp, H' b = none) : ∀ b ∈ fp, FpOk (X.blk s3 H3 scope ce fp) [] H' b := fun b hb =>
  ⟨hn b hb, (I.ok.exf b hb).1, I.ok.exfs b hb, .inl hb, fun x c e => (I.ok.exf b hb).2 x c e, fun p hp => absurd (show p ∈ ([] : List (Addr × Obj)) ++ [] from hp) (by simp)⟩
/-- the block's frame goes -/
theorem Frame.leave {pins : List (Addr × Obj)} {σ σ' : L2.St} {vs : List Nat} {scope : Scope} {H3 H' : Hp} {s3 s4 s' : Shared} {ce : Env} {fp : List Addr} {Q : V → Prop} {D : Addr} {use : Option (Value → Sem Unit)} {Qf : Value → Shared → Prop} (F : Frame X pins σ vs scope H3 s3 s4 ce fp) (I : Inv (X.blk s3 H3 scope ce fp) [] σ' H' s')
    (k : ∀ m, Inv X pins σ H' s' → s'.heap.Ns s3.heap.objs.size m → FpOk X pins H' s3.heap.objs.size → compPost (model X.prog X.w) X.A X.xe use Qf (.ref D) s3.heap.objs.size (.ok .next) s') : compPost (model X.prog X.w) X.A X.xe use Qf (.ref D) s3.heap.objs.size (.ok .next) s' := by
  have nC : H' s3.heap.objs.size = none := F.loc ▸ (show H' ce.locals = none from I.free)
  obtain ⟨m, hn, _⟩ := I.loc
  have hn : s'.heap.Ns ce.locals m := hn
  rw [F.loc] at hn
  refine k m (F.inv.call' (ch := fp) I.os I.base I.hok I.bare fun b hb => ?_) hn (F.inv.fpOk (Nat.le_refl _) nC)
  obtain ⟨⟨_, a1, a2, a3, a4, a5⟩, _⟩ := F.fps b hb
  exact ⟨a3, a1, a4, a5⟩
/-- the way into the block: the first source, the empty set, the block's frame. What is left is the loop. -/
theorem set_in {pins : List (Addr × Obj)} {s : Shared} {σ : L2.St} {H : Hp} {elt tg iter : Expr} {ifs : List Expr} {more : List Comprehension} {scope : Scope} {own : List (PySem.Str × Nat)} {pos pos' : Pos} {wi : TI} {use : Option (Value → Sem Unit)} {Qf : Value → Shared → Prop} {KJ : It → Hp → Prop}
    (fl : Fill X.prog X.w nw ad) (hN : X.N.Nodup) (I : Inv X pins σ H s) (hi : PI X tg iter wi) (ok : BlkOk X.N X.env.scope scope own) (hs : ∀ x, foldedSetIterable iter X.env x = pure x) (h : wi σ H KJ)
    (loop : ∀ (J : It) (H2 H3 : Hp) (s3 s4 : Shared) (D it : Addr) (fp : List Addr) (tn : Nat → Heap → Prop) (cl : List (PySem.Str × Addr)), KJ J H2 → H2 D = none → H3 = upd H2 D (nw D) → Frame X pins σ (own.map (·.2)) scope H3 s3 s4 (compEnvC scope cl s3.heap.objs.size X.env) fp → Turn X.prog X.w X.K tg J fp it tn → tn 0 s4.heap →
      codeAny (model X.prog X.w) X.A (.compLoop (.SetComp elt (⟨tg, iter, ifs, 0⟩ :: more) scope pos) 0 (.ref it) (.ref D) (compEnvC scope cl s3.heap.objs.size X.env)) (compPost (model X.prog X.w) X.A X.xe use Qf (.ref D) s3.heap.objs.size) s4) :
    wpAny (model X.prog X.w) X.A (comprehension (.SetComp elt (⟨tg, iter, ifs, 0⟩ :: more) scope pos) scope X.env pos' (newSet (.type "set")) false (eval iter X.env) use) Qf X.xe s := by
  have hfree : ∀ y ∈ scope.names, y.2 = .free → ∃ c, X.env.cells.lookup y.1 = some c := fun y hy e => (ok.free y hy e).elim (fun k => I.ok.has _ (.inl k)) fun k => I.ok.has _ (.inr k)
  refine wpAny_comprehension_free (use := use) rfl hs (closure_ok hfree) ok.kind (fun y hy e => by rw [ok.uniq y hy, e]) (thn (hi.run pins s σ H _ I h) fun xv s1 hx => thn hx fun itv s2 h2 => ?_)
  obtain ⟨it, fp, tn, J, H2, rfl, I2, T, st2, f2, q⟩ := h2
  refine PpSet.newSet_ok (newEnv_comp ?_)
  have none2 : H2 s2.heap.objs.size = none := I2.hok.fresh (Nat.le_refl _)
  have I3 := I2.laid (t' := s2.toks) (fun b o e => Heap.get?_push_of_some (so X.w) e) (Nat.le_refl _) (fl.new _ s2.heap)
  have old : ∀ b ∈ fp, b < s2.heap.objs.size := fun b hb => by
    obtain ⟨o, e, _⟩ := T.obj _ _ st2 b hb
    exact Heap.lt_size e
  have f3 : ∀ b ∈ fp, FpOk X pins (upd H2 s2.heap.objs.size (nw s2.heap.objs.size)) b ∧ b < (s2.heap.push (so X.w)).objs.size := fun b hb => by
    refine ⟨⟨?_, (f2 b hb).2⟩, by rw [Heap.size_push]; exact Nat.lt_succ_of_lt (old b hb)⟩
    rw [upd_ne (Nat.ne_of_lt (old b hb))]
    exact (f2 b hb).1
  have st3 : tn 0 (s2.heap.push (so X.w)) := T.keep _ _ _ st2 fun b _ o e => Heap.get?_push_of_some _ e
  have I4 := block_start I3 ok hN f3
  have st4 : tn 0 (pushCells ((s2.heap.push (so X.w)).push { cls := .type "dict", data := .dict #[] }) scope.names) := T.keep _ _ _ st3 fun b _ o e => pushCells_keeps _ _ _ _ (Heap.get?_push_of_some _ e)
  have L := loop J H2 _ { s2 with heap := s2.heap.push (so X.w) } _ s2.heap.objs.size it fp tn _ q none2 rfl ⟨rfl, I3, f3, I4⟩ T st4
  exact PpSet.codeAny_compStart_set L (T.self X.A 0 _ _ _ st4 L)
/-- what is pinned behind a turn's store stands behind the turn -/
theorem turn_end {Y : Cx} {pins : List (Addr × Obj)} {fp : List Addr} {h7 : Heap} {σ8 σ0 : L2.St} {H' : Hp} {s' : Shared} {tg : Expr} {J : It} {it : Addr} {tn : Nat → Heap → Prop} {i : Nat} (T : Turn Y.prog Y.w Y.K tg J fp it tn) (st : tn i h7)
    (I : Inv Y (pins ++ pinsAt fp h7) σ8 H' s') (hl : σ0.length = σ8.length) (hk : ∀ (j : Nat) v, σ0[j]? = some (some v) → σ8[j]? = some (some v)) : Inv Y pins σ0 H' s' ∧ tn i s'.heap ∧ ∀ b ∈ fp, H' b = none := by
  have pin' : ∀ b ∈ fp, ∀ o, h7.get? b = some o → s'.heap.get? b = some o ∧ H' b = none := fun b hb o e =>
    let z := I.pin (b, o) (List.mem_append_right _ (List.mem_append_right _ (mem_pinsAt hb e)))
    ⟨z.1, z.2.1⟩
  refine ⟨I.unpinned.weak hl hk, T.keep _ _ _ st fun b hb o e => (pin' b hb o e).1, fun b hb => ?_⟩
  obtain ⟨o, e, _⟩ := T.obj _ _ st b hb
  exact (pin' b hb o e).2
theorem set_one {pins : List (Addr × Obj)} {s : Shared} {σ : L2.St} {H : Hp} {Q : VK} {elt tg iter : Expr} {ifs : List Expr} {scope : Scope} {own : List (PySem.Str × Nat)} {pos pos' : Pos} {wi : TI} {g : TG} {tt : TT} {te : TE} {use : Option (Value → Sem Unit)} {Qf : Value → Shared → Prop}
    (fl : Fill X.prog X.w nw ad) (hc : X.calm = true) (hN : X.N.Nodup) (I : Inv X pins σ H s) (hi : PI X tg iter wi) (ok : BlkOk X.N X.env.scope scope own) (hg : InBlk X scope fun Y => PG Y tg g) (ht : InBlk X scope fun Y => PTs Y ifs tt) (he : InBlk X scope fun Y => PE Y elt te)
    (hs : ∀ x, foldedSetIterable iter X.env x = pure x) (h : tSet nw ad wi g tt te (own.map (·.2)) σ H Q)
    (fin : ∀ D C s' m H', Inv X pins σ H' s' → Q (.ref D) H' → s'.heap.Ns C m → FpOk X pins H' C → compPost (model X.prog X.w) X.A X.xe use Qf (.ref D) C (.ok .next) s') :
    wpAny (model X.prog X.w) X.A (comprehension (.SetComp elt [⟨tg, iter, ifs, 0⟩] scope pos) scope X.env pos' (newSet (.type "set")) false (eval iter X.env) use) Qf X.xe s := by
  refine set_in fl hN I hi ok hs h fun J H2 H3 s3 s4 D it fp tn cl q none2 e3 F T st4 => ?_
  obtain ⟨W, ⟨m0, w0⟩, turn⟩ := q D none2
  rw [← e3] at w0
  have pg := hg s3 H3 s3.heap.objs.size cl fp
  have pt := ht s3 H3 s3.heap.objs.size cl fp
  have pe := he s3 H3 s3.heap.objs.size cl fp
  generalize compEnvC scope cl s3.heap.objs.size X.env = ce at F pg pt pe ⊢
  refine PpSet.compLoopS_any (fun n s' => ∃ i H', Inv (X.blk s3 H3 scope ce fp) [] (wipe σ (own.map (·.2))) H' s' ∧ tn i s'.heap ∧ (∀ b ∈ fp, H' b = none) ∧ W i n H') ?_ m0 ⟨0, H3, F.blk, st4, fun b hb => (F.fps b hb).1.1, w0⟩
  rintro n s5 ⟨i, H5, I5, st5, n5, w5⟩
  rcases turn i n H5 w5 with ⟨stop, qq⟩ | ⟨go, Z, hZ, step⟩
  · refine thnF (T.done (X.blk s3 H3 scope ce fp) rfl rfl rfl hc i [] s5 _ H5 (fun _ _ => False) I5 (F.stat I5 n5) st5 stop) fun r s6 ⟨hr, I6⟩ => ?_
    subst hr
    exact F.leave (Q := fun _ => True) I6 fun m I7 hn hf => fin D _ s6 m H5 I7 qq hn hf
  · refine thnF (T.item (X.blk s3 H3 scope ce fp) rfl rfl rfl hc i [] s5 _ H5 (fun _ _ => False) I5 (F.stat I5 n5) st5 go) fun r s6 ⟨u, hr, h6⟩ => ?_
    subst hr
    refine thnF h6 fun _ s7 ⟨x, H7, I7, r7, y7, st7, n7⟩ => ?_
    refine thnF (pg.run _ s7 _ H7 x u _ (I7.pinned (F.stat I7 n7) (T.obj _ _ st7)) r7 (step x H7 y7)) fun _ s8 ⟨σ8, H8, I8, hw8, q8⟩ => ?_
    refine thnF (pt.run _ s8 σ8 H8 _ I8 q8) fun b s9 ⟨H9, I9, q9⟩ => ?_
    have back : ∀ {s' : Shared} {H' : Hp}, Inv (X.blk s3 H3 scope ce fp) ([] ++ pinsAt fp s7.heap) σ8 H' s' → Z H' → ∃ m, m < n ∧ ∃ i H', Inv (X.blk s3 H3 scope ce fp) [] (wipe σ (own.map (·.2))) H' s' ∧ tn i s'.heap ∧ (∀ b ∈ fp, H' b = none) ∧ W i m H' := fun {s' H'} I' z => by
      obtain ⟨m', hm, w'⟩ := hZ H' z
      obtain ⟨a1, a2, a3⟩ := turn_end (Y := X.blk s3 H3 scope ce fp) (σ0 := wipe σ (own.map (·.2))) T st7 I' (by rw [← hw8, wipe_length]) fun j v e => by
        rw [← hw8] at e
        exact (wipe_some e).1
      exact ⟨m', hm, i + 1, H', a1, a2, a3, w'⟩
    cases b with
    | false =>
      simp only [Bool.false_eq_true, if_false] at q9 ⊢
      exact back I9 q9
    | true =>
      simp only [if_true] at q9 ⊢
      refine thnF (pe.run _ s9 σ8 H9 _ I9 q9) fun z s10 ⟨y, H10, I10, r10, o, o', ho, hy, nx⟩ => ?_
      exact fl.add (X.blk s3 H3 scope ce fp) rfl rfl _ _ _ _ _ _ _ _ _ _ _ I10 ho hy r10 fun s11 I11 => back I11 nx
theorem set_two {pins : List (Addr × Obj)} {s : Shared} {σ : L2.St} {H : Hp} {Q : VK} {elt tg iter tg1 iter1 : Expr} {ifs ifs1 : List Expr} {scope : Scope} {own : List (PySem.Str × Nat)} {vs1 : List Nat} {pos pos' : Pos} {wi wi1 : TI} {g g1 : TG} {tt tt1 : TT} {te : TE} {use : Option (Value → Sem Unit)} {Qf : Value → Shared → Prop}
    (fl : Fill X.prog X.w nw ad) (hc : X.calm = true) (hN : X.N.Nodup) (I : Inv X pins σ H s) (hi : PI X tg iter wi) (ok : BlkOk X.N X.env.scope scope own) (hv : ∀ i ∈ vs1, i ∈ own.map (·.2)) (hg : InBlk X scope fun Y => PG Y tg g) (ht : InBlk X scope fun Y => PTs Y ifs tt)
    (hi1 : InBlk X scope fun Y => PI Y tg1 iter1 wi1) (hg1 : InBlk X scope fun Y => PG Y tg1 g1) (ht1 : InBlk X scope fun Y => PTs Y ifs1 tt1) (he : InBlk X scope fun Y => PE Y elt te)
    (hs : ∀ x, foldedSetIterable iter X.env x = pure x) (hs1 : ∀ env x, foldedSetIterable iter1 env x = pure x) (h : tSet2 nw ad wi g tt wi1 g1 tt1 te (own.map (·.2)) vs1 σ H Q)
    (fin : ∀ D C s' m H', Inv X pins σ H' s' → Q (.ref D) H' → s'.heap.Ns C m → FpOk X pins H' C → compPost (model X.prog X.w) X.A X.xe use Qf (.ref D) C (.ok .next) s') :
    wpAny (model X.prog X.w) X.A (comprehension (.SetComp elt [⟨tg, iter, ifs, 0⟩, ⟨tg1, iter1, ifs1, 0⟩] scope pos) scope X.env pos' (newSet (.type "set")) false (eval iter X.env) use) Qf X.xe s := by
  refine set_in fl hN I hi ok hs h fun J H2 H3 s3 s4 D it fp tn cl q none2 e3 F T st4 => ?_
  obtain ⟨W, ⟨m0, w0⟩, turn⟩ := q D none2
  rw [← e3] at w0
  have pg := hg s3 H3 s3.heap.objs.size cl fp
  have pt := ht s3 H3 s3.heap.objs.size cl fp
  have pe := he s3 H3 s3.heap.objs.size cl fp
  have pi1 := hi1 s3 H3 s3.heap.objs.size cl fp
  have pg1 := hg1 s3 H3 s3.heap.objs.size cl fp
  have pt1 := ht1 s3 H3 s3.heap.objs.size cl fp
  generalize compEnvC scope cl s3.heap.objs.size X.env = ce at F pg pt pe pi1 pg1 pt1 ⊢
  refine loop_first (hs1 ce) (fun n s' => ∃ i H', Inv (X.blk s3 H3 scope ce fp) [] (wipe σ (own.map (·.2))) H' s' ∧ tn i s'.heap ∧ (∀ b ∈ fp, H' b = none) ∧ W i n H') ?_ m0 ⟨0, H3, F.blk, st4, fun b hb => (F.fps b hb).1.1, w0⟩
  rintro n s5 ⟨i, H5, I5, st5, n5, w5⟩
  rcases turn i n H5 w5 with ⟨stop, qq⟩ | ⟨go, Z, hZ, step⟩
  · refine thnF (T.done (X.blk s3 H3 scope ce fp) rfl rfl rfl hc i [] s5 _ H5 (fun _ _ => False) I5 (F.stat I5 n5) st5 stop) fun r s6 ⟨hr, I6⟩ => ?_
    subst hr
    exact F.leave (Q := fun _ => True) I6 fun m I7 hn hf => fin D _ s6 m H5 I7 qq hn hf
  · refine thnF (T.item (X.blk s3 H3 scope ce fp) rfl rfl rfl hc i [] s5 _ H5 (fun _ _ => False) I5 (F.stat I5 n5) st5 go) fun r s6 ⟨u, hr, h6⟩ => ?_
    subst hr
    refine thnF h6 fun _ s7 ⟨x, H7, I7, r7, y7, st7, n7⟩ => ?_
    refine thnF (pg.run _ s7 _ H7 x u _ (I7.pinned (F.stat I7 n7) (T.obj _ _ st7)) r7 (step x H7 y7)) fun _ s8 ⟨σ8, H8, I8, hw8, q8⟩ => ?_
    refine thnF (pt.run _ s8 σ8 H8 _ I8 q8) fun b s9 ⟨H9, I9, q9⟩ => ?_
    have back : ∀ {σ9 : L2.St} {s' : Shared} {H' : Hp}, Inv (X.blk s3 H3 scope ce fp) ([] ++ pinsAt fp s7.heap) σ9 H' s' → (wipe σ (own.map (·.2))).length = σ9.length → (∀ (j : Nat) v, (wipe σ (own.map (·.2)))[j]? = some (some v) → σ9[j]? = some (some v)) → Z H' →
        ∃ m, m < n ∧ ∃ i H', Inv (X.blk s3 H3 scope ce fp) [] (wipe σ (own.map (·.2))) H' s' ∧ tn i s'.heap ∧ (∀ b ∈ fp, H' b = none) ∧ W i m H' := fun {σ9 s' H'} I' hl hk z => by
      obtain ⟨m', hm, w'⟩ := hZ H' z
      obtain ⟨a1, a2, a3⟩ := turn_end (Y := X.blk s3 H3 scope ce fp) T st7 I' hl hk
      exact ⟨m', hm, i + 1, H', a1, a2, a3, w'⟩
    have len8 : (wipe σ (own.map (·.2))).length = σ8.length := by rw [← hw8, wipe_length]
    have kept8 : ∀ (j : Nat) v, (wipe σ (own.map (·.2)))[j]? = some (some v) → σ8[j]? = some (some v) ∧ j ∉ vs1 := fun j v e => by
      rw [← hw8] at e
      obtain ⟨e1, e2⟩ := wipe_some e
      exact ⟨e1, fun z => e2 (hv j z)⟩
    cases b with
    | false =>
      simp only [Bool.false_eq_true, if_false] at q9 ⊢
      exact back I9 len8 (fun j v e => (kept8 j v e).1) q9
    | true =>
      simp only [if_true] at q9 ⊢
      refine thnF (pi1.run _ s9 σ8 H9 _ I9 q9) fun xv s10 hx => thnF hx fun itv s11 h11 => ?_
      obtain ⟨it1, fp1, tn1, J1, H11, rfl, I11, T1, st11, f11, W1, ⟨m1, w1⟩, turn1⟩ := h11
      have inner : codeAny (model X.prog X.w) X.A (.compLoop (.SetComp elt [⟨tg, iter, ifs, 0⟩, ⟨tg1, iter1, ifs1, 0⟩] scope pos) 1 (.ref it1) (.ref D) ce)
          (fun r s' => match r with
            | .ok _ => ∃ m, m < n ∧ ∃ i H', Inv (X.blk s3 H3 scope ce fp) [] (wipe σ (own.map (·.2))) H' s' ∧ tn i s'.heap ∧ (∀ b ∈ fp, H' b = none) ∧ W i m H'
            | .error _ => False) s11 := by
        have stat1 : ∀ {H' : Hp}, (∀ b ∈ fp1, H' b = none) → ∀ b ∈ fp1, FpOk (X.blk s3 H3 scope ce fp) ([] ++ pinsAt fp s7.heap) H' b := fun hn b hb => ⟨hn b hb, (f11 b hb).2⟩
        refine loop_second (fun k s' => ∃ j H', Inv (X.blk s3 H3 scope ce fp) ([] ++ pinsAt fp s7.heap) (wipe σ8 vs1) H' s' ∧ tn1 j s'.heap ∧ (∀ b ∈ fp1, H' b = none) ∧ W1 j k H') ?_ m1 ⟨0, H11, I11.weak (wipe_length _ _) (fun j v e => (wipe_some e).1), st11, fun b hb => (f11 b hb).1, w1⟩
        rintro k s12 ⟨j, H12, I12, st12, n12, w12⟩
        rcases turn1 j k H12 w12 with ⟨stop1, z1⟩ | ⟨go1, Z1, hZ1, step1⟩
        · refine thnF (T1.done (X.blk s3 H3 scope ce fp) rfl rfl rfl hc j _ s12 (wipe σ8 vs1) H12 (fun _ _ => False) I12 (stat1 n12) st12 stop1) fun r s13 ⟨hr, I13⟩ => ?_
          subst hr
          exact back I13 (len8.trans (wipe_length σ8 vs1).symm) (fun j v e => by rw [wipe_out (kept8 j v e).2]; exact (kept8 j v e).1) z1
        · refine thnF (T1.item (X.blk s3 H3 scope ce fp) rfl rfl rfl hc j _ s12 (wipe σ8 vs1) H12 (fun _ _ => False) I12 (stat1 n12) st12 go1) fun r s13 ⟨u1, hr, h13⟩ => ?_
          subst hr
          refine thnF h13 fun _ s14 ⟨x1, H14, I14, r14, y14, st14, n14⟩ => ?_
          refine thnF (pg1.run _ s14 (wipe σ8 vs1) H14 x1 u1 _ (I14.pinned (stat1 n14) (T1.obj _ _ st14)) r14 (step1 x1 H14 y14)) fun _ s15 ⟨σ15, H15, I15, hw15, q15⟩ => ?_
          refine thnF (pt1.run _ s15 σ15 H15 _ I15 q15) fun b1 s16 ⟨H16, I16, q16⟩ => ?_
          have back1 : ∀ {s' : Shared} {H' : Hp}, Inv (X.blk s3 H3 scope ce fp) (([] ++ pinsAt fp s7.heap) ++ pinsAt fp1 s14.heap) σ15 H' s' → Z1 H' → ∃ m, m < k ∧ ∃ j H', Inv (X.blk s3 H3 scope ce fp) ([] ++ pinsAt fp s7.heap) (wipe σ8 vs1) H' s' ∧ tn1 j s'.heap ∧ (∀ b ∈ fp1, H' b = none) ∧ W1 j m H' := fun {s' H'} I' z => by
            obtain ⟨m', hm, w'⟩ := hZ1 H' z
            obtain ⟨a1, a2, a3⟩ := turn_end (Y := X.blk s3 H3 scope ce fp) (σ0 := wipe σ8 vs1) T1 st14 I' (by rw [← hw15, wipe_length]) fun j v e => by
              rw [← hw15] at e
              exact (wipe_some e).1
            exact ⟨m', hm, j + 1, H', a1, a2, a3, w'⟩
          cases b1 with
          | false =>
            simp only [Bool.false_eq_true, if_false] at q16 ⊢
            exact back1 I16 q16
          | true =>
            simp only [if_true] at q16 ⊢
            refine thnF (pe.run _ s16 σ15 H16 _ I16 q16) fun z s17 ⟨y, H17, I17, r17, o, o', ho, hy, nx⟩ => ?_
            exact fl.add (X.blk s3 H3 scope ce fp) rfl rfl _ _ _ _ _ _ _ _ _ _ _ I17 ho hy r17 fun s18 I18 => back1 I18 nx
      exact start_second inner (T1.self X.A 0 _ _ _ st11 inner)
/-- as a value, one clause -/
theorem pe_set {elt tg iter : Expr} {ifs : List Expr} {scope : Scope} {own : List (PySem.Str × Nat)} {pos : Pos} {wi : TI} {g : TG} {tt : TT} {te : TE} (fl : Fill X.prog X.w nw ad) (hc : X.calm = true) (hN : X.N.Nodup) (hi : PI X tg iter wi) (ok : BlkOk X.N X.env.scope scope own)
    (hg : InBlk X scope fun Y => PG Y tg g) (ht : InBlk X scope fun Y => PTs Y ifs tt) (he : InBlk X scope fun Y => PE Y elt te) (hs : ∀ x, foldedSetIterable iter X.env x = pure x := by intro _; rfl) : PE X (.SetComp elt [⟨tg, iter, ifs, 0⟩] scope pos) (tSet nw ad wi g tt te (own.map (·.2))) := by
  refine ⟨fun pins s σ H Q I h => ?_⟩
  rw [PpSet.eval_SetComp]
  refine set_one fl hc hN I hi ok hg ht he hs h fun D C s' m H' I' q hn ⟨f0, f1, f2, f3, f4, f5⟩ => ⟨m, hn, fun h'' sb => ?_⟩
  exact ⟨.ref D, H', I'.turned (t' := s'.toks) (fun b o hb e => (sb.2 b hb).trans e) f0 f1 f3 f4 f5, rfl, q⟩
/-- as a value, two clauses -/
theorem pe_set2 {elt tg iter tg1 iter1 : Expr} {ifs ifs1 : List Expr} {scope : Scope} {own : List (PySem.Str × Nat)} {vs1 : List Nat} {pos : Pos} {wi wi1 : TI} {g g1 : TG} {tt tt1 : TT} {te : TE} (fl : Fill X.prog X.w nw ad) (hc : X.calm = true) (hN : X.N.Nodup) (hi : PI X tg iter wi) (ok : BlkOk X.N X.env.scope scope own) (hv : ∀ i ∈ vs1, i ∈ own.map (·.2))
    (hg : InBlk X scope fun Y => PG Y tg g) (ht : InBlk X scope fun Y => PTs Y ifs tt) (hi1 : InBlk X scope fun Y => PI Y tg1 iter1 wi1) (hg1 : InBlk X scope fun Y => PG Y tg1 g1) (ht1 : InBlk X scope fun Y => PTs Y ifs1 tt1) (he : InBlk X scope fun Y => PE Y elt te)
    (hs : ∀ x, foldedSetIterable iter X.env x = pure x := by intro _; rfl) (hs1 : ∀ env x, foldedSetIterable iter1 env x = pure x := by intro _ _; rfl) : PE X (.SetComp elt [⟨tg, iter, ifs, 0⟩, ⟨tg1, iter1, ifs1, 0⟩] scope pos) (tSet2 nw ad wi g tt wi1 g1 tt1 te (own.map (·.2)) vs1) := by
  refine ⟨fun pins s σ H Q I h => ?_⟩
  rw [PpSet.eval_SetComp]
  refine set_two fl hc hN I hi ok hv hg ht hi1 hg1 ht1 he hs hs1 h fun D C s' m H' I' q hn ⟨f0, f1, f2, f3, f4, f5⟩ => ⟨m, hn, fun h'' sb => ?_⟩
  exact ⟨.ref D, H', I'.turned (t' := s'.toks) (fun b o hb e => (sb.2 b hb).trans e) f0 f1 f3 f4 f5, rfl, q⟩
end
end Ws
set_option Elab.async false
set_option linter.all false
set_option maxRecDepth 100000
set_option maxHeartbeats 4000000
/-! set comprehensions of texts and of numbers; sorted of them; len of a set of texts; set(tuple of texts) -/
namespace Ws
open PySem PySem.Spec PyProof.Rows L2 Evl Wc Wt Wg Wd
/-- one text more, if it is not there yet -/
def addX (l : List Tx) (x : Tx) : List Tx := if x ∈ l then l else x :: l
def setX (l : List Tx) : List Tx := l.foldl addX []
theorem mem_addX {l : List Tx} {x y : Tx} : y ∈ addX l x ↔ y ∈ l ∨ y = x := by
  unfold addX
  split
  · rename_i h
    exact ⟨.inl, fun z => z.elim id fun e => e ▸ h⟩
  · rw [List.mem_cons]
    exact Or.comm
theorem addX_nodup {l : List Tx} {x : Tx} (h : l.Nodup) : (addX l x).Nodup := by
  unfold addX
  split
  · exact h
  · rename_i hx
    exact List.nodup_cons.mpr ⟨hx, h⟩
theorem addX_len (l : List Tx) (x : Tx) : (addX l x).length ≤ l.length + 1 := by
  unfold addX
  split
  · omega
  · simp
theorem fold_addX : ∀ (xs l : List Tx), (∀ y, y ∈ xs.foldl addX l ↔ y ∈ l ∨ y ∈ xs) ∧ (l.Nodup → (xs.foldl addX l).Nodup) ∧ (xs.foldl addX l).length ≤ l.length + xs.length
  | [], l => ⟨fun y => ⟨.inl, fun z => z.elim id fun h => nomatch h⟩, id, Nat.le_refl _⟩
  | x :: xs, l => by
    obtain ⟨h1, h2, h3⟩ := fold_addX xs (addX l x)
    refine ⟨fun y => ?_, fun h => h2 (addX_nodup h), ?_⟩
    · show y ∈ xs.foldl addX (addX l x) ↔ _
      rw [h1, mem_addX, List.mem_cons, or_assoc]
    · have := addX_len l x
      show (xs.foldl addX (addX l x)).length ≤ _
      rw [List.length_cons]
      omega
theorem mem_setX {l : List Tx} {y : Tx} : y ∈ setX l ↔ y ∈ l := ((fold_addX l []).1 y).trans ⟨fun z => z.elim (fun h => nomatch h) id, .inr⟩
theorem setX_nodup (l : List Tx) : (setX l).Nodup := (fold_addX l []).2.1 List.nodup_nil
theorem setX_len (l : List Tx) : (setX l).length ≤ l.length := by
  have := (fold_addX l []).2.2
  rwa [List.length_nil, Nat.zero_add] at this
theorem setX_snoc (l : List Tx) (x : Tx) : setX (l ++ [x]) = addX (setX l) x := List.foldl_append
/-- the texts without repetition, ascending -/
def setS (l : List Tx) : List Tx := sortT (setX l)
theorem mem_setS {l : List Tx} {y : Tx} : y ∈ setS l ↔ y ∈ l := sortT_mem.trans mem_setX
theorem setS_nodup (l : List Tx) : (setS l).Nodup := (sortT_perm _).nodup_iff.mpr (setX_nodup l)
theorem setS_len (l : List Tx) : (setS l).length ≤ l.length := by
  unfold setS
  rw [sortT_len]
  exact setX_len l
theorem sortT_of_perm {a b : List Tx} (h : a.Perm b) : sortT a = sortT b := (((sortT_perm a).trans h).trans (sortT_perm b).symm).eq_of_pairwise (fun x y _ _ h1 h2 => List.le_antisymm h1 h2) (sortT_pw a) (sortT_pw b)
theorem sortT_same {a b : List Tx} (ha : a.Nodup) (hb : b.Nodup) (h : ∀ x, x ∈ a ↔ x ∈ b) : sortT a = sortT b := sortT_of_perm ((List.perm_ext_iff_of_nodup ha hb).mpr h)
theorem setS_uniq {l ys : List Tx} (u : Uniq l ys) : sortT ys = setS l := sortT_same u.nd (setX_nodup l) fun x => (u.mem x).trans mem_setX.symm
theorem setS_same {a b : List Tx} (h : ∀ x, x ∈ a ↔ x ∈ b) : setS a = setS b := sortT_same (setX_nodup a) (setX_nodup b) fun x => mem_setX.trans ((h x).trans mem_setX.symm)
theorem setX_map_add (l : List Tx) (x : Tx) : (if SX.S x ∈ l.map SX.S then l.map SX.S else SX.S x :: l.map SX.S) = (addX l x).map SX.S := by
  have e : SX.S x ∈ l.map SX.S ↔ x ∈ l := by
    rw [List.mem_map]
    exact ⟨fun ⟨y, hy, q⟩ => S_inj q ▸ hy, fun h => ⟨x, h, rfl⟩⟩
  unfold addX
  by_cases h : x ∈ l
  · rw [if_pos (e.mpr h), if_pos h]
  · rw [if_neg fun z => h (e.mp z), if_neg h]
    rfl
section
variable {P : Program} {w : World} {A : Around} {E : Value → Shared → Prop} {s : Shared} {a : Addr} {l : List Str}
theorem SetX.typeIs (R : SetX P w s.heap a l) : s.TypeIs (.ref a) "set" := by
  obtain ⟨o, _, _, _, ho, hx, _⟩ := R
  exact ⟨o, ho, hx.1⟩
/-- a.add(k) -/
theorem addText {k : Str} {u : Tok} {Q : Value → Shared → Prop} (R : SetX P w s.heap a l) (room : l.length + 1 < scanBound)
    (hQ : ∀ h', Heap.SameBut a s.heap h' → SetX P w h' a (if k ∈ l then l else k :: l) → Q .none { s with heap := h', toks := s.toks + 1 }) : wpAny (model P w) A (call (.builtin "set.add") [.ref a, .str k u]) Q E s := by
  refine wpAny_call_entry F.slot_set_add (SetX.typeIs R) F.entry_set_add ?_ (F.args_set_add_2 _ _)
  unfold Builtin.«set.add» Builtin.Frozenset.oneOther
  simp only [List.isEmpty_nil, bind_assoc]
  unfold Builtin.Frozenset.addrOf setAdd
  refine wpAny_bind (wpAny_pure ?_)
  try dsimp only
  refine wpAny_bind (wpAny_pure ?_)
  try dsimp only
  refine wpAny_bind (wpAny_holding (wpAny_bind ((PySem.strKind P w).pyHash (k := k) (PySem.strKind_is _ _ _ _) ?_)))
  refine add_text (s := { s with toks := s.toks + 1 }) R room fun h' b sb r => ?_
  show wpAny _ _ (ret Value.none) _ _ _
  exact wpAny_pure ⟨_, rfl, hQ h' sb r⟩
end
def nwX (P : Program) (w : World) (D : Addr) : HO := SetXO P w D []
def adX (P : Program) (w : World) (D : Addr) (o : HO) (y : V) (o' : HO) : Prop := ∃ (l : List Tx) (x : Tx), o = SetXO P w D (l.map SX.S) ∧ y = T x ∧ l.length + 1 < scanBound ∧ o' = SetXO P w D ((addX l x).map SX.S)
theorem fillX (P : Program) (w : World) : Fill P w (nwX P w) (adX P w) := by
  refine ⟨fun H h => setXO_new (SetX.new (Heap.get?_push_size _ rfl)), ?_⟩
  rintro X rfl rfl pins σ H s E D o o' y v Q I hD ⟨l, x, rfl, rfl, room, rfl⟩ r k
  obtain ⟨t, rfl⟩ := r
  refine addText (I.hok D _ hD).1 (by rw [List.length_map]; exact room) fun h' sb R => ?_
  rw [setX_map_add] at R
  have he : ∃ u, h'.get? D = some u := by
    have ⟨o, _, _, _, ho, _⟩ := R
    exact ⟨o, ho⟩
  exact k _ (I.write (e := D) (t' := s.toks + 1) (by rw [hD]; trivial) (.inl rfl) (fun b u hb hu => (sb.2 b hb).trans hu) he (setXO_new R))
def nwN (w : World) (D : Addr) : HO := SetO w D (fun _ => false) 0
def adN (w : World) (D : Addr) (o : HO) (y : V) (o' : HO) : Prop := ∃ (S : Int → Bool) (n : Nat) (k : Int), o = SetO w D S n ∧ y = .int k ∧ n + 1 < scanBound ∧ o' = SetO w D (fun j => S j || decide (j = k)) (if S k = true then n else n + 1)
theorem fillN (P : Program) (w : World) : Fill P w (nwN w) (adN w) := by
  refine ⟨fun H h => setO_new (setR_fresh w), ?_⟩
  rintro X rfl rfl pins σ H s E D o o' y v Q I hD ⟨S, n, k, rfl, rfl, room, rfl⟩ r kk
  obtain ⟨t, rfl⟩ := r
  refine setR_add (setO_get I hD) room fun h' sb R => ?_
  have he : ∃ u, h'.get? D = some u := by
    have ⟨o, _, _, _, ho, _⟩ := R
    exact ⟨o, ho⟩
  exact kk _ (I.write (e := D) (t' := s.toks + 1) (by rw [hD]; trivial) (.inl rfl) (fun b u hb hu => (sb.2 b hb).trans hu) he (setO_new R))
section
variable {K : PySem.W.Frag} {P : Program} {w : World} {σ : L2.St} {H : Hp} {te : TE} {tt : TT} {Q : VK}
/-- what a comprehension of texts leaves, one clause, no test -/
theorem el_setX {α : Type} {wi : TI} {j : Nat} {vs : List Nat} {own : Addr → Prop} {f : α → V} {g : α → Tx} (xs : List α) (hs : Src wi σ H xs.length own (fun i v _ => (xs.map f)[i]? = some v)) (hz : xs.length ≤ 4000) (hw : ∀ x, wipe ((wipe σ vs).set j (some x)) vs = wipe σ vs)
    (he : ∀ a H1, Ex H H1 → a ∈ xs → Ev te ((wipe σ vs).set j (some (f a))) H1 (T (g a)))
    (k : ∀ d H2, H d = none → Ex H H2 → H2 d = some (SetXO P w d ((setX (xs.map g)).map SX.S)) → Q (.ref d) H2) : tSet (nwX P w) (adX P w) wi (gName j) tYes te vs σ H Q :=
  hs H (Ex.refl H) _ fun J H1 S e1 wk hS => fun D hD => by
    refine ⟨fun i m Hi => m = xs.length - i ∧ i ≤ xs.length ∧ Ex H1 Hi ∧ Hi D = some (SetXO P w D ((setX ((xs.take i).map g)).map SX.S)), ⟨xs.length, by simp, Nat.zero_le _, Ex.new hD, upd_same⟩, ?_⟩
    rintro i m Hi ⟨rfl, hi, hE, hL⟩
    have hG : S Hi := hS (fun _ => False) Hi (fun b z => z.elim) (.of hE)
    by_cases hlt : i < xs.length
    · refine .inr ⟨wk.goes i Hi hlt hG, fun H' => Ex H1 H' ∧ H' D = some (SetXO P w D ((setX ((xs.take (i + 1)).map g)).map SX.S)), fun H' p' => ⟨xs.length - (i + 1), by omega, rfl, hlt, p'.1, p'.2⟩, fun x H' y => ?_⟩
      obtain ⟨ey, hP⟩ := wk.yields i Hi x H' hlt hG y
      obtain ⟨a, ha, rfl⟩ := at_map hP
      refine ⟨hw _, ?_⟩
      unfold tYes
      dsimp only
      rw [if_pos rfl]
      refine he a H' ((e1.trans hE).trans ey) (List.mem_of_getElem? ha) H' (Ex.refl _) _ fun H4 e4 => ?_
      refine ⟨_, _, e4 _ _ (ey _ _ hL), ⟨_, _, rfl, rfl, ?_, rfl⟩, Ex.mut (hE.trans (ey.trans e4)) hD, ?_⟩
      · have := setX_len ((xs.take i).map g)
        rw [List.length_map, List.length_take] at this
        unfold scanBound
        omega
      · rw [upd_same, List.take_add_one, ha, List.map_append]
        show some (SetXO P w D ((addX (setX ((xs.take i).map g)) (g a)).map SX.S)) = some (SetXO P w D ((setX ((xs.take i).map g ++ [g a])).map SX.S))
        rw [setX_snoc]
    · have e : i = xs.length := by omega
      subst e
      rw [List.take_length] at hL
      exact .inl ⟨wk.stops Hi hG, k D Hi (fresh_back e1 hD) (e1.trans hE) hL⟩
/-- what a comprehension of numbers leaves, one clause, no test -/
theorem el_setN {α : Type} {wi : TI} {j : Nat} {vs : List Nat} {own : Addr → Prop} {f : α → V} {g : α → Int} (xs : List α) (hs : Src wi σ H xs.length own (fun i v _ => (xs.map f)[i]? = some v)) (hz : xs.length ≤ 4000) (hw : ∀ x, wipe ((wipe σ vs).set j (some x)) vs = wipe σ vs)
    (he : ∀ a H1, Ex H H1 → a ∈ xs → Ev te ((wipe σ vs).set j (some (f a))) H1 (.int (g a)))
    (k : ∀ d H2 S c, H d = none → Ex H H2 → (∀ z, S z = true ↔ z ∈ xs.map g) → c ≤ xs.length → H2 d = some (SetO w d S c) → Q (.ref d) H2) : tSet (nwN w) (adN w) wi (gName j) tYes te vs σ H Q :=
  hs H (Ex.refl H) _ fun J H1 S e1 wk hS => fun D hD => by
    refine ⟨fun i m Hi => m = xs.length - i ∧ i ≤ xs.length ∧ Ex H1 Hi ∧ ∃ B c, Hi D = some (SetO w D B c) ∧ c ≤ i ∧ ∀ z, B z = true ↔ z ∈ (xs.take i).map g, ⟨xs.length, by simp, Nat.zero_le _, Ex.new hD, _, _, upd_same, Nat.le_refl _, fun z => by simp⟩, ?_⟩
    rintro i m Hi ⟨rfl, hi, hE, B, c, hL, hc, hB⟩
    have hG : S Hi := hS (fun _ => False) Hi (fun b z => z.elim) (.of hE)
    by_cases hlt : i < xs.length
    · refine .inr ⟨wk.goes i Hi hlt hG, fun H' => Ex H1 H' ∧ ∃ B c, H' D = some (SetO w D B c) ∧ c ≤ i + 1 ∧ ∀ z, B z = true ↔ z ∈ (xs.take (i + 1)).map g, fun H' p' => ⟨xs.length - (i + 1), by omega, rfl, hlt, p'.1, p'.2⟩, fun x H' y => ?_⟩
      obtain ⟨ey, hP⟩ := wk.yields i Hi x H' hlt hG y
      obtain ⟨a, ha, rfl⟩ := at_map hP
      refine ⟨hw _, ?_⟩
      unfold tYes
      dsimp only
      rw [if_pos rfl]
      refine he a H' ((e1.trans hE).trans ey) (List.mem_of_getElem? ha) H' (Ex.refl _) _ fun H4 e4 => ?_
      refine ⟨_, _, e4 _ _ (ey _ _ hL), ⟨B, c, g a, rfl, rfl, by unfold scanBound; omega, rfl⟩, Ex.mut (hE.trans (ey.trans e4)) hD, _, _, upd_same, by split <;> omega, fun z => ?_⟩
      rw [List.take_add_one, ha, List.map_append, List.mem_append, Bool.or_eq_true, decide_eq_true_eq, hB]
      simp
    · have e : i = xs.length := by omega
      subst e
      rw [List.take_length] at hB
      exact .inl ⟨wk.stops Hi hG, k D Hi B c (fresh_back e1 hD) (e1.trans hE) hB hc hL⟩
/-- what a comprehension of texts leaves, two clauses, the second with a test -/
theorem el_setX2 {α β : Type} {wi wi1 : TI} {j j1 : Nat} {vs vs1 : List Nat} {own : Addr → Prop} {own1 : α → Addr → Prop} {f : α → V} {h : β → V} {p : α → β → Bool} {g : α → β → Tx} (xs : List α) (ys : α → List β) (hs : Src wi σ H xs.length own (fun i v _ => (xs.map f)[i]? = some v))
    (hs1 : ∀ a H1, Ex H H1 → a ∈ xs → Src wi1 ((wipe σ vs).set j (some (f a))) H1 (ys a).length (own1 a) (fun i v _ => ((ys a).map h)[i]? = some v))
    (ho : ∀ a c, own1 a c → H c ≠ none) (hz : (xs.map fun a => (ys a).length).sum ≤ 4000) (hw : ∀ x, wipe ((wipe σ vs).set j (some x)) vs = wipe σ vs) (hw1 : ∀ x y, wipe ((wipe ((wipe σ vs).set j (some x)) vs1).set j1 (some y)) vs1 = wipe ((wipe σ vs).set j (some x)) vs1)
    (ht : ∀ a b H1, Ex H H1 → a ∈ xs → b ∈ ys a → EvT tt ((wipe ((wipe σ vs).set j (some (f a))) vs1).set j1 (some (h b))) H1 (p a b))
    (he : ∀ a b H1, Ex H H1 → a ∈ xs → b ∈ ys a → p a b = true → Ev te ((wipe ((wipe σ vs).set j (some (f a))) vs1).set j1 (some (h b))) H1 (T (g a b)))
    (k : ∀ d H2, H d = none → Ex H H2 → H2 d = some (SetXO P w d ((setX (xs.flatMap fun a => ((ys a).filter (p a)).map (g a))).map SX.S)) → Q (.ref d) H2) :
    tSet2 (nwX P w) (adX P w) wi (gName j) tYes wi1 (gName j1) tt te vs vs1 σ H Q := hs H (Ex.refl H) _ fun J H1 S e1 wk hS => fun D hD => by
  let row := fun a => ((ys a).filter (p a)).map (g a)
  have hrow : ∀ i, ((xs.take i).flatMap row).length ≤ 4000 := fun i => by
    refine Nat.le_trans ?_ hz
    refine Nat.le_trans ?_ (sum_part (fun a => (ys a).length) xs i)
    rw [List.length_flatMap]
    induction xs.take i with
    | nil => exact Nat.le_refl _
    | cons a l ih =>
      rw [List.map_cons, List.map_cons, List.sum_cons, List.sum_cons]
      have h1 : (row a).length ≤ (ys a).length := by
        show (((ys a).filter (p a)).map (g a)).length ≤ _
        rw [List.length_map]
        exact List.length_filter_le _ _
      omega
  refine ⟨fun i m Hi => m = xs.length - i ∧ i ≤ xs.length ∧ Ex H1 Hi ∧ Hi D = some (SetXO P w D ((setX ((xs.take i).flatMap row)).map SX.S)), ⟨xs.length, by simp, Nat.zero_le _, Ex.new hD, upd_same⟩, ?_⟩
  rintro i m Hi ⟨rfl, hi, hE, hL⟩
  have hG : S Hi := hS (fun _ => False) Hi (fun b z => z.elim) (.of hE)
  by_cases hlt : i < xs.length
  · refine .inr ⟨wk.goes i Hi hlt hG, fun H' => Ex H1 H' ∧ H' D = some (SetXO P w D ((setX ((xs.take (i + 1)).flatMap row)).map SX.S)), fun H' p' => ⟨xs.length - (i + 1), by omega, rfl, hlt, p'.1, p'.2⟩, fun x H' y => ?_⟩
    obtain ⟨ey, hP⟩ := wk.yields i Hi x H' hlt hG y
    obtain ⟨a, ha, rfl⟩ := at_map hP
    have ham := List.mem_of_getElem? ha
    have hEy := hE.trans ey
    have htk : (xs.take (i + 1)).flatMap row = (xs.take i).flatMap row ++ row a := by
      rw [List.take_add_one, ha, List.flatMap_append]
      simp
    have hbig := hrow (i + 1)
    rw [htk] at hbig
    refine ⟨hw _, ?_⟩
    unfold tYes
    dsimp only
    rw [if_pos rfl]
    refine hs1 a H' ((e1.trans hE).trans ey) ham H' (Ex.refl _) _ fun J1 H4 S1 e4 w1 hS1 => ?_
    refine ⟨fun t m Ht => m = (ys a).length - t ∧ t ≤ (ys a).length ∧ Ex H1 Ht ∧ Exc (fun c => c = D) H4 Ht ∧ Ht D = some (SetXO P w D ((setX ((xs.take i).flatMap row ++ (((ys a).take t).filter (p a)).map (g a))).map SX.S)), ⟨(ys a).length, by simp, Nat.zero_le _, hEy.trans e4, Exc.refl _, by
      rw [e4 _ _ (ey _ _ hL), List.take_zero, List.filter_nil, List.map_nil, List.append_nil]⟩, ?_⟩
    rintro t m Ht ⟨rfl, htl, p1, p2, p3⟩
    have hG1 : S1 Ht := by
      refine hS1 (fun c => c = D) Ht (fun b z => ?_) p2
      subst z
      exact ⟨(by rw [ey _ _ hL]; exact fun z => nomatch z), fun z => ho a b z (fresh_back e1 hD)⟩
    by_cases hlt1 : t < (ys a).length
    · refine .inr ⟨w1.goes t Ht hlt1 hG1, fun Hn => Ex H1 Hn ∧ Exc (fun c => c = D) H4 Hn ∧ Hn D = some (SetXO P w D ((setX ((xs.take i).flatMap row ++ (((ys a).take (t + 1)).filter (p a)).map (g a))).map SX.S)), fun Hn q => ⟨(ys a).length - (t + 1), by omega, rfl, hlt1, q⟩, fun y Hu yy => ?_⟩
      obtain ⟨eu, hy⟩ := w1.yields t Ht y Hu hlt1 hG1 yy
      obtain ⟨b, hb, rfl⟩ := at_map hy
      have hbm := List.mem_of_getElem? hb
      have eH : Ex H Hu := e1.trans (p1.trans eu)
      refine ⟨hw1 _ _, ?_⟩
      refine ht a b Hu eH ham hbm Hu (Ex.refl _) _ fun H6 e6 => ?_
      by_cases hp : p a b = true
      · rw [if_pos hp]
        refine he a b H6 (eH.trans e6) ham hbm hp H6 (Ex.refl _) _ fun H7 e7 => ?_
        have e47 := eu.trans (e6.trans e7)
        refine ⟨_, _, e47 _ _ p3, ⟨_, _, rfl, rfl, ?_, rfl⟩, Ex.mut (p1.trans e47) hD, (p2.then e47).upd (.inl rfl), ?_⟩
        · refine Nat.lt_of_le_of_lt (Nat.succ_le_succ (Nat.le_trans (setX_len _) (Nat.le_trans ?_ hbig))) (by decide)
          rw [List.length_append, List.length_append, List.length_map]
          show _ ≤ _ + (((ys a).filter (p a)).map (g a)).length
          rw [List.length_map]
          exact Nat.add_le_add_left ((List.Sublist.filter _ (List.take_sublist _ _)).length_le) _
        · rw [upd_same, List.take_add_one, hb, List.filter_append, List.map_append, ← List.append_assoc]
          show some (SetXO P w D _) = some (SetXO P w D ((setX (_ ++ ((([b] : List β)).filter (p a)).map (g a))).map SX.S))
          rw [List.filter_cons_of_pos hp, List.filter_nil, List.map_cons, List.map_nil, setX_snoc]
      · rw [if_neg hp]
        have e46 := eu.trans e6
        refine ⟨p1.trans e46, p2.then e46, ?_⟩
        rw [e46 _ _ p3, List.take_add_one, hb, List.filter_append]
        show _ = some (SetXO P w D ((setX (_ ++ (_ ++ ([b] : List β).filter (p a)).map (g a))).map SX.S))
        rw [List.filter_cons_of_neg hp, List.filter_nil, List.append_nil]
    · have e : t = (ys a).length := by omega
      subst e
      rw [List.take_length] at p3
      exact .inl ⟨w1.stops Ht hG1, p1, by rw [p3, htk]⟩
  · have e : i = xs.length := by omega
    subst e
    rw [List.take_length] at hL
    exact .inl ⟨wk.stops Hi hG, k D Hi (fresh_back e1 hD) (e1.trans hE) hL⟩
/-- sorted(..) of a new set of texts -/
theorem el_sortX {ts : TE} {l : List Tx} (h : ∀ Q : VK, (∀ d H2, H d = none → Ex H H2 → H2 d = some (SetXO P w d ((setX l).map SX.S)) → Q (.ref d) H2) → ts σ H Q) (Q : VK) (k : ∀ q H2, H q = none → Ex H H2 → H2 q = some (.lst ((setS l).map T)) → Q (.ref q) H2) : tCB (rSortX K P w) (tCons ts tNil) σ H Q :=
  h _ fun d H2 hd e2 h2 => .inr ⟨d, _, rfl, h2, fun zs q pz hq => k q _ (fresh_back e2 hq) (e2.trans (Ex.new hq)) (by rw [upd_same, sortT_of_perm pz]; rfl)⟩
end
end Ws
set_option Elab.async false
set_option linter.all false
set_option maxRecDepth 100000
set_option maxHeartbeats 2000000
/-! zip(a, t) of a text and a tuple -/
namespace Ws
open PySem PySem.Spec PyProof.Rows L2 Evl Wc Wt Wg Wd
def ItzM (K : PySem.W.Frag) (a : Tx) (b : Addr) : It :=
  ⟨fun i H => i < a.length ∧ ∃ ys, SqT K H b ys ∧ i < ys.length, fun i H v H' => ∃ t c y, v = .ref t ∧ H t = none ∧ H' = upd H t (.tup [T [c], y]) ∧ a[i]? = some c ∧ ∀ ys, SqT K H b ys → ys[i]? = some y,
    fun i H => ∃ ys, SqT K H b ys ∧ i = min a.length ys.length⟩
theorem turn_zipM {P : Program} {w : World} {K : PySem.W.Frag} {elts : List Expr} {kk : Nat} {tpos : Pos} {a : Tx} {b : Addr} {ta : Tok} {z TI TO i1 i2 : Addr} (D : ZipSep2 z TI TO i1 i2 [i1] [i2, b]) (hne : b ≠ i2) :
    Turn P w K (.Tuple elts kk tpos) (ItzM K a b) [z, TI, TO, i1, i2] z (fun i h => IsZip h z TI TO .none ∧ IsTupOf2 h TI (.ref i1) (.ref i2) ∧ (∃ x y, IsTupOf2 h TO x y) ∧ h.IsStrIter i1 (strIterType (SX.S a)) (SX.S a) ta i ∧ h.IsTupleIter i2 b i) where
  mem := by simp
  obj := fun i h st c hc => by
    obtain ⟨hz, hTI, ⟨x, y, hTO⟩, ⟨o1, e1, _, d1⟩, ⟨o2, e2, _, d2⟩⟩ := st
    have e' : c = z ∨ c = TI ∨ c = TO ∨ c = i1 ∨ c = i2 := by simpa using hc
    rcases e' with q | q | q | q | q
    · rw [q]; exact ⟨_, hz, fun v q => nomatch q⟩
    · rw [q]; exact ⟨_, hTI, fun v q => nomatch q⟩
    · rw [q]; exact ⟨_, hTO, fun v q => nomatch q⟩
    · rw [q]; exact ⟨o1, e1, fun v q => by rw [d1] at q; cases q⟩
    · rw [q]; exact ⟨o2, e2, fun v q => by rw [d2] at q; cases q⟩
  keep := fun i h h' st k => by
    obtain ⟨hz, hTI, ⟨x, y, hTO⟩, ⟨o1, e1, f1⟩, h2⟩ := st
    exact ⟨k z (by simp) _ hz, k TI (by simp) _ hTI, ⟨x, y, k TO (by simp) _ hTO⟩, ⟨o1, k i1 (by simp) _ e1, f1⟩, h2.at fun o q => k i2 (by simp) o q⟩
  item := by
    intro X hP hw hK hc i pins s σ H E I hf st hg
    subst hP hw hK
    obtain ⟨hz, hTI, ⟨x0, y0, hTO⟩, h1, h2⟩ := st
    obtain ⟨hlt, ys, hqy, hly⟩ := hg
    obtain ⟨its, rv, p, _⟩ := I.tuple hqy
    have D1 := Draws.text (prog := X.prog) (w := X.w) (A := X.A.in1) (I.ok.hd hc) i1 (SX.S a) ta
    have D2 := Draws.tuple (prog := X.prog) (w := X.w) (A := X.A.in1) (I.ok.hd hc) i2 b hne its.toArray
    have s1 : (SX.S a).cps.size = a.length := by simp [SX.S]
    have s2 : its.toArray.size = ys.length := by simp [rv.length]
    have hzl : z < s.heap.objs.size := Heap.lt_size hz
    refine wpAny_pyNext_zipD2_item D D1 D2 hz hTI hTO h1 ⟨h2, p⟩ (by omega) (by omega) fun u u2 h' tk p1 p2 z' TO' h1' h2' hT hsz hk => ?_
    obtain ⟨c, hcx, ru⟩ := sgn p1
    obtain ⟨y, hy, ru2⟩ : ∃ y, ys[i]? = some y ∧ RelV y u2 := by
      obtain ⟨v, hv, rr⟩ := rv.get (List.getElem?_eq_getElem hly)
      have e : its.toArray[i]? = some v := by simpa using hv
      rw [p2] at e
      cases e
      exact ⟨_, List.getElem?_eq_getElem hly, rr⟩
    refine ⟨_, rfl, wpAny_letOwnedTupleGo_zip (s := { s with heap := h', toks := tk }) z' fun h'' z'' sb => ?_⟩
    have hT2 : h''.get? s.heap.objs.size = some { cls := .type "tuple", data := .seq #[u, u2] } := (sb.2 _ (Nat.ne_of_gt hzl)).trans hT
    have new : ObjOk X.prog X.w (upd H s.heap.objs.size (.tup [T [c], y])) h'' s.heap.objs.size (.tup [T [c], y]) :=
      ⟨by show 2 ≤ sizeLine; decide, [u, u2], .cons ru (.cons ru2 .nil), ⟨_, hT2, rfl, _, rfl⟩⟩
    have I1 : Inv X pins σ (upd H s.heap.objs.size (.tup [T [c], y])) { s with heap := h'', toks := tk } :=
      I.turnedNew (ch := [z, TI, TO, i1, i2]) (fun c o hb q => (sb.2 c (fun q' => hb (by simp [q']))).trans (hk c o (fun q' => hb (by simp [q'])) (fun q' => hb (by simp [q'])) (fun q' => hb (by simp [q'])) (fun q' => hb (by simp [q'])) q)) hf (Nat.le_refl _) new
    refine ⟨.ref s.heap.objs.size, _, I1, rfl, ⟨_, c, y, rfl, I.hok.fresh (Nat.le_refl _), rfl, hcx, fun l hl => by rw [I.tuple_inj hl hqy]; exact hy⟩, ⟨z'', ?_, ⟨u, u2, ?_⟩, ?_, ?_⟩, fun c hcm => ?_⟩
    · exact (sb.2 _ D.TIz).trans (hk _ _ D.TIz D.TITO D.TIi1 D.TIi2 hTI)
    · exact (sb.2 _ D.TOz).trans TO'
    · obtain ⟨o1, e1, f1⟩ := h1'
      exact ⟨o1, (sb.2 _ (Ne.symm D.zi1)).trans e1, f1⟩
    · exact h2'.1.at fun o q => (sb.2 _ (Ne.symm D.zi2)).trans q
    · have hlt : c < s.heap.objs.size := by
        have e' : c = z ∨ c = TI ∨ c = TO ∨ c = i1 ∨ c = i2 := by simpa using hcm
        rcases e' with q | q | q | q | q
        · rw [q]; exact hzl
        · rw [q]; exact Heap.lt_size hTI
        · rw [q]; exact Heap.lt_size hTO
        · rw [q]; obtain ⟨_, e1, _⟩ := h1; exact Heap.lt_size e1
        · rw [q]; obtain ⟨_, e2, _⟩ := h2; exact Heap.lt_size e2
      rw [upd_ne (Nat.ne_of_lt hlt)]
      exact (hf c hcm).1
  done := by
    intro X hP hw hK hc i pins s σ H E I hf st hg
    subst hP hw hK
    obtain ⟨hz, hTI, ⟨x0, y0, hTO⟩, h1, h2⟩ := st
    obtain ⟨ys, hqy, hend⟩ := hg
    obtain ⟨its, rv, p, _⟩ := I.tuple hqy
    have D1 := Draws.text (prog := X.prog) (w := X.w) (A := X.A.in1) (I.ok.hd hc) i1 (SX.S a) ta
    have D2 := Draws.tuple (prog := X.prog) (w := X.w) (A := X.A.in1) (I.ok.hd hc) i2 b hne its.toArray
    have s1 : (SX.S a).cps.size = a.length := by simp [SX.S]
    have s2 : its.toArray.size = ys.length := by simp [rv.length]
    exact wpAny_pyNext_zipD2_end D D1 D2 hz hTI hTO h1 ⟨h2, p⟩ (by omega) (by omega) (by omega) fun h' tk hk => ⟨rfl, I.turnedL (t' := tk) (ch := [z, TI, TO, i1, i2]) (fun c o hb q =>
      hk c o (fun q' => hb (by simp [q'])) (fun q' => hb (by simp [q'])) (fun q' => hb (by simp [q'])) (fun q' => hb (by simp [q'])) q) hf⟩
  self := fun A i s Q E st h => wpAny_pyIter_zip st.1 h
def iZipM (K : PySem.W.Frag) (ta : TA) : TI := fun σ H R => ta σ H fun vs H1 => ∃ (a : Tx) (b : Addr) (ys : List V), vs = [T a, .ref b] ∧ SqT K H1 b ys ∧ R (ItzM K a b) H1
theorem pi_zipM {X : Cx} {e e2 : Expr} {ta : TA} {p pos tpos : Pos} {elts : List Expr} {kk : Nat} (hg : Gl X "zip") (hm : X.mg "zip" = none) (ha : PA X [e, e2] ta)
    (hs : starEach [e, e2] X.env = (false, eval e X.env) :: starEach [e2] X.env := by rfl) (hpl : (backTo pos (starEach [e2] X.env)).any (·.1) = false := by rfl) :
    PI X (.Tuple elts kk tpos) (.Call (.Name "zip" p) [e, e2] [] pos) (iZipM X.K ta) := by
  refine ⟨fun pins s σ H R I h => ?_⟩
  refine Call_ (ld_blt I hg hm PyProof.Rows.boot_zip (PyProof.Rows.callWith_type1 (thn (ha.run pos pins s σ H _ I h) fun us s1 ⟨vs, H1, I1, r1, q1⟩ => ?_) hs hpl))
  obtain ⟨a, b, ys, ex, hqy, q⟩ := q1
  subst ex
  cases r1 with
  | cons r rr =>
    cases rr with
    | cons r' rr =>
      cases rr
      obtain ⟨ta, rfl⟩ := r
      cases r'
      obtain ⟨its, rv, p, _⟩ := I1.tuple hqy
      obtain ⟨o2, ho2, _⟩ := id p
      have hlt := Heap.lt_size ho2
      have fresh5 : ∀ c, c ∈ [s1.heap.objs.size + 4, s1.heap.objs.size + 2, s1.heap.objs.size + 3, s1.heap.objs.size, s1.heap.objs.size + 1] → FpOk X pins H1 c := fun c hcm => by
        have e' : c = s1.heap.objs.size + 4 ∨ c = s1.heap.objs.size + 2 ∨ c = s1.heap.objs.size + 3 ∨ c = s1.heap.objs.size ∨ c = s1.heap.objs.size + 1 := by simpa using hcm
        have hle : s1.heap.objs.size ≤ c := by omega
        exact I1.fpOk hle (I1.hok.fresh hle)
      refine zip_begins2 (begins_text (SX.S a) ta) (begins_tuple b its.toArray) trivial p fun h' hz hTI hTO h1 h2 hsz hk => wpAny_pyIter_zip hz ?_
      have I2 : Inv X pins σ H1 { s1 with heap := h' } := I1.kept (t' := s1.toks) hk
      exact ⟨s1.heap.objs.size + 4, [s1.heap.objs.size + 4, s1.heap.objs.size + 2, s1.heap.objs.size + 3, s1.heap.objs.size, s1.heap.objs.size + 1], _, _, H1, rfl, I2, turn_zipM (ta := ta) (zip_sep2 (fun b hb => by cases hb) (fun c hb => by rw [List.mem_singleton.mp hb]; exact hlt)) (Nat.ne_of_lt (Nat.lt_succ_of_lt hlt)), ⟨hz, hTI, ⟨_, _, hTO⟩, ⟨_, h1, rfl, rfl⟩, ⟨_, h2, rfl, rfl⟩⟩, fresh5, q⟩
section
variable {K : PySem.W.Frag} {σ : L2.St} {H : Hp}
theorem kizm {X : Cx} {tg iter : Expr} {ta : TA} (h : PI X tg iter (iZipM X.K ta)) (hK : X.K = K := by rfl) : PI X tg iter (iZipM K ta) := hK ▸ h
theorem src_zipM {a : Tx} {b : Addr} {ys : List V} {tl tr : TE} (h : Ev tl σ H (T a)) (h2 : Ev tr σ H (.ref b)) (hq : SqT K H b ys) : Src (iZipM K (tCons tl (tCons tr tNil))) σ H (min a.length ys.length) (fun c => c = b) (fun i v Hb => ∃ p c y, v = .ref p ∧ a[i]? = some c ∧ ys[i]? = some y ∧ Hb p = some (.tup [T [c], y])) := fun H1 e R q =>
  h H1 e _ fun H2 e2 => h2 H2 (e.trans e2) _ fun H3 e3 => by
    have e13 := e.trans (e2.trans e3)
    refine ⟨a, b, ys, rfl, ex_t e13 hq, q _ H3 (fun Ha => SqT K Ha b ys) (e2.trans e3) ⟨fun i Ha hi hs => ⟨by omega, ys, hs, by omega⟩, fun Ha hs => ⟨ys, hs, rfl⟩, fun i Ha v Hb hi hs y => ?_⟩ fun B Ha hB ea => ?_⟩
    · obtain ⟨t, c, y, rfl, hn, rfl, h1, h2⟩ := y
      exact ⟨Ex.new hn, t, c, y, rfl, h1, h2 ys hs, upd_same⟩
    · exact ea.tp (fun z => (hB b z).2 rfl) (ex_t e13 hq)
end
end Ws
set_option Elab.async false
set_option linter.all false
set_option maxRecDepth 100000
set_option maxHeartbeats 4000000
/-! dicts as sets of texts; set(tuple of texts), len of a set of texts -/
namespace Ws
open PySem PySem.Spec PyProof.Rows L2 Evl Wc Wt Wg Wd
/-- a text as a key -/
abbrev kx (t : Tx) : Key := Sum.inr (SX.S t)
def DX (ks : List Tx) : List (Key × V) := ks.map fun t => (kx t, V.bl true)
def addT (ks : List Tx) (t : Tx) : List Tx := if t ∈ ks then ks else ks ++ [t]
theorem mem_addT {ks : List Tx} {n m : Tx} : m ∈ addT ks n ↔ m ∈ ks ∨ m = n := by
  unfold addT
  split
  · rename_i h
    exact ⟨.inl, fun z => z.elim id fun e => e ▸ h⟩
  · rw [List.mem_append, List.mem_singleton]
theorem addT_nodup {ks : List Tx} {n : Tx} (h : ks.Nodup) : (addT ks n).Nodup := by
  unfold addT
  split
  · exact h
  · rename_i hn
    refine List.nodup_append.mpr ⟨h, List.pairwise_singleton _ _, fun a ha b hb => ?_⟩
    rw [List.mem_singleton.mp hb]
    exact fun z => hn (z ▸ ha)
theorem addT_len (ks : List Tx) (n : Tx) : (addT ks n).length ≤ ks.length + 1 := by
  unfold addT
  split
  · omega
  · simp
theorem kx_inj {a b : Tx} (h : kx a = kx b) : a = b := S_inj (Sum.inr.inj h)
theorem val_DX (ks : List Tx) (n : Tx) : valV (DX ks) (kx n) = if n ∈ ks then some (.bl true) else none := by
  induction ks with
  | nil => rfl
  | cons m ks ih =>
    by_cases h : m = n
    · subst h
      show valV ((kx m, V.bl true) :: DX ks) _ = _
      rw [valV_pos rfl, if_pos List.mem_cons_self]
    · show valV ((kx m, V.bl true) :: DX ks) _ = _
      rw [valV_neg (fun z => h (kx_inj z)), ih]
      by_cases h2 : n ∈ ks
      · rw [if_pos h2, if_pos (List.mem_cons_of_mem _ h2)]
      · rw [if_neg h2, if_neg fun z => (List.mem_cons.mp z).elim (fun e => h e.symm) h2]
theorem put_DX (ks : List Tx) (n : Tx) : putK (DX ks) (kx n) (.bl true) = DX (addT ks n) := by
  have ha := valV_any (kx n) (DX ks)
  rw [val_DX] at ha
  unfold putK addT
  by_cases h : n ∈ ks
  · rw [if_pos h] at ha
    rw [if_pos (show ((DX ks).any fun kv => decide (kv.1 = kx n)) = true from ha), if_pos h]
    unfold DX
    rw [List.map_map]
    refine List.map_congr_left fun m _ => ?_
    show (if kx m = kx n then _ else _) = _
    split <;> rfl
  · rw [if_neg h] at ha
    rw [if_neg (show ¬ ((DX ks).any fun kv => decide (kv.1 = kx n)) = true from fun z => Bool.false_ne_true (ha.symm.trans z)), if_neg h]
    unfold DX
    rw [List.map_append]
    rfl
theorem DX_len (ks : List Tx) : (DX ks).length = ks.length := by unfold DX; rw [List.length_map]
def addAllT (ks ns : List Tx) : List Tx := ns.foldl addT ks
theorem mem_addAllT {m : Tx} : ∀ {ns ks : List Tx}, m ∈ addAllT ks ns ↔ m ∈ ks ∨ m ∈ ns
  | [], ks => ⟨.inl, fun z => z.elim id fun h => nomatch h⟩
  | n :: ns, ks => by
    show m ∈ addAllT (addT ks n) ns ↔ _
    rw [mem_addAllT, mem_addT, List.mem_cons, or_assoc]
theorem addAllT_nodup : ∀ {ns ks : List Tx}, ks.Nodup → (addAllT ks ns).Nodup
  | [], _, h => h
  | n :: ns, ks, h => addAllT_nodup (ns := ns) (addT_nodup h)
theorem addAllT_len : ∀ (ns ks : List Tx), (addAllT ks ns).length ≤ ks.length + ns.length
  | [], _ => Nat.le_refl _
  | n :: ns, ks => by
    have h1 := addAllT_len ns (addT ks n)
    have h2 := addT_len ks n
    show (addAllT (addT ks n) ns).length ≤ _
    rw [List.length_cons]
    omega
theorem addAllT_succ {ns : List Tx} {i : Nat} {n : Tx} (h : ns[i]? = some n) : addAllT [] (ns.take (i + 1)) = addT (addAllT [] (ns.take i)) n := by
  rw [List.take_add_one, h]
  unfold addAllT
  rw [List.foldl_append]
  rfl
theorem addAllT_id : ∀ {ns ks : List Tx}, (ks ++ ns).Nodup → addAllT ks ns = ks ++ ns
  | [], ks, _ => (List.append_nil ks).symm
  | n :: ns, ks, h => by
    have hn : n ∉ ks := fun z => (List.nodup_append.mp h).2.2 n z n List.mem_cons_self rfl
    show addAllT (addT ks n) ns = _
    have e : addT ks n = ks ++ [n] := by unfold addT; rw [if_neg hn]
    rw [e, addAllT_id (by rw [List.append_assoc]; exact h), List.append_assoc]
    rfl
section
variable {K : PySem.W.Frag} {w : World} {P : Program} {σ : L2.St} {H : Hp} {ta td ty tv te : TE} {D : Ends} {Q : VK}
/-- d[t] = True -/
theorem s_putX {d : Addr} {ks : List Tx} {n : Tx} (hd : Ev td σ H (.ref d)) (hn : Ev ty σ H (T n)) (h : H d = some (.dK (DX ks))) (hl : ks.length ≤ 10000) (k : ∀ H1, Ex H H1 → D.nx σ (upd H1 d (.dK (DX (addT ks n))))) : sDPut td ty (tC (.bl true)) D σ H :=
  hd H (Ex.refl H) _ fun H2 e2 => hn H2 e2 _ fun H3 e3 => ⟨d, _, rfl, DPut.k (k := kx n) ((e2.trans e3) _ _ h) (by rw [DX_len]; unfold sizeLine; omega), by rw [put_DX]; exact k H3 (e2.trans e3)⟩
theorem q_putX {tz : TS} {d : Addr} {ks : List Tx} {n : Tx} (hd : Ev td σ H (.ref d)) (hn : Ev ty σ H (T n)) (h : H d = some (.dK (DX ks))) (hl : ks.length ≤ 10000) (k : ∀ H1, Ex H H1 → tz D σ (upd H1 d (.dK (DX (addT ks n))))) : tSeq (sDPut td ty (tC (.bl true))) tz D σ H := s_putX (D := { D with nx := tz D }) hd hn h hl k
theorem ev_inX {d : Addr} {ks : List Tx} {n : Tx} (hn : Ev ty σ H (T n)) (hd : Ev td σ H (.ref d)) (h : H d = some (.dK (DX ks))) : Ev (tDIn ty td) σ H (.bl (decide (n ∈ ks))) := fun H1 e Q q =>
  hn H1 e _ fun H2 e2 => hd H2 (e.trans e2) _ fun H3 e3 => ⟨d, _, rfl, DGet.k (k := kx n) (((e.trans e2).trans e3) _ _ h), by rw [val_DX, some_if]; exact q H3 (e2.trans e3)⟩
theorem ev_notinX {d : Addr} {ks : List Tx} {n : Tx} (hn : Ev ty σ H (T n)) (hd : Ev td σ H (.ref d)) (h : H d = some (.dK (DX ks))) : Ev (tDNotIn ty td) σ H (.bl (!decide (n ∈ ks))) := fun H1 e Q q =>
  hn H1 e _ fun H2 e2 => hd H2 (e.trans e2) _ fun H3 e3 => ⟨d, _, rfl, DGet.k (k := kx n) (((e.trans e2).trans e3) _ _ h), by rw [val_DX, some_if]; exact q H3 (e2.trans e3)⟩
/-- list(d) -/
theorem el_listX {d : Addr} {ks : List Tx} (hd : Ev td σ H (.ref d)) (h : H d = some (.dK (DX ks))) : EvL (tCB rListD (tCons td tNil)) σ H (ks.map T) := fun H1 e Q q =>
  hd H1 e _ fun H2 e2 => ⟨d, DX ks, rfl, (e.trans e2) _ _ h, fun r hr => q r _ (fresh_back e2 hr) (e2.trans (Ex.new hr)) (by
    rw [upd_same]
    unfold DX
    rw [List.map_map]
    rfl)⟩
/-- {t: True for t in ns} -/
theorem dc_texts {wi : TI} {j : Nat} {vs : List Nat} {own : Addr → Prop} (ns : List Tx) (hs : Src wi σ H ns.length own (fun i v _ => (ns.map T)[i]? = some v)) (hn : ns.length ≤ 4000) (hw : ∀ x, wipe ((wipe σ vs).set j (some x)) vs = wipe σ vs) (hj : ∀ x, ((wipe σ vs).set j (some x))[j]? = some (some x))
    (k : ∀ d H2, H d = none → Ex H H2 → H2 d = some (.dK (DX (addAllT [] ns))) → Q (.ref d) H2) : tDc wi (gName j) tYes (tVar j) (tC (.bl true)) vs σ H Q :=
  hs H (Ex.refl H) _ fun J H1 S e1 wk hS => fun Dl hD => by
    refine dc_it wk (Qd := fun H3 => Q (.ref Dl) H3) (fun i Hi => Ex H1 Hi ∧ Hi Dl = some (.dK (DX (addAllT [] (ns.take i))))) ?_ (fun i Hi hi p => hS (fun _ => False) Hi (fun b z => z.elim) (.of p.1)) ?_ ?_
    · exact ⟨Ex.new hD, upd_same⟩
    · rintro i x Ha Hb hi ⟨R, h1⟩ ⟨ey, hP⟩
      obtain ⟨n, hn1, rfl⟩ := at_map hP
      refine ⟨hw _, ?_⟩
      unfold tYes
      dsimp only
      rw [if_pos rfl]
      refine ⟨T n, hj _, ?_⟩
      have hl := addAllT_len (ns.take i) []
      refine ⟨DX (addAllT [] (ns.take i)), kx n, rfl, ey _ _ h1, ?_, Ex.mut (R.trans ey) hD, ?_⟩
      · rw [DX_len]
        rw [List.length_take] at hl
        have : ([] : List Tx).length = 0 := rfl
        unfold sizeLine
        omega
      · show (upd Hb Dl (.dK (putK (DX (addAllT [] (ns.take i))) (kx n) (.bl true)))) Dl = _
        rw [upd_same, put_DX, addAllT_succ hn1]
    · rintro H3 ⟨R, h1⟩
      rw [List.take_length] at h1
      exact k Dl H3 (fresh_back e1 hD) (e1.trans R) h1
theorem merge_DX : ∀ (xs : List Tx) (ks : List Tx), mergeK (DX ks) (xs.map fun x => (kx x, V.bl true)) = DX (addAllT ks xs)
  | [], ks => rfl
  | x :: xs, ks => by
    show mergeK (putK (DX ks) (kx x) (.bl true)) (xs.map fun x => (kx x, V.bl true)) = DX (addAllT (addT ks x) xs)
    rw [put_DX, merge_DX xs]
end
/-! ### set(tuple of texts), its len -/
section
variable {P : Program} {w : World} {A : Around} {E : Value → Shared → Prop} {s : Shared}
set_option maxHeartbeats 3200000 in
theorem call_setT {src : Addr} {its : Array Value} {xs : List Str} {Q : Value → Shared → Prop} (noH : A.handled = none) (isl : s.heap.IsTuple src its) (hit : StrsAre its.toList xs) (room : xs.length + 1 < scanBound)
    (fin : ∀ (h2 : Heap) (tk : Nat) (l : List Str), Met xs xs.length l → SetX P w h2 s.heap.objs.size l → (∀ b o, s.heap.get? b = some o → h2.get? b = some o) → Q (.ref s.heap.objs.size) { s with heap := h2, toks := tk }) :
    wpAny (model P w) A (call (.type "set") [.ref src]) Q E s := by
  have lx : xs.length = its.size := by rw [← Array.length_toList, hit.len_eq]
  obtain ⟨c, tl, q0⟩ := PySem.F.called_set.mro
  have q1 := PySem.F.called_set.made; have q2 := PySem.F.called_set.sub
  refine wpAny_call (codeAny_of_tree (wpAny_pure ⟨Code.quiet_builtin _ (by decide +kernel), codeAny_builtin PySem.F.entry_type_call ?_⟩))
  rw [Around.under_plain (weight_type_call_type "set" [.ref src] []) rfl]
  have q3 := PySem.F.called_set.notType; have q4 := PySem.F.called_set.canCreate
  have q5 := PySem.F.typeCall_set_1 (.ref src)
  repeat (any_goals (first | assumption | wp_step))
  refine codeAny_mono (code_set_led1 (.ref src) (E := E) (Q₁ := fun ob t1 => ob = .ref s.heap.objs.size ∧ t1 = { s with heap := s.heap.push (so w) }) ⟨rfl, rfl⟩) fun r t1 hr => ?_
  match r, hr with
  | .error e, hr => exact hr
  | .ok (.ret ob), hr =>
    obtain ⟨rfl, rfl⟩ := hr
    have atS : (s.heap.push (so w)).get? s.heap.objs.size = some (so w) := Heap.get?_push_size _ rfl
    have tyS : Shared.TypeIs { s with heap := s.heap.push (so w) } (.ref s.heap.objs.size) "set" := ⟨_, atS, rfl⟩
    have q6 := PySem.F.called_set.init.lookup
    have q7 := PySem.F.called_set.init.bind (.ref s.heap.objs.size)
    repeat (any_goals (first | assumption | wp_step))
    refine codeAny_mono (codeAny_call_builtin (R := wants (fun r t2 => r = .none ∧ ∃ h2 tk l, t2 = { s with heap := h2, toks := tk } ∧ Met xs xs.length l ∧ SetX P w h2 s.heap.objs.size l ∧ ∀ b o, s.heap.get? b = some o → h2.get? b = some o) E) PySem.F.called_set.init.plain PySem.F.entry_set_init (check_set_init_1 tyS ?_)) fun r2 t2 hr2 => ?_
    · obtain ⟨ol, atl, cl, nl, dl⟩ := isl
      obtain ⟨ocls, odict, odata, oslots⟩ := ol
      simp only at cl dl
      subst cl; subst dl
      have lt := Heap.lt_size atl
      have isl2 : (s.heap.push (so w)).IsTuple src its := ⟨_, Heap.get?_push_of_some _ atl, rfl, nl, rfl⟩
      have q8 := PySem.F.sub_tuple_set; have q9 := PySem.F.sub_tuple_frozenset
      have q10 : (Value.type "tuple" == Value.type "dict") = false := by decide
      have atl2 : (s.heap.push (so w)).get? src = some { cls := .type "tuple", dict := odict, data := .seq its nl, slots := oslots } := Heap.get?_push_of_some _ atl
      unfold Builtin.«set.__init__» noKeywords Builtin.Frozenset.updateFrom
      generalize hI : pyIter = iter
      wp_walk
      subst hI
      refine wpAny_pyIter_tuple isl2 (wpAny_bind (wpAny_runValue ?_))
      have no3 : A.in1.in1.in1.handled = none := by simp [noH]
      have zI : (s.heap.push (so w)).objs.size = s.heap.objs.size + 1 := Heap.size_push ..
      have ne1 : src ≠ (s.heap.push (so w)).objs.size := by rw [zI]; exact Nat.ne_of_lt (Nat.lt_succ_of_lt lt)
      have out1 : s.heap.objs.size ∉ [(s.heap.push (so w)).objs.size, src] := by
        rw [zI]
        intro z
        rcases List.mem_cons.mp z with z | z
        · exact absurd z (Nat.ne_of_lt (Nat.lt_succ_self _))
        · exact absurd (List.mem_singleton.mp z) (Nat.ne_of_gt lt)
      refine fill_texts (P := P) (xs := xs) ((Walks.tuple no3 _ src ne1 its).toS) out1 lx (by rw [← lx]; exact room) (fun i v hv => ?_) its.size 0 _ [] (by omega) ⟨⟨_, Heap.get?_push_size _ rfl, rfl, rfl⟩, isl2.push _⟩ ⟨List.nodup_nil, fun x => by simp, Nat.le_refl _⟩ (SetX.new (Heap.get?_push_of_some _ atS)) fun s2 l2 mv m2 X2 => ?_
      · obtain ⟨y, u, h1, h2⟩ := hit.item i v (by rw [Array.getElem?_toList]; exact hv)
        exact ⟨y, u, h2, h1⟩
      · obtain ⟨h2, g2, d2, tk2, os2⟩ := s2
        obtain rfl : g2 = s.gens := mv.gens
        obtain rfl : d2 = s.drawn := mv.drawn
        obtain rfl : os2 = s.os := mv.os
        rw [← lx] at m2
        show wpAny _ _ (Bind.bind (pure _) _) _ _ _
        refine wpAny_pure (wpAny_pure ⟨rfl, h2, tk2, l2, rfl, m2, X2, fun b o e => ?_⟩)
        have hb := Heap.lt_size e
        refine mv.heap b o (fun z => ?_) (Heap.get?_push_of_some _ (Heap.get?_push_of_some _ e))
        rw [zI] at z
        rcases List.mem_cons.mp z with z | z
        · exact absurd z (Nat.ne_of_lt hb)
        · exact absurd (List.mem_singleton.mp z) (Nat.ne_of_lt (Nat.lt_succ_of_lt hb))
    · match r2, hr2 with
      | .error e, hr2 => exact hr2
      | .ok (.ret v2), hr2 =>
        obtain ⟨rfl, h2, tk, l, rfl, m, X, k⟩ := hr2
        repeat (any_goals (first | assumption | wp_step))
        exact fin _ _ _ m X k
end
section
variable {X : Cx}
def rSetTup (K : PySem.W.Frag) (P : Program) (w : World) : List V → Hp → VK → Prop := fun vs H Q => ∃ (p : Addr) (xs : List Tx), vs = [.ref p] ∧ SqT K H p (xs.map T) ∧ xs.length ≤ 4000 ∧ ∀ q ys, Uniq xs ys → ys.length ≤ xs.length → H q = none → Q (.ref q) (upd H q (SetXO P w q (ys.map SX.S)))
theorem cr_setTup (hc : X.calm = true) : CallR X (.type "set") (rSetTup X.K X.prog X.w) := by
  intro pins s σ H vs us Q I r h
  obtain ⟨p, xs, rfl, hp, hl, q⟩ := h
  rw [Vals.ref1 r]
  obtain ⟨its, rv, pl, hz⟩ := I.tuple hp
  refine call_setT (P := X.prog) (xs := xs.map SX.S) (I.ok.hd hc) pl (by simpa using strs_of_each (each_of_vals rv)) (by rw [List.length_map]; unfold scanBound; omega) fun h2 tk l m R k => ?_
  obtain ⟨ys, rfl, u, hly⟩ := uniq_of m
  have hn : H s.heap.objs.size = none := I.hok.fresh (Nat.le_refl _)
  exact ⟨.ref _, upd H s.heap.objs.size (SetXO X.prog X.w s.heap.objs.size (ys.map SX.S)), I.laid (t' := tk) k (Nat.le_refl _) (setXO_new R), rfl, q _ ys u hly hn⟩
theorem ksetTup {K : PySem.W.Frag} {P : Program} {w : World} (hc : X.calm = true := by rfl) (hK : X.K = K := by rfl) (hP : X.prog = P := by rfl) (hw : X.w = w := by rfl) : CallR X (.type "set") (rSetTup K P w) := by
  subst hK hP hw
  exact cr_setTup hc
def rLenX (P : Program) (w : World) : List V → Hp → VK → Prop := fun vs H Q => ∃ (p : Addr) (l : List Tx), vs = [.ref p] ∧ H p = some (SetXO P w p (l.map SX.S)) ∧ l.length ≤ 4000 ∧ Q (.int (l.length : Int)) H
theorem cr_lenX : CallR X (.builtin "len") (rLenX X.prog X.w) := by
  intro pins s σ H vs us Q I r h
  obtain ⟨p, l, rfl, hp, hl, q⟩ := h
  rw [Vals.ref1 r]
  obtain ⟨o, es, ep, t, ho, hex, hd, py⟩ := (I.hok p _ hp).1
  have hn := py.size
  rw [List.length_map] at hn
  exact call_len_set ho hex hd py.fit (by omega) ⟨.int (l.length : Int), H, I.tok _, ⟨_, by rw [hn]⟩, q⟩
theorem kLenX {P : Program} {w : World} (hP : X.prog = P := by rfl) (hw : X.w = w := by rfl) : CallR X (.builtin "len") (rLenX P w) := by
  subst hP hw
  exact cr_lenX
end
section
variable {K : PySem.W.Frag} {w : World} {P : Program} {σ : L2.St} {H : Hp} {ta : TE}
theorem uniq_len {xs ys : List Tx} (u : Uniq xs ys) : ys.length = (setX xs).length := len_nodup' u.nd (setX_nodup xs) fun x => (u.mem x).trans mem_setX.symm
where len_nodup' {l l' : List Tx} (h1 : l.Nodup) (h2 : l'.Nodup) (h : ∀ a, a ∈ l ↔ a ∈ l') : l.length = l'.length := ((List.perm_ext_iff_of_nodup h1 h2).mpr h).length_eq
/-- len(set(tuple of texts)) -/
theorem ev_lenSetT {p : Addr} {xs : List Tx} (h : Ev ta σ H (.ref p)) (hp : SqT K H p (xs.map T)) (hl : xs.length ≤ 4000) : Ev (tCB (rLenX P w) (tCons (tCB (rSetTup K P w) (tCons ta tNil)) tNil)) σ H (.int ((setX xs).length : Int)) := fun H1 e Q q =>
  h H1 e _ fun H2 e2 => ⟨p, xs, rfl, ex_t (e.trans e2) hp, hl, fun r ys u hle hr => ⟨r, ys, rfl, upd_same, by omega, by rw [uniq_len u]; exact q _ (e2.trans (Ex.new hr))⟩⟩
end
end Ws
set_option Elab.async false
set_option linter.all false
set_option maxRecDepth 100000
set_option maxHeartbeats 4000000
/-! sorted(tuple of texts); the place of a sign in "abcd" -/
namespace Ws
open PySem PySem.Spec PyProof.Rows L2 Evl Wc Wt Wg Wd
section
variable {P : Program} {w : World} {A : Around} {E : Value → Shared → Prop} {s : Shared}
/-- the items of a tuple; the heap only grows -/
theorem collectTup {it : Addr} {items : Array Value} {Q : List Value → Shared → Prop} (hl : s.heap.IsTuple it items) (hsz : items.size ≤ sizeLine)
    (hQ : ∀ h', (∀ b o', s.heap.get? b = some o' → h'.get? b = some o') → s.heap.objs.size ≤ h'.objs.size → Q items.toList { s with heap := h' }) : wpAny (model P w) A (collect (.ref it)) Q E s := by
  obtain ⟨o, ho, hc, n, hd⟩ := hl
  have atL : (s.heap.push { cls := .type "list", data := .seq ([] : List Value).toArray }).get? s.heap.objs.size = some { cls := .type "list", data := .seq #[] 0 } := Heap.get?_push_size _ rfl
  have at2 := Heap.get?_update_self (Obj.mapSeq (· ++ items)) atL rfl
  have big : s.heap.objs.size ≤ ((s.heap.push { cls := .type "list", data := .seq ([] : List Value).toArray }).update s.heap.objs.size (Obj.mapSeq (· ++ items))).objs.size := by
    rw [Heap.size_update, Heap.size_push]
    exact Nat.le_succ _
  unfold collect
  refine wpAny_bind (wpAny_runValue (codeAny_builtin F.entry_proto_collect ?_))
  rw [Around.under_plainId F.plain_proto_collect _]
  show wpAny _ A.in1 (newList [] >>= fun l => again (.builtin "list.__iadd__" ⟨[l, .ref it], []⟩)) _ _ s
  refine wpAny_bind (wpAny_newObj_type (wpAny_pure ⟨plainId_quiet F.plain_list_iadd _, codeAny_builtin F.entry_list_iadd ?_⟩))
  rw [Around.under_plainId F.plain_list_iadd _]
  show wpAny _ A.in1 (Builtin.List.listExtendWith (.ref s.heap.objs.size) (.ref it) (.ref s.heap.objs.size)) _ _ _
  have last : wpAny (model P w) A (match Value.ref s.heap.objs.size with
      | Value.ref a => do
        match (← load a).data with
          | Data.seq xs _ => pure xs.toList
          | _ => unsupported "internal:collect"
      | _ => unsupported "internal:collect") Q E { s with heap := (s.heap.push { cls := .type "list", data := .seq ([] : List Value).toArray }).update s.heap.objs.size (Obj.mapSeq (· ++ items)) } := by
    show wpAny _ A (load s.heap.objs.size >>= _) _ _ _
    refine wpAny_bind (wpAny_load at2 (wpAny_pure ?_))
    show Q ((#[] : Array Value) ++ items).toList _
    rw [show ((#[] : Array Value) ++ items).toList = items.toList from by simp]
    exact hQ _ (fun b o' hb => (Heap.get?_update_other _ _ (Nat.ne_of_gt (Heap.lt_size hb))).trans (Heap.get?_push_of_some _ hb)) big
  refine wpAny_mono (wpAny_extend_seq (hsz := hsz) (A := A) (R := fun r s' => r = .ok (.ret (.ref s.heap.objs.size)) ∧ s' = { s with heap := (s.heap.push { cls := .type "list", data := .seq ([] : List Value).toArray }).update s.heap.objs.size (Obj.mapSeq (· ++ items)) })
    (s := { s with heap := s.heap.push { cls := .type "list", data := .seq ([] : List Value).toArray } }) _ it _ 0 (.inr rfl) atL (Heap.get?_push_of_some _ ho) hc hd ⟨rfl, rfl⟩) (fun fin s' h => ?_) (fun e s' h => absurd h.1 (by simp))
  cases fin with
  | done f =>
    obtain ⟨e, rfl⟩ := h
    cases e
    exact last
  | again c' => exact ⟨h.1, codeAny_mono h.2 fun r s'' hr => by obtain ⟨rfl, rfl⟩ := hr; exact last⟩
end
section
variable {X : Cx}
def rSortTup (K : PySem.W.Frag) : List V → Hp → VK → Prop := fun vs H Q => ∃ (p : Addr) (xs : List Tx), vs = [.ref p] ∧ SqT K H p (xs.map T) ∧ ∀ q, H q = none → Q (.ref q) (upd H q (.lst ((sortT xs).map T)))
theorem cr_sortTup (hu : X.A.units + 64 < cLine) : CallR X (.builtin "sorted") (rSortTup X.K) := by
  intro pins s σ H vs us Q I r h
  obtain ⟨p, xs, rfl, hp, q⟩ := h
  rw [Vals.ref1 r]
  obtain ⟨its, rv, pl, hz⟩ := I.tuple hp
  obtain ⟨o, ho, hc, n, hd⟩ := id pl
  have ez := each_of_vals rv
  rw [List.length_map] at hz
  have li := ez.length
  refine Calls.call_function_entry kind_sorted plain_sorted entry_sorted (args_sorted1 _) ?_
  unfold Builtin.«sorted»
  refine wpAny_bind (m := checkCount "sorted" 1 1 _) (wpAny_pure (wpAny_bind (collectTup (A := X.A.in1) pl (by simp; omega) fun h' k1 sz => ?_)))
  rw [List.toList_toArray]
  have small : its.length ≤ sizeLine := by omega
  refine wpAny_bind (wpAny_newList ?_ small)
  have atL : (h'.push (seqObj "list" its.toArray 0)).get? h'.objs.size = some (seqObj "list" its.toArray 0) := Heap.get?_push_size _ rfl
  refine wpAny_bind (wpAny_holding (PySem.W.list_sort_data (s := { s with heap := h'.push (seqObj "list" its.toArray 0) }) (R := IsT) (enc := fun b : Tx => PyData.str (SX.S b)) atL ez (reads_out ez) (alike_tx xs) (sortable_tx xs) (by omega) (fun b _ => ?_) fun out hlen eo => ?_))
  · show X.A.in1.units + 1 + _ < cLine
    have h1 : X.A.in1.units ≤ X.A.units + 8 := by
      show X.A.units + _ ≤ _
      first | omega | exact Nat.add_le_add_left (by decide) _
    have : (PyData.str (SX.S b)).depth ≤ 1 := by simp [PyData.depth]
    omega
  · rw [enc_le] at eo
    obtain ⟨c, hc2⟩ := sortedHeap_at (vs := its) (out := out.toArray) atL
    have kk : ∀ b u, s.heap.get? b = some u → (sortedHeap (h'.push (seqObj "list" its.toArray 0)) h'.objs.size its out.toArray).get? b = some u := fun b u e => by
      have lt := Heap.lt_size (k1 b u e)
      rw [sortedHeap_old (Nat.ne_of_lt lt) (by rw [size_push']; exact Nat.lt_succ_of_lt lt)]
      exact Heap.get?_push_of_some _ (k1 b u e)
    have hn : H h'.objs.size = none := I.hok.fresh sz
    refine wpAny_pure ⟨_, rfl, .ref h'.objs.size, _, ?_, rfl, q _ hn⟩
    exact I.laid (t' := s.toks) kk sz ⟨by rw [List.length_map, sortT_len]; omega, out, c, vals_of_each eo, hc2⟩
theorem ksortTup {K : PySem.W.Frag} (hu : X.A.units + 64 < cLine) (hK : X.K = K := by rfl) : CallR X (.builtin "sorted") (rSortTup K) := by
  subst hK
  exact cr_sortTup hu
/-- the letters -/
abbrev AB : Tx := [97, 98, 99, 100]
theorem at_AB {c : Nat} (h1 : 97 ≤ c) (h2 : c ≤ 100) : c = 97 ∨ c = 98 ∨ c = 99 ∨ c = 100 := by omega
def rIndexA : V → List V → Hp → VK → Prop := fun x xs H Q => ∃ c : Nat, 97 ≤ c ∧ c ≤ 100 ∧ x = T AB ∧ xs = [T [c]] ∧ Q (.int ((c - 97 : Nat) : Int)) H
theorem mt_indexA : MtR X "str.index" rIndexA := by
  intro pins s σ H x xs v us Q I rx r h
  obtain ⟨c, h1, h2, rfl, rfl, q⟩ := h
  refine mt_sindex pins s σ H _ _ v us Q I rx r ?_
  rcases at_AB h1 h2 with rfl | rfl | rfl | rfl
  · exact ⟨_, _, 0, [], rfl, rfl, by decide +kernel, q⟩
  · exact ⟨_, _, 1, [], rfl, rfl, by decide +kernel, q⟩
  · exact ⟨_, _, 2, [], rfl, rfl, by decide +kernel, q⟩
  · exact ⟨_, _, 3, [], rfl, rfl, by decide +kernel, q⟩
end
section
variable {K : PySem.W.Frag} {σ : L2.St} {H : Hp} {te : TE}
theorem rm_indexA {c : Nat} (h1 : 97 ≤ c) (h2 : c ≤ 100) : RM rIndexA (T AB) [T [c]] H (.int ((c - 97 : Nat) : Int)) := fun H1 e Q q => ⟨c, h1, h2, rfl, rfl, q H1 (Ex.refl _)⟩
theorem el_sortTup {p : Addr} {xs : List Tx} (h : Ev te σ H (.ref p)) (hp : SqT K H p (xs.map T)) : EvL (tCB (rSortTup K) (tCons te tNil)) σ H ((sortT xs).map T) := fun H1 e _ q => h H1 e _ fun H2 e2 => ⟨p, xs, rfl, ex_t (e.trans e2) hp, fun r hr => q r _ (fresh_back e2 hr) (e2.trans (Ex.new hr)) upd_same⟩
end
end Ws
set_option Elab.async false
set_option linter.all false
set_option maxRecDepth 100000
set_option maxHeartbeats 2000000
/-! startswith and endswith; comprehensions that make an object for some of the things; comprehensions over things that stand -/
namespace Ws
open PySem PySem.Spec PyProof.Rows L2 Evl Wc Wt Wg Wd
def rStartT : V → List V → Hp → VK → Prop := fun x xs H Q => ∃ (a b : Tx), x = T a ∧ xs = [T b] ∧ Q (.bl (decide (a.take b.length = b))) H
theorem mt_startT {X : Cx} : MtR X "str.startswith" rStartT := by
  intro pins s σ H x xs v us Q I rx r h
  obtain ⟨a, b, rfl, rfl, q⟩ := h
  refine mt_startswith pins s σ H _ _ v us Q I rx r ⟨_, _, rfl, rfl, ?_⟩
  unfold Txt.startswith
  rw [S_length, S_length, subAt_T, ← Bool.decide_and]
  have e : decide (0 + b.length ≤ a.length ∧ StAt a b 0) = decide (a.take b.length = b) := decide_eq_decide.mpr ⟨fun h => h.2, fun h => ⟨by have := congrArg List.length h; rw [List.length_take] at this; omega, h⟩⟩
  rw [e]
  exact q
def rEndT : V → List V → Hp → VK → Prop := fun x xs H Q => ∃ (a b : Tx), x = T a ∧ xs = [T b] ∧ Q (.bl (decide (b.length ≤ a.length ∧ a.drop (a.length - b.length) = b))) H
theorem mt_endT {X : Cx} : MtR X "str.endswith" rEndT := by
  intro pins s σ H x xs v us Q I rx r h
  obtain ⟨a, b, rfl, rfl, q⟩ := h
  refine mt_endswith pins s σ H _ _ v us Q I rx r ⟨_, _, rfl, rfl, ?_⟩
  unfold Txt.endswith
  rw [S_length, S_length, subAt_T, ← Bool.decide_and]
  have e : decide (0 + b.length ≤ a.length ∧ StAt a b (a.length - b.length)) = decide (b.length ≤ a.length ∧ a.drop (a.length - b.length) = b) := decide_eq_decide.mpr (by
    rw [Nat.zero_add]
    refine and_congr_right fun hl => ?_
    show (a.drop (a.length - b.length)).take b.length = b ↔ _
    rw [List.take_of_length_le (by rw [List.length_drop]; omega)])
  rw [e]
  exact q
section
variable {K : PySem.W.Frag} {σ : L2.St} {H : Hp} {te : TE} {t : TT}
theorem rm_startT {a b : Tx} : RM rStartT (T a) [T b] H (.bl (decide (a.take b.length = b))) := fun H1 _ _ q => ⟨a, b, rfl, rfl, q H1 (Ex.refl _)⟩
theorem rm_start3T {a b : Tx} {i : Nat} : RM rStart3T (T a) [T b, .int (i : Int)] H (.bl (decide (i + b.length ≤ a.length ∧ StAt a b i))) := fun H1 _ _ q => ⟨a, b, i, rfl, rfl, q H1 (Ex.refl _)⟩
theorem rm_endT {a b : Tx} : RM rEndT (T a) [T b] H (.bl (decide (b.length ≤ a.length ∧ a.drop (a.length - b.length) = b))) := fun H1 _ _ q => ⟨a, b, rfl, rfl, q H1 (Ex.refl _)⟩
/-- a new object for each thing that is kept -/
theorem lcO {α : Type} {wi : TI} {g : TG} {vs : List Nat} {n : Nat} {own : Addr → Prop} {P : Nat → V → Hp → Prop} {Q : VK} {p : α → Bool} (xs : List α) (st : α → L2.St) (o : α → HO) (R : α → V → Hp → Prop) (hs : Src wi σ H n own P) (hn : n ≤ 40000) (hx : xs.length = n)
    (hP : ∀ i x H1, Ex H H1 → P i x H1 → ∃ a, xs[i]? = some a ∧ R a x H1) (hg : ∀ a x H1 (Q' : L2.St → Hp → Prop), R a x H1 → Q' (st a) H1 → g x (wipe σ vs) H1 Q') (hw : ∀ a, wipe (st a) vs = wipe σ vs)
    (ht : ∀ a H1, Ex H H1 → a ∈ xs → EvT t (st a) H1 (p a)) (he : ∀ a H1, Ex H H1 → a ∈ xs → p a = true → ∀ Q' : VK, (∀ q H2, H1 q = none → Ex H1 H2 → H2 q = some (o a) → Q' (.ref q) H2) → te (st a) H1 Q')
    (k : ∀ q H2 ps, H q = none → Ex H H2 → H2 q = some (.lst (ps.map V.ref)) → All2 (fun b a => H2 b = some (o a) ∧ H b = none ∧ b ≠ q) ps (xs.filter p) → Q (.ref q) H2) : tLc wi g t te vs σ H Q :=
  hs H (Ex.refl H) _ fun J H1 S e1 w hS => fun Dl hD => by
    have hDH : H Dl = none := fresh_back e1 hD
    have ftk : ∀ {i a}, xs[i]? = some a → (xs.take (i + 1)).filter p = (xs.take i).filter p ++ if p a = true then [a] else [] := fun {i a} ha => by
      rw [List.take_add_one, ha, List.filter_append]
      congr 1
      cases z : p a with
      | true => simp [z]
      | false => simp [z]
    refine lc_it w (Qd := fun H3 => Q (.ref Dl) H3) (fun i Hi => Ex H1 Hi ∧ ∃ ps : List Addr, Hi Dl = some (.lst (ps.map V.ref)) ∧ ps.length ≤ i ∧ All2 (fun b a => Hi b = some (o a) ∧ H b = none ∧ b ≠ Dl) ps ((xs.take i).filter p)) ?_ (fun i Hi hi p => hS (fun _ => False) Hi (fun b z => z.elim) (.of p.1)) ?_ ?_
    · exact ⟨Ex.new hD, [], upd_same, Nat.le_refl _, .nil⟩
    · rintro i x Ha Hb hi ⟨R1, ps, h1, h2, h3⟩ ⟨ey, hPi⟩
      have eB : Ex H Hb := e1.trans (R1.trans ey)
      obtain ⟨a, ha, hr⟩ := hP i x Hb eB hPi
      have hm := List.mem_of_getElem? ha
      refine hg a x Hb _ hr ⟨hw a, ht a Hb eB hm Hb (Ex.refl _) _ fun H3 e3 => ?_⟩
      have hft := ftk ha
      cases hp : p a with
      | true =>
        rw [hp, if_pos rfl] at hft
        show te (st a) H3 fun y H4 => ∃ acc, H4 Dl = some (.lst acc) ∧ acc.length < sizeLine ∧ _
        refine he a H3 (eB.trans e3) hm hp _ fun q H4 hq e4 h4 => ?_
        have hDl4 : H4 Dl = some (.lst (ps.map V.ref)) := e4 _ _ (e3 _ _ (ey _ _ h1))
        have nqD : q ≠ Dl := fun z => by rw [z, e3 _ _ (ey _ _ h1)] at hq; cases hq
        have eM : Ex H1 (upd H4 Dl (.lst (ps.map V.ref ++ [.ref q]))) := Ex.mut (((R1.trans ey).trans e3).trans e4) hD
        refine ⟨ps.map V.ref, hDl4, sz_lt (by rw [List.length_map]; omega), eM, ps ++ [q], by rw [upd_same, List.map_append]; rfl, by rw [List.length_append, List.length_singleton]; omega, ?_⟩
        rw [hft]
        exact (h3.mono fun b a' r => ⟨by rw [upd_ne r.2.2]; exact e4 _ _ (e3 _ _ (ey _ _ r.1)), r.2⟩).push ⟨by rw [upd_ne nqD]; exact h4, fresh_back (eB.trans e3) hq, nqD⟩
      | false =>
        rw [hp, if_neg Bool.false_ne_true, List.append_nil] at hft
        show Ex H1 H3 ∧ _
        refine ⟨(R1.trans ey).trans e3, ps, e3 _ _ (ey _ _ h1), by omega, ?_⟩
        rw [hft]
        exact h3.mono fun b a' r => ⟨e3 _ _ (ey _ _ r.1), r.2⟩
    · rintro H3 ⟨R1, ps, h1, h2, h3⟩
      rw [← hx, List.take_length] at h3
      exact k Dl H3 ps hDH (e1.trans R1) h1 h3
/-- as el_lcG, the heap of each turn known to be a greater one -/
theorem el_lcE {α : Type} {wi : TI} {g : TG} {vs : List Nat} {n : Nat} {own : Addr → Prop} {P : Nat → V → Hp → Prop} {gv : α → V} {p : α → Bool} (xs : List α) (st : α → L2.St) (hs : Src wi σ H n own P) (hn : n ≤ 40000) (hx : xs.length = n)
    (hP : ∀ i x H1, Ex H H1 → P i x H1 → ∃ a, xs[i]? = some a ∧ ∀ Q' : L2.St → Hp → Prop, Q' (st a) H1 → g x (wipe σ vs) H1 Q') (hw : ∀ a, wipe (st a) vs = wipe σ vs)
    (ht : ∀ a H1, Ex H H1 → a ∈ xs → EvT t (st a) H1 (p a)) (he : ∀ a H1, Ex H H1 → a ∈ xs → p a = true → Ev te (st a) H1 (gv a)) : EvL (tLc wi g t te vs) σ H ((xs.filter p).map gv) := fun H0 e Q q => by
  have hgm := given_map xs p gv (fun i => match xs[i]? with | some a => p a | none => false) (fun i => match xs[i]? with | some a => gv a | none => .non) (fun i a ha => by simp only [ha]) (fun i a ha => by simp only [ha])
  rw [hx] at hgm
  generalize hf : (fun (i : Nat) => match xs[i]? with | some a => p a | none => false) = f at hgm
  generalize hv : (fun (i : Nat) => match xs[i]? with | some a => gv a | none => V.non) = v at hgm
  exact hs H0 e _ fun J H1 S e1 w hS => fun Dl hD =>
    lc_it w (Qd := fun H3 => Q (.ref Dl) H3) (Cw H1 f v Dl) ⟨hD, Ex.new hD, upd_same⟩ (fun i Hi _ c => hS (fun _ => False) Hi (fun _ z => z.elim) (.of c.2.1)) (fun i x Hi Hj hi c hy => by
      obtain ⟨ey, hPi⟩ := hy
      have c' : Cw H1 f v Dl i Hj := ⟨c.1, c.2.1.trans ey, ey _ _ c.2.2⟩
      have eAll : Ex H Hj := (e.trans e1).trans c'.2.1
      obtain ⟨a, ha, hg⟩ := hP i x Hj eAll hPi
      have hm : a ∈ xs := List.mem_of_getElem? ha
      have fa : f i = p a := by rw [← hf]; simp only [ha]
      have va : v i = gv a := by rw [← hv]; simp only [ha]
      obtain ⟨c1, c2, c3⟩ := c'
      refine hg _ ⟨hw a, ht a Hj eAll hm Hj (Ex.refl _) _ fun H3 e3 => ?_⟩
      cases hp : p a with
      | true =>
        show te (st a) H3 fun y H4 => ∃ acc, H4 Dl = some (.lst acc) ∧ acc.length < sizeLine ∧ Cw H1 f v Dl (i + 1) (upd H4 Dl (.lst (acc ++ [y])))
        refine he a Hj eAll hm hp H3 e3 _ fun H4 e4 => ⟨given i f v, e4 Dl _ (e3 Dl _ c3), sz_lt (by have := given_len i f v; omega), c1, Ex.mut ((c2.trans e3).trans e4) c1, ?_⟩
        rw [given_yes (fa.trans hp), va]
        exact upd_same
      | false =>
        show Cw H1 f v Dl (i + 1) H3
        refine ⟨c1, c2.trans e3, ?_⟩
        rw [given_no (fa.trans hp)]
        exact e3 Dl _ c3) (fun H3 c => by
      refine q Dl H3 (fresh_back e1 c.1) (e1.trans c.2.1) ?_
      rw [← hgm]
      exact c.2.2)
/-- x in ts, of texts -/
theorem inV_T (x : Tx) (ts : List Tx) : inV (T x) (ts.map T) = decide (x ∈ ts) := by
  unfold inV
  rw [List.any_map]
  rw [Bool.eq_iff_iff, List.any_eq_true, decide_eq_true_eq]
  constructor
  · rintro ⟨y, hy, h⟩
    have h : eqV (T y) (T x) = true := h
    unfold eqV at h
    have := eq_of_beq h
    rw [SX.S_inj this] at hy
    exact hy
  · intro h
    refine ⟨x, h, ?_⟩
    show eqV (T x) (T x) = true
    unfold eqV
    exact beq_self_eq_true _
theorem flat_T (ts : List Tx) : (ts.map T).all flatV = true := by
  rw [List.all_map, List.all_eq_true]
  intro x _
  rfl
end
end Ws
set_option Elab.async false
set_option linter.all false
set_option maxRecDepth 100000
set_option maxHeartbeats 2000000
/-! name = {k: v for ..} on one line, the name a local -/
namespace Ws
open PySem PySem.Spec PyProof.Rows L2 Evl Wc Wt Wg Wd
def rNotInT : R2 := fun x y H Q => ∃ (c : Nat) (z : Tx), x = T [c] ∧ y = T z ∧ Q (.bl (!decide (c ∈ z))) H
theorem op_notInT {X : Cx} : OpR X (compareOp .NotIn) rNotInT := by
  intro pins s σ H x y v u Q I rx ry h
  obtain ⟨c, z, rfl, rfl, q⟩ := h
  exact op_notIn_sign pins s σ H _ _ v u Q I rx ry ⟨c, SX.S z, rfl, rfl, q⟩
theorem rv_notInT {H : Hp} {c : Nat} {b : Tx} : RV rNotInT (T [c]) (T b) H (.bl (!decide (c ∈ b))) := rv_val fun H1 _ Q q => ⟨c, b, rfl, rfl, q⟩
/-- one named value -/
def sw1 {α : Type} : List α → List α → List α
  | [], [a] => [a]
  | _, _ => []
theorem sw1_rel {vs zs : List V} {us ws : List Value} (r : Vals vs us) (rz : Vals zs ws) : Vals (sw1 vs zs) (sw1 us ws) := by
  cases r with
  | cons => exact .nil
  | nil =>
    match zs, ws, rz with
    | [], _, .nil => exact .nil
    | [_], _, .cons h1 .nil => exact .cons h1 .nil
    | _ :: _ :: _, _, .cons _ (.cons _ _) => exact .nil
theorem kb1 {x : PySem.Str} {st : Stmt} {ps ks : List PySem.Str} (hp : ps.length = 1)
    (h : ∀ (kV doc pm : Value) (an : Option Addr) (cdv ct a : Value), bindArgs (PySem.W.fnOf x x (defArgs st) (defBody st) (defScope st) .none kV doc pm an cdv ct) ⟨[], ks.zip [a]⟩ = pure (ps.zip (sw1 [] [a]))) : KB x st 0 ps ks sw1 sw1 := by
  intro K f fd F
  obtain ⟨oc, od, kV, doc, pm, an, cdv, ct, osl, rfl, lk, hcd⟩ := F.ex
  refine ⟨fun s us ws _ hl => ?_, fun r rz => sw1_rel r rz⟩
  rw [hp] at hl
  match us, ws, hl with
  | [], [a], _ => exact .of_eq (h kV doc pm an cdv ct a)
  | [], [], hl => exact absurd hl (by simp [sw1])
  | [], _ :: _ :: _, hl => exact absurd hl (by simp [sw1])
  | _ :: _, ws, hl => exact absurd hl (by simp [sw1])
section
variable {X : Cx}
theorem sw_trueD {kx vx : Expr} {gs : List Comprehension} {scope : Scope} {pos py : Pos} {y : PySem.Str} {l : Nat} {env : Env} (hk : env.scope.kind = .function) (hy : env.scope.names.lookup y = some .local) (hl : (py.line == pos.line) = true)
    (ha : (scope.names.any fun (n, k) => n == y && (k == .local || k == .cell)) = false) : swapsWith (.DictComp kx vx gs scope pos) (some (.Name y py)) l env = pure true := by
  have ky : env.kindOf y = some .local := hy
  have hb : env.blockKind = .function := by unfold Env.blockKind; rw [hk]; rfl
  unfold swapsWith
  simp only [hb, ky, ha, Expr.pos, hl]
  rfl
theorem ps_setDc {i : Nat} {y : PySem.Str} {py : Pos} {kx vx tg iter : Expr} {ifs : List Expr} {scope : Scope} {own : List (PySem.Str × Nat)} {pos spos : Pos} {wi : TI} {g : TG} {tt : TT} {tk tv : TE} (hc : X.calm = true) (hN : X.N.Nodup) (hy : X.N[i]? = some y) (hyl : X.env.scope.names.lookup y = some .local)
    (hsw : swapsWith (.DictComp kx vx [⟨tg, iter, ifs, 0⟩] scope pos) (some (.Name y py)) spos.line X.env = pure true) (hi : PI X tg iter wi) (ok : BlkOk X.N X.env.scope scope own)
    (hg : ∀ (s : Shared) (H : Hp) (C : Addr) (cl : List (PySem.Str × Addr)) (fp : List Addr), PG (X.blk s H scope (compEnvC scope cl C X.env) fp) tg g) (ht : ∀ (s : Shared) (H : Hp) (C : Addr) (cl : List (PySem.Str × Addr)) (fp : List Addr), PTs (X.blk s H scope (compEnvC scope cl C X.env) fp) ifs tt)
    (hk : ∀ (s : Shared) (H : Hp) (C : Addr) (cl : List (PySem.Str × Addr)) (fp : List Addr), PE (X.blk s H scope (compEnvC scope cl C X.env) fp) kx tk)
    (he : ∀ (s : Shared) (H : Hp) (C : Addr) (cl : List (PySem.Str × Addr)) (fp : List Addr), PE (X.blk s H scope (compEnvC scope cl C X.env) fp) vx tv) (hs : ∀ x, foldedSetIterable iter X.env x = pure x := by intro _; rfl) :
    PS X (.Assign [.Name y py] (.DictComp kx vx [⟨tg, iter, ifs, 0⟩] scope pos) spos) (tAsg (tDc wi g tt tk tv (own.map (·.2))) (gName i)) := by
  refine ⟨fun pins s σ H D I h => ?_⟩
  rw [exec_Assign_Name_used _ _ _ _ hsw]
  refine wpAny_bind (wpAny_standAt (wpAny_bind ?_))
  show wpAny _ X.A (do let _ ← comprehension (.DictComp kx vx [⟨tg, iter, ifs, 0⟩] scope pos) scope X.env (firstIterPos [⟨tg, iter, ifs, 0⟩] pos) newDict false (eval iter X.env) (some (assign (.Name y py) X.env))) _ _ s
  have h : tDc wi g tt tk tv (own.map (·.2)) σ H (fun x H1 => gName i x σ H1 D.nx) := h
  refine wpAny_bind (thn (dc_core (Qf := fun _ s' => SP X pins D .next s') hc hN I hi ok hg ht hk he hs h fun L C s' m H' I' q hn f => ?_) fun _ s' hq => wpAny_pure (wpAny_pure hq))
  show wpAny _ _ (assign (.Name y py) X.env (.ref L)) _ _ _
  refine wpAny_assign_Name (store_ok2 (v := V.ref L) I' hN hy (.inl hyl) rfl (fun s2 I2 ⟨a, sb, ha⟩ => ?_) (.inr hyl))
  obtain ⟨f0, f1, f2, f3, f4, f5⟩ := f
  have haC : C ≠ a := by
    rcases ha with z | z
    · rw [z]; exact f1
    · exact fun e => f4 y a z e.symm
  refine ⟨m, hn.sameBut sb haC, fun h3 sb3 => ?_⟩
  exact ⟨_, H', I2.turned (t' := s2.toks) (fun b o hb e => (sb3.2 b hb).trans e) f0 f1 f3 f4 f5, q⟩
end
end Ws
set_option Elab.async false
set_option linter.all false
set_option maxRecDepth 100000
set_option maxHeartbeats 2000000
/-! list(text); a text or a list of one-sign texts -/
namespace Ws
open PySem PySem.Spec PyProof.Rows L2 Evl Wc Wt Wg Wd
def rListT : List V → Hp → VK → Prop := fun xs H Q => ∃ s : Tx, xs = [T s] ∧ s.length ≤ 16777216 ∧ ∀ l, H l = none → Q (.ref l) (upd H l (.lst (s.map fun c => T [c])))
theorem call_list_T {X : Cx} (hc : X.calm = true) : CallR X (.type "list") rListT := by
  intro pins s σ H xs us Q I r h
  obtain ⟨a, rfl, hz, q⟩ := h
  obtain ⟨u, rfl, t, rfl⟩ := vals1 r
  have hz' : a.length ≤ sizeLine := by rw [sizeLine_eq]; omega
  refine call_list_str (I.ok.hd hc) _ t (fun h' tk acc c' hk e hi => ?_) (by show (SX.S a).length ≤ _; rw [S_length]; exact hz')
  refine ⟨.ref s.heap.objs.size, upd H s.heap.objs.size (.lst (a.map fun c => T [c])), I.laid hk (Nat.le_refl _) ⟨by rw [List.length_map]; exact hz', acc.toList, c', ?_, by rw [Array.toArray_toList]; exact e⟩, rfl, q _ (I.hok.fresh (Nat.le_refl _))⟩
  refine vals_of_idx _ _ (by rw [List.length_map, Array.length_toList, hi.1]; exact S_length a) fun j u hj => ?_
  obtain ⟨c, t', hc, rfl⟩ := hi.2 j u (by rw [← Array.getElem?_toList]; exact hj)
  have hc' : a[j]? = some c := by
    have : (a.toArray)[j]? = some c := hc
    simpa using this
  exact ⟨T [c], by rw [List.getElem?_map, hc']; rfl, ⟨_, rfl⟩⟩
def rListAny (K : PySem.W.Frag) : List V → Hp → VK → Prop := fun xs H Q => rListT xs H Q ∨ rListS K xs H Q
theorem call_list_any {X : Cx} (hc : X.calm = true) : CallR X (.type "list") (fun xs H Q => rListT xs H Q ∨ (∃ p ys, xs = [.ref p] ∧ (SqL X.K H p ys ∨ SqT X.K H p ys) ∧ ∀ l, H l = none → Q (.ref l) (upd H l (.lst ys)))) := CallR.or (call_list_T hc) call_list_of
def iAny (K : PySem.W.Frag) (tl : TE) : TI := fun σ H R => iStr tl σ H R ∨ iList K tl σ H R
theorem pi_any {X : Cx} {K : PySem.W.Frag} {tg l : Expr} {tl : TE} (hl : PE X l tl) (hK : X.K = K := by rfl) : PI X tg l (iAny K tl) := hK ▸ pi_or (pi_str hl) (pi_list hl)
/-- signs, as a text or as a list of them -/
def Sgn (H : Hp) (fa : Addr) (v : V) (s : Tx) : Prop := v = T s ∨ ∃ p, v = .ref p ∧ H p = some (.lst (s.map fun c => T [c])) ∧ p ≠ fa
section
variable {K : PySem.W.Frag} {fa : Addr} {σ : L2.St} {H H1 : Hp} {te : TE} {v : V} {s : Tx} {m i : Nat} {Q : VK}
theorem Sgn.ex (h : Sgn H fa v s) (e : Ex H H1) : Sgn H1 fa v s := h.imp id fun ⟨p, h1, h2, h3⟩ => ⟨p, h1, e _ _ h2, h3⟩
theorem Sgn.rf (h : Sgn H fa v s) (R : Rf fa m H H1) : Sgn H1 fa v s := h.imp id fun ⟨p, h1, h2, h3⟩ => ⟨p, h1, R.at_ h2 h3, h3⟩
theorem Sgn.exc {B : Addr → Prop} (h : Sgn H fa v s) (R : Exc B H H1) (hB : ∀ c, c ≠ fa → H c ≠ none → ¬ B c) : Sgn H1 fa v s := h.imp id fun ⟨p, h1, h2, h3⟩ => ⟨p, h1, R p _ (hB p h3 (by rw [h2]; exact fun z => nomatch z)) h2, h3⟩
theorem ev_lenAny (h : Ev te σ H v) (hs : Sgn H fa v s) (hl : s.length ≤ 16777216) : Ev (tCB (rLenAny K) (tCons te tNil)) σ H (.int (s.length : Int)) := by
  rcases hs with rfl | ⟨p, rfl, h2, _⟩
  · exact fun H1 e Q q => h H1 e _ fun H2 e2 => .inl ⟨s, rfl, hl, q H2 e2⟩
  · refine fun H1 e Q q => h H1 e _ fun H2 e2 => .inr ⟨p, _, rfl, .inl (sq_of (e2 _ _ (e _ _ h2))), ?_⟩
    rw [List.length_map]
    exact q H2 e2
theorem el_listAny (h : Ev te σ H v) (hs : Sgn H fa v s) (hl : s.length ≤ 16777216) : EvL (tCB (rListAny K) (tCons te tNil)) σ H (s.map fun c => T [c]) := by
  rcases hs with rfl | ⟨p, rfl, h2, _⟩
  · exact fun H1 e Q q => h H1 e _ fun H2 e2 => .inl ⟨s, rfl, hl, fun l hl => q l _ (fresh_back e2 hl) (e2.trans (Ex.new hl)) upd_same⟩
  · exact fun H1 e Q q => h H1 e _ fun H2 e2 => .inr ⟨p, _, rfl, .inl (sq_of (e2 _ _ (e _ _ h2))), fun l hl => q l _ (fresh_back e2 hl) (e2.trans (Ex.new hl)) upd_same⟩
theorem Src.own {wi : TI} {n : Nat} {own own' : Addr → Prop} {P : Nat → V → Hp → Prop} (h : Src wi σ H n own P) (k : ∀ b, own b → own' b) : Src wi σ H n own' P := fun H1 e R q => h H1 e R fun J H2 S e2 w h2 => q J H2 S e2 w fun B Ha hB ea => h2 B Ha (fun b hb => ⟨(hB b hb).1, fun z => (hB b hb).2 (k b z)⟩) ea
theorem src_any (h : Ev te σ H v) (hs : Sgn H fa v s) (hl : s.length ≤ 40000) : Src (iAny K te) σ H s.length (fun b => v = .ref b) (fun i v _ => (s.map fun c => T [c])[i]? = some v) := by
  rcases hs with rfl | ⟨p, rfl, h2, _⟩
  · exact src_orL (Src.own (src_str h) fun b z => z.elim)
  · exact src_orR (by
      have := src_list (K := K) h (sq_of h2)
      rw [List.length_map] at this
      exact Src.own this fun b z => by rw [z])
theorem wp_oneAny {B : Nat} (h0 : σ[i]? = some (some (.ref fa))) (h : Ev te σ H v) (hs : Sgn H fa v s) (G : GF fa B H) (hn : s ≠ []) (hl : s.length ≤ 16777216) (k : ∀ c H', c ∈ s → Rf fa 1 H H' → Q (T [c]) H') (hB : 1 ≤ B := by omega) : tCall (sp_one K) [] E0 (tCons (tVar i) (tCons te tNil)) σ H Q := by
  rcases hs with rfl | ⟨p, rfl, h2, h3⟩
  · exact wp_oneT h0 h G hn hl k hB
  · refine wp_oneS h0 h (.inl (sq_of h2)) h3 G (fun z => hn (List.map_eq_nil_iff.mp z)) (by rw [List.length_map]; exact hl) (fun v H' hv R => ?_) hB
    obtain ⟨c, hc, rfl⟩ := List.mem_map.mp hv
    exact k c H' hc R
end
end Ws
set_option Elab.async false
set_option linter.all false
set_option maxRecDepth 100000
set_option maxHeartbeats 2000000
namespace K24
open PySem PySem.Spec PyProof.Rows L2 Evl Wc Wt Ws
def abcd (c : Nat) : Prop := 97 ≤ c ∧ c ≤ 100
/-- texts of the signs, none longer than m -/
def Wd (m : Nat) (ws : List Tx) : Prop := ∀ t ∈ ws, t.length ≤ m ∧ ∀ c ∈ t, abcd c
structure IsLot (lot : List Tx) : Prop where
  ne : lot ≠ []
  few : lot.length ≤ 12
  wd : Wd 12 lot
  pos : ∀ t ∈ lot, t ≠ []
  asc : lot.Pairwise (· < ·)
theorem pw_lt {xs : List Tx} (h : xs.Pairwise (· ≤ ·)) (d : xs.Nodup) : xs.Pairwise (· < ·) := (h.and d).imp fun ⟨a, b⟩ => by
  rcases List.le_iff_lt_or_eq.mp a with z | z
  · exact z
  · exact absurd z b
section
variable {K : PySem.W.Frag} {fa : Addr} {m : Nat} {H H1 H2 : Hp}
/-- a text's signs, or what lies in a list -/
def Pile (K : PySem.W.Frag) (H : Hp) (fa : Addr) (v : V) (xs : List V) : Prop := (∃ s : Tx, v = T s ∧ xs = s.map fun c => T [c]) ∨ ∃ p, v = .ref p ∧ SqL K H p xs ∧ p ≠ fa
theorem el_pile {σ : L2.St} {te : TE} {v : V} {xs : List V} (h : Ev te σ H v) (hs : Pile K H fa v xs) (hl : xs.length ≤ 1000) : EvL (tCB (rListAny K) (tCons te tNil)) σ H xs := by
  rcases hs with ⟨s, rfl, rfl⟩ | ⟨p, rfl, h2, _⟩
  · rw [List.length_map] at hl
    exact fun H1 e Q q => h H1 e _ fun H2 e2 => .inl ⟨s, rfl, by omega, fun l hl => q l _ (fresh_back e2 hl) (e2.trans (Ex.new hl)) upd_same⟩
  · exact fun H1 e Q q => h H1 e _ fun H2 e2 => .inr ⟨p, _, rfl, .inl (ex_l (e.trans e2) h2), fun l hl => q l _ (fresh_back e2 hl) (e2.trans (Ex.new hl)) upd_same⟩
theorem ev_lenPile {σ : L2.St} {te : TE} {v : V} {xs : List V} (h : Ev te σ H v) (hs : Pile K H fa v xs) (hl : xs.length ≤ 1000) : Ev (tCB (rLenAny K) (tCons te tNil)) σ H (.int (xs.length : Int)) := by
  rcases hs with ⟨s, rfl, rfl⟩ | ⟨p, rfl, h2, _⟩
  · rw [List.length_map] at hl ⊢
    exact fun H1 e Q q => h H1 e _ fun H2 e2 => .inl ⟨s, rfl, by omega, q H2 e2⟩
  · exact fun H1 e Q q => h H1 e _ fun H2 e2 => .inr ⟨p, _, rfl, .inl (ex_l (e.trans e2) h2), q H2 e2⟩
theorem Pile.ex {v : V} {xs : List V} (h : Pile K H fa v xs) (e : Ex H H1) : Pile K H1 fa v xs := h.imp id fun ⟨p, h1, h2, h3⟩ => ⟨p, h1, ex_l e h2, h3⟩
def sp_mixed (K : PySem.W.Frag) : Sp := fun vs H Q _ => ∃ (fa : Addr) (v : V) (xs : List V), vs = [.ref fa, v] ∧ Pile K H fa v xs ∧ xs.length ≤ 1000 ∧ GF fa xs.length H ∧ ∀ q ys H', ys.Perm xs → H q = none → Rf fa xs.length H H' → H' q = some (.lst ys) → Q (.ref q) H'
end
section
variable {P : Program} {w : World} {K : PySem.W.Frag} {mg : Str → Option Value} {base : Heap}
theorem ok__law_mixed {f : Addr} {fd : FuncData} (F : Fun K "_law_mixed" "_law_mixed" st__law_mixed f fd) (M : Md K mg) (C__law_draw : Cal P w K mg base "_law_draw" st__law_draw 1 ["feed", "many"] sp_draw) : FnOk P w K mg base CX0 2 f fd ["feed", "things"] (sp_mixed K) := by
  have nd := sc__law_mixed.nd
  refine F.ok sc__law_mixed (fun vs H Q E h => ?_) (fun cdv A outer s H vs Q E hr h => ?_)
  · obtain ⟨_, _, _, rfl, _⟩ := h
    rfl
  · obtain ⟨fa, v, xs, rfl, hp, hl, G, k⟩ := h
    refine ⟨_, (pss_cons (ps_par (i := 2) (j := 3) rfl nd rfl rfl (by decide) rfl rfl (pa_cons (pe_callTy (kcr K (r := rListAny) (call_list_any rfl)) (by rfl) M.n_list boot_list (pa_cons (pv 1) pa_nil)) (pa_cons (pe_lst pa_nil) pa_nil)) (by rfl))
  (pss_cons (ps_for PassesOwn.never rfl (pi_range1 (by rfl) M.n_range (pa_cons (pe_callB (kcr K (r := rLenAny) cr_lenAny) (by rfl) M.n_len boot_len (pa_cons (pv 1) pa_nil)) pa_nil)) (pg_name (i := 4) nd rfl (Or.inl rfl))
  (pss_one (ps_expr (kbm K (pe_bm PySem.F.plainAttrs_list PySem.F.slot_list_append PySem.F.type_list_append mt_append (pv 3) (pa_cons (kbm K (pe_bm PySem.F.plainAttrs_list PySem.F.slot_list_pop PySem.F.type_list_pop mt_popAt (pv 2) (pa_cons (pe_cl C__law_draw hr (pa_cons (pv 0) (pa_cons (pe_callB (kcr K (r := rLenS) call_len_seq) (by rfl) M.n_len boot_len (pa_cons (pv 2) pa_nil)) pa_nil))) pa_nil))) pa_nil))))))
  (pss_one (ps_ret (pv 3))))), ?_⟩
    refine (el_pile (ev_var rfl) hp hl : EvL _ (start N__law_mixed [.ref fa, v]) H xs) H (Ex.refl _) _ fun pool H1 hpool e1 h1 => ⟨by decide, fun got hgot => ⟨_, _, rfl, ?_⟩⟩
    have npg : pool ≠ got := ne_of_none h1 hgot
    have ngot : H got = none := fresh_back e1 hgot
    have n1 : pool ≠ fa := G.new hpool
    have n2 : got ≠ fa := G.new ngot
    have e2 : Ex H (upd H1 got (.lst [])) := e1.trans (Ex.new hgot)
    have h1' : (upd H1 got (.lst [])) pool = some (.lst xs) := by rw [upd_ne npg]; exact h1
    have h2' : (upd H1 got (.lst [])) got = some (.lst []) := upd_same
    generalize upd H1 got (.lst []) = H2 at e2 h1' h2'
    show tSeq _ _ _ [some (.ref fa), some v, some (.ref pool), some (.ref got), none] H2
    refine q_forW (fun c => c = fa ∨ c = pool ∨ c = got) (src_range1 (n := xs.length) (ea_cons (ev_lenPile (ev_var rfl) (hp.ex e2) hl) ea_nil) (by omega)) ?_
      (fun Hs i σ' H' => ∃ (ys zs : List V) (v4 : Option V), σ' = [some (.ref fa), some v, some (.ref pool), some (.ref got), v4] ∧ Exc (fun c => c = fa ∨ c = pool ∨ c = got) Hs H' ∧ Rf fa i H H' ∧ H' pool = some (.lst ys) ∧ H' got = some (.lst zs) ∧ zs.length = i ∧ (zs ++ ys).Perm xs) ?_ ?_ ?_ ?_ ?_
    · rintro c (rfl | rfl | rfl)
      · exact ⟨(G.ex e2).is, fun z => z⟩
      · exact ⟨by rw [h1']; exact fun z => (nomatch z), fun z => z⟩
      · exact ⟨by rw [h2']; exact fun z => (nomatch z), fun z => z⟩
    · intro Hs e
      exact ⟨xs, [], none, rfl, Exc.refl _, Rf.of_ex (e2.trans e), e _ _ h1', e _ _ h2', rfl, List.Perm.refl _⟩
    · rintro Hs i σ' H' ⟨_, _, _, _, h, _⟩
      exact h
    · rintro Hs i σ' Ha Hb ⟨ys, zs, v4, h0, h3, h4, h5, h6, h7⟩ e
      exact ⟨ys, zs, v4, h0, h3.then e, h4.then e, e _ _ h5, e _ _ h6, h7⟩
    · rintro Hs i x σ' H' e hi ⟨ys, zs, v4, rfl, h3, h4, h5, h6, h7, h8⟩ rfl
      have hly := h8.length_eq
      rw [List.length_append] at hly
      show tDrop _ _ [some (.ref fa), some v, some (.ref pool), some (.ref got), some (.int (i : Int))] H'
      refine ⟨.ref got, rfl, .inl ⟨rfl, zs, sq_of h6⟩, .ref pool, rfl, .inl ⟨rfl, ys, sq_of h5⟩, ?_⟩
      refine wp_draw (many := (ys.length : Int)) rfl (ev_len (ev_var rfl) (sq_of h5)) (G.go h4 (m' := 1) (by omega)) (by omega) (by omega) fun d H3 hd R3 => ?_
      have hd' : d < ys.length := by omega
      have h53 := R3.at_ h5 n1
      refine ⟨pool, ys, (d : Int), d, ys[d], rfl, rfl, h53, by omega, by omega, seqIx_nat hd', List.getElem?_eq_getElem hd', ?_⟩
      · have h63 := R3.at_ h6 n2
        refine ⟨got, zs, ys[d], rfl, rfl, by rw [upd_ne (Ne.symm npg)]; exact h63, sz_lt (by omega), ?_⟩
        have hpm : (ys[d] :: ys.eraseIdx d).Perm ys := erase_perm hd'
        refine ⟨ys.eraseIdx d, zs ++ [ys[d]], _, rfl, ?_, ?_, by rw [upd_ne npg, upd_same], upd_same, by simp [h7], ?_⟩
        · exact ((h3.trans (fun b o nb hb => R3.keep b o (fun z => nb (.inl z)) hb)).upd (.inl (.inr (.inl rfl)))).upd (.inl (.inr (.inr rfl)))
        · exact ((h4.trans R3).upd (fresh_back (Ex.refl H) hpool) G.is).upd ngot G.is
        · refine List.Perm.trans ?_ h8
          rw [List.append_assoc]
          exact List.Perm.append_left zs hpm
    · rintro Hs σ' H' e ⟨ys, zs, v4, rfl, h3, h4, h5, h6, h7, h8⟩
      have hly := h8.length_eq
      rw [List.length_append] at hly
      have hy : ys = [] := List.length_eq_zero_iff.mp (by omega)
      subst hy
      rw [List.append_nil] at h8
      exact s_ret (ev_var rfl) fun H3 e3 => k got zs H3 h8 ngot (h4.then e3) (e3 _ _ h6)
end
end K24
set_option Elab.async false
set_option linter.all false
set_option maxRecDepth 100000
set_option maxHeartbeats 4000000
/-! rests: what comes of ends of words by words; lists and dicts of texts -/
namespace Wr
open PySem PySem.Spec PyProof.Rows L2 Evl Wc Wt Wg Ws Wd
/-- what comes of the rest r by the word w -/
def behO (r w : Tx) : List Tx := if w.take r.length = r then [w.drop r.length] else if r.take w.length = w then [r.drop w.length] else []
def behT (lot : List Tx) (r : Tx) : List Tx := lot.flatMap (behO r)
/-- a first rest -/
def Fst (lot : List Tx) (x : Tx) : Prop := ∃ w ∈ lot, ∃ o ∈ lot, w ≠ o ∧ w.take o.length = o ∧ x = w.drop o.length
/-- what comes of those of F, by words -/
inductive Rch (lot : List Tx) (F : Tx → Prop) : Tx → Prop
  | base {x : Tx} : F x → Rch lot F x
  | step {r x : Tx} : Rch lot F r → r ≠ [] → x ∈ behT lot r → Rch lot F x
theorem Rch.mono {lot : List Tx} {F G : Tx → Prop} (h : ∀ x, F x → Rch lot G x) {x : Tx} (hx : Rch lot F x) : Rch lot G x := by
  induction hx with
  | base f => exact h _ f
  | step _ hn hb ih => exact .step ih hn hb
/-- the ends of words -/
def sufs (lot : List Tx) : List Tx := lot.flatMap fun w => (List.range (w.length + 1)).map fun n => w.drop n
theorem mem_sufs {lot : List Tx} {x : Tx} : x ∈ sufs lot ↔ ∃ w ∈ lot, ∃ n, x = w.drop n := by
  unfold sufs
  rw [List.mem_flatMap]
  constructor
  · rintro ⟨w, hw, hx⟩
    obtain ⟨n, _, rfl⟩ := List.mem_map.mp hx
    exact ⟨w, hw, n, rfl⟩
  · rintro ⟨w, hw, n, rfl⟩
    refine ⟨w, hw, List.mem_map.mpr ?_⟩
    by_cases hn : n ≤ w.length
    · exact ⟨n, List.mem_range.mpr (by omega), rfl⟩
    · exact ⟨w.length, List.mem_range.mpr (by omega), by rw [List.drop_length, List.drop_eq_nil_of_le (by omega)]⟩
theorem sufs_len {m : Nat} : ∀ {lot : List Tx}, (∀ w ∈ lot, w.length ≤ m) → (sufs lot).length ≤ lot.length * (m + 1)
  | [], _ => Nat.zero_le _
  | w :: lot, h => by
    have h1 := sufs_len (lot := lot) fun x hx => h x (List.mem_cons_of_mem _ hx)
    have h2 := h w List.mem_cons_self
    have e : sufs (w :: lot) = ((List.range (w.length + 1)).map fun n => w.drop n) ++ sufs lot := rfl
    rw [e, List.length_append, List.length_map, List.length_range, List.length_cons, Nat.succ_mul]
    omega
theorem beh_sufs {lot : List Tx} {r x : Tx} (hr : r ∈ sufs lot) (h : x ∈ behT lot r) : x ∈ sufs lot := by
  obtain ⟨w, hw, hx⟩ := List.mem_flatMap.mp h
  unfold behO at hx
  by_cases h1 : w.take r.length = r
  · rw [if_pos h1] at hx
    rw [List.mem_singleton.mp hx]
    exact mem_sufs.mpr ⟨w, hw, _, rfl⟩
  · rw [if_neg h1] at hx
    by_cases h2 : r.take w.length = w
    · rw [if_pos h2] at hx
      rw [List.mem_singleton.mp hx]
      obtain ⟨v, hv, n, rfl⟩ := mem_sufs.mp hr
      exact mem_sufs.mpr ⟨v, hv, n + w.length, by rw [List.drop_drop]⟩
    · rw [if_neg h2] at hx
      cases hx
theorem Rch.sufs {lot : List Tx} {F : Tx → Prop} (hF : ∀ x, F x → x ∈ sufs lot) {x : Tx} (h : Rch lot F x) : x ∈ sufs lot := by
  induction h with
  | base f => exact hF _ f
  | step _ _ hb ih => exact beh_sufs ih hb
theorem fst_sufs {lot : List Tx} {x : Tx} (h : Fst lot x) : x ∈ sufs lot := by
  obtain ⟨w, hw, o, _, _, _, rfl⟩ := h
  exact mem_sufs.mpr ⟨w, hw, _, rfl⟩
theorem fst_ne {lot : List Tx} {x : Tx} (h : Fst lot x) : x ≠ [] := by
  obtain ⟨w, hw, o, _, hn, ht, rfl⟩ := h
  intro z
  refine hn ?_
  have h1 : w.take o.length = w := List.take_of_length_le (List.drop_eq_nil_iff.mp z)
  rw [h1] at ht
  exact ht
theorem suf_le {lot : List Tx} {m : Nat} (h : ∀ w ∈ lot, w.length ≤ m) {x : Tx} (hx : x ∈ sufs lot) : x.length ≤ m := by
  obtain ⟨w, hw, n, rfl⟩ := mem_sufs.mp hx
  have := h w hw
  rw [List.length_drop]
  omega
theorem suf_sign {lot : List Tx} {p : Nat → Prop} (h : ∀ w ∈ lot, ∀ c ∈ w, p c) {x : Tx} (hx : x ∈ sufs lot) : ∀ c ∈ x, p c := by
  obtain ⟨w, hw, n, rfl⟩ := mem_sufs.mp hx
  exact fun c hc => h w hw c (List.mem_of_mem_drop hc)
theorem len_sub : ∀ {ks l : List Tx}, ks.Nodup → (∀ x ∈ ks, x ∈ l) → ks.length ≤ l.length
  | [], _, _, _ => Nat.zero_le _
  | x :: ks, l, hn, hs => by
    have hx := hs x List.mem_cons_self
    have h1 := len_sub (ks := ks) (l := l.erase x) (List.nodup_cons.mp hn).2 fun y hy => (List.mem_erase_of_ne (fun z => (List.nodup_cons.mp hn).1 (by rw [← z]; exact hy))).mpr (hs y (List.mem_cons_of_mem _ hy))
    rw [List.length_erase_of_mem hx] at h1
    have := List.length_pos_of_mem hx
    rw [List.length_cons]
    omega
/-- while rests are found: ks met, wk on the pile -/
structure MetX (lot : List Tx) (F : Tx → Prop) (ks wk : List Tx) : Prop where
  nd : ks.Nodup
  reach : ∀ x ∈ ks, Rch lot F x
  has : ∀ x, F x → x ∈ ks
  wk : ∀ x ∈ wk, x ∈ ks
theorem MetX.few {lot : List Tx} {F : Tx → Prop} {ks wk : List Tx} (h : MetX lot F ks wk) (hF : ∀ x, F x → x ∈ sufs lot) : ks.length ≤ (sufs lot).length := len_sub h.nd fun x hx => (h.reach x hx).sufs hF
def ClosedX (lot ks : List Tx) (r : Tx) : Prop := ∀ x ∈ behT lot r, x ∈ ks
theorem met_all {lot : List Tx} {F : Tx → Prop} {ks : List Tx} (h : MetX lot F ks []) (hc : ∀ x ∈ ks, x ≠ [] → ClosedX lot ks x) (x : Tx) : x ∈ ks ↔ Rch lot F x := by
  refine ⟨h.reach x, fun z => ?_⟩
  induction z with
  | base z => exact h.has _ z
  | step _ hn hb ih => exact hc _ ih hn _ hb
theorem addT_keep {ks : List Tx} {n m : Tx} (h : m ∈ ks) : m ∈ addT ks n := mem_addT.mpr (.inl h)
/-- one more rest y is met, behind r; it goes on the pile or not -/
theorem MetX.add {lot : List Tx} {F : Tx → Prop} {ks wk wk' : List Tx} {r y : Tx} (h : MetX lot F ks wk) (hr : r ∈ ks) (hrn : r ≠ []) (hy : y ∈ behT lot r) (hw : ∀ x ∈ wk', x ∈ wk ∨ x = y) : MetX lot F (addT ks y) wk' := ⟨addT_nodup h.nd, fun m hm => by
    rcases mem_addT.mp hm with z | z
    · exact h.reach m z
    · rw [z]; exact .step (h.reach r hr) hrn hy, fun m hm => addT_keep (h.has m hm), fun m hm => (hw m hm).elim (fun z => addT_keep (h.wk m z)) fun z => mem_addT.mpr (.inr z)⟩
/-! ### lists of texts in the heap -/
theorem sh_T {c : List Tx} (h : ∀ t ∈ c, LowT t) : SeqAt.shaped (.list (c.map dT)) = true := shaped_list (m := 0) (fun x hx => lay_T (h x hx)) (fun _ _ => Nat.le_refl _) (by decide)
section
variable {K : PySem.W.Frag} {σ : L2.St} {H : Hp} {ta : TE}
theorem dp_T {p : Addr} {c : List Tx} (h : H p = some (.lst (c.map T))) : Dp K H (.ref p) (.list (c.map dT)) := dp_list (sq_of h) fun _ _ => .str _
theorem et_eqNilT {p : Addr} {c : List Tx} (h : H p = some (.lst (c.map T))) (hl : ∀ t ∈ c, LowT t) (hv : Ev ta σ H (.ref p)) : EvT (tTest (tOp (rEqD K) ta (tLst tNil))) σ H (decide (c = [])) := fun H2 e2 Q q => by
  refine hv H2 e2 _ fun H3 e3 => ⟨Nat.zero_le _, fun r hr => ?_⟩
  have e4 := Ex.new (o := HO.lst []) hr
  refine ⟨_, .list [], dp_T (((e2.trans e3).trans e4) _ _ h), .lst (sq_of upd_same) .nil, sh_T hl, rfl, decide (c = []), ?_, q _ (e3.trans e4)⟩
  cases c <;> rfl
theorem et_neNilT {p : Addr} {c : List Tx} (h : H p = some (.lst (c.map T))) (hl : ∀ t ∈ c, LowT t) (hv : Ev ta σ H (.ref p)) : EvT (tTest (tOp (rNeD K) ta (tLst tNil))) σ H (!decide (c = [])) := fun H2 e2 Q q => by
  refine hv H2 e2 _ fun H3 e3 => ⟨Nat.zero_le _, fun r hr => ?_⟩
  have e4 := Ex.new (o := HO.lst []) hr
  refine rv_neD (b := decide (c = [])) (fun H5 e5 => dp_T (e5 _ _ (((e2.trans e3).trans e4) _ _ h))) (fun H5 e5 => .lst (sq_of (e5 _ _ upd_same)) .nil) (sh_T hl) (by decide) ?_ _ (Ex.refl _) _ fun H5 e5 => ⟨_, rfl, q _ ((e3.trans e4).trans e5)⟩
  cases c <;> rfl
theorem last_T (c : List Tx) (n : Tx) : ((c ++ [n]).map T)[((c ++ [n]).map T).length - 1]? = some (T n) := by
  rw [List.length_map, List.length_append, List.getElem?_map]
  simp
theorem wp_popT {i : Nat} {pw : Addr} {c : List Tx} {n : Tx} {Q : VK} (h0 : σ[i]? = some (some (.ref pw))) (h : H pw = some (.lst ((c ++ [n]).map T))) (k : Q (T n) (upd H pw (.lst (c.map T)))) : tBM0 K "list" rPop (tVar i) σ H Q := by
  refine ⟨.ref pw, h0, Or.inl ⟨rfl, _, sq_of h⟩, pw, _, T n, rfl, rfl, h, last_T c n, ?_⟩
  have e : ((c ++ [n]).map T).dropLast = c.map T := by rw [List.map_append]; exact List.dropLast_concat
  rw [e]
  exact k
theorem q_popT {i a : Nat} {pw : Addr} {c : List Tx} {n : Tx} {D : Ends} {tz : TS} (h0 : σ[i]? = some (some (.ref pw))) (h : H pw = some (.lst ((c ++ [n]).map T))) (k : tz D (σ.set a (some (T n))) (upd H pw (.lst (c.map T)))) : tSeq (tAsg (tBM0 K "list" rPop (tVar i)) (gName a)) tz D σ H := wp_popT (Q := fun v H1 => tz D (σ.set a (some v)) H1) h0 h k
theorem pairedX {H : Hp} : ∀ {ps : List Addr} {ns : List Tx}, ps.length = ns.length → (∀ (i : Nat) (p : Addr) (n : Tx), ps[i]? = some p → ns[i]? = some n → H p = some (.tup [T n, .bl true])) → Paired (fun p (kv : Key × V) => SqT K H p [kV kv.1, kv.2]) ps (DX ns)
  | [], [], _, _ => .nil
  | p :: ps, n :: ns, hl, h => .cons (st_of (h 0 p n rfl rfl)) (pairedX (by simpa using hl) fun i p' n' h1 h2 => h (i + 1) p' n' (by simpa using h1) (by simpa using h2))
/-- x = {t: True for t in ns} -/
theorem q_dcX {wi : TI} {i j : Nat} {vs : List Nat} {own : Addr → Prop} {D : Ends} {tz : TS} (ns : List Tx) (hs : Src wi σ H ns.length own (fun i v _ => (ns.map T)[i]? = some v)) (hn : ns.length ≤ 4000) (hw : ∀ x, wipe ((wipe σ vs).set j (some x)) vs = wipe σ vs) (hj : ∀ x, ((wipe σ vs).set j (some x))[j]? = some (some x))
    (k : ∀ d H2, H d = none → Ex H H2 → H2 d = some (.dK (DX (addAllT [] ns))) → tz D (σ.set i (some (.ref d))) H2) : tSeq (tAsg (tDc wi (gName j) tYes (tVar j) (tC (.bl true)) vs) (gName i)) tz D σ H := dc_texts (Q := fun v H1 => tz D (σ.set i (some v)) H1) ns hs hn hw hj k
/-- dict([(t, True) for t in ts]) -/
theorem wp_dictX {i j : Nat} {pp : Addr} {ns : List Tx} {Q : VK} (h0 : σ[i]? = some (some (.ref pp))) (h : H pp = some (.lst (ns.map T))) (hl : ns.length ≤ 4000) (hw : ∀ x, wipe ((wipe σ [j]).set j (some x)) [j] = wipe σ [j]) (hj : ∀ x, ((wipe σ [j]).set j (some x))[j]? = some (some x))
    (k : ∀ d H1, H d = none → Ex H H1 → H1 d = some (.dK (DX (addAllT [] ns))) → Q (.ref d) H1) : tCB (rDictP K) (tCons (tLc (iList K (tVar i)) (gName j) tYes (tTup (tCons (tVar j) (tCons (tC (.bl true)) tNil))) [j]) tNil) σ H Q := by
  have key : tLc (iList K (tVar i)) (gName j) tYes (tTup (tCons (tVar j) (tCons (tC (.bl true)) tNil))) [j] σ H (fun v H1 => rDictP K [v] H1 Q) := by
    refine lcN (n := ns.length) (fun t => .tup [T (ns.getD t []), .bl true]) (src_listM (f := T) (ev_var h0) (sq_of h)) (by omega) hw (fun t x H1 ht hx e1 Q' q' => ?_) fun q H2 ps hq e2 h2 hpl hn hnq => ?_
    · obtain ⟨n, hn, rfl⟩ := at_map hx
      refine ⟨_, hj _, by show 2 ≤ sizeLine; decide, fun p hp => q' p _ hp (Ex.new hp) ?_⟩
      rw [upd_same, List.getD_eq_getElem?_getD, hn]
      rfl
    · refine ⟨q, ps, DX ns, rfl, sq_of h2, pairedX hpl fun i p n h3 h4 => ?_, fun d hd => ?_⟩
      · have := hn.at_ i p h3
        rw [List.getD_eq_getElem?_getD, h4] at this
        exact this
      · have : mergeK [] (DX ns) = DX (addAllT [] ns) := merge_DX ns []
        rw [this]
        exact k d _ (fresh_back e2 hd) (e2.trans (Ex.new hd)) upd_same
  exact key
end
end Wr
set_option Elab.async false
set_option linter.all false
set_option maxRecDepth 100000
set_option maxHeartbeats 2000000
namespace K24
open PySem PySem.Spec PyProof.Rows L2 Evl Wc Wt Wg Ws Wr
section
variable {K : PySem.W.Frag}
/-- texts of some signs, so and so long -/
def Wof (lo n : Nat) (s : Tx) (ws : List Tx) : Prop := ∀ t ∈ ws, lo ≤ t.length ∧ t.length ≤ n ∧ ∀ c ∈ t, c ∈ s
theorem Wof.sub {lo n : Nat} {s : Tx} {ws vs : List Tx} (h : Wof lo n s ws) (hs : ∀ t ∈ vs, t ∈ ws) : Wof lo n s vs := fun t ht => h t (hs t ht)
theorem Wof.app {lo n : Nat} {s : Tx} {ws vs : List Tx} (h : Wof lo n s ws) (h2 : Wof lo n s vs) : Wof lo n s (ws ++ vs) := fun t ht => (List.mem_append.mp ht).elim (h t) (h2 t)
theorem erase_map {α β : Type} (f : α → β) : ∀ (xs : List α) (d : Nat), (xs.map f).eraseIdx d = (xs.eraseIdx d).map f
  | [], _ => rfl
  | _ :: _, 0 => rfl
  | x :: xs, d + 1 => congrArg (f x :: ·) (erase_map f xs d)
theorem q_oneS {fa p : Addr} {B i j : Nat} {D : Ends} {tz : TS} {σ : L2.St} {H : Hp} {te : TE} {xs : List V} (h0 : σ[i]? = some (some (.ref fa))) (h : Ev te σ H (.ref p)) (hS : SqL K H p xs ∨ SqT K H p xs) (hp : p ≠ fa) (G : GF fa B H) (hs : xs ≠ []) (hl : xs.length ≤ 16777216) (k : ∀ v H', v ∈ xs → Rf fa 1 H H' → tz D (σ.set j (some v)) H') (hB : 1 ≤ B := by omega) : tSeq (tAsg (tCall (sp_one K) [] E0 (tCons (tVar i) (tCons te tNil))) (gName j)) tz D σ H := wp_oneS h0 h hS hp G hs hl k hB
def SWp (fa p0 : Addr) (v : V) (long : Nat) (s : Tx) (H H2 Hs : Hp) (i : Nat) (σ' : L2.St) (H' : Hp) : Prop := ∃ (ws : List Tx) (v4 v5 v6 v7 : Option V), σ' = [some (.ref fa), some v, some (.ref p0), some (.int (long : Int)), v4, v5, v6, v7] ∧ Exc (fun c => c = fa ∨ c = p0) Hs H' ∧ Exc (fun c => c = fa ∨ c = p0) H2 H' ∧ Rf fa (10 + 20 * i) H H' ∧ H' p0 = some (.lst (ws.map T)) ∧ ws.length = i ∧ Wof 1 12 s ws
def sp_piece : Sp := fun vs H Q _ => ∃ (fa : Addr) (v : V) (s : Tx) (long : Nat), vs = [.ref fa, v, .int (long : Int)] ∧ Sgn H fa v s ∧ s ≠ [] ∧ s.length ≤ 1000 ∧ 1 ≤ long ∧ long ≤ 500 ∧ GF fa (long + 1) H ∧
  ∀ (t : Tx) H', 1 ≤ t.length → t.length ≤ long → (∀ c ∈ t, c ∈ s) → Rf fa (long + 1) H H' → Q (T t) H'
def sp_tree : Sp := fun vs H Q _ => ∃ (fa : Addr) (v : V) (s : Tx) (most : Nat), vs = [.ref fa, v, .int (most : Int)] ∧ Sgn H fa v s ∧ s ≠ [] ∧ s.length ≤ 4 ∧ most ≤ 12 ∧ GF fa 10 H ∧
  ∀ q ws H', ws ≠ [] → ws.length ≤ 12 → ws.length ≤ max most s.length → Wof 1 12 s ws → H q = none → Rf fa 10 H H' → H' q = some (.lst (ws.map T)) → Q (.ref q) H'
def sp_some_words : Sp := fun vs H Q _ => ∃ (fa : Addr) (v : V) (s : Tx), vs = [.ref fa, v] ∧ Sgn H fa v s ∧ (∀ c ∈ s, abcd c) ∧ s ≠ [] ∧ s.length ≤ 1000 ∧ GF fa 300 H ∧
  ∀ q ws H', ws ≠ [] → ws.length ≤ 12 → Wof 1 12 s ws → H q = none → Rf fa 300 H H' → H' q = some (.lst (ws.map T)) → Q (.ref q) H'
end
section
variable {P : Program} {w : World} {K : PySem.W.Frag} {mg : Str → Option Value} {base : Heap}
theorem ok__law_piece {f : Addr} {fd : FuncData} (F : Fun K "_law_piece" "_law_piece" st__law_piece f fd) (M : Md K mg) (C__law_draw : Cal P w K mg base "_law_draw" st__law_draw 1 ["feed", "many"] sp_draw) (C__law_one : Cal P w K mg base "_law_one" st__law_one 2 ["feed", "things"] (sp_one K)) : FnOk P w K mg base CX0 3 f fd ["feed", "signs", "long"] sp_piece := by
  have nd := sc__law_piece.nd
  refine F.ok sc__law_piece (fun vs H Q E h => ?_) (fun cdv A outer s H vs Q E hr h => ?_)
  · obtain ⟨_, _, _, _, rfl, _⟩ := h
    rfl
  · obtain ⟨fa, v, s, long, rfl, hs, hsn, hsl, hl1, hl2, G, k⟩ := h
    refine ⟨_, (pss_one (ps_ret (kbm K (pe_bm PySem.F.plainAttrs_str PySem.F.slot_str_join PySem.F.type_str_join (kmt K (r := rJoinT) mt_joinT) (pe_sT []) (pa_cons (pe_lc (own := [("turn", 3)]) rfl nd (pi_range1 (by rfl) M.n_range (pa_cons (pe_op op_add pe_int (pe_cl C__law_draw hr (pa_cons (pv 0) (pa_cons (pv 2) pa_nil)))) pa_nil)) (blkOk_by (N := N__law_piece) (sc := defScope st__law_piece) (by decide +kernel)) (fun _ _ _ _ _ => (pg_name (i := 3) nd rfl (Or.inl rfl))) (fun _ _ _ _ _ => pts_nil) (fun _ _ _ _ _ => (pe_cl C__law_one hr (pa_cons (pv 0) (pa_cons (pv 1) pa_nil))))) pa_nil))))), ?_⟩
    refine ⟨rfl, ?_⟩
    refine lcRD (lo := 1) (N := long) (c := 1) (m0 := 1) (GdT (fun c => c ∈ s) 1 1) (dI_wk (dI_add dI_c (dI_draw (lo := long) (hi := long) rfl (dI_var rfl (by omega) (by omega)) (by omega) (by omega)))) (by omega) (G.mono (by omega)) (fun _ => rfl) ?_ _ fun p H2 acc hp R h2 hl3 hl4 hg => ?_
    · intro x n H1 R1 G1 Q' q
      exact wp_oneAny rfl (ev_var rfl) (hs.rf R1) G1 hsn (by omega) fun c H2 hc R2 => q _ H2 ⟨[c], rfl, by simp, by simp, fun c' hc' => by rw [List.mem_singleton.mp hc']; exact hc⟩ R2
    · obtain ⟨ts, rfl, hts⟩ := texts_GdT hg
      rw [List.length_map] at hl3 hl4
      have hsum := sum_le fun t ht => (hts t ht).2.1
      have hlo : ts.length ≤ (ts.map List.length).sum := by
        clear hsum hl3 hl4 hg h2
        induction ts with
        | nil => simp
        | cons t ts ih =>
          have h1 := (hts t List.mem_cons_self).1
          have h2 := ih fun x hx => hts x (List.mem_cons_of_mem _ hx)
          simp only [List.map_cons, List.sum_cons, List.length_cons]
          omega
      refine ⟨[], p, ts, rfl, rfl, .inl (sq_of h2), by simp; omega, ?_⟩
      rw [joinL_nil]
      refine k ts.flatten H2 (by rw [flat_len]; omega) (by rw [flat_len]; omega) (fun c hc => ?_) (R.mono (by omega))
      obtain ⟨t, ht, hct⟩ := List.mem_flatten.mp hc
      exact (hts t ht).2.2 c hct
theorem ok__law_tree {f : Addr} {fd : FuncData} (F : Fun K "_law_tree" "_law_tree" st__law_tree f fd) (M : Md K mg) (C__law_draw : Cal P w K mg base "_law_draw" st__law_draw 1 ["feed", "many"] sp_draw) : FnOk P w K mg base CX0 2 f fd ["feed", "signs", "most"] sp_tree := by
  have nd := sc__law_tree.nd
  refine F.ok sc__law_tree (fun vs H Q E h => ?_) (fun cdv A outer s H vs Q E hr h => ?_)
  · obtain ⟨_, _, _, _, rfl, _⟩ := h
    rfl
  · obtain ⟨fa, v, s, most, rfl, hs, hsn, hs4, hm, G, k⟩ := h
    refine ⟨_, (pss_cons (ps_set (i := 3) nd rfl (Or.inl rfl) (pe_callTy (kcr K (r := rListAny) (call_list_any rfl)) (by rfl) M.n_list boot_list (pa_cons (pv 1) pa_nil)))
  (pss_cons (ps_for PassesOwn.never rfl (pi_range1 (by rfl) M.n_range (pa_cons (pe_cl C__law_draw hr (pa_cons (pv 0) (pa_cons pe_int pa_nil))) pa_nil)) (pg_name (i := 4) nd rfl (Or.inl rfl))
  (pss_cons (ps_set (i := 5) nd rfl (Or.inl rfl) (pe_cl C__law_draw hr (pa_cons (pv 0) (pa_cons (pe_callB (kcr K (r := rLenS) call_len_seq) (by rfl) M.n_len boot_len (pa_cons (pv 3) pa_nil)) pa_nil))))
  (pss_one (ps_if (PW.pt (pw_and (pt_cmpR op_le (pe_op op_sub (pe_op op_add (pe_callB (kcr K (r := rLenS) call_len_seq) (by rfl) M.n_len boot_len (pa_cons (pv 3) pa_nil)) (pe_callB (kcr K (r := rLenAny) cr_lenAny) (by rfl) M.n_len boot_len (pa_cons (pv 1) pa_nil))) pe_int) (pv 2) (nomark _)) (pw_and1 (pt_cmpR op_lt (pe_callB cr_lenT (by rfl) M.n_len boot_len (pa_cons (pe_ix (kix K (r := L2.rIxL) ix_list) (pv 3) (pv 5) (fun _ _ => rfl)) pa_nil)) pe_int (nomark _)))))
  (pss_cons (ps_set (i := 6) nd rfl (Or.inr rfl) (kbm K (pe_bm PySem.F.plainAttrs_list PySem.F.slot_list_pop PySem.F.type_list_pop mt_popAt (pv 3) (pa_cons (pv 5) pa_nil))))
  (pss_one (ps_expr (kbm K (pe_bm PySem.F.plainAttrs_list PySem.F.slot_list_extend PySem.F.type_list_extend mt_extend (pv 3) (pa_cons (pe_lc (own := [("sign", 7)]) rfl nd (pi_any (K := K) (pv 1)) (blkOk_by (N := N__law_tree) (sc := defScope st__law_tree) (by decide +kernel)) (fun _ _ _ _ _ => (pg_name (i := 7) nd rfl (Or.inl rfl))) (fun _ _ _ _ _ => pts_nil) (fun _ _ _ _ _ => (pe_op op_addT (pv 6) (pv 7)))) pa_nil))))))
  pss_nil))))
  (pss_one (ps_ret (pv 3))))), ?_⟩
    have hs0 : 0 < s.length := List.length_pos_iff.mpr hsn
    refine q_asgL (el_listAny (ev_var rfl) hs (by omega)) fun p0 H1 hp0 e1 h1 => ?_
    have n0 : p0 ≠ fa := G.new hp0
    show tSeq _ _ _ [some (.ref fa), some v, some (.int (most : Int)), some (.ref p0), none, none, none, none] H1
    refine q_forD (a := 0) (b := 6) (dI_draw (lo := 7) (hi := 7) rfl dI_c) (G.ex e1) (fun nn H2 hn1 hn2 R2 => ?_)
    obtain ⟨n, rfl⟩ := Int.eq_ofNat_of_zero_le hn1
    have h1 : H1 p0 = some (.lst ((s.map fun c => [c]).map T)) := by rw [h1, List.map_map]; rfl
    have h2 := R2.at_ h1 n0
    have hs2 : Sgn H2 fa v s := (hs.ex e1).rf R2
    have RA : Rf fa 1 H H2 := (Rf.pre e1 R2).mono (by omega)
    have fr : ∀ {B : Hp} , Exc (fun c => c = fa ∨ c = p0) H2 B → Sgn B fa v s := fun {B} z => by
      rcases hs with h | ⟨p, h3, h4, h5⟩
      · exact .inl h
      · refine .inr ⟨p, h3, z p _ (fun y => ?_) (RA.at_ h4 h5), h5⟩
        rcases y with y | y
        · exact h5 y
        · rw [y, hp0] at h4
          cases h4
    refine q_forW (fun c => c = fa ∨ c = p0) (src_range1 (n := n) (fun H3 e3 Q3 q => q H3 (Ex.refl _)) (by omega)) ?_
      (fun Hs i σ' H' => ∃ (ws : List Tx) (v4 v5 v6 : Option V), σ' = [some (.ref fa), some v, some (.int (most : Int)), some (.ref p0), v4, v5, v6, none] ∧ Exc (fun c => c = fa ∨ c = p0) Hs H' ∧ Exc (fun c => c = fa ∨ c = p0) H2 H' ∧ Rf fa (1 + i) H H' ∧ H' p0 = some (.lst (ws.map T)) ∧ ws ≠ [] ∧ ws.length ≤ max most s.length ∧ Wof 1 12 s ws) ?_ ?_ ?_ ?_ ?_
    · rintro c (rfl | rfl)
      · exact ⟨(G.go RA (m' := 0) (by omega)).is, fun z => z⟩
      · exact ⟨by rw [h2]; exact fun z => (nomatch z), fun z => z⟩
    · intro Hs e
      exact ⟨s.map fun c => [c], none, none, none, rfl, Exc.refl _, Exc.of e, (RA.then e).mono (by omega), e _ _ h2, fun z => hsn (List.map_eq_nil_iff.mp z), by rw [List.length_map]; omega, fun t ht => by
        obtain ⟨c, hc, rfl⟩ := List.mem_map.mp ht
        exact ⟨by simp, by simp, fun c' hc' => by rw [List.mem_singleton.mp hc']; exact hc⟩⟩
    · rintro Hs i σ' H' ⟨_, _, _, _, _, h, _⟩
      exact h
    · rintro Hs i σ' Ha Hb ⟨ws, v4, v5, v6, h0, h3, h3', h4, h5, h6⟩ e
      exact ⟨ws, v4, v5, v6, h0, h3.then e, h3'.then e, h4.then e, e _ _ h5, h6⟩
    · rintro Hs i x σ' H' e hi ⟨ws, v4, v5, v6, rfl, h3, h3', h4, h5, h6, h7, h8⟩ rfl
      have hpos : 0 < ws.length := List.length_pos_iff.mpr h6
      have hmx : max most s.length ≤ 12 := by omega
      have hlen : ∀ {σ : L2.St} {H' : Hp}, σ[3]? = some (some (.ref p0)) → H' p0 = some (.lst (ws.map T)) → Ev (tCB (rLenS K) (tCons (tVar 3) tNil)) σ H' (.int (ws.length : Int)) := fun h0 hh => ev_is (ev_len (ev_var h0) (sq_of hh)) (by rw [List.length_map])
      show tSeq _ _ _ [some (.ref fa), some v, some (.int (most : Int)), some (.ref p0), some (.int (i : Int)), v5, v6, none] H'
      refine wp_draw (many := (ws.length : Int)) rfl (hlen rfl h5) (G.go h4 (m' := 1) (by omega)) (by omega) (by omega) fun d H3 hd R3 => ?_
      have hd' : d < ws.length := by omega
      have h53 := R3.at_ h5 n0
      have h43 : Rf fa (1 + (i + 1)) H H3 := (h4.trans R3).mono (by omega)
      have hex : Exc (fun c => c = fa ∨ c = p0) Hs H3 := h3.trans (R3.keep.mono fun b hb => .inl hb)
      have hex' : Exc (fun c => c = fa ∨ c = p0) H2 H3 := h3'.trans (R3.keep.mono fun b hb => .inl hb)
      have hw := h8 ws[d] (List.getElem_mem hd')
      have hix : ∀ {σ : L2.St} {H' : Hp}, σ[3]? = some (some (.ref p0)) → σ[5]? = some (some (.int (d : Int))) → H' p0 = some (.lst (ws.map T)) → Ev (tOp (L2.rIxL K) (tVar 3) (tVar 5)) σ H' (T ws[d]) := fun h0 h1 hh => ev_op (ev_var h0) (ev_var h1) (rv_ixL (sq_of hh) (atI_nat (by rw [List.getElem?_map, List.getElem?_eq_getElem hd']; rfl)))
      refine s_when (σ := [some (.ref fa), some v, some (.int (most : Int)), some (.ref p0), some (.int (i : Int)), some (.int (d : Int)), v6, none]) (et_and (et_test (ev_op (ev_op (ev_op (hlen rfl h53) (ev_lenAny (ev_var rfl) (fr hex') (by omega)) rv_I0) ev_c rv_I0) (ev_var rfl) rv_I0)) fun _ => et_test (ev_op (ev_cb (ea_cons (hix rfl rfl h53) ea_nil) (rc_lenT (by omega))) ev_c rv_I0)) (fun hb H4 e4 => ?_) (fun hb H4 e4 => ?_)
      · rw [Bool.and_eq_true, decide_eq_true_eq, decide_eq_true_eq] at hb
        have h54 := e4 _ _ h53
        refine ⟨.ref p0, rfl, .inl ⟨rfl, _, sq_of h54⟩, .int (d : Int), rfl, p0, ws.map T, (d : Int), d, T ws[d], rfl, rfl, h54, by omega, by omega, seqIx_nat (by rw [List.length_map]; exact hd'), by rw [List.getElem?_map, List.getElem?_eq_getElem hd']; rfl, ?_⟩
        have h55 : (upd H4 p0 (.lst ((ws.map T).eraseIdx d))) p0 = some (.lst ((ws.eraseIdx d).map T)) := by rw [upd_same, erase_map]
        have hs5 : Sgn (upd H4 p0 (.lst ((ws.map T).eraseIdx d))) fa v s := fr ((hex'.then e4).upd (.inl (.inr rfl)))
        have R5 : Rf fa (1 + (i + 1)) H (upd H4 p0 (.lst ((ws.map T).eraseIdx d))) := (h43.then e4).upd hp0 G.is
        have x5 : Exc (fun c => c = fa ∨ c = p0) Hs (upd H4 p0 (.lst ((ws.map T).eraseIdx d))) := (hex.then e4).upd (.inl (.inr rfl))
        have x5' : Exc (fun c => c = fa ∨ c = p0) H2 (upd H4 p0 (.lst ((ws.map T).eraseIdx d))) := (hex'.then e4).upd (.inl (.inr rfl))
        generalize upd H4 p0 (.lst ((ws.map T).eraseIdx d)) = H5 at h55 hs5 R5 x5 x5' ⊢
        have hel : (ws.eraseIdx d).length = ws.length - 1 := by rw [List.length_eraseIdx]; simp [hd']
        refine s_ext (σ := [some (.ref fa), some v, some (.int (most : Int)), some (.ref p0), some (.int (i : Int)), some (.int (d : Int)), some (T ws[d]), none]) (xs := (ws.eraseIdx d).map T) (ys := (s.map fun c => ws[d] ++ [c]).map T) h55 (ev_var (i := 3) rfl) ?_ (by simp; omega) fun H6 e6 => ?_
        · rw [List.map_map]
          exact el_lcM (j := 7) (vs := [7]) (f := fun c => T [c]) s (src_any (ev_var rfl) hs5 (by omega)) (by omega) (fun _ => rfl) fun c H6 e6 hc => ev_op (ev_var rfl) (ev_var rfl) (rv_addT (by show _ + 1 ≤ _; omega))
        · refine ⟨ws.eraseIdx d ++ s.map fun c => ws[d] ++ [c], _, _, _, rfl, (x5.then e6).upd (.inl (.inr rfl)), (x5'.then e6).upd (.inl (.inr rfl)), (R5.then e6).upd hp0 G.is, by rw [upd_same, List.map_append], fun z => ?_, ?_, (h8.sub fun t ht => List.mem_of_mem_eraseIdx ht).app fun t ht => ?_⟩
          · exact hsn (List.map_eq_nil_iff.mp (List.append_eq_nil_iff.mp z).2)
          · rw [List.length_append, List.length_map, hel]
            have h9 := hb.1
            refine Nat.le_trans ?_ (Nat.le_max_left _ _)
            omega
          · obtain ⟨c, hc, rfl⟩ := List.mem_map.mp ht
            refine ⟨by simp, by rw [List.length_append]; show _ + 1 ≤ 12; omega, fun c' hc' => ?_⟩
            rcases List.mem_append.mp hc' with z | z
            · exact hw.2.2 c' z
            · rw [List.mem_singleton.mp z]
              exact hc
      · exact ⟨ws, _, _, _, rfl, hex.then e4, hex'.then e4, h43.then e4, e4 _ _ h53, h6, h7, h8⟩
    · rintro Hs σ' H' e ⟨ws, v4, v5, v6, rfl, h3, h3', h4, h5, h6, h7, h8⟩
      exact s_ret (ev_var rfl) fun H3 e3 => k p0 ws H3 h6 (by omega) h7 h8 hp0 ((h4.then e3).mono (by omega)) (e3 _ _ h5)
theorem ok__law_some_words {f : Addr} {fd : FuncData} (F : Fun K "_law_some_words" "_law_some_words" st__law_some_words f fd) (M : Md K mg) (C__law_draw : Cal P w K mg base "_law_draw" st__law_draw 1 ["feed", "many"] sp_draw) (C__law_one : Cal P w K mg base "_law_one" st__law_one 2 ["feed", "things"] (sp_one K)) (C__law_piece : Cal P w K mg base "_law_piece" st__law_piece 3 ["feed", "signs", "long"] sp_piece) : FnOk P w K mg base CX0 4 f fd ["feed", "signs"] sp_some_words := by
  have nd := sc__law_some_words.nd
  refine F.ok sc__law_some_words (fun vs H Q E h => ?_) (fun cdv A outer s H vs Q E hr h => ?_)
  · obtain ⟨_, _, _, rfl, _⟩ := h
    rfl
  · obtain ⟨fa, v, s, rfl, hs, hsc, hsn, hsl, G, k⟩ := h
    refine ⟨_, (pss_cons (ps_par (i := 2) (j := 3) rfl nd rfl rfl (by decide) rfl rfl (pa_cons (pe_lst pa_nil) (pa_cons (pe_cl C__law_one hr (pa_cons (pv 0) (pa_cons (pe_lst (pa_cons pe_int (pa_cons pe_int (pa_cons pe_int (pa_cons pe_int (pa_cons pe_int (pa_cons pe_int pa_nil))))))) pa_nil))) pa_nil)) (by rfl))
  (pss_cons (ps_for PassesOwn.never rfl (pi_range1 (by rfl) M.n_range (pa_cons (pe_op op_add pe_int (pe_cl C__law_draw hr (pa_cons (pv 0) (pa_cons (pe_cl C__law_one hr (pa_cons (pv 0) (pa_cons (pe_lst (pa_cons pe_int (pa_cons pe_int (pa_cons pe_int pa_nil)))) pa_nil))) pa_nil)))) pa_nil)) (pg_name (i := 4) nd rfl (Or.inl rfl))
  (pss_cons (ps_set (i := 5) nd rfl (Or.inl rfl) (pe_cl C__law_piece hr (pa_cons (pv 0) (pa_cons (pv 1) (pa_cons (pv 3) pa_nil)))))
  (pss_cons (ps_set (i := 6) nd rfl (Or.inl rfl) (pe_cl C__law_draw hr (pa_cons (pv 0) (pa_cons pe_int pa_nil))))
  (pss_cons (ps_if (PW.pt (pw_and (pt_cmpR (kop K (r := rNeD) (op_neD hr.units)) (pv 2) (pe_lst pa_nil) (nomark _)) (pw_and1 (pt_cmpR op_lt (pv 6) pe_int (nomark _)))))
  (pss_cons (ps_set (i := 7) nd rfl (Or.inl rfl) (pe_cl C__law_one hr (pa_cons (pv 0) (pa_cons (pv 2) pa_nil))))
  (pss_one (ps_set (i := 5) nd rfl (Or.inl rfl) (pe_ifExp (pt_cmpR op_eqI (pv 6) pe_int (nomark _)) (pe_slice sl_T (pe_op op_addT (pv 7) (pv 5)) po_none (po_some pe_int)) (pe_slice sl_T (pe_op op_addT (pv 5) (pv 7)) (po_some (pe_un un_neg pe_int)) po_none)))))
  pss_nil)
  (pss_one (ps_expr (kbm K (pe_bm PySem.F.plainAttrs_list PySem.F.slot_list_append PySem.F.type_list_append mt_append (pv 2) (pa_cons (pv 5) pa_nil)))))))))
  (pss_one (ps_ret (pv 2))))), ?_⟩
    refine ⟨by show 0 ≤ sizeLine; decide, fun p0 hp0 => (dI_oneL (ns := [2, 3, 3, 4, 6, 12]) (lo := 2) (hi := 12) rfl (fun H => el_lst (ea_cons ev_c (ea_cons ev_c (ea_cons ev_c (ea_cons ev_c (ea_cons ev_c (ea_cons ev_c ea_nil)))))) (by show 6 ≤ 100000; decide)) (by decide) (by simp) (by decide) : Dw fa (start N__law_some_words [.ref fa, v]) 1 _ _) _ ((G.ex (Ex.new hp0)).mono (by omega)) _ fun v2 H1 ⟨long, hv2, hl1, hl2⟩ R1 => ⟨_, _, rfl, ?_⟩⟩
    subst hv2
    obtain ⟨long, rfl⟩ := Int.eq_ofNat_of_zero_le (show 0 ≤ long by omega)
    have n0 : p0 ≠ fa := G.new hp0
    have h1 := R1.at_ (upd_same : (upd H p0 (.lst [])) p0 = some (.lst [])) n0
    have RA : Rf fa 1 H H1 := (Rf.pre (Ex.new hp0) R1).mono (by omega)
    show tSeq _ _ _ [some (.ref fa), some v, some (.ref p0), some (.int (long : Int)), none, none, none, none] H1
    refine q_forD (a := 1) (b := 12) (dI_wk (dI_add dI_c (dI_draw (lo := 3) (hi := 12) rfl (dI_oneL (ns := [3, 5, 12]) (lo := 3) (hi := 12) rfl (fun H => el_lst (ea_cons ev_c (ea_cons ev_c (ea_cons ev_c ea_nil))) (by show 3 ≤ 100000; decide)) (by decide) (by simp) (by decide))))) (G.go RA (m' := 299) (by omega)) fun nn H2 hn1 hn2 R2 => ?_
    obtain ⟨n, rfl⟩ := Int.eq_ofNat_of_zero_le (show 0 ≤ nn by omega)
    have h2 := R2.at_ h1 n0
    have RB : Rf fa 10 H H2 := (RA.trans R2).mono (by omega)
    have fr : ∀ {B : Hp} , Exc (fun c => c = fa ∨ c = p0) H2 B → Sgn B fa v s := fun {B} z => by
      rcases hs with h | ⟨p, h3, h4, h5⟩
      · exact .inl h
      · refine .inr ⟨p, h3, z p _ (fun y => ?_) (RB.at_ h4 h5), h5⟩
        rcases y with y | y
        · exact h5 y
        · rw [y, hp0] at h4
          cases h4
    refine q_forW (fun c => c = fa ∨ c = p0) (src_range1 (n := n) (fun H3 e3 Q3 q => q H3 (Ex.refl _)) (by omega)) ?_
      (SWp fa p0 v long s H H2) ?_ ?_ ?_ ?_ ?_
    · rintro c (rfl | rfl)
      · exact ⟨(G.go RB (m' := 0) (by omega)).is, fun z => z⟩
      · exact ⟨by rw [h2]; exact fun z => (nomatch z), fun z => z⟩
    · intro Hs e
      exact ⟨[], none, none, none, none, rfl, Exc.refl _, Exc.of e, (RB.then e).mono (by omega), e _ _ h2, rfl, fun t ht => nomatch ht⟩
    · rintro Hs i σ' H' ⟨_, _, _, _, _, _, h, _⟩
      exact h
    · rintro Hs i σ' Ha Hb ⟨ws, v4, v5, v6, v7, h0, h3, h3', h4, h5, h6⟩ e
      exact ⟨ws, v4, v5, v6, v7, h0, h3.then e, h3'.then e, h4.then e, e _ _ h5, h6⟩
    · rintro Hs i x σ' H' e hi ⟨ws, v4, v5, v6, v7, rfl, h3, h3', h4, h5, h6, h7⟩ rfl
      show tSeq _ _ _ [some (.ref fa), some v, some (.ref p0), some (.int (long : Int)), some (.int (i : Int)), v5, v6, v7] H'
      have hi12 : i < 12 := by omega
      refine q_asgC (i := 5) (ea_cons (ev_var rfl) (ea_cons (ev_var rfl) (ea_cons (ev_var rfl) ea_nil))) fun H3 e3 => ⟨fa, v, s, long, rfl, (fr h3').ex e3, hsn, hsl, by omega, by omega, (G.go (h4.then e3) (m' := long + 1) (by omega)), fun t H4 ht1 ht2 ht3 R4 => ?_⟩
      have R4 : Rf fa 13 H' H4 := (Rf.pre e3 R4).mono (by omega)
      show tSeq _ _ _ [some (.ref fa), some v, some (.ref p0), some (.int (long : Int)), some (.int (i : Int)), some (T t), v6, v7] H4
      refine wp_draw (many := 5) rfl ev_c (G.go (h4.trans R4) (m' := 1) (by omega)) (by decide) (by decide) fun d H5 hd R5 => ?_
      show tSeq _ _ _ [some (.ref fa), some v, some (.ref p0), some (.int (long : Int)), some (.int (i : Int)), some (T t), some (.int (d : Int)), v7] H5
      have R45 := R4.trans R5
      have h55 := R45.at_ h5 n0
      have wk : ∀ {B : Hp}, Exc (fun c => c = fa) H' B → Exc (fun c => c = fa ∨ c = p0) H' B := fun z => z.mono fun b hb => .inl hb
      -- the word goes behind
      have put : ∀ (D : Ends), (∀ σ' H', SWp fa p0 v long s H H2 Hs (i + 1) σ' H' → D.nx σ' H') → ∀ (t : Tx) (v7 : Option V) (m : Nat) H6, Rf fa m H' H6 → m ≤ 20 → 1 ≤ t.length → t.length ≤ 12 → (∀ c ∈ t, c ∈ s) → tDrop (tBM K "list" rAppend (tVar 2) (tCons (tVar 5) tNil)) D [some (.ref fa), some v, some (.ref p0), some (.int (long : Int)), some (.int (i : Int)), some (T t), some (.int (d : Int)), v7] H6 := fun D hD t v7 m H6 R6 hm6 y1 y2 y3 => ⟨.ref p0, rfl, .inl ⟨rfl, _, sq_of (R6.at_ h5 n0)⟩, T t, rfl, p0, ws.map T, T t, rfl, rfl, R6.at_ h5 n0, sz_lt (by rw [List.length_map]; omega), hD _ _ ⟨ws ++ [t], _, _, _, _, rfl, (h3.trans (wk R6.keep)).upd (.inl (.inr rfl)), (h3'.trans (wk R6.keep)).upd (.inl (.inr rfl)), ((h4.trans R6).upd hp0 G.is).mono (by omega), by rw [upd_same, List.map_append]; rfl, by rw [List.length_append, h6]; rfl, h7.app fun t' ht' => by rw [List.mem_singleton.mp ht']; exact ⟨y1, y2, y3⟩⟩⟩
      have hlow : ∀ t ∈ ws, LowT t := fun t ht c hc => by
        have := hsc c ((h7 t ht).2.2 c hc)
        unfold abcd at this
        omega
      refine q_when (et_and (et_neNilT h55 hlow (ev_var rfl)) fun _ => et_test (ev_op (ev_var rfl) ev_c rv_I0)) (fun hb H6 e6 => ?_) (fun hb H6 e6 => put _ (fun _ _ z => z) t v7 14 H6 (R45.then e6) (by decide) ht1 (by omega) ht3)
      have hwn : ws ≠ [] := by
        rw [Bool.and_eq_true] at hb
        simpa using hb.1
      have R6 := R45.then e6
      refine q_oneS (xs := ws.map T) rfl (ev_var rfl) (.inl (sq_of (e6 _ _ h55))) n0 (G.go (h4.trans R6) (m' := 1) (by omega)) (fun z => hwn (List.map_eq_nil_iff.mp z)) (by rw [List.length_map]; omega) fun y H7 hy R7 => ?_
      obtain ⟨b, hb', rfl⟩ := List.mem_map.mp hy
      have hbs := h7 b hb'
      have R67 : Rf fa 15 H' H7 := R6.trans R7
      show tAsg _ _ _ [some (.ref fa), some v, some (.ref p0), some (.int (long : Int)), some (.int (i : Int)), some (T t), some (.int (d : Int)), some (T b)] H7
      have hsl2 : ∀ {te : TE} (t2 : Tx), Ev te [some (.ref fa), some v, some (.ref p0), some (.int (long : Int)), some (.int (i : Int)), some (T t), some (.int (d : Int)), some (T b)] H7 (T t2) → 1 ≤ t2.length → t2.length ≤ 12 → (∀ c ∈ t2, c ∈ b ++ t ∨ c ∈ t ++ b) → ∀ D : Ends, (∀ σ' H', SWp fa p0 v long s H H2 Hs (i + 1) σ' H' → D.nx σ' H') → tAsg te (gName 5) { D with nx := tDrop (tBM K "list" rAppend (tVar 2) (tCons (tVar 5) tNil)) D } [some (.ref fa), some v, some (.ref p0), some (.int (long : Int)), some (.int (i : Int)), some (T t), some (.int (d : Int)), some (T b)] H7 := fun t2 hev y1 y2 y3 D hD => s_asg hev fun H8 e8 => put _ hD t2 _ 15 H8 (R67.then e8) (by decide) y1 y2 fun c hc => by
        rcases y3 c hc with z | z <;> rcases List.mem_append.mp z with z | z
        · exact hbs.2.2 c z
        · exact ht3 c z
        · exact ht3 c z
        · exact hbs.2.2 c z
      by_cases hd0 : (d : Int) = 0
      · refine hsl2 ((b ++ t).take 12) (ev_if (et_test (ev_op (ev_var rfl) ev_c rv_I0)) (fun _ => ev_is (ev_slT (ev_op (ev_var rfl) (ev_var rfl) (rv_addT (by omega))) eo_none (eo_some ev_c) (by rw [List.length_append]; omega)) (by rw [← cutT_to]; rfl)) fun z => absurd hd0 (of_decide_eq_false z)) ?_ ?_ (fun c hc => .inl (List.mem_of_mem_take hc)) _ fun _ _ z => z
        · rw [List.length_take, List.length_append]; omega
        · rw [List.length_take]; omega
      · refine hsl2 ((t ++ b).drop ((t ++ b).length - (11 + 1))) (ev_if (et_test (ev_op (ev_var rfl) ev_c rv_I0)) (fun z => absurd (of_decide_eq_true z) hd0) fun _ => ev_is (ev_slT (ev_op (ev_var rfl) (ev_var rfl) (rv_addT (by omega))) (eo_some (ev_un ev_c ru_neg)) eo_none (by rw [List.length_append]; omega)) (by rw [← cutT_last]; rfl)) ?_ ?_ (fun c hc => .inr (List.mem_of_mem_drop hc)) _ fun _ _ z => z
        · rw [List.length_drop, List.length_append]; omega
        · rw [List.length_drop, List.length_append]; omega
    · rintro Hs σ' H' e ⟨ws, v4, v5, v6, v7, rfl, h3, h3', h4, h5, h6, h7⟩
      exact s_ret (ev_var rfl) fun H3 e3 => k p0 ws H3 (fun z => by rw [z] at h6; simp at h6; omega) (by omega) h7 hp0 ((h4.then e3).mono (by omega)) (e3 _ _ h5)
end
end K24
set_option Elab.async false
set_option linter.all false
set_option maxRecDepth 100000
set_option maxHeartbeats 2000000
namespace K24
open PySem PySem.Spec PyProof.Rows L2 Evl Wc Wt Wg Ws Wr
/-! readings that make lists of texts, with draws -/
def Mk (fa : Addr) (σ : L2.St) (H : Hp) (m : Nat) (g : List Tx → Prop) (te : TE) : Prop := ∀ m0 H0, Rf fa m0 H H0 → GF fa m H0 → ∀ Q' : VK, (∀ p ws H1, g ws → p ≠ fa → Rf fa m H0 H1 → H1 p = some (.lst (ws.map T)) → Q' (.ref p) H1) → te σ H0 Q'
section
variable {K : PySem.W.Frag} {fa : Addr} {σ : L2.St} {H H1 : Hp} {m m' m1 m2 mA mB k : Nat} {g g' g1 g2 : List Tx → Prop} {te ta tb tA tB : TE}
theorem Mk.rf (h : Mk fa σ H m g te) (R : Rf fa k H H1) : Mk fa σ H1 m g te := fun m0 H0 R0 => h (k + m0) H0 (R.trans R0)
theorem Mk.mono (h : Mk fa σ H m g te) (hm : m ≤ m' := by omega) (hg : ∀ ws, g ws → g' ws := by exact fun _ z => z) : Mk fa σ H m' g' te := fun m0 H0 R0 G Q' q => h m0 H0 R0 (G.mono hm) Q' fun p ws H1 h1 h2 R h3 => q p ws H1 (hg ws h1) h2 (R.mono hm) h3
theorem mk_if {a b c d : Int} {f : Int → Int → Bool} (h1 : Dw fa σ m1 ta (GdI a b)) (h2 : Dw fa σ m2 tb (GdI c d)) (hA : Mk fa σ H mA g tA) (hB : Mk fa σ H mB g tB) : Mk fa σ H (m1 + m2 + (mA + mB)) g (tIf (tTest (tOp (rI0 fun i j => .bl (f i j)) ta tb)) tA tB) := fun m0 H0 R0 G Q' q => dw_test h1 h2 (G.mono (m := m1 + m2) (by omega)) _ (fun b H1 R => by
  cases b with
  | true => exact hA _ H1 (R0.trans R) (G.go R (by omega)) Q' fun p ws H2 x1 x2 R2 x3 => q p ws H2 x1 x2 ((R.trans R2).mono (by omega)) x3
  | false => exact hB _ H1 (R0.trans R) (G.go R (by omega)) Q' fun p ws H2 x1 x2 R2 x3 => q p ws H2 x1 x2 ((R.trans R2).mono (by omega)) x3)
theorem mk_take {n : Nat} (h : Mk fa σ H m g te) (hg : ∀ ws, g ws → g' (ws.take n)) : Mk fa σ H m g' (tSl (rSlL K) te tNoPart (tPart (tC (.int (n : Int))))) := fun m0 H0 R0 G Q' q => h m0 H0 R0 G _ fun p ws H1 x1 x2 R x3 => ⟨(n : Int), rfl, p, ws.map T, rfl, sq_of x3, fun r hr => by
  rw [cutV_to, ← List.map_take]
  exact q r (ws.take n) _ (hg ws x1) ((G.go R (m' := 0) (by omega)).new hr) (R.then (Ex.new hr)) upd_same⟩
/-- the end of the slice drawn -/
theorem mk_takeD {a b : Int} {th : TE} (h : Mk fa σ H m g te) (hd : Dw fa σ m1 th (GdI a b)) (ha : 0 ≤ a) (hg : ∀ ws n, g ws → g' (ws.take n)) : Mk fa σ H (m + m1) g' (tSl (rSlL K) te tNoPart (tPart th)) := fun m0 H0 R0 G Q' q => h m0 H0 R0 (G.mono (by omega)) _ fun p ws H1 x1 x2 R x3 => hd H1 (G.go R (by omega)) _ fun v H2 ⟨i, hi, y1, y2⟩ R2 => ⟨i, hi, p, ws.map T, rfl, sq_of (R2.at_ x3 x2), fun r hr => by
  obtain ⟨n, rfl⟩ := Int.eq_ofNat_of_zero_le (show 0 ≤ i by omega)
  rw [cutV_to, ← List.map_take]
  have RR := R.trans R2
  exact q r (ws.take n) _ (hg ws n x1) ((G.go RR (m' := 0) (by omega)).new hr) (RR.then (Ex.new hr)) upd_same⟩
theorem mk_var {i : Nat} {p : Addr} {ws : List Tx} (h0 : σ[i]? = some (some (.ref p))) (h : H p = some (.lst (ws.map T))) (hp : p ≠ fa) (hg : g ws) : Mk fa σ H 0 g (tVar i) := fun m0 H0 R0 G Q' q => ⟨.ref p, h0, q p ws H0 hg hp (Rf.refl _) (R0.at_ h hp)⟩
theorem mk_ev {ws : List Tx} (h : ∀ m0 H0, Rf fa m0 H H0 → EvL te σ H0 (ws.map T)) (hg : g ws) : Mk fa σ H 0 g te := fun m0 H0 R0 G Q' q => h m0 H0 R0 H0 (Ex.refl _) _ fun p H1 hp e1 h1 => q p ws H1 hg (G.new hp) (Rf.of_ex e1) h1
theorem mk_cat (h1 : Mk fa σ H m1 g1 ta) (h2 : Mk fa σ H m2 g2 tb) (hg : ∀ a b, g1 a → g2 b → g (a ++ b) ∧ a.length + b.length ≤ 100000) : Mk fa σ H (m1 + m2) g (tOp rCat ta tb) := fun m0 H0 R0 G Q' q => h1 m0 H0 R0 (G.mono (by omega)) _ fun p ws H1 x1 x2 R x3 => h2 _ H1 (R0.trans R) (G.go R (by omega)) _ fun p' ws' H2 y1 y2 R2 y3 => ⟨p, p', _, _, rfl, rfl, R2.at_ x3 x2, y3, sz_of (by rw [List.length_map, List.length_map]; exact (hg _ _ x1 y1).2), fun r hr => by
  have RR := R.trans R2
  exact q r (ws ++ ws') _ (hg _ _ x1 y1).1 ((G.go RR (m' := 0) (by omega)).new hr) (RR.then (Ex.new hr)) (by rw [upd_same, List.map_append])⟩
/-- over a made list, no draws in the step -/
theorem mk_map {j : Nat} {vs : List Nat} {te0 : TE} (f : Tx → Tx) (h : Mk fa σ H m g te0) (hw : ∀ x, wipe ((wipe σ vs).set j (some x)) vs = wipe σ vs) (hl : ∀ ws, g ws → ws.length ≤ 40000)
    (he : ∀ ws t m0 H1, g ws → t ∈ ws → Rf fa m0 H H1 → Ev te ((wipe σ vs).set j (some (T t))) H1 (T (f t))) (hg : ∀ ws, g ws → g' (ws.map f)) : Mk fa σ H m g' (tLc (iList K te0) (gName j) tYes te vs) := fun m0 H0 R0 G Q' q => lc_of (h m0 H0 R0 G _ fun p ws H1 x1 x2 R x3 => by
  have hev : EvL (tLc (iList K (fun _ H' Q' => Q' (.ref p) H')) (gName j) tYes te vs) σ H1 (ws.map fun t => T (f t)) := el_lcM (f := T) ws (src_listM (fun H2 e2 Q q => q H2 (Ex.refl _)) (sq_of x3)) (hl ws x1) hw fun t H2 e2 ht => he ws t _ H2 x1 ht ((R0.trans R).then e2)
  refine hev H1 (Ex.refl _) _ fun r H2 hr e2 h2 => q r (ws.map f) H2 (hg ws x1) ((G.go R (m' := 0) (by omega)).new hr) (R.then e2) ?_
  rw [h2, List.map_map]
  rfl)
/-- over a drawn range, with draws in the step -/
theorem mk_range {te0 : TE} {j : Nat} {vs : List Nat} {lo N c m0 lo' n : Nat} {s : Tx} (hc : Dw fa σ m0 te0 (GdI (lo : Int) (N : Int))) (hN : N ≤ 1000) (hw : ∀ x, wipe ((wipe σ vs).set j (some x)) vs = wipe σ vs)
    (he : ∀ x k H1, Rf fa k H H1 → GF fa c H1 → ∀ Q' : VK, (∀ y H2, GdT (fun c => c ∈ s) lo' n y → Rf fa c H1 H2 → Q' y H2) → te ((wipe σ vs).set j (some x)) H1 Q') (hg : ∀ ws, lo ≤ ws.length → ws.length ≤ N → Wof lo' n s ws → g ws) : Mk fa σ H (m0 + N * c) g (tLc (iRng1 (tCons te0 tNil)) (gName j) tYes te vs) := fun k0 H0 R0 G Q' q =>
  lcRD (GdT (fun c => c ∈ s) lo' n) hc hN G hw (fun x k H1 R1 G1 Q2 q2 => he x _ H1 (R0.trans R1) G1 Q2 q2) Q' fun p H2 acc hp R h2 hl1 hl2 hgd => by
    obtain ⟨ws, rfl, hws⟩ := texts_GdT hgd
    rw [List.length_map] at hl1 hl2
    exact q p ws H2 (hg ws hl1 hl2 hws) (G.new hp) R h2
/-- statements -/
theorem q_mk {D : Ends} {tz : TS} {i B : Nat} (h : Mk fa σ H m g te) (G : GF fa B H) (k : ∀ p ws H1, g ws → p ≠ fa → Rf fa m H H1 → H1 p = some (.lst (ws.map T)) → tz D (σ.set i (some (.ref p))) H1) (hm : m ≤ B := by omega) : tSeq (tAsg te (gName i)) tz D σ H := h 0 H (Rf.refl _) (G.mono hm) _ k
theorem s_mkA {D : Ends} {i B : Nat} (h : Mk fa σ H m g te) (G : GF fa B H) (k : ∀ p ws H1, g ws → p ≠ fa → Rf fa m H H1 → H1 p = some (.lst (ws.map T)) → D.nx (σ.set i (some (.ref p))) H1) (hm : m ≤ B := by omega) : tAsg te (gName i) D σ H := h 0 H (Rf.refl _) (G.mono hm) _ k
theorem s_mk {D : Ends} {B : Nat} (h : Mk fa σ H m g te) (G : GF fa B H) (k : ∀ p ws H1, g ws → p ≠ fa → Rf fa m H H1 → H1 p = some (.lst (ws.map T)) → D.rt (.ref p) H1) (hm : m ≤ B := by omega) : tRet te D σ H := h 0 H (Rf.refl _) (G.mono hm) _ k
/-- the makers -/
theorem mk_tree {i : Nat} {most : Nat} {s : Tx} {v : V} (h0 : σ[i]? = some (some (.ref fa))) (h : ∀ m0 H0, Rf fa m0 H H0 → Ev te σ H0 v) (hs : Sgn H fa v s) (hsn : s ≠ []) (hs4 : s.length ≤ 4) (hm : most ≤ 12) (hg : ∀ ws, ws ≠ [] → ws.length ≤ 12 → ws.length ≤ max most s.length → Wof 1 12 s ws → g ws) : Mk fa σ H 10 g (tCall sp_tree [] E0 (tCons (tVar i) (tCons te (tCons (tC (.int (most : Int))) tNil)))) := fun m0 H0 R0 G Q' q => ⟨.ref fa, h0, h m0 H0 R0 H0 (Ex.refl _) _ fun H1 e1 => ⟨fa, v, s, most, rfl, (hs.rf R0).ex e1, hsn, hs4, hm, G.ex e1, fun r ws H2 x1 x2 x3 x4 hr R x5 => q r ws H2 (hg ws x1 x2 x3 x4) ((G.ex e1).new hr) (Rf.pre e1 R) x5⟩⟩
theorem mk_some {i : Nat} {s : Tx} {v : V} (h0 : σ[i]? = some (some (.ref fa))) (h : ∀ m0 H0, Rf fa m0 H H0 → Ev te σ H0 v) (hs : Sgn H fa v s) (hsc : ∀ c ∈ s, abcd c) (hsn : s ≠ []) (hs4 : s.length ≤ 1000) (hg : ∀ ws, ws ≠ [] → ws.length ≤ 12 → Wof 1 12 s ws → g ws) : Mk fa σ H 300 g (tCall sp_some_words [] E0 (tCons (tVar i) (tCons te tNil))) := fun m0 H0 R0 G Q' q => ⟨.ref fa, h0, h m0 H0 R0 H0 (Ex.refl _) _ fun H1 e1 => ⟨fa, v, s, rfl, (hs.rf R0).ex e1, hsc, hsn, hs4, G.ex e1, fun r ws H2 x1 x2 x3 hr R x5 => q r ws H2 (hg ws x1 x2 x3) ((G.ex e1).new hr) (Rf.pre e1 R) x5⟩⟩
end
theorem abcd_AB {c : Nat} : abcd c ↔ c ∈ AB := by
  unfold abcd AB
  simp
  omega
theorem mem_AB {c n : Nat} (hn : n ≤ 4) : c ∈ AB.take n ↔ 97 ≤ c ∧ c < 97 + n := by
  have h : n = 0 ∨ n = 1 ∨ n = 2 ∨ n = 3 ∨ n = 4 := by omega
  rcases h with rfl | rfl | rfl | rfl | rfl <;> simp [AB] <;> omega
section
variable {K : PySem.W.Frag}
theorem getD_at {α : Type} {l : List α} {i : Nat} {d : α} (h : i < l.length) : l.getD i d = l[i] := by
  rw [List.getD_eq_getElem?_getD, List.getElem?_eq_getElem h]
  rfl
def sp_made : Sp := fun vs H Q _ => ∃ (fa : Addr) (v : V) (s : Tx), vs = [.ref fa, v] ∧ Sgn H fa v s ∧ (∀ c ∈ s, abcd c) ∧ s ≠ [] ∧ s.length ≤ 4 ∧ GF fa 400 H ∧
  ∀ q ws H', ws.length ≤ 12 → Wof 1 144 AB ws → q ≠ fa → Rf fa 400 H H' → H' q = some (.lst (ws.map T)) → Q (.ref q) H'
def sp_late : Sp := fun vs H Q _ => ∃ (fa : Addr), vs = [.ref fa] ∧ GF fa 100 H ∧
  ∀ q ws H', ws.length ≤ 12 → Wof 1 144 AB ws → q ≠ fa → Rf fa 100 H H' → H' q = some (.lst (ws.map T)) → Q (.ref q) H'
end
abbrev sc_made : Scope := { kind := .function, names := [(".0", .local), ("word", .local), ("inner", .cell)], isGenerator := false, isCoroutine := false }
abbrev sc_late : Scope := { kind := .function, names := [(".0", .local), ("turn", .local), ("range", .globalImplicit), ("_law_draw", .globalImplicit), ("feed", .cell), ("signs", .cell), ("words", .cell)], isGenerator := false, isCoroutine := false }
section
variable {P : Program} {w : World} {K : PySem.W.Frag} {mg : Str → Option Value} {base : Heap}
theorem ok__law_made {f : Addr} {fd : FuncData} (F : Fun K "_law_made" "_law_made" st__law_made f fd) (M : Md K mg) (C__law_draw : Cal P w K mg base "_law_draw" st__law_draw 1 ["feed", "many"] sp_draw) (C__law_tree : Cal P w K mg base "_law_tree" st__law_tree 2 ["feed", "signs", "most"] sp_tree) (C__law_some_words : Cal P w K mg base "_law_some_words" st__law_some_words 4 ["feed", "signs"] sp_some_words) : FnOk P w K mg base CX0 5 f fd ["feed", "signs"] sp_made := by
  have nd := sc__law_made.nd
  refine F.ok sc__law_made (fun vs H Q E h => ?_) (fun cdv A outer s H vs Q E hr h => ?_)
  · obtain ⟨_, _, _, rfl, _⟩ := h
    rfl
  · obtain ⟨fa, v, s, rfl, hs, hsc, hsn, hs4, G, k⟩ := h
    refine ⟨_, (pss_cons (ps_set (i := 2) nd rfl (Or.inr rfl) (pe_ifExp (pt_cmpR op_eqI (pe_cl C__law_draw hr (pa_cons (pv 0) (pa_cons pe_int pa_nil))) pe_int (nomark _)) (pe_slice (ksl K (r := rSlL) sl_list) (pe_cl C__law_tree hr (pa_cons (pv 0) (pa_cons (pv 1) (pa_cons pe_int pa_nil)))) po_none (po_some pe_int)) (pe_slice (ksl K (r := rSlL) sl_list) (pe_cl C__law_some_words hr (pa_cons (pv 0) (pa_cons (pv 1) pa_nil))) po_none (po_some pe_int))))
  (pss_cons (ps_set (i := 2) nd rfl (Or.inr rfl) (pe_ifExp (pt_cmpR op_eqI (pe_cl C__law_draw hr (pa_cons (pv 0) (pa_cons pe_int pa_nil))) pe_int (nomark _)) (pe_lc (own := [("word", 3)]) rfl nd (kil K (pi_list (pv 2))) (blkOk_by (N := N__law_made) (sc := defScope st__law_made) (by decide +kernel)) (fun _ _ _ _ _ => (pg_name (i := 3) nd rfl (Or.inl rfl))) (fun _ _ _ _ _ => pts_nil) (fun _ _ _ _ _ => (pe_revT (pv 3)))) (pv 2)))
  (pss_cons (ps_par (i := 4) (j := 5) rfl nd rfl rfl (by decide) rfl rfl (pa_cons (pe_cl C__law_tree hr (pa_cons (pv 0) (pa_cons (pe_slice sl_T (pe_sT [97, 98, 99, 100]) po_none (po_some (pe_callB (kcr K (r := rLenS) call_len_seq) (by rfl) M.n_len boot_len (pa_cons (pv 2) pa_nil)))) (pa_cons pe_int pa_nil)))) (pa_cons (pe_cl C__law_draw hr (pa_cons (pv 0) (pa_cons pe_int pa_nil))) pa_nil)) (by rfl))
  (pss_cons (ps_set (i := 4) nd rfl (Or.inl rfl) (pe_ifExp (pt_cmpR op_eqI (pv 5) pe_int (nomark _)) (pe_lc (own := [("word", 3)]) rfl nd (kil K (pi_list (pv 4))) (blkOk_by (N := N__law_made) (sc := defScope st__law_made) (by decide +kernel)) (fun _ _ _ _ _ => (pg_name (i := 3) nd rfl (Or.inl rfl))) (fun _ _ _ _ _ => pts_nil) (fun _ _ _ _ _ => (pe_revT (pv 3)))) (pv 4)))
  (pss_one (ps_ret (pe_lc (own := [("word", 3)]) rfl nd (kil K (pi_list (pv 4))) (blkOk_by (N := N__law_made) (sc := defScope st__law_made) (by decide +kernel)) (fun _ _ _ _ _ => (pg_name (i := 3) nd rfl (Or.inl rfl))) (fun _ _ _ _ _ => pts_nil) (fun _ _ _ _ _ => (kbm K (pe_bm PySem.F.plainAttrs_str PySem.F.slot_str_join PySem.F.type_str_join (kmt K (r := rJoinT) mt_joinT) (pe_sT []) (pa_cons (pe_lc (own := [("sign", 6)]) rfl nd (pi_str (pv 3)) (blkOk_by (N := N__law_made) (sc := sc_made) (by decide +kernel)) (fun _ _ _ _ _ => (pg_name (i := 6) nd rfl (Or.inl rfl))) (fun _ _ _ _ _ => pts_nil) (fun _ _ _ _ _ => (pe_ix (kix K (r := L2.rIxL) ix_list) (pv 2) (kbm K (pe_bm PySem.F.plainAttrs_str PySem.F.slot_str_index PySem.F.type_str_index mt_indexA (pe_sT [97, 98, 99, 100]) (pa_cons (pv 6) pa_nil))) (fun _ _ => rfl)))) pa_nil))))))))))), ?_⟩
    refine q_mk (m := 312) (g := fun ws => ws ≠ [] ∧ ws.length ≤ 4 ∧ Wof 1 12 s ws) (Mk.mono (mk_if (dI_draw (lo := 2) (hi := 2) rfl dI_c) dI_c (mk_take (n := 4) (mk_tree (most := 4) rfl (fun _ _ _ => ev_var rfl) hs hsn hs4 (by decide) fun ws h1 h2 _ h3 => (⟨h1, h2, h3⟩ : ws ≠ [] ∧ ws.length ≤ 12 ∧ Wof 1 12 s ws)) ?_) (mk_take (n := 4) (mk_some rfl (fun _ _ _ => ev_var rfl) hs hsc hsn (by omega) fun ws h1 h2 h3 => (⟨h1, h2, h3⟩ : ws ≠ [] ∧ ws.length ≤ 12 ∧ Wof 1 12 s ws)) ?_))) G fun p ws H1 ⟨w1, w2, w3⟩ hp R1 h1 => ?_
    · rintro ws ⟨h1, h2, h3⟩
      exact ⟨fun z => (List.take_eq_nil_iff.mp z).elim (by decide) h1, by rw [List.length_take]; omega, h3.sub fun t ht => List.mem_of_mem_take ht⟩
    · rintro ws ⟨h1, h2, h3⟩
      exact ⟨fun z => (List.take_eq_nil_iff.mp z).elim (by decide) h1, by rw [List.length_take]; omega, h3.sub fun t ht => List.mem_of_mem_take ht⟩
    have hrv : ∀ {ws : List Tx}, Wof 1 12 s ws → Wof 1 12 s (ws.map List.reverse) := fun h t ht => by
      obtain ⟨u, hu, rfl⟩ := List.mem_map.mp ht
      have := h u hu
      exact ⟨by rw [List.length_reverse]; exact this.1, by rw [List.length_reverse]; exact this.2.1, fun c hc => this.2.2 c (List.mem_reverse.mp hc)⟩
    show tSeq _ _ _ [some (.ref fa), some v, some (.ref p), none, none, none, none] H1
    refine q_mk (m := 2) (g := fun ws => ws ≠ [] ∧ ws.length ≤ 4 ∧ Wof 1 12 s ws) (Mk.mono (mk_if (dI_draw (lo := 2) (hi := 2) rfl dI_c) dI_c (mk_map (g := fun us => us = ws) List.reverse (mk_var rfl h1 hp rfl) (fun _ => rfl) (fun us hu => by rw [hu]; omega) (fun us t m0 H2 hu ht R2 => ev_revT (ev_var rfl) (by have := (w3 t (hu ▸ ht)).2.1; omega)) ?_) (mk_var (g := fun ws => ws ≠ [] ∧ ws.length ≤ 4 ∧ Wof 1 12 s ws) rfl h1 hp ⟨w1, w2, w3⟩))) (G.go R1 (m' := 88) (by omega)) fun p2 inner H2 ⟨x1, x2, x3⟩ hp2 R2 h2 => ?_
    · rintro us rfl
      exact ⟨fun z => w1 (List.map_eq_nil_iff.mp z), by rw [List.length_map]; exact w2, hrv w3⟩
    have R12 := R1.trans R2
    have hpos : 0 < inner.length := List.length_pos_iff.mpr x1
    show tSeq _ _ _ [some (.ref fa), some v, some (.ref p2), none, none, none, none] H2
    have hab : AB.take inner.length ≠ [] := fun z => by
      have := congrArg List.length z
      rw [List.length_take] at this
      have h4 : AB.length = 4 := rfl
      simp only [List.length_nil] at this
      omega
    have htr := mk_tree (fa := fa) (σ := [some (.ref fa), some v, some (.ref p2), none, none, none, none]) (H := H2) (te := tSl rSlT (tC (T AB)) tNoPart (tPart (tCB (rLenS K) (tCons (tVar 2) tNil)))) (v := T (AB.take inner.length)) (s := AB.take inner.length) (most := 12) (i := 0) (g := fun ws => ws.length ≤ 12 ∧ Wof 1 12 (AB.take inner.length) ws) rfl (fun m0 H0 R0 => ev_is (ev_slT (a := AB) ev_c eo_none (eo_some (ev_len (ev_var rfl) (sq_of (R0.at_ h2 hp2)))) (by decide)) (by rw [List.length_map, cutT_to])) (.inl rfl) hab (by rw [List.length_take]; show min _ 4 ≤ 4; omega) (by decide) fun ws h1 h2 _ h3 => ⟨h2, h3⟩
    refine htr 0 H2 (Rf.refl _) (G.go R12 (m' := 10) (by omega)) _ fun po outer H3 ⟨y1, y2⟩ hpo R3 h3 => ?_
    have R13 := R12.trans R3
    refine wp_draw (many := 3) rfl ev_c (G.go R13 (m' := 1) (by omega)) (by decide) (by decide) fun d H4 hd R4 => ⟨_, _, rfl, ?_⟩
    have R14 := R13.trans R4
    have h24 := (R3.trans R4).at_ h2 hp2
    have h34 := R4.at_ h3 hpo
    show tSeq _ _ _ [some (.ref fa), some v, some (.ref p2), none, some (.ref po), some (.int (d : Int)), none] H4
    refine q_mk (m := 0) (g := fun ws => ws.length ≤ 12 ∧ Wof 1 12 (AB.take inner.length) ws) (Mk.mono (mk_if (a := d) (b := d) (dI_var rfl (Int.le_refl _) (Int.le_refl _)) dI_c (mk_map (g := fun us => us = outer) List.reverse (mk_var rfl h34 hpo rfl) (fun _ => rfl) (fun us hu => by rw [hu]; omega) (fun us t m0 H2 hu ht R2 => ev_revT (ev_var rfl) (by have := (y2 t (hu ▸ ht)).2.1; omega)) ?_) (mk_var (g := fun ws => ws.length ≤ 12 ∧ Wof 1 12 (AB.take inner.length) ws) rfl h34 hpo ⟨y1, y2⟩))) (G.go R14 (m' := 0) (by omega)) fun pq out H5 ⟨z1, z2⟩ hpq R5 h5 => ?_
    · rintro us rfl
      refine ⟨by rw [List.length_map]; exact y1, fun t ht => ?_⟩
      obtain ⟨u, hu, rfl⟩ := List.mem_map.mp ht
      have := y2 u hu
      exact ⟨by rw [List.length_reverse]; exact this.1, by rw [List.length_reverse]; exact this.2.1, fun c hc => this.2.2 c (List.mem_reverse.mp hc)⟩
    have R15 := R14.trans R5
    have h25 := R5.at_ h24 hp2
    have hin : ∀ {c : Nat}, c ∈ AB.take inner.length → 97 ≤ c ∧ c ≤ 100 ∧ c - 97 < inner.length := fun hc => by
      have := (mem_AB x2).mp hc
      omega
    have hget : ∀ {c : Nat}, c - 97 < inner.length → inner.getD (c - 97) [] ∈ inner := fun hc => by
      rw [getD_at hc]
      exact List.getElem_mem hc
    show tRet _ _ [some (.ref fa), some v, some (.ref p2), none, some (.ref pq), some (.int (d : Int)), none] H5
    refine s_mk (m := 0) (g := fun ws => ws.length ≤ 12 ∧ Wof 1 144 AB ws) (mk_map (g := fun us => us = out) (fun t => (t.map fun c => inner.getD (c - 97) []).flatten) (mk_var rfl h5 hpq rfl) (fun _ => rfl) (fun us hu => by rw [hu]; omega) (fun us t m0 H6 hu ht R6 => ?_) ?_) (G.go R15 (m' := 0) (by omega)) fun r ws H6 ⟨q1, q2⟩ hr R6 h6 => k r ws H6 q1 q2 hr ((R15.trans R6).mono (by omega)) h6
    · have hut := z2 t (hu ▸ ht)
      refine ev_bmTL (xs := (t.map fun c => inner.getD (c - 97) []).map T) ev_c ?_ fun q H7 hq e7 => rm_join (.inl (sq_of hq)) ?_
      · rw [List.map_map]
        refine el_lcM (j := 6) (vs := [6]) (f := fun c => T [c]) t (src_str (ev_var rfl)) (by omega) (fun _ => rfl) fun c H7 e7 hc => ?_
        have hci := hin (hut.2.2 c hc)
        refine ev_op (ev_var (i := 2) rfl) (ev_bmT (a := AB) ev_c (ea_cons (ev_var rfl) ea_nil) (rm_indexA hci.1 hci.2.1)) (rv_ixL (xs := inner.map T) (sq_of (e7 _ _ (R6.at_ h25 hp2))) (atI_nat ?_))
        rw [List.getElem?_map, List.getElem?_eq_getElem hci.2.2]
        show some (T _) = some (T (inner.getD (c - 97) []))
        rw [getD_at hci.2.2]
      · have := sum_le (ts := t.map fun c => inner.getD (c - 97) []) (m := 12) fun u hu => by
          obtain ⟨c, hc, rfl⟩ := List.mem_map.mp hu
          exact (x3 _ (hget (hin (hut.2.2 c hc)).2.2)).2.1
        rw [List.length_map] at this
        omega
    · rintro us rfl
      refine ⟨by rw [List.length_map]; exact z1, fun t' ht' => ?_⟩
      obtain ⟨t, ht, rfl⟩ := List.mem_map.mp ht'
      have hut := z2 t ht
      have hall : ∀ u ∈ t.map fun c => inner.getD (c - 97) [], u ∈ inner := fun u hu => by
        obtain ⟨c, hc, rfl⟩ := List.mem_map.mp hu
        exact hget (hin (hut.2.2 c hc)).2.2
      have hle := sum_le (ts := t.map fun c => inner.getD (c - 97) []) (m := 12) fun u hu => (x3 _ (hall u hu)).2.1
      rw [List.length_map] at hle
      refine ⟨?_, by rw [flat_len]; omega, fun c hc => ?_⟩
      · cases t with
        | nil => exact absurd hut.1 (by decide)
        | cons c t =>
          have h1 : 1 ≤ (inner.getD (c - 97) []).length := (x3 _ (hall _ List.mem_cons_self)).1
          rw [List.map_cons, List.flatten_cons, List.length_append]
          omega
      · obtain ⟨u, hu, hcu⟩ := List.mem_flatten.mp hc
        exact abcd_AB.mp (hsc c ((x3 u (hall u hu)).2.2 c hcu))
theorem perm_signs {ys : List V} {s : Tx} (h : ys.Perm (s.map fun c => T [c])) : ∃ sg : Tx, ys = sg.map (fun c => T [c]) ∧ sg.Perm s := by
  have e : (s.map fun c => T [c]) = (s.map fun c => [c]).map T := by rw [List.map_map]; rfl
  rw [e] at h
  obtain ⟨zs, rfl, hz⟩ := perm_texts h
  have h2 := hz.map fun t : Tx => t.headD 0
  rw [List.map_map] at h2
  have h3 : (s.map ((fun t : Tx => t.headD 0) ∘ fun c => [c])) = s := by
    conv => rhs; rw [← List.map_id s]
    rfl
  rw [h3] at h2
  refine ⟨_, ?_, h2⟩
  rw [List.map_map]
  refine List.map_congr_left fun t ht => ?_
  obtain ⟨c, hc, rfl⟩ := List.mem_map.mp (hz.mem_iff.mp ht)
  rfl
theorem q_mixT {D : Ends} {tz : TS} {fa : Addr} {i j B : Nat} {σ : L2.St} {H : Hp} {te : TE} {s : Tx} (h0 : σ[i]? = some (some (.ref fa))) (h : Ev te σ H (T s)) (hs : s.length ≤ 1000) (G : GF fa B H)
    (k : ∀ (p : Addr) (sg : Tx) (H1 : Hp), sg.Perm s → p ≠ fa → Rf fa s.length H H1 → H1 p = some (.lst (sg.map fun c => T [c])) → tz D (σ.set j (some (.ref p))) H1) (hB : s.length ≤ B := by omega) : tSeq (tAsg (tCall (sp_mixed K) [] E0 (tCons (tVar i) (tCons te tNil))) (gName j)) tz D σ H :=
  ⟨.ref fa, h0, h H (Ex.refl _) _ fun H1 e1 => ⟨fa, T s, _, rfl, .inl ⟨s, rfl, rfl⟩, by rw [List.length_map]; exact hs, (G.ex e1).mono (by rw [List.length_map]; exact hB), fun q ys H2 pm hq R h2 => by
    obtain ⟨sg, rfl, pg⟩ := perm_signs pm
    rw [List.length_map] at R
    exact k q sg H2 pg ((G.ex e1).new hq) (Rf.pre e1 R) h2⟩⟩
theorem ok__law_late {f : Addr} {fd : FuncData} (F : Fun K "_law_late" "_law_late" st__law_late f fd) (M : Md K mg) (C__law_draw : Cal P w K mg base "_law_draw" st__law_draw 1 ["feed", "many"] sp_draw) (C__law_one : Cal P w K mg base "_law_one" st__law_one 2 ["feed", "things"] (sp_one K)) (C__law_mixed : Cal P w K mg base "_law_mixed" st__law_mixed 2 ["feed", "things"] (sp_mixed K)) (C__law_tree : Cal P w K mg base "_law_tree" st__law_tree 2 ["feed", "signs", "most"] sp_tree) : FnOk P w K mg base CX0 5 f fd ["feed"] sp_late := by
  have nd := sc__law_late.nd
  refine F.ok sc__law_late (fun vs H Q E h => ?_) (fun cdv A outer s H vs Q E hr h => ?_)
  · obtain ⟨_, rfl, _⟩ := h
    rfl
  · obtain ⟨fa, rfl, G, k⟩ := h
    refine ⟨_, (pss_cons (ps_set (i := 1) nd rfl (Or.inr rfl) (pe_cl C__law_mixed hr (pa_cons (pv 0) (pa_cons (pe_sT [97, 98, 99, 100]) pa_nil))))
  (pss_cons (ps_set (i := 2) nd rfl (Or.inr rfl) (pe_cl C__law_tree hr (pa_cons (pv 0) (pa_cons (pe_slice (ksl K (r := rSlL) sl_list) (pv 1) po_none (po_some (pe_op op_add pe_int (pe_cl C__law_draw hr (pa_cons (pv 0) (pa_cons pe_int pa_nil)))))) (pa_cons pe_int pa_nil)))))
  (pss_cons (ps_setLc (i := 3) (own := [("turn", 4)]) rfl nd rfl rfl (sw_true rfl rfl rfl (by decide +kernel)) (pi_range1 (by rfl) M.n_range (pa_cons (pe_op op_add pe_int (pe_cl C__law_draw hr (pa_cons (pv 0) (pa_cons pe_int pa_nil)))) pa_nil)) (blkOk_by (N := N__law_late) (sc := defScope st__law_late) (by decide +kernel)) (fun _ _ _ _ _ => (pg_name (i := 4) nd rfl (Or.inl rfl))) (fun _ _ _ _ _ => pts_nil) (fun _ _ _ _ _ => (pe_op op_addT (pe_slice sl_T (kbm K (pe_bm PySem.F.plainAttrs_str PySem.F.slot_str_join PySem.F.type_str_join (kmt K (r := rJoinT) mt_joinT) (pe_sT []) (pa_cons (pe_lc (own := [("turn", 4)]) rfl nd (pi_range1 (by rfl) M.n_range (pa_cons (pe_op op_add pe_int (pe_cl C__law_draw hr (pa_cons (pv 0) (pa_cons pe_int pa_nil)))) pa_nil)) (blkOk_by (N := N__law_late) (sc := sc_late) (by decide +kernel)) (fun _ _ _ _ _ => (pg_name (i := 4) nd rfl (Or.inl rfl))) (fun _ _ _ _ _ => pts_nil) (fun _ _ _ _ _ => (pe_cl C__law_one hr (pa_cons (pv 0) (pa_cons (pv 2) pa_nil))))) pa_nil))) po_none (po_some pe_int)) (pe_ix (kix K (r := L2.rIxL) ix_list) (pv 1) (pe_op op_add pe_int (pe_cl C__law_draw hr (pa_cons (pv 0) (pa_cons pe_int pa_nil)))) (fun _ _ => rfl)))))
  (pss_one (ps_ret (pe_op op_cat (pe_op op_cat (pv 2) (pv 3)) (pe_ifExp (pt_cmpR op_eqI (pe_cl C__law_draw hr (pa_cons (pv 0) (pa_cons pe_int pa_nil))) pe_int (nomark _)) (pe_lst (pa_cons (pe_ix (kix K (r := L2.rIxL) ix_list) (pv 1) pe_int (fun _ _ => rfl)) pa_nil)) (pe_lst pa_nil)))))))), ?_⟩
    refine q_mixT rfl ev_c (by decide) G (fun ps sg H1 hpm np R1 h1 => ?_) (by decide)
    have hl4 : sg.length = 4 := hpm.length_eq
    have hsa : ∀ c ∈ sg, c ∈ AB := fun c hc => hpm.mem_iff.mp hc
    have R1 : Rf fa 4 H H1 := R1
    show tSeq _ _ _ [some (.ref fa), some (.ref ps), none, none, none] H1
    have hps : ∀ {B : Hp} {m : Nat}, Rf fa m H1 B → B ps = some (.lst (sg.map fun c => T [c])) := fun R => R.at_ h1 np
    refine ⟨.ref fa, rfl, .ref ps, rfl, (dI_wk (dI_add dI_c (dI_draw (lo := 2) (hi := 2) rfl dI_c)) : Dw fa [some (.ref fa), some (.ref ps), none, none, none] 1 _ (GdI 1 2)) H1 (G.go R1 (m' := 1) (by omega)) _ fun v H2 ⟨i, hi, hi1, hi2⟩ R2 => ⟨i, hi, ps, sg.map (fun c => T [c]), rfl, sq_of (hps R2), fun r hr => ?_⟩⟩
    obtain ⟨i, rfl⟩ := Int.eq_ofNat_of_zero_le (show 0 ≤ i by omega)
    rw [cutV_to, ← List.map_take]
    have RA : Rf fa 5 H (upd H2 r (.lst ((sg.take i).map fun c => T [c]))) := (R1.trans R2).then (Ex.new hr)
    have RA' : Rf fa 1 H1 (upd H2 r (.lst ((sg.take i).map fun c => T [c]))) := R2.then (Ex.new hr)
    have hr' : (upd H2 r (.lst ((sg.take i).map fun c => T [c]))) r = some (.lst ((sg.take i).map fun c => T [c])) := upd_same
    have nr : r ≠ fa := (G.go (R1.trans R2) (m' := 0) (by omega)).new hr
    generalize upd H2 r (.lst ((sg.take i).map fun c => T [c])) = H3 at RA RA' hr' ⊢
    refine ⟨fa, .ref r, sg.take i, 6, rfl, .inr ⟨r, rfl, hr', nr⟩, fun z => by have := congrArg List.length z; rw [List.length_take, List.length_nil] at this; omega, by rw [List.length_take]; omega, by decide, G.go RA (by omega), fun pw ws H4 w1 _ w2 w3 hpw R4 h4 => ?_⟩
    have RB := RA.trans R4
    have RB' := RA'.trans R4
    have npw : pw ≠ fa := (G.go RA (m' := 10) (by omega)).new hpw
    have hw6 : ws.length ≤ 6 := by
      rw [List.length_take] at w2
      omega
    have hwa : Wof 1 12 AB ws := fun t ht => ⟨(w3 t ht).1, (w3 t ht).2.1, fun c hc => hsa c (List.mem_of_mem_take ((w3 t ht).2.2 c hc))⟩
    show tSeq _ _ _ [some (.ref fa), some (.ref ps), some (.ref pw), none, none] H4
    refine q_mk (m := 1 + 2 * 8) (g := fun us => us.length ≤ 2 ∧ Wof 1 12 AB us) (mk_range (lo := 1) (N := 2) (c := 8) (s := AB) (lo' := 1) (n := 12) (dI_wk (dI_add dI_c (dI_draw (lo := 2) (hi := 2) rfl dI_c))) (by decide) (fun _ => rfl) ?_ fun us _ h2 h3 => ⟨h2, h3⟩) (G.go RB (m' := 60) (by omega)) fun pl late H5 ⟨l1, l2⟩ npl R5 h5 => ?_
    · intro x kk H5 R5 G5 Q' q'
      refine ⟨rfl, lcRD (lo := 1) (N := 6) (c := 1) (m0 := 1) (GdT (fun c => c ∈ AB) 1 12) (dI_wk (dI_add dI_c (dI_draw (lo := 6) (hi := 6) rfl dI_c))) (by decide) (G5.mono (by omega)) (fun _ => rfl) ?_ _ fun p H6 acc hp R6 h6 _ hl4 hg => ?_⟩
      · intro x2 n H6 R6 G6 Q2 q2
        refine wp_oneS (xs := ws.map T) rfl (ev_var (i := 2) rfl) (.inl (sq_of ((R5.trans R6).at_ h4 npw))) npw G6 (fun z => w1 (List.map_eq_nil_iff.mp z)) (by rw [List.length_map]; omega) fun v H7 hv R7 => ?_
        obtain ⟨t, ht, rfl⟩ := List.mem_map.mp hv
        exact q2 _ H7 ⟨t, rfl, hwa t ht⟩ R7
      · obtain ⟨ts, rfl, hts⟩ := texts_GdT hg
        rw [List.length_map] at hl4
        have hsum := sum_le fun t ht => (hts t ht).2.1
        refine ⟨[], p, ts, rfl, rfl, .inl (sq_of h6), by simp; omega, ?_⟩
        rw [joinL_nil]
        refine ⟨(11 : Int), rfl, ts.flatten, rfl, by rw [flat_len]; omega, .ref ps, rfl, (dI_wk (dI_add dI_c (dI_draw (lo := 2) (hi := 2) rfl dI_c)) : Dw fa ((wipe [some (.ref fa), some (.ref ps), some (.ref pw), none, none] [4]).set 4 (some x)) 1 _ (GdI 2 3)) H6 (G5.go R6 (m' := 1) (by omega)) _ fun v H7 ⟨i, hi, hi1, hi2⟩ R7 => ?_⟩
        subst hi
        obtain ⟨i, rfl⟩ := Int.eq_ofNat_of_zero_le (show 0 ≤ i by omega)
        have hi4 : i < sg.length := by omega
        have hps' : H7 ps = some (.lst (sg.map fun c => T [c])) := hps ((((RB'.trans R5).trans R6)).trans R7)
        refine rv_ixL (sq_of hps') (atI_nat (v := T [sg[i]]) (by rw [List.getElem?_map, List.getElem?_eq_getElem hi4]; rfl)) H7 (Ex.refl _) _ fun H8 e8 => ?_
        have ec : cutT ts.flatten none (some 11) = ts.flatten.take 11 := cutT_to _ 11
        refine ⟨_, [sg[i]], rfl, rfl, by rw [ec, List.length_take]; show _ + 1 ≤ _; omega, q' _ H8 ⟨_, rfl, ?_, ?_, ?_⟩ (((R6.trans R7).then e8).mono (by omega))⟩
        · rw [List.length_append]; show 1 ≤ _ + 1; omega
        · rw [ec, List.length_append, List.length_take]; show _ + 1 ≤ 12; omega
        · intro c hc
          rcases List.mem_append.mp hc with z | z
          · obtain ⟨t, ht, hct⟩ := List.mem_flatten.mp (cutT_mem z)
            exact (hts t ht).2.2 c hct
          · rw [List.mem_singleton.mp z]
            exact hsa _ (List.getElem_mem hi4)
    · have RC := RB.trans R5
      have RC' := RB'.trans R5
      show tRet _ _ [some (.ref fa), some (.ref ps), some (.ref pw), some (.ref pl), none] H5
      refine s_mk (m := 1) (g := fun us => us.length ≤ 12 ∧ Wof 1 144 AB us) (Mk.mono (mk_cat (g1 := fun us => us.length ≤ 8 ∧ Wof 1 12 AB us) (g2 := fun us => us.length ≤ 1 ∧ Wof 1 12 AB us) (mk_cat (g1 := fun us => us = ws) (g2 := fun us => us = late) (mk_var rfl (R5.at_ h4 npw) npw rfl) (mk_var rfl h5 npl rfl) ?_) (mk_if (dI_draw (lo := 3) (hi := 3) rfl dI_c) dI_c (mk_ev (ws := [[sg[3]]]) (fun m0 H0 R0 => el_lst (ea_cons (ev_op (ev_var rfl) ev_c (rv_ixL (sq_of (hps (RC'.trans R0))) (atI_nat (j := 3) (by rw [List.getElem?_map, List.getElem?_eq_getElem (show 3 < sg.length by omega)]; rfl)))) ea_nil) (by show 1 ≤ 100000; decide)) ⟨by simp, ?_⟩) (mk_ev (ws := []) (fun m0 H0 R0 => el_lst ea_nil (by decide)) ⟨by decide, fun t ht => nomatch ht⟩)) ?_)) (G.go RC (m' := 1) (by omega)) fun q us H6 ⟨u1, u2⟩ hq R6 h6 => k q us H6 u1 u2 hq ((RC.trans R6).mono (by omega)) h6
      · rintro a b rfl rfl
        exact ⟨⟨by rw [List.length_append]; omega, hwa.app l2⟩, by omega⟩
      · intro t ht
        rw [List.mem_singleton.mp ht]
        exact ⟨by simp, by simp, fun c hc => by rw [List.mem_singleton.mp hc]; exact hsa _ (List.getElem_mem _)⟩
      · rintro a b ⟨a1, a2⟩ ⟨b1, b2⟩
        refine ⟨⟨by rw [List.length_append]; omega, fun t ht => ?_⟩, by omega⟩
        have := (a2.app b2) t ht
        exact ⟨this.1, by omega, this.2.2⟩
end
end K24
set_option Elab.async false
set_option linter.all false
set_option maxRecDepth 100000
set_option maxHeartbeats 4000000
namespace K24
open PySem PySem.Spec PyProof.Rows L2 Evl Wc Wt Wg Ws Wr
section
variable {K : PySem.W.Frag} {fa : Addr} {σ : L2.St} {H H1 : Hp} {m m' m1 m2 mA mB k : Nat} {g g' g1 g2 : List Tx → Prop} {te ta tb tA tB : TE}
theorem dw_at {te : TE} {c : Nat} {g : V → Prop} (h : Dw fa σ c te g) : ∀ k H1, Rf fa k H H1 → GF fa c H1 → ∀ Q' : VK, (∀ y H2, g y → Rf fa c H1 H2 → Q' y H2) → te σ H1 Q' := fun _ H1 _ G Q' q' => h H1 G Q' q'
/-- a test without draws -/
theorem mk_ifE {tt : TT} (h : ∀ m0 H0, Rf fa m0 H H0 → ∃ b, EvT tt σ H0 b) (hA : Mk fa σ H mA g tA) (hB : Mk fa σ H mB g tB) : Mk fa σ H (mA + mB) g (tIf tt tA tB) := fun m0 H0 R0 G Q' q => by
  obtain ⟨b, hb⟩ := h m0 H0 R0
  refine hb H0 (Ex.refl _) _ fun H1 e1 => ?_
  cases b with
  | true => exact hA _ H1 (R0.then e1) ((G.ex e1).mono (by omega)) Q' fun p ws H2 x1 x2 R2 x3 => q p ws H2 x1 x2 ((Rf.pre e1 R2).mono (by omega)) x3
  | false => exact hB _ H1 (R0.then e1) ((G.ex e1).mono (by omega)) Q' fun p ws H2 x1 x2 R2 x3 => q p ws H2 x1 x2 ((Rf.pre e1 R2).mono (by omega)) x3
/-- one new text -/
theorem mk_one {c : Nat} {ok : Nat → Prop} {lo n : Nat} (h : ∀ k H1, Rf fa k H H1 → GF fa c H1 → ∀ Q' : VK, (∀ y H2, GdT ok lo n y → Rf fa c H1 H2 → Q' y H2) → te σ H1 Q') (hg : ∀ t : Tx, lo ≤ t.length → t.length ≤ n → (∀ c ∈ t, ok c) → g [t]) : Mk fa σ H c g (tLst (tCons te tNil)) := fun m0 H0 R0 G Q' q => h _ H0 R0 G _ fun y H1 ⟨t, ht, h1, h2, h3⟩ R => by
  subst ht
  exact ⟨by show 1 ≤ sizeLine; decide, fun r hr => q r [t] _ (hg t h1 h2 h3) ((G.go R (m' := 0) (by omega)).new hr) (R.then (Ex.new hr)) upd_same⟩
theorem wp_piece {i : Nat} {v : V} {s : Tx} {long : Nat} {Q : VK} {B : Nat} (h0 : σ[i]? = some (some (.ref fa))) (h : Ev te σ H v) (hs : Sgn H fa v s) (hsn : s ≠ []) (hsl : s.length ≤ 1000) (G : GF fa B H) (hl1 : 1 ≤ long) (hl2 : long ≤ 500) (k : ∀ y H', GdT (fun c => c ∈ s) 1 long y → Rf fa (long + 1) H H' → Q y H') (hB : long + 1 ≤ B := by omega) : tCall sp_piece [] E0 (tCons (tVar i) (tCons te (tCons (tC (.int (long : Int))) tNil))) σ H Q :=
  ⟨.ref fa, h0, h H (Ex.refl _) _ fun H1 e1 => ⟨fa, v, s, long, rfl, hs.ex e1, hsn, hsl, hl1, hl2, (G.ex e1).mono hB, fun t H2 x1 x2 x3 R => k _ H2 ⟨t, rfl, x1, x2, x3⟩ (Rf.pre e1 R)⟩⟩
/-- draws in the step, over a made list -/
theorem mk_mapD {j : Nat} {vs : List Nat} {te0 : TE} {c N lo n : Nat} {ok : Nat → Prop} (h : Mk fa σ H m g te0) (hw : ∀ x, wipe ((wipe σ vs).set j (some x)) vs = wipe σ vs) (hl : ∀ ws, g ws → ws.length ≤ N) (hN : N ≤ 1000)
    (he : ∀ ws t k H1, g ws → t ∈ ws → Rf fa k H H1 → GF fa c H1 → ∀ Q' : VK, (∀ y H2, GdT ok lo n y → Rf fa c H1 H2 → Q' y H2) → te ((wipe σ vs).set j (some (T t))) H1 Q') (hg : ∀ ws us : List Tx, g ws → us.length = ws.length → (∀ t ∈ us, lo ≤ t.length ∧ t.length ≤ n ∧ ∀ c ∈ t, ok c) → g' us) : Mk fa σ H (m + N * c) g' (tLc (iList K te0) (gName j) tYes te vs) := fun m0 H0 R0 G Q' q => lc_of (h m0 H0 R0 (G.mono (by omega)) _ fun p ws H1 x1 x2 R x3 => by
  have hlN := hl ws x1
  have hmul : ∀ i, i ≤ ws.length → i * c ≤ N * c := fun i hi => Nat.mul_le_mul_right c (by omega)
  have G1 : GF fa (N * c) H1 := G.go R (by omega)
  refine lcD (GdT ok lo n) c G1.is (src_listM (K := K) (f := T) (xs := ws) (fun H2 e2 Q q => q H2 (Ex.refl _)) (sq_of x3)) (Ne.symm x2) (by omega) hw ?_ fun r H2 acc hr R2 h2 hal hgd => ?_
  · intro i x H2 hi hx R2 Q2 q2
    obtain ⟨t, ht, rfl⟩ := at_map hx
    refine he ws t _ H2 x1 (List.mem_of_getElem? ht) ((R0.trans R).trans R2) (G1.go R2 ?_) Q2 q2
    have := hmul (i + 1) (by omega)
    rw [Nat.succ_mul] at this
    exact this
  · obtain ⟨us, rfl, hus⟩ := texts_GdT hgd
    rw [List.length_map] at hal
    exact q r us H2 (hg ws us x1 hal hus) (G1.new hr) ((R.trans R2).mono (by have := hmul ws.length (Nat.le_refl _); omega)) h2)
end
section
variable {K : PySem.W.Frag}
def sp_words : Sp := fun vs H Q _ => ∃ (fa : Addr), vs = [.ref fa] ∧ GF fa 900 H ∧
  ∀ q ws H', ws.length ≤ 30 → Wof 1 144 AB ws → q ≠ fa → Rf fa 900 H H' → H' q = some (.lst (ws.map T)) → Q (.ref q) H'
def sp_lot : Sp := fun vs H Q _ => ∃ (fa : Addr), vs = [.ref fa] ∧ GF fa 1000 H ∧ ∀ q lot H', IsLot lot → H q = none → Rf fa 1000 H H' → H' q = some (.tup (lot.map T)) → Q (.ref q) H'
/-- the words, as they stand -/
def WM (fa : Addr) (way : Int) (psg : Addr) (H : Hp) (m : Nat) (g : List Tx → Prop) (σ' : L2.St) (H' : Hp) : Prop := ∃ (p : Addr) (ws : List Tx) (v8 v9 v10 : Option V), σ' = [some (.ref fa), some (.int way), some (.ref psg), none, none, none, none, some (.ref p), v8, v9, v10] ∧ p ≠ fa ∧ Rf fa m H H' ∧ H' p = some (.lst (ws.map T)) ∧ g ws
end
abbrev sc_words : Scope := { kind := .function, names := [(".0", .local), ("turn", .local), ("_law_piece", .globalImplicit), ("range", .globalImplicit), ("feed", .cell), ("signs", .cell)], isGenerator := false, isCoroutine := false }
section
variable {P : Program} {w : World} {K : PySem.W.Frag} {mg : Str → Option Value} {base : Heap}
theorem ok__law_words {f : Addr} {fd : FuncData} (F : Fun K "_law_words" "_law_words" st__law_words f fd) (M : Md K mg) (C__law_draw : Cal P w K mg base "_law_draw" st__law_draw 1 ["feed", "many"] sp_draw) (C__law_one : Cal P w K mg base "_law_one" st__law_one 2 ["feed", "things"] (sp_one K)) (C__law_mixed : Cal P w K mg base "_law_mixed" st__law_mixed 2 ["feed", "things"] (sp_mixed K)) (C__law_piece : Cal P w K mg base "_law_piece" st__law_piece 3 ["feed", "signs", "long"] sp_piece) (C__law_tree : Cal P w K mg base "_law_tree" st__law_tree 2 ["feed", "signs", "most"] sp_tree) (C__law_some_words : Cal P w K mg base "_law_some_words" st__law_some_words 4 ["feed", "signs"] sp_some_words) (C__law_made : Cal P w K mg base "_law_made" st__law_made 5 ["feed", "signs"] sp_made) (C__law_late : Cal P w K mg base "_law_late" st__law_late 5 ["feed"] sp_late) : FnOk P w K mg base CX0 6 f fd ["feed"] sp_words := by
  have nd := sc__law_words.nd
  refine F.ok sc__law_words (fun vs H Q E h => ?_) (fun cdv A outer s H vs Q E hr h => ?_)
  · obtain ⟨_, rfl, _⟩ := h
    rfl
  · obtain ⟨fa, rfl, G, k⟩ := h
    refine ⟨_, (pss_cons (ps_asg (pe_tup (pa_cons (pe_cl C__law_draw hr (pa_cons (pv 0) (pa_cons pe_int pa_nil))) (pa_cons (pe_slice (ksl K (r := rSlL) sl_list) (pe_cl C__law_mixed hr (pa_cons (pv 0) (pa_cons (pe_sT [97, 98, 99, 100]) pa_nil))) po_none (po_some (pe_cl C__law_one hr (pa_cons (pv 0) (pa_cons (pe_lst (pa_cons pe_int (pa_cons pe_int (pa_cons pe_int (pa_cons pe_int (pa_cons pe_int (pa_cons pe_int pa_nil))))))) pa_nil))))) pa_nil))) (kgt K (n := 2) (pg_tup rfl (pgs_cons (pg_name (i := 1) nd rfl (Or.inl rfl)) (pgs_cons (pg_name (i := 2) nd rfl (Or.inr rfl)) pgs_nil)))))
  (pss_cons (ps_if (pt_cmpR op_gt (pv 1) pe_int (nomark _))
  (pss_one (ps_ret (pe_cl C__law_late hr (pa_cons (pv 0) pa_nil))))
  pss_nil)
  (pss_cons (ps_if (pt_cmpR op_lt (pv 1) pe_int (nomark _))
  (pss_one (ps_ret (pe_cl C__law_some_words hr (pa_cons (pv 0) (pa_cons (pv 2) pa_nil)))))
  pss_nil)
  (pss_cons (ps_if (pt_cmpR op_lt (pv 1) pe_int (nomark _))
  (pss_one (ps_ret (pe_cl C__law_made hr (pa_cons (pv 0) (pa_cons (pv 2) pa_nil)))))
  pss_nil)
  (pss_cons (ps_if (pt_cmpR op_eqI (pv 1) pe_int (nomark _))
  (pss_cons (ps_set (i := 3) nd rfl (Or.inr rfl) (pe_cl C__law_piece hr (pa_cons (pv 0) (pa_cons (pv 2) (pa_cons pe_int pa_nil)))))
  (pss_one (ps_ret (pe_op op_cat (pe_lc (own := [("turn", 4)]) rfl nd (pi_range1 (by rfl) M.n_range (pa_cons (pe_op op_add pe_int (pe_cl C__law_draw hr (pa_cons (pv 0) (pa_cons pe_int pa_nil)))) pa_nil)) (blkOk_by (N := N__law_words) (sc := defScope st__law_words) (by decide +kernel)) (fun _ _ _ _ _ => (pg_name (i := 4) nd rfl (Or.inl rfl))) (fun _ _ _ _ _ => pts_nil) (fun _ _ _ _ _ => (pe_op op_mulT (pv 3) (pe_op op_add pe_int (pe_cl C__law_draw hr (pa_cons (pv 0) (pa_cons pe_int pa_nil))))))) (pe_slice (ksl K (r := rSlL) sl_list) (pe_cl C__law_some_words hr (pa_cons (pv 0) (pa_cons (pv 2) pa_nil))) po_none (po_some (pe_cl C__law_draw hr (pa_cons (pv 0) (pa_cons pe_int pa_nil)))))))))
  pss_nil)
  (pss_cons (ps_if (pt_cmpR op_eqI (pv 1) pe_int (nomark _))
  (pss_cons (ps_asg (pe_tup (pa_cons (pe_cl C__law_piece hr (pa_cons (pv 0) (pa_cons (pv 2) (pa_cons pe_int pa_nil)))) (pa_cons (pe_cl C__law_piece hr (pa_cons (pv 0) (pa_cons (pv 2) (pa_cons pe_int pa_nil)))) pa_nil))) (kgt K (n := 2) (pg_tup rfl (pgs_cons (pg_name (i := 5) nd rfl (Or.inr rfl)) (pgs_cons (pg_name (i := 6) nd rfl (Or.inr rfl)) pgs_nil)))))
  (pss_one (ps_ret (pe_op op_cat (pe_op op_cat (pe_lst (pa_cons (pv 5) pa_nil)) (pe_lc (own := [("turn", 4)]) rfl nd (pi_range1 (by rfl) M.n_range (pa_cons (pe_op op_add pe_int (pe_cl C__law_draw hr (pa_cons (pv 0) (pa_cons pe_int pa_nil)))) pa_nil)) (blkOk_by (N := N__law_words) (sc := defScope st__law_words) (by decide +kernel)) (fun _ _ _ _ _ => (pg_name (i := 4) nd rfl (Or.inl rfl))) (fun _ _ _ _ _ => pts_nil) (fun _ _ _ _ _ => (pe_op op_addT (pv 5) (pe_op op_mulT (pv 6) (pe_op op_add pe_int (pe_cl C__law_draw hr (pa_cons (pv 0) (pa_cons pe_int pa_nil))))))))) (pe_slice (ksl K (r := rSlL) sl_list) (pe_lst (pa_cons (pe_cl C__law_piece hr (pa_cons (pv 0) (pa_cons (pv 2) (pa_cons pe_int pa_nil)))) pa_nil)) po_none (po_some (pe_cl C__law_draw hr (pa_cons (pv 0) (pa_cons pe_int pa_nil)))))))))
  pss_nil)
  (pss_cons (ps_if (pt_cmpR op_eqI (pv 1) pe_int (nomark _))
  (pss_one (ps_ret (pe_lc (own := [("turn", 4)]) rfl nd (pi_range1 (by rfl) M.n_range (pa_cons (pe_cl C__law_one hr (pa_cons (pv 0) (pa_cons (pe_lst (pa_cons pe_int (pa_cons pe_int (pa_cons pe_int pa_nil)))) pa_nil))) pa_nil)) (blkOk_by (N := N__law_words) (sc := defScope st__law_words) (by decide +kernel)) (fun _ _ _ _ _ => (pg_name (i := 4) nd rfl (Or.inl rfl))) (fun _ _ _ _ _ => pts_nil) (fun _ _ _ _ _ => (pe_op op_addT (pe_cl C__law_piece hr (pa_cons (pv 0) (pa_cons (pv 2) (pa_cons pe_int pa_nil)))) (kbm K (pe_bm PySem.F.plainAttrs_str PySem.F.slot_str_join PySem.F.type_str_join (kmt K (r := rJoinT) mt_joinT) (pe_sT []) (pa_cons (pe_lc (own := [("turn", 4)]) rfl nd (pi_range1 (by rfl) M.n_range (pa_cons pe_int pa_nil)) (blkOk_by (N := N__law_words) (sc := sc_words) (by decide +kernel)) (fun _ _ _ _ _ => (pg_name (i := 4) nd rfl (Or.inl rfl))) (fun _ _ _ _ _ => pts_nil) (fun _ _ _ _ _ => (pe_cl C__law_one hr (pa_cons (pv 0) (pa_cons (pv 2) pa_nil))))) pa_nil))))))))
  pss_nil)
  (pss_cons (ps_set (i := 7) nd rfl (Or.inl rfl) (pe_cl C__law_tree hr (pa_cons (pv 0) (pa_cons (pv 2) (pa_cons pe_int pa_nil)))))
  (pss_cut (ps_if (pt_cmpR (kop K (r := fun K => rIn K false) op_in_seq) (pv 1) (pe_tup (pa_cons pe_int (pa_cons pe_int pa_nil))) (by rfl))
  (pss_one (ps_setLc (i := 7) (own := [("word", 8)]) rfl nd rfl rfl (sw_true rfl rfl rfl (by decide +kernel)) (kil K (pi_list (pv 7))) (blkOk_by (N := N__law_words) (sc := defScope st__law_words) (by decide +kernel)) (fun _ _ _ _ _ => (pg_name (i := 8) nd rfl (Or.inl rfl))) (fun _ _ _ _ _ => (pts_one (pt_cmpR op_gt (pe_cl C__law_draw hr (pa_cons (pv 0) (pa_cons pe_int pa_nil))) pe_int (nomark _)))) (fun _ _ _ _ _ => (pv 8))))
  pss_nil)
  (pss_cut (ps_if (pt_cmpR op_eqI (pv 1) pe_int (nomark _))
  (pss_cons (ps_set (i := 8) nd rfl (Or.inr rfl) (pe_cl C__law_one hr (pa_cons (pv 0) (pa_cons (pv 7) pa_nil))))
  (pss_cons (ps_setLc (i := 9) (own := [("other", 10)]) rfl nd rfl rfl (sw_true rfl rfl rfl (by decide +kernel)) (kil K (pi_list (pv 7))) (blkOk_by (N := N__law_words) (sc := defScope st__law_words) (by decide +kernel)) (fun _ _ _ _ _ => (pg_name (i := 10) nd rfl (Or.inl rfl))) (fun _ _ _ _ _ => (pts_one (pt_cmpR op_neT (pv 10) (pv 8) (nomark _)))) (fun _ _ _ _ _ => (pv 10)))
  (pss_one (ps_set (i := 7) nd rfl (Or.inl rfl) (pe_op op_cat (pv 9) (pe_lc (own := [("other", 10)]) rfl nd (kil K (pi_list (pv 7))) (blkOk_by (N := N__law_words) (sc := defScope st__law_words) (by decide +kernel)) (fun _ _ _ _ _ => (pg_name (i := 10) nd rfl (Or.inl rfl))) (fun _ _ _ _ _ => pts_nil) (fun _ _ _ _ _ => (pe_ifExp (pt_cmpR op_eqI (pe_cl C__law_draw hr (pa_cons (pv 0) (pa_cons pe_int pa_nil))) pe_int (nomark _)) (pe_op op_addT (pv 8) (pv 10)) (pe_op op_addT (pv 10) (pv 8))))))))))
  pss_nil)
  (pss_cut (ps_if (pt_cmpR op_eqI (pv 1) pe_int (nomark _))
  (pss_one (ps_set (i := 7) nd rfl (Or.inl rfl) (pe_op op_cat (pv 7) (pe_lst (pa_cons (pe_cl C__law_piece hr (pa_cons (pv 0) (pa_cons (pv 2) (pa_cons pe_int pa_nil)))) pa_nil)))))
  pss_nil)
  (pss_one (ps_ret (pe_ifExp (pt_cmpR (kop K (r := fun K => rIn K false) op_in_seq) (pv 1) (pe_tup (pa_cons pe_int (pa_cons pe_int (pa_cons pe_int pa_nil)))) (by rfl)) (pe_lc (own := [("word", 8)]) rfl nd (kil K (pi_list (pv 7))) (blkOk_by (N := N__law_words) (sc := defScope st__law_words) (by decide +kernel)) (fun _ _ _ _ _ => (pg_name (i := 8) nd rfl (Or.inl rfl))) (fun _ _ _ _ _ => pts_nil) (fun _ _ _ _ _ => (pe_revT (pv 8)))) (pv 7))))))))))))))), ?_⟩
    -- way, signs
    refine (dI_draw (lo := 18) (hi := 18) rfl dI_c : Dw fa (start N__law_words [.ref fa]) _ _ _) H (G.mono (by omega)) _ fun v1 H1 ⟨way, hv1, hw1, hw2⟩ R1 => ?_
    subst hv1
    refine ⟨.ref fa, rfl, fa, T AB, _, rfl, .inl ⟨AB, rfl, rfl⟩, by decide, G.go R1 (by decide), fun pm ys H2 hpm hpf R2 h2 => ?_⟩
    obtain ⟨sa, rfl, hsa⟩ := perm_signs hpm
    have R2 : Rf fa 4 H1 H2 := R2
    have npm : pm ≠ fa := (G.go R1 (m' := 0) (by omega)).new hpf
    have hsl : sa.length = 4 := hsa.length_eq
    refine (dI_oneL (ns := [1, 2, 2, 2, 3, 4]) (lo := 1) (hi := 4) rfl (fun H => el_lst (ea_cons ev_c (ea_cons ev_c (ea_cons ev_c (ea_cons ev_c (ea_cons ev_c (ea_cons ev_c ea_nil)))))) (by show 6 ≤ 100000; decide)) (by decide) (by simp) (by decide) : Dw fa (start N__law_words [.ref fa]) _ _ _) H2 (G.go (R1.trans R2) (m' := 1) (by omega)) _ fun v3 H3 ⟨i, hi, hi1, hi2⟩ R3 => ⟨i, hi, pm, sa.map (fun c => T [c]), rfl, sq_of (R3.at_ h2 npm), fun psg hpsg => ?_⟩
    obtain ⟨i, rfl⟩ := Int.eq_ofNat_of_zero_le (show 0 ≤ i by omega)
    rw [cutV_to, ← List.map_take]
    refine ⟨by show 2 ≤ sizeLine; decide, fun pt hpt => ⟨pt, _, rfl, st_of upd_same, rfl, _, _, rfl, _, [], rfl, rfl, ?_⟩⟩
    have RA : Rf fa 6 H (upd (upd H3 psg (.lst ((sa.take i).map fun c => T [c]))) pt (.tup [.int way, .ref psg])) := (((R1.trans R2).trans R3).then (Ex.new hpsg)).then (Ex.new hpt)
    have hps : (upd (upd H3 psg (.lst ((sa.take i).map fun c => T [c]))) pt (.tup [.int way, .ref psg])) psg = some (.lst ((sa.take i).map fun c => T [c])) := by
      rw [upd_ne (fun z => by rw [z, upd_same] at hpt; cases hpt)]
      exact upd_same
    have nps : psg ≠ fa := (G.go ((R1.trans R2).trans R3) (m' := 0) (by omega)).new hpsg
    generalize upd (upd H3 psg (.lst ((sa.take i).map fun c => T [c]))) pt (.tup [.int way, .ref psg]) = HA at RA hps
    have hsn : sa.take i ≠ [] := fun z => by
      have := congrArg List.length z
      rw [List.length_take, List.length_nil] at this
      omega
    have hs4 : (sa.take i).length ≤ 4 := by
      rw [List.length_take]
      omega
    have hsc : ∀ c ∈ sa.take i, c ∈ AB := fun c hc => hsa.mem_iff.mp (List.mem_of_mem_take hc)
    generalize sa.take i = s at hps hsn hs4 hsc
    clear R1 R2 R3 hpm hsa hsl hpsg hpt h2 hpf
    have hS : ∀ {B : Hp} {m : Nat}, Rf fa m HA B → Sgn B fa (.ref psg) s := fun R => .inr ⟨psg, rfl, R.at_ hps nps, nps⟩
    have hac : ∀ c ∈ s, abcd c := fun c hc => abcd_AB.mpr (hsc c hc)
    have e0 : ((start N__law_words [.ref fa]).set 1 (some (.int way))).set 2 (some (.ref psg)) = [some (.ref fa), some (.int way), some (.ref psg), none, none, none, none, none, none, none, none] := rfl
    rw [e0]
    clear e0
    have fin : ∀ {m0 m : Nat} {B : Hp} {D : Ends} {te : TE} {σ : L2.St}, D.rt = Q → Rf fa m0 HA B → 6 + m0 + m ≤ 900 → Mk fa σ B m (fun us => us.length ≤ 30 ∧ Wof 1 144 AB us) te → tRet te D σ B := fun {m0 m B D te σ} hD R hb h => s_mk h (G.go (RA.trans R) (m' := m) (by omega)) fun q us H6 ⟨u1, u2⟩ hq R6 h6 => by
      rw [hD]
      exact k q us H6 u1 u2 hq (((RA.trans R).trans R6).mono (by omega)) h6
    have up : ∀ {n : Nat} {us : List Tx}, Wof 1 n AB us → n ≤ 144 → Wof 1 144 AB us := fun h hn t ht => ⟨(h t ht).1, Nat.le_trans (h t ht).2.1 hn, (h t ht).2.2⟩
    have inAB : ∀ {n : Nat} {us : List Tx}, Wof 1 n s us → Wof 1 n AB us := fun h t ht => ⟨(h t ht).1, (h t ht).2.1, fun c hc => hsc c ((h t ht).2.2 c hc)⟩
    have vsg : ∀ {σ : L2.St} {B : Hp}, σ[2]? = some (some (.ref psg)) → Ev (tVar 2) σ B (.ref psg) := fun h => ev_var h
    -- way > 14
    refine q_when (et_test (ev_op (ev_var rfl) ev_c rv_I0)) (fun hb H4 e4 => ?_) (fun hb H4 e4 => ?_)
    · exact ⟨.ref fa, rfl, fa, rfl, G.go (RA.then e4) (by omega), fun q us H5 u1 u2 hq R5 h5 => k q us H5 (by omega) u2 hq (((RA.then e4).trans R5).mono (by omega)) h5⟩
    have R4 : Rf fa 0 HA H4 := Rf.of_ex e4
    -- way < 3
    refine q_when (et_test (ev_op (ev_var rfl) ev_c rv_I0)) (fun hb H5 e5 => ?_) (fun hb H5 e5 => ?_)
    · exact fin rfl (R4.then e5) (by decide) (mk_some rfl (fun _ _ _ => vsg rfl) (hS (R4.then e5)) hac hsn (by omega) fun us h1 h2 h3 => ⟨by omega, up (inAB h3) (by decide)⟩)
    have R5 := R4.then e5
    -- way < 5
    refine q_when (et_test (ev_op (ev_var rfl) ev_c rv_I0)) (fun hb H6 e6 => ?_) (fun hb H6 e6 => ?_)
    · exact ⟨.ref fa, rfl, .ref psg, rfl, fa, .ref psg, s, rfl, hS (R5.then e6), hac, hsn, hs4, G.go (RA.trans (R5.then e6)) (by omega), fun q us H7 u1 u2 hq R7 h7 => k q us H7 (by omega) u2 hq (((RA.trans (R5.then e6)).trans R7).mono (by omega)) h7⟩
    have R6 := R5.then e6
    -- way == 5
    refine q_when (et_test (ev_op (ev_var rfl) ev_c rv_I0)) (fun hb H7 e7 => ?_) (fun hb H7 e7 => ?_)
    · have R7 := R6.then e7
      refine wp_piece (i := 0) (long := 3) rfl (vsg rfl) (hS R7) hsn (by omega) (G.go (RA.trans R7) (m' := 800) (by omega)) (by decide) (by decide) (fun y H8 ⟨root, hy, r1, r2, r3⟩ R8 => ?_)
      subst hy
      have R78 := R7.trans R8
      refine fin (m := 500) (σ := [some (.ref fa), some (.int way), some (.ref psg), some (T root), none, none, none, none, none, none, none]) rfl R78 (by decide) (Mk.mono (mk_cat (g1 := fun us => us.length ≤ 3 ∧ Wof 1 144 AB us) (g2 := fun us => us.length ≤ 12 ∧ Wof 1 144 AB us) (mk_range (lo := 1) (N := 3) (c := 1) (s := AB) (lo' := 1) (n := 12) (dI_wk (dI_add dI_c (dI_draw (lo := 3) (hi := 3) rfl dI_c))) (by decide) (fun _ => rfl) (fun x => dw_at (dT_wk (dT_mul (a := 1) (b := 3) (c := 1) (d := 4) (dT_var rfl r1 r2 fun c hc => hsc c (r3 c hc)) (dI_wk (dI_add dI_c (dI_draw (lo := 4) (hi := 4) rfl dI_c)))))) fun us _ h2 h3 => ⟨h2, up h3 (by decide)⟩) (mk_takeD (g := fun us => us.length ≤ 12 ∧ Wof 1 144 AB us) (a := 0) (b := 1) (mk_some rfl (fun _ _ _ => vsg rfl) (hS R78) hac hsn (by omega) fun us h1 h2 h3 => ⟨by omega, up (inAB h3) (by decide)⟩) (dI_draw (lo := 2) (hi := 2) rfl dI_c) (by decide) fun us n ⟨h1, h2⟩ => ⟨by rw [List.length_take]; omega, h2.sub fun t ht => List.mem_of_mem_take ht⟩) ?_))
      rintro a b ⟨a1, a2⟩ ⟨b1, b2⟩
      exact ⟨⟨by rw [List.length_append]; omega, a2.app b2⟩, by omega⟩
    have R7 := R6.then e7
    -- way == 6
    refine q_when (et_test (ev_op (ev_var rfl) ev_c rv_I0)) (fun hb H8 e8 => ?_) (fun hb H8 e8 => ?_)
    · have R8 := R7.then e8
      refine wp_piece (i := 0) (long := 2) rfl (vsg rfl) (hS R8) hsn (by omega) (G.go (RA.trans R8) (m' := 800) (by omega)) (by decide) (by decide) (fun y H9 ⟨fi, hy, r1, r2, r3⟩ R9 => ?_)
      subst hy
      refine wp_piece (i := 0) (long := 3) rfl (vsg rfl) (hS (R8.trans R9)) hsn (by omega) (G.go (RA.trans (R8.trans R9)) (m' := 700) (by omega)) (by decide) (by decide) (fun y H10 ⟨mo, hy, q1, q2, q3⟩ R10 => ⟨by show 2 ≤ sizeLine; decide, fun pt hpt => ⟨pt, _, rfl, st_of upd_same, rfl, _, _, rfl, _, [], rfl, rfl, ?_⟩⟩)
      subst hy
      have RB : Rf fa 7 HA (upd H10 pt (.tup [T fi, T mo])) := (((R8.trans R9).trans R10).then (Ex.new hpt)).mono (by omega)
      generalize upd H10 pt (.tup [T fi, T mo]) = HB at RB ⊢
      refine fin (m := 100) (σ := [some (.ref fa), some (.int way), some (.ref psg), none, none, some (T fi), some (T mo), none, none, none, none]) rfl RB (by decide) (Mk.mono (mk_cat (g1 := fun us => us.length ≤ 3 ∧ Wof 1 144 AB us) (g2 := fun us => us.length ≤ 1 ∧ Wof 1 144 AB us) (mk_cat (g1 := fun us => us = [fi]) (g2 := fun us => us.length ≤ 2 ∧ Wof 1 144 AB us) (mk_ev (ws := [fi]) (fun m0 H0 R0 => el_lst (ea_cons (ev_var rfl) ea_nil) (by show 1 ≤ 100000; decide)) rfl) (mk_range (lo := 1) (N := 2) (c := 1) (s := AB) (lo' := 1) (n := 144) (dI_wk (dI_add dI_c (dI_draw (lo := 2) (hi := 2) rfl dI_c))) (by decide) (fun _ => rfl) (fun x => dw_at (dT_wk (dT_add (a := 1) (b := 2) (c := 1) (d := 9) (dT_var rfl r1 r2 fun c hc => hsc c (r3 c hc)) (dT_wk (dT_mul (a := 1) (b := 3) (c := 1) (d := 3) (dT_var rfl q1 q2 fun c hc => hsc c (q3 c hc)) (dI_wk (dI_add dI_c (dI_draw (lo := 3) (hi := 3) rfl dI_c)))))))) fun us _ h2 h3 => ⟨h2, h3⟩) ?_) (mk_takeD (g := fun us => us.length ≤ 1 ∧ Wof 1 144 AB us) (a := 0) (b := 1) (mk_one (lo := 1) (n := 4) (c := 5) (ok := fun c => c ∈ s) (fun kk H1 R1 G1 Q' q' => wp_piece (i := 0) (long := 4) rfl (vsg rfl) (hS (RB.trans R1)) hsn (by omega) G1 (by decide) (by decide) q') fun t h1 h2 h3 => ⟨by simp, fun t' ht' => by rw [List.mem_singleton.mp ht']; exact ⟨h1, by omega, fun c hc => hsc c (h3 c hc)⟩⟩) (dI_draw (lo := 2) (hi := 2) rfl dI_c) (by decide) fun us n ⟨h1, h2⟩ => ⟨by rw [List.length_take]; omega, h2.sub fun t ht => List.mem_of_mem_take ht⟩) ?_))
      · rintro a b rfl ⟨b1, b2⟩
        refine ⟨⟨by rw [List.length_append]; show 1 + _ ≤ 3; omega, Wof.app (fun t ht => ?_) b2⟩, by show 1 + _ ≤ _; omega⟩
        rw [List.mem_singleton.mp ht]
        exact ⟨r1, by omega, fun c hc => hsc c (r3 c hc)⟩
      · rintro a b ⟨a1, a2⟩ ⟨b1, b2⟩
        exact ⟨⟨by rw [List.length_append]; omega, a2.app b2⟩, by omega⟩
    have R8 := R7.then e8
    -- way == 7
    refine q_when (et_test (ev_op (ev_var rfl) ev_c rv_I0)) (fun hb H9 e9 => ?_) (fun hb H9 e9 => ?_)
    · have R9 := R8.then e9
      refine fin (m := 1 + 12 * 13) (σ := [some (.ref fa), some (.int way), some (.ref psg), none, none, none, none, none, none, none, none]) rfl R9 (by decide) (mk_range (lo := 3) (N := 12) (c := 13) (s := AB) (lo' := 1) (n := 12) (dI_oneL (ns := [3, 6, 12]) (lo := 3) (hi := 12) rfl (fun H => el_lst (ea_cons ev_c (ea_cons ev_c (ea_cons ev_c ea_nil))) (by show 3 ≤ 100000; decide)) (by decide) (by simp) (by decide)) (by decide) (fun _ => rfl) ?_ fun us _ h2 h3 => ⟨by omega, up h3 (by decide)⟩)
      intro x kk H10 R10 G10 Q' q'
      refine wp_piece (i := 0) (long := 1) rfl (vsg rfl) (hS (R9.trans R10)) hsn (by omega) (G10.mono (m := 2) (by omega)) (by decide) (by decide) fun y H11 ⟨t1, hy, r1, r2, r3⟩ R11 => ⟨rfl, lcRD (lo := 11) (N := 11) (c := 1) (m0 := 0) (GdT (fun c => c ∈ s) 1 1) dI_c (by decide) (G10.go R11 (m' := 11) (by omega)) (fun _ => rfl) ?_ _ fun p H12 acc hp R12 h12 hl3 hl4 hg => ?_⟩
      · intro x2 n H12 R12 G12 Q2 q2
        exact wp_oneAny rfl (vsg rfl) (hS (((R9.trans R10).trans R11).trans R12)) G12 hsn (by omega) fun c H2 hc R2 => q2 _ H2 ⟨[c], rfl, by simp, by simp, fun c' hc' => by rw [List.mem_singleton.mp hc']; exact hc⟩ R2
      · subst hy
        obtain ⟨ts, rfl, hts⟩ := texts_GdT hg
        rw [List.length_map] at hl3 hl4
        have hsum := sum_le fun t ht => (hts t ht).2.1
        refine ⟨[], p, ts, rfl, rfl, .inl (sq_of h12), by simp; omega, ?_⟩
        rw [joinL_nil]
        refine ⟨t1, ts.flatten, rfl, rfl, by rw [flat_len]; omega, q' _ H12 ⟨_, rfl, by rw [List.length_append]; omega, by rw [List.length_append, flat_len]; omega, fun c hc => ?_⟩ ((R11.trans R12).mono (by omega))⟩
        rcases List.mem_append.mp hc with z | z
        · exact hsc c (r3 c z)
        · obtain ⟨t, ht, hct⟩ := List.mem_flatten.mp z
          exact hsc c ((hts t ht).2.2 c hct)
    have R9 := R8.then e9
    -- words = tree
    refine q_mk (m := 10) (g := fun us => us ≠ [] ∧ us.length ≤ 12 ∧ Wof 1 12 AB us) (mk_tree (most := 12) (s := s) (v := .ref psg) rfl (fun _ _ _ => vsg rfl) (hS R9) hsn hs4 (by decide) fun us h1 h2 _ h3 => ⟨h1, h2, inAB h3⟩) (G.go (RA.trans R9) (m' := 10) (by omega)) fun p ws H10 ⟨w1, w2, w3⟩ hp R10 h10 => ?_
    have RT := R9.trans R10
    refine q_cut (M := WM fa way psg HA 22 fun us => (way = 10 → us ≠ []) ∧ us.length ≤ 12 ∧ Wof 1 12 AB us) ?_ ?_
    · refine s_when (σ := [some (.ref fa), some (.int way), some (.ref psg), none, none, none, none, some (.ref p), none, none, none]) (b := inV (.int way) [.int 8, .int 9]) (et_test (ev_inU (ev_var rfl) (eu_tup (ea_cons ev_c (ea_cons ev_c ea_nil)) (by show 2 ≤ 100000; decide)) rfl rfl)) (fun hb H11 e11 => ?_) (fun hb H11 e11 => ?_)
      · have G11 : GF fa 12 H11 := G.go (RA.trans (RT.then e11)) (by omega)
        refine lcDT (GdT (fun c => c ∈ AB) 1 12) 1 G11.is (src_listM (K := K) (f := T) (xs := ws) (ev_var rfl) (sq_of (e11 _ _ h10))) (Ne.symm hp) (by omega) (fun _ => rfl) ?_ ?_ fun r H12 acc hr R12 h12 hl hg => ?_
        · intro i x H12 hi _ R12 Q' q'
          exact dw_test (dI_draw (lo := 4) (hi := 4) rfl dI_c) dI_c (G11.go R12 (m' := 1) (by omega)) Q' q'
        · intro i x H12 H13 hi hx R13 Q' q'
          obtain ⟨t, ht, rfl⟩ := at_map hx
          exact ⟨T t, rfl, q' _ H13 ⟨t, rfl, w3 t (List.mem_of_getElem? ht)⟩ (Ex.refl _)⟩
        · obtain ⟨us, rfl, hus⟩ := texts_GdT hg
          rw [List.length_map] at hl
          refine ⟨r, us, _, _, _, rfl, G11.new hr, ((RT.then e11).trans R12).mono (by omega), h12, fun z => ?_, by omega, hus⟩
          subst z
          cases hb
      · exact ⟨p, ws, _, _, _, rfl, hp, (RT.then e11).mono (by omega), e11 _ _ h10, fun _ => w1, w2, w3⟩
    clear RT R10 h10 w1 w2 w3 hp R9 R8 R7 R6 R5 R4
    rintro σ' HB ⟨p, ws, v8, v9, v10, rfl, hp, R10, h10, w1, w2, w3⟩
    refine q_cut (M := WM fa way psg HA 60 fun us => us.length ≤ 24 ∧ Wof 1 24 AB us) ?_ ?_
    · refine s_when (et_test (ev_op (ev_var rfl) ev_c rv_I0)) (fun hb H11 e11 => ?_) (fun hb H11 e11 => ?_)
      · have hne := w1 (of_decide_eq_true hb)
        have R11 := R10.then e11
        refine q_oneS (xs := ws.map T) rfl (ev_var rfl) (.inl (sq_of (e11 _ _ h10))) hp (G.go (RA.trans R11) (m' := 1) (by omega)) (fun z => hne (List.map_eq_nil_iff.mp z)) (by rw [List.length_map]; omega) fun v H12 hv R12 => ?_
        obtain ⟨t, ht, rfl⟩ := List.mem_map.mp hv
        have R12' := R11.trans R12
        have h12 := R12.at_ (e11 _ _ h10) hp
        have wt := w3 t ht
        refine q_asgL (xs := (ws.filter fun u => !decide (u = t)).map T) (el_lcF (σ := [some (.ref fa), some (.int way), some (.ref psg), none, none, none, none, some (.ref p), some (T t), v9, v10]) (j := 10) (vs := [10]) (f := T) (g := T) ws (src_listM (ev_var rfl) (sq_of h12)) (by omega) (fun _ => rfl) (fun u H1 e1 _ => et_test (ev_op (ev_var rfl) (ev_var rfl) rv_neT)) (fun u H1 e1 _ _ => ev_var rfl)) fun q H13 hq e13 h13 => ?_
        have R13 := R12'.then e13
        have nq : q ≠ fa := (G.go (RA.trans R12') (m' := 0) (by omega)).new hq
        have h133 := e13 _ _ h12
        have hfl := List.length_filter_le (fun u : Tx => !decide (u = t)) ws
        refine s_mkA (σ := [some (.ref fa), some (.int way), some (.ref psg), none, none, none, none, some (.ref p), some (T t), some (.ref q), v10]) (m := 0 + (0 + 12 * 1)) (g := fun us => us.length ≤ 24 ∧ Wof 1 24 AB us) (mk_cat (g1 := fun us => us = ws.filter fun u => !decide (u = t)) (g2 := fun us => us.length ≤ 12 ∧ Wof 1 24 AB us) (mk_var rfl h13 nq rfl) (mk_mapD (g := fun us => us = ws) (N := 12) (c := 1) (lo := 1) (n := 24) (ok := fun c => c ∈ AB) (mk_var rfl h133 hp rfl) (fun _ => rfl) (fun us hu => by rw [hu]; exact w2) (by decide) ?_ fun us vs hu hvl hv => ⟨by rw [hvl, hu]; exact w2, hv⟩) ?_) (G.go (RA.trans R13) (m' := 12) (by omega)) fun r us H14 ⟨u1, u2⟩ hr R14 h14 => ⟨r, us, _, _, _, rfl, hr, (R13.trans R14).mono (by omega), h14, u1, u2⟩
        · intro us u kk H14 hu hut R14 G14 Q' q'
          have wu := w3 u (hu ▸ hut)
          have d1 : Dw fa ((wipe [some (.ref fa), some (.int way), some (.ref psg), none, none, none, none, some (.ref p), some (T t), some (.ref q), v10] [10]).set 10 (some (T u))) 0 (tOp rAddT (tVar 8) (tVar 10)) (GdT (fun c => c ∈ AB) 1 24) := dT_wk (dT_add (a := 1) (b := 12) (c := 1) (d := 12) (dT_var rfl wt.1 wt.2.1 wt.2.2) (dT_var rfl wu.1 wu.2.1 wu.2.2))
          have d2 : Dw fa ((wipe [some (.ref fa), some (.int way), some (.ref psg), none, none, none, none, some (.ref p), some (T t), some (.ref q), v10] [10]).set 10 (some (T u))) 0 (tOp rAddT (tVar 10) (tVar 8)) (GdT (fun c => c ∈ AB) 1 24) := dT_wk (dT_add (a := 1) (b := 12) (c := 1) (d := 12) (dT_var rfl wu.1 wu.2.1 wu.2.2) (dT_var rfl wt.1 wt.2.1 wt.2.2))
          refine dw_test (dI_draw (lo := 2) (hi := 2) rfl dI_c) dI_c G14 _ fun b H15 R15 => ?_
          cases b with
          | true => exact d1 H15 (G14.go R15 (m' := 0) (by omega)) _ fun y H16 hy R16 => q' y H16 hy (R15.trans R16)
          | false => exact d2 H15 (G14.go R15 (m' := 0) (by omega)) _ fun y H16 hy R16 => q' y H16 hy (R15.trans R16)
        · rintro a b rfl ⟨b1, b2⟩
          refine ⟨⟨by rw [List.length_append]; omega, Wof.app (fun u hu => ?_) b2⟩, by omega⟩
          have := w3 u (List.mem_filter.mp hu).1
          exact ⟨this.1, by omega, this.2.2⟩
      · exact ⟨p, ws, _, _, _, rfl, hp, (R10.then e11).mono (by omega), e11 _ _ h10, by omega, fun u hu => ⟨(w3 u hu).1, by have := (w3 u hu).2.1; omega, (w3 u hu).2.2⟩⟩
    clear R10 h10 w1 w2 w3 hp
    rintro σ' HB ⟨p, ws, v8, v9, v10, rfl, hp, R10, h10, w2, w3⟩
    refine q_cut (M := WM fa way psg HA 90 fun us => us.length ≤ 30 ∧ Wof 1 24 AB us) ?_ ?_
    · refine s_when (et_test (ev_op (ev_var rfl) ev_c rv_I0)) (fun hb H11 e11 => ?_) (fun hb H11 e11 => ?_)
      · have R11 := R10.then e11
        refine s_mkA (σ := [some (.ref fa), some (.int way), some (.ref psg), none, none, none, none, some (.ref p), v8, v9, v10]) (m := 0 + 6) (g := fun us => us.length ≤ 30 ∧ Wof 1 24 AB us) (mk_cat (g1 := fun us => us = ws) (g2 := fun us => us.length ≤ 1 ∧ Wof 1 24 AB us) (mk_var rfl (e11 _ _ h10) hp rfl) (mk_one (lo := 1) (n := 5) (c := 6) (ok := fun c => c ∈ s) (fun kk H1 R1 G1 Q' q' => wp_piece (i := 0) (long := 5) rfl (vsg rfl) (hS (R11.trans R1)) hsn (by omega) G1 (by decide) (by decide) q') fun t h1 h2 h3 => ⟨by simp, fun t' ht' => by rw [List.mem_singleton.mp ht']; exact ⟨h1, by omega, fun c hc => hsc c (h3 c hc)⟩⟩) ?_) (G.go (RA.trans R11) (m' := 6) (by omega)) fun r us H14 ⟨u1, u2⟩ hr R14 h14 => ⟨r, us, _, _, _, rfl, hr, (R11.trans R14).mono (by omega), h14, u1, u2⟩
        rintro a b rfl ⟨b1, b2⟩
        exact ⟨⟨by rw [List.length_append]; omega, w3.app b2⟩, by omega⟩
      · exact ⟨p, ws, _, _, _, rfl, hp, (R10.then e11).mono (by omega), e11 _ _ h10, by omega, w3⟩
    clear R10 h10 w2 w3 hp
    rintro σ' HB ⟨p, ws, v8, v9, v10, rfl, hp, R10, h10, w2, w3⟩
    refine fin (m := 0) rfl R10 (by decide) (mk_ifE (fun m0 H0 R0 => ⟨inV (.int way) [.int 9, .int 12, .int 13], et_test (ev_inU (ev_var rfl) (eu_tup (ea_cons ev_c (ea_cons ev_c (ea_cons ev_c ea_nil))) (by show 3 ≤ 100000; decide)) rfl rfl)⟩) (mk_map (g := fun us => us = ws) List.reverse (mk_var rfl h10 hp rfl) (fun _ => rfl) (fun us hu => by rw [hu]; omega) (fun us t m0 H2 hu ht R2 => ev_revT (ev_var rfl) (by have := (w3 t (hu ▸ ht)).2.1; omega)) ?_) (mk_var (g := fun us => us.length ≤ 30 ∧ Wof 1 144 AB us) rfl h10 hp ⟨w2, up w3 (by decide)⟩))
    rintro us rfl
    refine ⟨by rw [List.length_map]; exact w2, fun t ht => ?_⟩
    obtain ⟨u, hu, rfl⟩ := List.mem_map.mp ht
    have := w3 u hu
    exact ⟨by rw [List.length_reverse]; exact this.1, by rw [List.length_reverse]; omega, fun c hc => this.2.2 c (List.mem_reverse.mp hc)⟩
end
end K24
set_option Elab.async false
set_option linter.all false
set_option maxRecDepth 100000
set_option maxHeartbeats 4000000
namespace K24
open PySem PySem.Spec PyProof.Rows L2 Evl Wc Wt Wg Ws Wr
section
variable {P : Program} {w : World} {K : PySem.W.Frag} {mg : Str → Option Value} {base : Heap}
theorem ok__law_lot {f : Addr} {fd : FuncData} (F : Fun K "_law_lot" "_law_lot" st__law_lot f fd) (M : Md K mg) (C__law_mixed : Cal P w K mg base "_law_mixed" st__law_mixed 2 ["feed", "things"] (sp_mixed K)) (C__law_words : Cal P w K mg base "_law_words" st__law_words 6 ["feed"] sp_words) : FnOk P w K mg base CX0 7 f fd ["feed"] sp_lot := by
  have nd := sc__law_lot.nd
  refine F.ok sc__law_lot (fun vs H Q E h => ?_) (fun cdv A outer s H vs Q E hr h => ?_)
  · obtain ⟨_, rfl, _⟩ := h
    rfl
  · obtain ⟨fa, rfl, G, k⟩ := h
    refine ⟨_, (pss_cons (ps_set (i := 1) nd rfl (Or.inl rfl) (pe_callB (ksorted P w K hr.units) (by rfl) M.n_sorted boot_sorted (pa_cons (pe_callTy (kset P w K) (by rfl) M.n_set boot_set (pa_cons (pe_lc (own := [("word", 2)]) rfl nd (kil K (pi_list (pe_cl C__law_words hr (pa_cons (pv 0) pa_nil)))) (blkOk_by (N := N__law_lot) (sc := defScope st__law_lot) (by decide +kernel)) (fun _ _ _ _ _ => (pg_name (i := 2) nd rfl (Or.inl rfl))) (fun _ _ _ _ _ => (pts_one (pt_cmpR op_lt (pe_callB cr_lenT (by rfl) M.n_len boot_len (pa_cons (pv 2) pa_nil)) pe_int (nomark _)))) (fun _ _ _ _ _ => (pv 2))) pa_nil)) pa_nil)))
  (pss_one (ps_ret (pe_ifExp (pt_cmpR (kop K (r := rNeD) (op_neD hr.units)) (pv 1) (pe_lst pa_nil) (nomark _)) (pe_callTy (kcr K (r := rTupS) call_tuple_of) (by rfl) M.n_tuple boot_tuple (pa_cons (pe_callB (ksorted P w K hr.units) (by rfl) M.n_sorted boot_sorted (pa_cons (pe_slice (ksl K (r := rSlL) sl_list) (pe_cl C__law_mixed hr (pa_cons (pv 0) (pa_cons (pv 1) pa_nil))) po_none (po_some pe_int)) pa_nil)) pa_nil)) (pe_tup (pa_cons (pe_sT [97]) (pa_cons (pe_sT [97, 98]) (pa_cons (pe_sT [98, 98]) pa_nil)))))))), ?_⟩
    refine ⟨.ref fa, rfl, fa, rfl, G.mono (by omega), fun pw ws H1 hw1 hw2 npw R1 h1 => ?_⟩
    have hlc : EvL (tLc (iList K (fun _ H' Q' => Q' (.ref pw) H')) (gName 2) (tTest (tOp (rI0 fun i j => .bl (decide (i < j))) (tCB rLenT (tCons (tVar 2) tNil)) (tC (.int 13)))) (tVar 2) [2]) (start N__law_lot [.ref fa]) H1 ((ws.filter fun t => decide ((t.length : Int) < 13)).map T) := by
      refine el_lcF (j := 2) (vs := [2]) (f := T) (g := T) ws (src_listM (fun H2 e2 Q q => q H2 (Ex.refl _)) (sq_of h1)) (by omega) (fun _ => rfl) (fun t H1 e1 ht => ?_) (fun t H1 e1 ht _ => ev_var rfl)
      have := (hw2 t ht).2.1
      exact et_test (ev_op (ev_cb (ea_cons (ev_var rfl) ea_nil) (rc_lenT (by omega))) ev_c rv_I0)
    have hfl := List.length_filter_le (fun t : Tx => decide ((t.length : Int) < 13)) ws
    refine el_sortSet (P := P) (w := w) hlc (by omega) _ fun pg ys H2 u hly hpg e2 h2 => ?_
    have hys : ∀ t ∈ ys, 1 ≤ t.length ∧ t.length ≤ 12 ∧ ∀ c ∈ t, abcd c := fun t ht => by
      have h := (u.mem t).mp ht
      rw [List.mem_filter, decide_eq_true_eq] at h
      have := hw2 t h.1
      exact ⟨this.1, by omega, fun c hc => abcd_AB.mpr (this.2.2 c hc)⟩
    have hgl : (sortT ys).length = ys.length := sortT_len ys
    have hgd : (sortT ys).Nodup := (sortT_perm ys).nodup_iff.mpr u.nd
    have hgm : ∀ t ∈ sortT ys, 1 ≤ t.length ∧ t.length ≤ 12 ∧ ∀ c ∈ t, abcd c := fun t ht => hys t (sortT_mem.mp ht)
    generalize sortT ys = good at h2 hgl hgd hgm
    have R2 : Rf fa 900 H H2 := R1.then e2
    have npg : pg ≠ fa := (G.go R1 (m' := 0) (by omega)).new hpg
    have hlow : ∀ t ∈ good, LowT t := fun t ht c hc => by
      have := (hgm t ht).2.2 c hc
      unfold abcd at this
      omega
    dsimp only [gName]
    have e0 : (start N__law_lot [.ref fa]).set 1 (some (.ref pg)) = [some (.ref fa), some (.ref pg), none] := rfl
    rw [e0]
    refine s_retIf (et_neNilT h2 hlow (ev_var rfl)) (fun hb H3 e3 => ?_) (fun hb H3 e3 => ?_)
    · have hnn : good ≠ [] := by simpa using hb
      have R3 := R2.then e3
      refine ⟨.ref fa, rfl, .ref pg, rfl, fa, .ref pg, good.map T, rfl, .inr ⟨pg, rfl, sq_of (e3 _ _ h2), npg⟩, by rw [List.length_map]; omega, G.go R3 (by rw [List.length_map]; omega), fun q xs H4 pm hq R4 h4 => ?_⟩
      obtain ⟨zs, rfl, pz⟩ := perm_texts pm
      rw [List.length_map] at R4
      have R4' : Rf fa 1000 H H4 := (R3.trans R4).mono (by omega)
      have hgz : ∀ t ∈ zs, 1 ≤ t.length ∧ t.length ≤ 12 ∧ ∀ c ∈ t, abcd c := fun t ht => hgm t (pz.mem_iff.mp ht)
      refine ⟨(12 : Int), rfl, q, zs.map T, rfl, sq_of h4, fun r hr => ?_⟩
      rw [show cutV (zs.map T) none (some (12 : Int)) = (zs.map T).take 12 from cutV_to _ 12, ← List.map_take]
      have R5 : Rf fa 1000 H (upd H4 r (.lst ((zs.take 12).map T))) := R4'.then (Ex.new hr)
      refine (el_sorted (P := P) (w := w) (te := fun _ H' Q' => Q' (.ref r) H') (fun H2 e2 Q q => q H2 (Ex.refl _)) (sq_of upd_same) : EvL _ [some (.ref fa), some (.ref pg), none] (upd H4 r (.lst ((zs.take 12).map T))) ((sortT (zs.take 12)).map T)) _ (Ex.refl _) _ fun pq H5 hpq e5 h5 => ⟨pq, _, rfl, .inl ⟨sq_of h5, fun l hl => ?_⟩⟩
      have R6 := R5.then e5
      have hsl : (sortT (zs.take 12)).length ≤ 12 := by rw [sortT_len, List.length_take]; omega
      have hzl := pz.length_eq
      have hgp : 0 < good.length := List.length_pos_iff.mpr hnn
      refine k l (sortT (zs.take 12)) _ ⟨fun z => ?_, hsl, fun t ht => ?_, fun t ht z => ?_, pw_lt (sortT_pw _) ((sortT_perm _).nodup_iff.mpr ((pz.nodup_iff.mpr hgd).sublist (List.take_sublist _ _)))⟩ (R6.free G.is hl (G.go R6 (m' := 0) (by omega)).is) (R6.then (Ex.new hl)) upd_same
      · have := sortT_len (zs.take 12)
        rw [z, List.length_take, List.length_nil] at this
        omega
      · have := hgz t (List.mem_of_mem_take (sortT_mem.mp ht))
        exact ⟨this.2.1, this.2.2⟩
      · have := (hgz t (List.mem_of_mem_take (sortT_mem.mp ht))).1
        rw [z] at this
        simp at this
    · refine ⟨by decide, fun l hl => ?_⟩
      have RR : Rf fa 1000 H H3 := (R2.then e3).mono (by omega)
      refine k l [[97], [97, 98], [98, 98]] _ ⟨by simp, by simp, fun t ht => ?_, fun t ht z => ?_, by decide⟩ (RR.free G.is hl (G.go RR (m' := 0) (by omega)).is) (RR.then (Ex.new hl)) upd_same
      · simp at ht
        rcases ht with rfl | rfl | rfl <;> exact ⟨by decide, fun c hc => by simp at hc; unfold abcd; omega⟩
      · subst z
        simp at ht
end
end K24
set_option Elab.async false
set_option linter.all false
set_option maxRecDepth 100000
set_option maxHeartbeats 2000000
namespace K24
open PySem PySem.Spec PyProof.Rows L2 Evl Wc Wt Wg Ws Wr
def areSigns (a : Tx) (most : Int) : Bool := decide ((a.length : Int) ≤ most) && a.all fun c => decide (c ∈ [97, 98, 99, 100])
def sp_are_signs : Sp := fun vs H Q _ => ∃ (a : Tx) (most : Int), vs = [T a, .int most] ∧ a.length ≤ 20000 ∧ RetV (.bl (areSigns a most)) H Q
theorem areSigns_ok {a : Tx} {m : Nat} (h1 : a.length ≤ m) (h2 : ∀ c ∈ a, abcd c) : areSigns a (m : Int) = true := by
  unfold areSigns
  rw [Bool.and_eq_true, decide_eq_true_eq, List.all_eq_true]
  refine ⟨by omega, fun c hc => decide_eq_true ?_⟩
  have := h2 c hc
  unfold abcd at this
  have h4 : c = 97 ∨ c = 98 ∨ c = 99 ∨ c = 100 := by omega
  rcases h4 with rfl | rfl | rfl | rfl <;> decide
/-- a lot at p -/
def LotAt (p : Addr) (lot : List Tx) (H : Hp) : Prop := H p = some (.tup (lot.map T)) ∧ IsLot lot
theorem LotAt.ex {p : Addr} {lot : List Tx} {H H1 : Hp} (h : LotAt p lot H) (e : Ex H H1) : LotAt p lot H1 := ⟨e _ _ h.1, h.2⟩
theorem zip_lt : ∀ {lot : List Tx}, lot.Pairwise (· < ·) → ∀ a ∈ List.zip lot (lot.drop 1), a.1 < a.2
  | [], _, a, h => by simp at h
  | [x], _, a, h => by simp at h
  | x :: y :: r, hp, a, h => by
    rw [List.pairwise_cons] at hp
    simp only [List.drop_succ_cons, List.drop_zero, List.zip_cons_cons, List.mem_cons] at h
    rcases h with rfl | h
    · exact hp.1 y List.mem_cons_self
    · have := zip_lt hp.2 a
      simp only [List.drop_succ_cons, List.drop_zero] at this
      exact this h
/-- things: a tuple of texts, or something else -/
inductive Th (H : Hp) : V → Option (List Tx) → Prop
  | tup {a : Addr} {ws : List Tx} : H a = some (.tup (ws.map T)) → Th H (.ref a) (some ws)
  | lst {a : Addr} {xs : List V} : H a = some (.lst xs) → Th H (.ref a) none
  | non : Th H .non none
  | int (i : Int) : Th H (.int i) none
  | str (s : Tx) : Th H (T s) none
theorem Th.ex {H H1 : Hp} {v : V} {o : Option (List Tx)} (h : Th H v o) (e : Ex H H1) : Th H1 v o := by
  cases h with
  | tup h => exact .tup (e _ _ h)
  | lst h => exact .lst (e _ _ h)
  | non => exact .non
  | int i => exact .int i
  | str s => exact .str s
def wordB (t : Tx) : Bool := areSigns t 12 && !decide (t = [])
def sp_is_word : Sp := fun vs H Q _ => ∃ (a : Tx), vs = [T a] ∧ a.length ≤ 20000 ∧ RetV (.bl (wordB a)) H Q
def ascB (ws : List Tx) : Bool := (List.zip ws (ws.drop 1)).all fun a => decide (a.1 < a.2)
def lotB : Option (List Tx) → Bool
  | none => false
  | some ws => (decide (1 ≤ ws.length) && decide (ws.length ≤ 12)) && (ws.all wordB && ascB ws)
theorem lotB_some (ws : List Tx) : lotB (some ws) = ((decide (1 ≤ ws.length) && decide (ws.length ≤ 12)) && (ws.all wordB && ascB ws)) := rfl
/-- of a size to be looked at -/
def Sm : Option (List Tx) → Prop
  | none => True
  | some ws => ws.length ≤ 1000 ∧ ∀ t ∈ ws, t.length ≤ 20000
theorem lotB_ok {lot : List Tx} (h : IsLot lot) : lotB (some lot) = true := by
  unfold lotB ascB
  have h1 : 1 ≤ lot.length := List.length_pos_iff.mpr h.ne
  rw [Bool.and_eq_true, Bool.and_eq_true, Bool.and_eq_true, decide_eq_true_eq, decide_eq_true_eq]
  refine ⟨⟨h1, h.few⟩, List.all_eq_true.mpr fun t ht => ?_, List.all_eq_true.mpr fun a ha => decide_eq_true (zip_lt h.asc a ha)⟩
  unfold wordB
  rw [show areSigns t 12 = true from areSigns_ok (m := 12) (h.wd t ht).1 (h.wd t ht).2, decide_eq_false (h.pos t ht)]
  rfl
theorem sm_ok {lot : List Tx} (h : IsLot lot) : Sm (some lot) := ⟨by have := h.few; omega, fun t ht => by have := (h.wd t ht).1; omega⟩
/-- numbers, and what is none -/
inductive Nt : V → Option Int → Prop
  | int (i : Int) : Nt (.int i) (some i)
  | bl (b : Bool) : Nt (.bl b) none
  | non : Nt .non none
  | str (s : Tx) : Nt (T s) none
def intB : Option Int → Bool
  | none => false
  | some _ => true
def inB (a b : Int) : Option Int → Bool
  | none => false
  | some i => decide (a ≤ i) && decide (i ≤ b)
section
variable {P : Program} {w : World} {K : PySem.W.Frag} {mg : Str → Option Value} {base : Heap}
def sp_is_integer : Sp := fun vs H Q _ => ∃ (v : V) (o : Option Int), vs = [v] ∧ Nt v o ∧ RetV (.bl (intB o)) H Q
def sp_is_within : Sp := fun vs H Q _ => ∃ (v : V) (o : Option Int) (a b : Int), vs = [v, .int a, .int b] ∧ Nt v o ∧ RetV (.bl (inB a b o)) H Q
def sp_need_number (CN : Addr) : Sp := fun vs H Q E => ∃ (v : V) (o : Option Int) (a b : Int), vs = [v, .int a, .int b] ∧ Nt v o ∧ (inB a b o = true → RetV .non H Q) ∧ (inB a b o = false → ∀ H', Ex H H' → E (.ref CN) none H')
def sp_ascending : Sp := fun vs H Q _ => ∃ (p : Addr) (lot : List Tx), vs = [.ref p] ∧ H p = some (.tup (lot.map T)) ∧ lot ≠ [] ∧ lot.length ≤ 1000 ∧ RetV (.bl (ascB lot)) H Q
def sp_lot_form : Sp := fun vs H Q _ => ∃ (v : V) (o : Option (List Tx)), vs = [v] ∧ Th H v o ∧ Sm o ∧ RetV (.bl (lotB o)) H Q
def sp_need_lot (CL : Addr) : Sp := fun vs H Q E => ∃ (v : V) (o : Option (List Tx)), vs = [v] ∧ Th H v o ∧ Sm o ∧ (lotB o = true → RetV .non H Q) ∧ (lotB o = false → ∀ H', Ex H H' → E (.ref CL) none H')
theorem ok_is_integer {f : Addr} {fd : FuncData} (F : Fun K "is_integer" "is_integer" st_is_integer f fd) (M : Md K mg) : FnOk P w K mg base CX0 1 f fd ["thing"] sp_is_integer := by
  have nd := sc_is_integer.nd
  refine F.ok sc_is_integer (fun vs H Q E h => ?_) (fun cdv A outer s H vs Q E hr h => ?_)
  · obtain ⟨_, _, rfl, _⟩ := h
    rfl
  · obtain ⟨v, o, rfl, hn, k⟩ := h
    refine ⟨_, (pss_one (ps_ret (pe_and (pe_callB (kcr K (r := rIsiB) cr_isi) (by rfl) M.n_isinstance boot_isinstance (pa_cons (pv 0) (pa_cons (pe_bltn (v := .ty "int") rfl M.n_int boot_int rfl) pa_nil))) (pe_one (pe_not (pe_callB (kcr K (r := rIsiB) cr_isi) (by rfl) M.n_isinstance boot_isinstance (pa_cons (pv 0) (pa_cons (pe_bltn (v := .ty "bool") rfl M.n_bool boot_bool rfl) pa_nil)))))))), ?_⟩
    have hti : ∃ t, (∀ H1 : Hp, TyX K H1 v (.type t)) ∧ ∃ b, kitB t "int" = some b ∧ ∃ c, (b = true → kitB t "bool" = some c) ∧ (b && !c) = intB o := by
      cases hn with
      | int i => exact ⟨"int", fun _ => .base (.int i), true, k_int_int, false, fun _ => k_int_bool, rfl⟩
      | bl b => exact ⟨"bool", fun _ => .base (.bl b), true, k_bool_int, true, fun _ => k_bool_bool, rfl⟩
      | non => exact ⟨"NoneType", fun _ => .base .non, false, (by decide +kernel), false, (fun z => by cases z), rfl⟩
      | str s => exact ⟨"str", fun _ => .base (.str _), false, (by decide +kernel), false, (fun z => by cases z), rfl⟩
    obtain ⟨t, hty, b, hb, c, hc, e⟩ := hti
    exact s_ret (ev_is (ev_andV (ev_cb (ea_cons (ev_var rfl) (ea_cons ev_c ea_nil)) (rc_isi (b := b) (fun H1 _ => hty H1) hb)) fun z => ev_notV (ev_cb (ea_cons (ev_var rfl) (ea_cons ev_c ea_nil)) (rc_isi (b := c) (fun H1 _ => hty H1) (hc z)))) (by rw [e])) k
theorem ok_is_within {f : Addr} {fd : FuncData} (F : Fun K "is_within" "is_within" st_is_within f fd) (M : Md K mg) (C_is_integer : Cal P w K mg base "is_integer" st_is_integer 1 ["thing"] sp_is_integer) : FnOk P w K mg base CX0 2 f fd ["thing", "least", "most"] sp_is_within := by
  have nd := sc_is_within.nd
  refine F.ok sc_is_within (fun vs H Q E h => ?_) (fun cdv A outer s H vs Q E hr h => ?_)
  · obtain ⟨_, _, _, _, rfl, _⟩ := h
    rfl
  · obtain ⟨v, o, a, b, rfl, hn, k⟩ := h
    refine ⟨_, (pss_one (ps_ret (pe_and (pe_cl C_is_integer hr (pa_cons (pv 0) pa_nil)) (pe_one (pe_chain op_le op_le (pv 1) (pv 0) (pv 2)))))), ?_⟩
    cases o with
    | none => exact s_ret (ev_is (w := .bl (inB a b none)) (ev_andV (a := false) (b := false) (ev_call (ea_cons (ev_var rfl) ea_nil) fun H1 e1 Q q E => ⟨v, none, rfl, hn, q⟩) fun z => by cases z) rfl) k
    | some i =>
      cases hn
      exact s_ret (ev_is (w := .bl (inB a b (some i))) (ev_andV (a := true) (ev_call (ea_cons (ev_var rfl) ea_nil) fun H1 e1 Q q E => ⟨.int i, some i, rfl, .int i, q⟩) fun _ => ev_chain (ev_var rfl) (ev_var rfl) rv_I0 (ev_var rfl) rv_I0) (by simp [inB])) k
theorem ok_need_number {f CN : Addr} {fd : FuncData} (F : Fun K "need_number" "need_number" st_need_number f fd) (M : Md K mg) (E_BadNumber : Err K mg "BadNumber" CN) (C_is_within : Cal P w K mg base "is_within" st_is_within 2 ["thing", "least", "most"] sp_is_within) : FnOk P w K mg base (L2.CX P w) 3 f fd ["thing", "least", "most"] (sp_need_number CN) := by
  have nd := sc_need_number.nd
  refine F.okX sc_need_number (fun vs H Q E h => ?_) (fun cdv A outer s H vs Q E hr h => ?_)
  · obtain ⟨_, _, _, _, rfl, _⟩ := h
    rfl
  · obtain ⟨v, o, a, b, rfl, hn, k1, k2⟩ := h
    refine ⟨_, (pss_one (ps_if (pt_not (pt_val (pe_cl C_is_within hr (pa_cons (pv 0) (pa_cons (pv 1) (pa_cons (pv 2) pa_nil))))))
  (pss_one (ps_raiseE rfl (takes_of rfl rfl rfl rfl) E_BadNumber))
  pss_nil)), ?_⟩
    refine s_when (et_not (et_B (ev_call (ea_cons (ev_var rfl) (ea_cons (ev_var rfl) (ea_cons (ev_var rfl) ea_nil))) fun H1 e1 Q q E => ⟨v, o, a, b, rfl, hn, q⟩))) (fun hb H1 e1 => k2 (by simpa using hb) H1 e1) (fun hb H1 e1 => k1 (by simpa using hb) H1 e1)
theorem ok_are_signs {f : Addr} {fd : FuncData} (F : Fun K "are_signs" "are_signs" st_are_signs f fd) (M : Md K mg) : FnOk P w K mg base CX0 1 f fd ["thing", "most"] sp_are_signs := by
  have nd := sc_are_signs.nd
  refine F.ok sc_are_signs (fun vs H Q E h => ?_) (fun cdv A outer s H vs Q E hr h => ?_)
  · obtain ⟨_, _, rfl, _⟩ := h
    rfl
  · obtain ⟨a, most, rfl, ha, k⟩ := h
    refine ⟨_, (pss_one (ps_ret (pe_and (pe_callB (kcr K (r := rIsiB) cr_isi) (by rfl) M.n_isinstance boot_isinstance (pa_cons (pv 0) (pa_cons (pe_bltn (v := .ty "str") rfl M.n_str boot_str rfl) pa_nil))) (pe_and (pe_cmpR op_le (pe_callB cr_lenT (by rfl) M.n_len boot_len (pa_cons (pv 0) pa_nil)) (pv 1) (nomark _)) (pe_one (pe_callB (kcr K (r := rAll) (cr_all rfl)) (by rfl) M.n_all boot_all (pa_cons (pe_lc (own := [("sign", 2)]) rfl nd (pi_str (pv 0)) (blkOk_by (N := N_are_signs) (sc := defScope st_are_signs) (by decide +kernel)) (fun _ _ _ _ _ => (pg_name (i := 2) nd rfl (Or.inl rfl))) (fun _ _ _ _ _ => pts_nil) (fun _ _ _ _ _ => (pe_cmpR op_inT (pv 2) (pe_gT M.c_SIGNS [97, 98, 99, 100]) (by rfl)))) pa_nil))))))), ?_⟩
    exact s_ret (ev_andV (ev_cb (ea_cons (ev_var rfl) (ea_cons ev_c ea_nil)) (rc_isi (fun _ _ => .base (.str _)) k_str_str)) fun _ => ev_andV (ev_op (ev_cb (ea_cons (ev_var rfl) ea_nil) (rc_lenT (by omega))) (ev_var rfl) rv_I0) fun _ =>
      ev_cbL (el_lcM a (src_str (ev_var rfl)) (by omega) (fun _ => rfl) fun c H1 e1 hc => ev_op (ev_var rfl) ev_c rv_inT) fun p H1 hp e1 => rc_allM (sq_of hp)) k
theorem ok_is_word {f : Addr} {fd : FuncData} (F : Fun K "is_word" "is_word" st_is_word f fd) (M : Md K mg) (C_are_signs : Cal P w K mg base "are_signs" st_are_signs 1 ["thing", "most"] sp_are_signs) : FnOk P w K mg base CX0 2 f fd ["thing"] sp_is_word := by
  have nd := sc_is_word.nd
  refine F.ok sc_is_word (fun vs H Q E h => ?_) (fun cdv A outer s H vs Q E hr h => ?_)
  · obtain ⟨_, rfl, _⟩ := h
    rfl
  · obtain ⟨a, rfl, ha, k⟩ := h
    refine ⟨_, (pss_one (ps_ret (pe_and (pe_cl C_are_signs hr (pa_cons (pv 0) (pa_cons (pe_gI M.c_MOST_LETTERS) pa_nil))) (pe_one (pe_cmpR op_neT (pv 0) (pe_sT []) (nomark _)))))), ?_⟩
    exact s_ret (ev_andV (ev_call (ea_cons (ev_var rfl) (ea_cons ev_c ea_nil)) fun H1 e1 Q q E => ⟨a, 12, rfl, ha, q⟩) fun _ => ev_op (ev_var rfl) ev_c rv_neT) k
theorem ok_is_ascending {f : Addr} {fd : FuncData} (F : Fun K "is_ascending" "is_ascending" st_is_ascending f fd) (M : Md K mg) : FnOk P w K mg base CX0 1 f fd ["things"] sp_ascending := by
  have nd := sc_is_ascending.nd
  refine F.ok sc_is_ascending (fun vs H Q E h => ?_) (fun cdv A outer s H vs Q E hr h => ?_)
  · obtain ⟨_, _, rfl, _⟩ := h
    rfl
  · obtain ⟨p, lot, rfl, hp, hne, hfew, k⟩ := h
    refine ⟨_, (pss_one (ps_ret (pe_callB (kcr K (r := rAll) (cr_all rfl)) (by rfl) M.n_all boot_all (pa_cons (pe_lc (own := [("one", 1), ("other", 2)]) rfl nd (kiza K (RZ.pi_zipA (by rfl) M.n_zip (pa_cons (pv 0) (pa_cons (pe_slice (ksl K (r := rSlA) sl_tupA) (pv 0) (po_some pe_int) po_none) pa_nil)))) (blkOk_by (N := N_is_ascending) (sc := defScope st_is_ascending) (by decide +kernel)) (fun _ _ _ _ _ => (kgt K (n := 2) (pg_tup rfl (pgs_cons (pg_name (i := 1) nd rfl (Or.inl rfl)) (pgs_cons (pg_name (i := 2) nd rfl (Or.inl rfl)) pgs_nil))))) (fun _ _ _ _ _ => pts_nil) (fun _ _ _ _ _ => (pe_cmpR op_ltT' (pv 1) (pv 2) (nomark _)))) pa_nil)))), ?_⟩
    have hsl : EvU (tSl (rSlA K) (tVar 0) (tPart (tC (.int 1))) tNoPart) (start N_is_ascending [.ref p]) H ((lot.drop 1).map T) := by
      have := el_dropU (K := K) (σ := start N_is_ascending [.ref p]) (H := H) (te := tVar 0) (xs := lot.map T) (ev_var rfl) (st_of hp) (by rw [List.length_map]; exact List.length_pos_iff.mpr hne)
      rw [← List.map_drop] at this
      exact this
    have hz : ∀ (i : Nat) (x : V) (H1 : Hp), (∃ q y z, x = .ref q ∧ (lot.map T)[i]? = some y ∧ ((lot.drop 1).map T)[i]? = some z ∧ H1 q = some (.tup [y, z])) → ∃ a, (List.zip lot (lot.drop 1))[i]? = some a ∧ (∃ q, x = .ref q ∧ H1 q = some (.tup [T a.1, T a.2])) := fun i x H1 ⟨q, y, z, h1, h2, h3, h4⟩ => by
      obtain ⟨a, ha, rfl⟩ := at_map h2
      obtain ⟨b, hb, rfl⟩ := at_map h3
      exact ⟨(a, b), by rw [List.getElem?_zip_eq_some]; exact ⟨ha, hb⟩, q, h1, h4⟩
    refine s_ret (ev_is (ev_cbL (el_lcG (p := fun _ => true) (gv := fun a => V.bl (decide (a.1 < a.2))) (List.zip lot (lot.drop 1)) (fun a => [some (.ref p), some (T a.1), some (T a.2)]) (fun a x H1 => ∃ q, x = .ref q ∧ H1 q = some (.tup [T a.1, T a.2])) (src_zipT (n := min (lot.map T).length ((lot.drop 1).map T).length) (ev_var rfl) hsl (st_of hp) rfl) ?_ ?_ hz ?_ (fun _ => rfl) (fun a H1 e1 ha => et_yes) (fun a H1 e1 ha _ => ev_op (ev_var rfl) (ev_var rfl) rv_ltT)) fun q H2 hq e2 => ?_) rfl) k
    · rw [List.length_map]
      omega
    · simp
    · rintro a x H1 Q' ⟨q, rfl, hq⟩ k'
      exact ⟨q, _, rfl, st_of hq, rfl, T a.1, [T a.2], rfl, T a.2, [], rfl, rfl, k'⟩
    · rw [List.filter_eq_self.mpr (fun _ _ => rfl)] at hq
      exact rc_allM (sq_of hq)
theorem ok_is_lot_form {f : Addr} {fd : FuncData} (F : Fun K "is_lot_form" "is_lot_form" st_is_lot_form f fd) (M : Md K mg) (C_is_word : Cal P w K mg base "is_word" st_is_word 2 ["thing"] sp_is_word) (C_is_ascending : Cal P w K mg base "is_ascending" st_is_ascending 1 ["things"] sp_ascending) : FnOk P w K mg base CX0 3 f fd ["thing"] sp_lot_form := by
  have nd := sc_is_lot_form.nd
  refine F.ok sc_is_lot_form (fun vs H Q E h => ?_) (fun cdv A outer s H vs Q E hr h => ?_)
  · obtain ⟨_, _, rfl, _⟩ := h
    rfl
  · obtain ⟨v, o, rfl, ht, hs, k⟩ := h
    refine ⟨_, (pss_cons (ps_if (PW.pt (pw_or (pt_not (pt_val (pe_callB (kcr K (r := rIsiB) cr_isi) (by rfl) M.n_isinstance boot_isinstance (pa_cons (pv 0) (pa_cons (pe_bltn (v := .ty "tuple") rfl M.n_tuple boot_tuple rfl) pa_nil))))) (pw_or1 (pt_not (pt_chain op_le op_le pe_int (pe_callB (kcr K (r := rLenS) call_len_seq) (by rfl) M.n_len boot_len (pa_cons (pv 0) pa_nil)) (pe_gI M.c_MOST_WORDS))))))
  (pss_one (ps_ret pe_bl))
  pss_nil)
  (pss_one (ps_ret (pe_and (pe_callB (kcr K (r := rAll) (cr_all rfl)) (by rfl) M.n_all boot_all (pa_cons (pe_lc (own := [("word", 1)]) rfl nd (kit K (pi_tup (pv 0))) (blkOk_by (N := N_is_lot_form) (sc := defScope st_is_lot_form) (by decide +kernel)) (fun _ _ _ _ _ => (pg_name (i := 1) nd rfl (Or.inl rfl))) (fun _ _ _ _ _ => pts_nil) (fun _ _ _ _ _ => (pe_cl C_is_word hr (pa_cons (pv 1) pa_nil)))) pa_nil)) (pe_one (pe_cl C_is_ascending hr (pa_cons (pv 0) pa_nil))))))), ?_⟩
    cases o with
    | none =>
      have hty : ∃ t, (∀ H1, Ex H H1 → TyX K H1 v (.type t)) ∧ kitB t "tuple" = some false := by
        cases ht with
        | lst h => exact ⟨"list", fun H1 e => .base (.lst (e _ _ h)), by decide +kernel⟩
        | non => exact ⟨"NoneType", fun _ _ => .base .non, by decide +kernel⟩
        | int i => exact ⟨"int", fun _ _ => .base (.int i), by decide +kernel⟩
        | str s => exact ⟨"str", fun _ _ => .base (.str _), by decide +kernel⟩
      obtain ⟨t, hty, hk⟩ := hty
      exact q_when (b := true) (et_is (et_or (a := true) (b := true) (et_not (et_B (ev_cb (ea_cons (ev_var rfl) (ea_cons ev_c ea_nil)) (rc_isi (b := false) hty hk)))) fun z => by cases z) rfl) (fun _ H1 e1 => s_ret (v := .bl (lotB none)) ev_c (RetV.mono k e1)) (fun z => by cases z)
    | some ws =>
      cases ht with
      | @tup p _ hp =>
      obtain ⟨hs1, hs2⟩ := hs
      have hlen : ((1 : Int) ≤ ((ws.map T).length : Nat)) = (1 ≤ ws.length) := by rw [List.length_map]; simp; omega
      have hlen2 : ((((ws.map T).length : Nat) : Int) ≤ 12) = (ws.length ≤ 12) := by rw [List.length_map]; simp; omega
      refine q_when (b := !(decide (1 ≤ ws.length) && decide (ws.length ≤ 12))) (et_is (et_or (a := false) (et_not (et_B (ev_cb (ea_cons (ev_var rfl) (ea_cons ev_c ea_nil)) (rc_isi (b := true) (fun H1 e => .base (.tup (e _ _ hp))) k_tuple_tuple)))) fun _ => et_not (et_test (ev_chain ev_c (ev_lenU (ev_var rfl) (st_of hp)) rv_I0 ev_c rv_I0))) ?_) (fun hb H1 e1 => s_ret (v := .bl (lotB (some ws))) (ev_is ev_c ?_) (RetV.mono k e1)) (fun hb H1 e1 => ?_)
      · rw [Bool.false_or, decide_eq_decide.mpr (iff_of_eq hlen), decide_eq_decide.mpr (iff_of_eq hlen2)]
      · have : (decide (1 ≤ ws.length) && decide (ws.length ≤ 12)) = false := by
          cases h : (decide (1 ≤ ws.length) && decide (ws.length ≤ 12)) with
          | false => rfl
          | true => rw [h] at hb; cases hb
        rw [lotB_some, this]
        rfl
      · have hb' : (decide (1 ≤ ws.length) && decide (ws.length ≤ 12)) = true := by
          cases h : (decide (1 ≤ ws.length) && decide (ws.length ≤ 12)) with
          | true => rfl
          | false => rw [h] at hb; cases hb
        have hne : ws ≠ [] := fun z => by rw [z] at hb'; cases hb'
        refine s_ret (ev_is (w := .bl (lotB (some ws))) (ev_andV (a := ws.all wordB) (ev_cbL (el_lcM (g := fun t => V.bl (wordB t)) ws (src_tupM (ev_var rfl) (st_of (e1 _ _ hp))) (by omega) (fun _ => rfl) fun t H2 e2 ht => ev_call (ea_cons (ev_var rfl) ea_nil) fun H3 e3 Q3 q3 E => ⟨t, rfl, hs2 t ht, q3⟩) fun q H2 hq e2 => rc_allM (sq_of hq)) fun _ => ev_call (ea_cons (ev_var rfl) ea_nil) fun H3 e3 Q3 q3 E => ⟨p, ws, rfl, (e1.trans e3) _ _ hp, hne, hs1, q3⟩) (by rw [lotB_some, hb']; rfl)) (RetV.mono k e1)
theorem ok_need_lot {f CL : Addr} {fd : FuncData} (F : Fun K "need_lot" "need_lot" st_need_lot f fd) (M : Md K mg) (E_BadLot : Err K mg "BadLot" CL) (C_is_lot_form : Cal P w K mg base "is_lot_form" st_is_lot_form 3 ["thing"] sp_lot_form) : FnOk P w K mg base (L2.CX P w) 4 f fd ["lot"] (sp_need_lot CL) := by
  have nd := sc_need_lot.nd
  refine F.okX sc_need_lot (fun vs H Q E h => ?_) (fun cdv A outer s H vs Q E hr h => ?_)
  · obtain ⟨_, _, rfl, _⟩ := h
    rfl
  · obtain ⟨v, o, rfl, ht, hs, k1, k2⟩ := h
    refine ⟨_, (pss_one (ps_if (pt_not (pt_val (pe_cl C_is_lot_form hr (pa_cons (pv 0) pa_nil))))
  (pss_one (ps_raiseE rfl (takes_of rfl rfl rfl rfl) E_BadLot))
  pss_nil)), ?_⟩
    exact s_when (et_not (et_B (ev_call (ea_cons (ev_var rfl) ea_nil) fun H1 e1 Q q E => ⟨v, o, rfl, ht.ex e1, hs, q⟩))) (fun hb H1 e1 => k2 (by simpa using hb) H1 e1) (fun hb H1 e1 => k1 (by simpa using hb) H1 e1)
end
end K24
set_option Elab.async false
set_option linter.all false
set_option maxRecDepth 100000
set_option maxHeartbeats 2000000
set_option exponentiation.threshold 5000
namespace K24
open PySem PySem.Spec PyProof.Rows L2 Evl Wc
/-! the plain law: how many lists of words there are, and which lengths are reached -/
/-- words of a length -/
def cntL (lot : List Tx) (n : Nat) : Nat := (lot.filter fun t => decide (t.length = n)).length
def maxL (lot : List Tx) : Nat := (lot.map List.length).foldr max 0
def lensO (lot : List Tx) : List Nat := (List.range (maxL lot)).map fun i => cntL lot (i + 1)
theorem le_maxL {lot : List Tx} {t : Tx} (h : t ∈ lot) : t.length ≤ maxL lot := by
  unfold maxL
  induction lot with
  | nil => cases h
  | cons a l ih =>
    rw [List.map_cons, List.foldr_cons]
    rcases List.mem_cons.mp h with rfl | h
    · exact Nat.le_max_left _ _
    · exact Nat.le_trans (ih h) (Nat.le_max_right _ _)
theorem maxL_mem : ∀ {lot : List Tx}, lot ≠ [] → ∃ t ∈ lot, t.length = maxL lot
  | [], h => absurd rfl h
  | [a], _ => ⟨a, List.mem_cons_self, by show _ = max _ 0; omega⟩
  | a :: b :: l, _ => by
    obtain ⟨t, ht, e⟩ := maxL_mem (lot := b :: l) (by simp)
    show ∃ t ∈ a :: b :: l, t.length = max a.length (maxL (b :: l))
    by_cases h : a.length ≤ maxL (b :: l)
    · exact ⟨t, List.mem_cons_of_mem _ ht, by rw [e]; omega⟩
    · exact ⟨a, List.mem_cons_self, by omega⟩
theorem maxL_is {lot : List Tx} {m : Int} (h1 : m ∈ lot.map fun t => (t.length : Int)) (h2 : ∀ y ∈ lot.map (fun t => (t.length : Int)), y ≤ m) : m = (maxL lot : Int) := by
  obtain ⟨t, ht, rfl⟩ := List.mem_map.mp h1
  obtain ⟨u, hu, e⟩ := maxL_mem (lot := lot) (fun z => by rw [z] at ht; cases ht)
  have h3 := le_maxL ht
  have h4 := h2 (u.length : Int) (List.mem_map.mpr ⟨u, hu, rfl⟩)
  omega
theorem maxL_le {lot : List Tx} {n : Nat} (h : ∀ t ∈ lot, t.length ≤ n) : maxL lot ≤ n := by
  by_cases hl : lot = []
  · subst hl
    exact Nat.zero_le _
  · obtain ⟨t, ht, e⟩ := maxL_mem hl
    rw [← e]
    exact h t ht
/-- the next entry out of those that are there -/
def nextA (lot : List Tx) (tab : List Nat) (n : Nat) : Nat := ((lot.filter fun t => decide (t.length ≤ n)).map fun t => tab.getD (n - t.length) 0).sum
def tabA (lot : List Tx) : Nat → List Nat
  | 0 => [1]
  | n + 1 => tabA lot n ++ [nextA lot (tabA lot n) (n + 1)]
def cntA (lot : List Tx) (n : Nat) : Nat := (tabA lot n).getD n 0
theorem tabA_len (lot : List Tx) : ∀ n, (tabA lot n).length = n + 1
  | 0 => rfl
  | n + 1 => by
    show (tabA lot n ++ _).length = _
    rw [List.length_append, tabA_len lot n]
    rfl
theorem getD_left {l r : List Nat} {i : Nat} (h : i < l.length) : (l ++ r).getD i 0 = l.getD i 0 := by
  rw [List.getD_eq_getElem?_getD, List.getD_eq_getElem?_getD, List.getElem?_append_left h]
theorem tabA_at (lot : List Tx) : ∀ n i, i ≤ n → (tabA lot n).getD i 0 = cntA lot i
  | 0, i, h => by
    obtain rfl : i = 0 := by omega
    rfl
  | n + 1, i, h => by
    by_cases e : i = n + 1
    · subst e
      rfl
    · show (tabA lot n ++ _).getD i 0 = _
      rw [getD_left (by rw [tabA_len]; omega)]
      exact tabA_at lot n i (by omega)
theorem tabA_map (lot : List Tx) (n : Nat) : tabA lot n = (List.range (n + 1)).map (cntA lot) := by
  apply List.ext_getElem?
  intro i
  by_cases h : i < n + 1
  · have h1 : i < (tabA lot n).length := by rw [tabA_len]; exact h
    rw [List.getElem?_eq_getElem h1, List.getElem?_map, List.getElem?_range h]
    have := tabA_at lot n i (by omega)
    rw [getD_at h1] at this
    exact congrArg some this
  · rw [List.getElem?_eq_none (by rw [tabA_len]; omega), List.getElem?_eq_none (by rw [List.length_map, List.length_range]; omega)]
theorem cntA_zero (lot : List Tx) : cntA lot 0 = 1 := rfl
theorem map_sum_congr {α : Type} {l : List α} {f g : α → Nat} (h : ∀ a ∈ l, f a = g a) : (l.map f).sum = (l.map g).sum := congrArg List.sum (List.map_congr_left h)
theorem cntA_succ {lot : List Tx} (hp : ∀ t ∈ lot, t ≠ []) (n : Nat) : cntA lot (n + 1) = ((lot.filter fun t => decide (t.length ≤ n + 1)).map fun t => cntA lot (n + 1 - t.length)).sum := by
  have h1 : cntA lot (n + 1) = nextA lot (tabA lot n) (n + 1) := by
    show (tabA lot n ++ [nextA lot (tabA lot n) (n + 1)]).getD (n + 1) 0 = _
    rw [List.getD_eq_getElem?_getD, List.getElem?_append_right (by rw [tabA_len]; omega), tabA_len]
    simp
  rw [h1]
  refine map_sum_congr fun t ht => ?_
  have h2 := List.length_pos_iff.mpr (hp t (List.mem_filter.mp ht).1)
  exact tabA_at lot n _ (by omega)
theorem nextA_is {lot : List Tx} (hp : ∀ t ∈ lot, t ≠ []) (n : Nat) : nextA lot (tabA lot n) (n + 1) = cntA lot (n + 1) := by
  rw [cntA_succ hp]
  refine map_sum_congr fun t ht => ?_
  have h2 := List.length_pos_iff.mpr (hp t (List.mem_filter.mp ht).1)
  exact tabA_at lot n _ (by omega)
theorem sum_filter {α : Type} (p : α → Bool) (g : α → Nat) : ∀ l : List α, ((l.filter p).map g).sum = (l.map fun a => if p a = true then g a else 0).sum
  | [] => rfl
  | a :: l => by
    rw [List.map_cons, List.sum_cons, ← sum_filter p g l, List.filter_cons]
    by_cases h : p a = true
    · rw [if_pos h, if_pos h, List.map_cons, List.sum_cons]
    · rw [if_neg h, if_neg h, Nat.zero_add]
theorem sum_add {α : Type} (f g : α → Nat) : ∀ l : List α, (l.map fun a => f a + g a).sum = (l.map f).sum + (l.map g).sum
  | [] => rfl
  | a :: l => by
    rw [List.map_cons, List.map_cons, List.map_cons, List.sum_cons, List.sum_cons, List.sum_cons, sum_add f g l]
    omega
theorem sum_zero {α : Type} : ∀ l : List α, (l.map fun _ => 0).sum = 0
  | [] => rfl
  | a :: l => by rw [List.map_cons, List.sum_cons, sum_zero l]
/-- one only -/
theorem sum_one (f : Nat → Nat) (l : Nat) : ∀ L, ((List.range L).map fun i => if i = l then f i else 0).sum = if l < L then f l else 0
  | 0 => rfl
  | L + 1 => by
    rw [List.range_succ, List.map_append, List.sum_append, sum_one f l L]
    show (if l < L then f l else 0) + (if L = l then f L else 0) = _
    by_cases h : l < L
    · rw [if_pos h, if_neg (by omega), if_pos (by omega)]
      omega
    · by_cases h2 : L = l
      · subst h2
        rw [if_neg h, if_pos rfl, if_pos (by omega)]
        omega
      · rw [if_neg h, if_neg h2, if_neg (by omega)]
theorem cntL_cons (t : Tx) (l : List Tx) (n : Nat) : cntL (t :: l) n = (if t.length = n then 1 else 0) + cntL l n := by
  unfold cntL
  rw [List.filter_cons]
  by_cases h : t.length = n
  · rw [if_pos (decide_eq_true h), if_pos h, List.length_cons]
    omega
  · rw [if_neg (by rw [decide_eq_false h]; exact Bool.false_ne_true), if_neg h]
    omega
/-- words by their lengths -/
theorem by_length (f : Nat → Nat) (L n : Nat) : ∀ lot : List Tx, (∀ t ∈ lot, t ≠ [] ∧ t.length ≤ L) → ((lot.filter fun t => decide (t.length ≤ n)).map fun t => f t.length).sum = (((List.range L).filter fun i => decide (i < n)).map fun i => cntL lot (i + 1) * f (i + 1)).sum
  | [], _ => by
    rw [sum_filter]
    have : (fun i : Nat => if decide (i < n) = true then cntL [] (i + 1) * f (i + 1) else 0) = fun _ => 0 := by
      funext i
      show (if _ then 0 * _ else 0) = 0
      rw [Nat.zero_mul]
      split <;> rfl
    rw [sum_filter, this, sum_zero]
    rfl
  | t :: lot, h => by
    have ih := by_length f L n lot fun u hu => h u (List.mem_cons_of_mem _ hu)
    have ⟨ht, hl⟩ := h t List.mem_cons_self
    have hpos := List.length_pos_iff.mpr ht
    rw [sum_filter] at ih ⊢
    rw [List.map_cons, List.sum_cons, ih, sum_filter, sum_filter]
    have e : (fun i : Nat => if decide (i < n) = true then cntL (t :: lot) (i + 1) * f (i + 1) else 0) = fun i => (if i = t.length - 1 then (if i < n then f (i + 1) else 0) else 0) + (if decide (i < n) = true then cntL lot (i + 1) * f (i + 1) else 0) := by
      funext i
      rw [cntL_cons]
      simp only [decide_eq_true_eq]
      by_cases h1 : i < n
      · simp only [if_pos h1]
        by_cases h2 : i = t.length - 1
        · rw [if_pos h2, if_pos (show t.length = i + 1 by omega), Nat.add_mul, Nat.one_mul]
        · rw [if_neg h2, if_neg (show ¬ t.length = i + 1 by omega), Nat.zero_add, Nat.zero_add]
      · simp only [if_neg h1]
        split <;> rfl
    rw [e, sum_add, sum_one (fun i => if i < n then f (i + 1) else 0)]
    congr 1
    rw [show t.length - 1 + 1 = t.length by omega, if_pos (show t.length - 1 < L by omega)]
    simp only [decide_eq_true_eq]
    by_cases h1 : t.length ≤ n
    · rw [if_pos h1, if_pos (show t.length - 1 < n by omega)]
    · rw [if_neg h1, if_neg (show ¬ t.length - 1 < n by omega)]
/-- the program's sum -/
theorem prog_sum {lot : List Tx} (hp : ∀ t ∈ lot, t ≠ []) (n : Nat) : (((List.range (maxL lot)).filter fun i => decide (i < n + 1)).map fun i => cntL lot (i + 1) * cntA lot (n + 1 - i - 1)).sum = cntA lot (n + 1) := by
  rw [cntA_succ hp]
  have h := by_length (fun l => cntA lot (n + 1 - l)) (maxL lot) (n + 1) lot fun t ht => ⟨hp t ht, le_maxL ht⟩
  rw [h]
  refine map_sum_congr fun i hi => ?_
  rw [Nat.sub_sub]
theorem sum_le_mul {α : Type} {l : List α} {f : α → Nat} {m : Nat} (h : ∀ a ∈ l, f a ≤ m) : (l.map f).sum ≤ l.length * m := by
  induction l with
  | nil => simp
  | cons a l ih =>
    have h1 := h a List.mem_cons_self
    have h2 := ih fun x hx => h x (List.mem_cons_of_mem _ hx)
    simp only [List.map_cons, List.sum_cons, List.length_cons, Nat.succ_mul]
    omega
theorem cntA_le {lot : List Tx} (hp : ∀ t ∈ lot, t ≠ []) (hl : lot.length ≤ 12) : ∀ n, cntA lot n ≤ 12 ^ n := by
  intro n
  induction n using Nat.strongRecOn with
  | ind n ih =>
    cases n with
    | zero => exact Nat.le_refl _
    | succ n =>
      rw [cntA_succ hp]
      refine Nat.le_trans (sum_le_mul (m := 12 ^ n) fun t ht => ?_) ?_
      · have h2 := List.length_pos_iff.mpr (hp t (List.mem_filter.mp ht).1)
        exact Nat.le_trans (ih _ (by omega)) (Nat.pow_le_pow_right (by decide) (by omega))
      · have := List.length_filter_le (fun t : Tx => decide (t.length ≤ n + 1)) lot
        rw [Nat.pow_succ, Nat.mul_comm (12 ^ n)]
        exact Nat.mul_le_mul_right _ (by omega)
theorem cntA_small {lot : List Tx} (hp : ∀ t ∈ lot, t ≠ []) (hl : lot.length ≤ 12) {n : Nat} (hn : n ≤ 400) : ((cntA lot n : Nat) : Int).natAbs < 2 ^ 1700 := by
  rw [Int.natAbs_natCast]
  refine Nat.lt_of_le_of_lt (cntA_le hp hl n) ?_
  refine Nat.lt_of_le_of_lt (Nat.pow_le_pow_left (show 12 ≤ 2 ^ 4 by decide) n) ?_
  rw [← Nat.pow_mul]
  exact Nat.pow_lt_pow_right (by decide) (by omega)
theorem cntL_le (lot : List Tx) (n : Nat) : cntL lot n ≤ lot.length := List.length_filter_le _ _
/-- lengths that are reached -/
inductive Rc (L : List Nat) : Nat → Prop
  | zero : Rc L 0
  | add {n l : Nat} : Rc L n → l ∈ L → Rc L (n + l)
theorem Rc.sub {L L' : List Nat} (h : ∀ l ∈ L, l ∈ L') {n : Nat} (r : Rc L n) : Rc L' n := by
  induction r with
  | zero => exact .zero
  | add _ hl ih => exact .add ih (h _ hl)
theorem Rc.last {L : List Nat} {n : Nat} (r : Rc L n) : n = 0 ∨ ∃ l ∈ L, l ≤ n ∧ Rc L (n - l) := by
  cases r with
  | zero => exact .inl rfl
  | @add m l r hl => exact .inr ⟨l, hl, by omega, by rw [Nat.add_sub_cancel]; exact r⟩
theorem sum_pos {α : Type} {f : α → Nat} : ∀ {l : List α}, 0 < (l.map f).sum ↔ ∃ a ∈ l, 0 < f a
  | [] => ⟨fun h => absurd h (by simp), fun ⟨_, h, _⟩ => nomatch h⟩
  | a :: l => by
    rw [List.map_cons, List.sum_cons]
    have ih := sum_pos (f := f) (l := l)
    constructor
    · intro h
      by_cases h1 : 0 < f a
      · exact ⟨a, List.mem_cons_self, h1⟩
      · obtain ⟨b, hb, h2⟩ := ih.mp (by omega)
        exact ⟨b, List.mem_cons_of_mem _ hb, h2⟩
    · rintro ⟨b, hb, h2⟩
      rcases List.mem_cons.mp hb with rfl | hb
      · omega
      · have := ih.mpr ⟨b, hb, h2⟩
        omega
theorem cntA_pos {lot : List Tx} (hp : ∀ t ∈ lot, t ≠ []) : ∀ n, 0 < cntA lot n ↔ Rc (lot.map List.length) n := by
  intro n
  induction n using Nat.strongRecOn with
  | ind n ih =>
    cases n with
    | zero => exact ⟨fun _ => .zero, fun _ => by rw [cntA_zero]; decide⟩
    | succ n =>
      rw [cntA_succ hp, sum_pos]
      constructor
      · rintro ⟨t, ht, h⟩
        rw [List.mem_filter, decide_eq_true_eq] at ht
        have h2 := List.length_pos_iff.mpr (hp t ht.1)
        have := Rc.add ((ih _ (by omega)).mp h) (List.mem_map.mpr ⟨t, ht.1, rfl⟩)
        rw [Nat.sub_add_cancel ht.2] at this
        exact this
      · intro r
        rcases r.last with z | ⟨l, hl, h1, r⟩
        · cases z
        · obtain ⟨t, ht, rfl⟩ := List.mem_map.mp hl
          have h2 := List.length_pos_iff.mpr (hp t ht)
          exact ⟨t, List.mem_filter.mpr ⟨ht, decide_eq_true h1⟩, (ih _ (by omega)).mpr r⟩
end K24
set_option Elab.async false
set_option linter.all false
set_option maxRecDepth 100000
set_option maxHeartbeats 4000000
set_option exponentiation.threshold 5000
namespace K24
open PySem PySem.Spec PyProof.Rows L2 Evl Wc Wt Wg Ws Wr
def numV (c : List Nat) : List V := c.map fun (n : Nat) => V.int (n : Int)
theorem numV_len (c : List Nat) : (numV c).length = c.length := List.length_map _
theorem numV_at {c : List Nat} {i : Nat} (h : i < c.length) : (numV c)[i]? = some (.int ((c.getD i 0 : Nat) : Int)) := by
  unfold numV
  rw [List.getElem?_map, List.getElem?_eq_getElem h, getD_at h]
  rfl
theorem tab_at {lot : List Tx} {n i : Nat} (h : i ≤ n) : (numV (tabA lot n))[i]? = some (.int ((cntA lot i : Nat) : Int)) := by
  rw [numV_at (by rw [tabA_len]; omega), tabA_at lot n i h]
theorem sum_int {α : Type} (l : List α) (f : α → Nat) : (l.map fun a => ((f a : Nat) : Int)).sum = (((l.map f).sum : Nat) : Int) := by
  induction l with
  | nil => rfl
  | cons a l ih =>
    rw [List.map_cons, List.sum_cons, ih, List.map_cons, List.sum_cons]
    omega
section
variable {K : PySem.W.Frag} {σ : L2.St} {H : Hp} {te : TE}
theorem eu_tupL {xs : List V} (h : EvL te σ H xs) : EvU (tCB (rTupS K) (tCons te tNil)) σ H xs := fun H1 e1 Q q => h H1 e1 _ fun p H2 hp e2 h2 => ⟨p, xs, rfl, .inl ⟨sq_of h2, fun l hl => q l _ (fresh_back e2 hl) (e2.trans (Ex.new hl)) upd_same⟩⟩
/-- max([len(word) for word in lot]) -/
theorem ev_maxLen {i j : Nat} {vs : List Nat} {p : Addr} {lot : List Tx} (h0 : σ[i]? = some (some (.ref p))) (hL : LotAt p lot H) (hw : ∀ x, wipe ((wipe σ vs).set j (some x)) vs = wipe σ vs) (hj : ∀ x, ((wipe σ vs).set j (some x))[j]? = some (some x)) : Ev (tCB (rMax K) (tCons (tLc (iTup K (tVar i)) (gName j) tYes (tCB rLenT (tCons (tVar j) tNil)) vs) tNil)) σ H (.int (maxL lot : Int)) := by
  refine ev_cbL (xs := lot.map fun t => V.int (t.length : Int)) (el_lcM lot (src_tupM (ev_var h0) (st_of hL.1)) (by have := hL.2.few; omega) hw fun t H1 e1 ht => ev_cb (ea_cons (ev_var (hj _)) ea_nil) (rc_lenT (by have := (hL.2.wd t ht).1; omega))) fun q H1 hq e1 H2 e2 Q k => ?_
  refine ⟨q, lot.map fun t => (t.length : Int), rfl, ex_l e2 (sq_of (by rw [hq, List.map_map]; rfl)), by rw [List.length_map]; exact List.length_pos_iff.mpr hL.2.ne, fun m h1 h2 => ?_⟩
  rw [maxL_is h1 h2]
  exact k H2 (Ex.refl _)
end
section
variable {K : PySem.W.Frag}
def sp_lengths_of : Sp := fun vs H Q _ => ∃ (p : Addr) (lot : List Tx), vs = [.ref p] ∧ LotAt p lot H ∧ RetU (numV (lensO lot)) H Q
def sp_list_counts : Sp := fun vs H Q _ => ∃ (p : Addr) (lot : List Tx) (most : Nat), vs = [.ref p, .int (most : Int)] ∧ LotAt p lot H ∧ most ≤ 400 ∧ RetL (numV (tabA lot most)) H Q
end
abbrev sc_many : Scope := { kind := .function, names := [(".0", .local), ("many", .cell), ("len", .globalImplicit), ("lot", .cell)], isGenerator := false, isCoroutine := false }
theorem maxL_12 {lot : List Tx} (h : IsLot lot) : maxL lot ≤ 12 := maxL_le fun t ht => (h.wd t ht).1
section
variable {P : Program} {w : World} {K : PySem.W.Frag} {mg : Str → Option Value} {base : Heap}
theorem ok_lengths_of {f : Addr} {fd : FuncData} (F : Fun K "lengths_of" "lengths_of" st_lengths_of f fd) (M : Md K mg) : FnOk P w K mg base CX0 1 f fd ["lot"] sp_lengths_of := by
  have nd := sc_lengths_of.nd
  refine F.ok sc_lengths_of (fun vs H Q E h => ?_) (fun cdv A outer s H vs Q E hr h => ?_)
  · obtain ⟨_, _, rfl, _⟩ := h
    rfl
  · obtain ⟨p, lot, rfl, hL, k⟩ := h
    refine ⟨_, (pss_cons (ps_set (i := 1) nd rfl (Or.inl rfl) (pe_callB (kcr K (r := rMax) (cr_max rfl)) (by rfl) M.n_max boot_max (pa_cons (pe_lc (own := [("word", 2)]) rfl nd (kit K (pi_tup (pv 0))) (blkOk_by (N := N_lengths_of) (sc := defScope st_lengths_of) (by decide +kernel)) (fun _ _ _ _ _ => (pg_name (i := 2) nd rfl (Or.inl rfl))) (fun _ _ _ _ _ => pts_nil) (fun _ _ _ _ _ => (pe_callB cr_lenT (by rfl) M.n_len boot_len (pa_cons (pv 2) pa_nil)))) pa_nil)))
  (pss_one (ps_ret (pe_callTy (kcr K (r := rTupS) call_tuple_of) (by rfl) M.n_tuple boot_tuple (pa_cons (pe_lc (own := [("many", 3)]) rfl nd (pi_range2 (by rfl) M.n_range (pa_cons pe_int (pa_cons (pe_op op_add (pv 1) pe_int) pa_nil))) (blkOk_by (N := N_lengths_of) (sc := defScope st_lengths_of) (by decide +kernel)) (fun _ _ _ _ _ => (pg_name (i := 3) nd rfl (Or.inr rfl))) (fun _ _ _ _ _ => pts_nil) (fun _ _ _ _ _ => (pe_callB (kcr K (r := rLenS) call_len_seq) (by rfl) M.n_len boot_len (pa_cons (pe_lc (own := [("word", 2)]) rfl nd (kit K (pi_tup (pv 0))) (blkOk_by (N := N_lengths_of) (sc := sc_many) (by decide +kernel)) (fun _ _ _ _ _ => (pg_name (i := 2) nd rfl (Or.inl rfl))) (fun _ _ _ _ _ => (pts_one (pt_cmpR op_eqI (pe_callB cr_lenT (by rfl) M.n_len boot_len (pa_cons (pv 2) pa_nil)) (pv 3) (nomark _)))) (fun _ _ _ _ _ => (pv 2))) pa_nil)))) pa_nil))))), ?_⟩
    have hm := maxL_12 hL.2
    refine q_asg (ev_maxLen rfl hL (fun _ => rfl) (fun _ => rfl)) fun H1 e1 => ?_
    refine s_retU (xs := numV (lensO lot)) (eu_tupL ?_) fun q H2 hq e2 h2 => k q H2 (fresh_back e1 hq) (e1.trans e2) h2
    have hlc := el_lcM (wi := iRng2 (tCons (tC (.int 1)) (tCons (tOp (rI0 fun i j => .int (i + j)) (tVar 1) (tC (.int 1))) tNil))) (σ := (start N_lengths_of [.ref p]).set 1 (some (.int (maxL lot : Int)))) (H := H1) (j := 3) (vs := [3]) (te := tCB (rLenS K) (tCons (tLc (iTup K (tVar 0)) (gName 2) (tTest (tOp (rI0 fun i j => .bl (decide (i = j))) (tCB rLenT (tCons (tVar 2) tNil)) (tVar 3))) (tVar 2) [2]) tNil)) (f := fun (i : Nat) => V.int (1 + (i : Int))) (g := fun i => V.int ((cntL lot (i + 1) : Nat) : Int)) (List.range (maxL lot)) (src_range2L (lo := 1) (hi := (maxL lot : Int) + 1) (n := maxL lot) (ea_cons ev_c (ea_cons (ev_op (ev_var rfl) ev_c rv_I0) ea_nil)) (by decide) (by decide) (by omega) (by omega) (by omega)) (by rw [List.length_range]; omega) (fun _ => rfl) fun i H2 e2 hi => ?_
    · unfold numV lensO
      rw [List.map_map]
      exact hlc
    · refine ev_is (ev_lenN (xs := (lot.filter fun t => decide ((t.length : Int) = 1 + (i : Int))).map T) (el_lcF (j := 2) (vs := [2]) (f := T) (g := T) lot (src_tupM (ev_var rfl) (st_of ((e1.trans e2) _ _ hL.1))) (by have := hL.2.few; omega) (fun _ => rfl) (fun t H3 e3 ht => et_test (ev_op (ev_cb (ea_cons (ev_var rfl) ea_nil) (rc_lenT (by have := (hL.2.wd t ht).1; omega))) (ev_var rfl) rv_I0)) (fun t H3 e3 ht _ => ev_var rfl))) ?_
      rw [List.length_map]
      unfold cntL
      rw [List.filter_congr (q := fun t : Tx => decide (t.length = i + 1)) fun t _ => decide_eq_decide.mpr (by omega)]
theorem ok_list_counts {f : Addr} {fd : FuncData} (F : Fun K "list_counts" "list_counts" st_list_counts f fd) (M : Md K mg) (C_lengths_of : Cal P w K mg base "lengths_of" st_lengths_of 1 ["lot"] sp_lengths_of) : FnOk P w K mg base CX0 2 f fd ["lot", "most"] sp_list_counts := by
  have nd := sc_list_counts.nd
  refine F.ok sc_list_counts (fun vs H Q E h => ?_) (fun cdv A outer s H vs Q E hr h => ?_)
  · obtain ⟨_, _, _, rfl, _⟩ := h
    rfl
  · obtain ⟨p, lot, most, rfl, hL, hm, k⟩ := h
    refine ⟨_, (pss_cons (ps_asg (pe_tup (pa_cons (pe_cl C_lengths_of hr (pa_cons (pv 0) pa_nil)) (pa_cons (pe_lst (pa_cons pe_int pa_nil)) pa_nil))) (kgt K (n := 2) (pg_tup rfl (pgs_cons (pg_name (i := 2) nd rfl (Or.inl rfl)) (pgs_cons (pg_name (i := 3) nd rfl (Or.inr rfl)) pgs_nil)))))
  (pss_cons (ps_for PassesOwn.never rfl (pi_range2 (by rfl) M.n_range (pa_cons pe_int (pa_cons (pe_op op_add (pv 1) pe_int) pa_nil))) (pg_name (i := 4) nd rfl (Or.inr rfl))
  (pss_one (ps_expr (kbm K (pe_bm PySem.F.plainAttrs_list PySem.F.slot_list_append PySem.F.type_list_append mt_append (pv 3) (pa_cons (pe_callB (kcr K (r := rSum) (cr_sum rfl)) (by rfl) M.n_sum boot_sum (pa_cons (pe_lc (own := [("at", 5), ("number", 6)]) rfl nd (kiet K (pi_enumT (by rfl) M.n_enumerate (pa_cons (pv 2) pa_nil))) (blkOk_by (N := N_list_counts) (sc := defScope st_list_counts) (by decide +kernel)) (fun _ _ _ _ _ => (kgt K (n := 2) (pg_tup rfl (pgs_cons (pg_name (i := 5) nd rfl (Or.inl rfl)) (pgs_cons (pg_name (i := 6) nd rfl (Or.inl rfl)) pgs_nil))))) (fun _ _ _ _ _ => (pts_one (pt_cmpR op_lt (pv 5) (pv 4) (nomark _)))) (fun _ _ _ _ _ => (pe_op op_mulB (pv 6) (pe_ix (kix K (r := L2.rIxL) ix_list) (pv 3) (pe_op op_sub (pe_op op_sub (pv 4) (pv 5)) pe_int) (fun _ _ => rfl))))) pa_nil)) pa_nil))))))
  (pss_one (ps_ret (pv 3))))), ?_⟩
    have h12 := maxL_12 hL.2
    refine ⟨.ref p, rfl, p, lot, rfl, hL, fun pl H1 hpl e1 h1 => ⟨by show 1 ≤ sizeLine; decide, fun pf hpf => ⟨by show 2 ≤ sizeLine; decide, fun pt hpt => ⟨pt, _, rfl, st_of upd_same, rfl, _, _, rfl, _, [], rfl, rfl, ?_⟩⟩⟩⟩
    have e2 : Ex H1 (upd (upd H1 pf (.lst [.int 1])) pt (.tup [.ref pl, .ref pf])) := (Ex.new hpf).trans (Ex.new hpt)
    have hf2 : (upd (upd H1 pf (.lst [.int 1])) pt (.tup [.ref pl, .ref pf])) pf = some (.lst (numV (tabA lot 0))) := by
      rw [upd_ne (fun z => by rw [← z, upd_same] at hpt; cases hpt), upd_same]
      rfl
    have nfp : pf ≠ p := fun z => by rw [z, e1 _ _ hL.1] at hpf; cases hpf
    have nfl : pf ≠ pl := fun z => by rw [z, h1] at hpf; cases hpf
    have hfN := fresh_back e1 hpf
    generalize upd (upd H1 pf (.lst [.int 1])) pt (.tup [.ref pl, .ref pf]) = H2 at e2 hf2 ⊢
    have e12 := e1.trans e2
    have es : ((start N_list_counts [.ref p, .int (most : Int)]).set 2 (some (.ref pl))).set 3 (some (.ref pf)) = [some (.ref p), some (.int (most : Int)), some (.ref pl), some (.ref pf), none, none, none] := rfl
    rw [es]
    refine q_forW (fun c => c = pf) (src_range2 (lo := 1) (hi := (most : Int) + 1) (n := most) (ea_cons ev_c (ea_cons (ev_op (ev_var rfl) ev_c rv_I0) ea_nil)) (by decide) (by decide) (by omega) (by omega) (by omega)) ?_
      (fun Hs i σ' H' => ∃ (v4 : Option V), σ' = [some (.ref p), some (.int (most : Int)), some (.ref pl), some (.ref pf), v4, none, none] ∧ Exc (fun c => c = pf) Hs H' ∧ Exc (fun c => c = pf) H2 H' ∧ H' pf = some (.lst (numV (tabA lot i)))) ?_ ?_ ?_ ?_ ?_
    · rintro c rfl
      exact ⟨by rw [hf2]; exact fun z => (nomatch z), fun z => z⟩
    · intro Hs e
      exact ⟨none, rfl, Exc.refl _, Exc.of e, e _ _ hf2⟩
    · rintro Hs i σ' H' ⟨_, _, h, _⟩
      exact h
    · rintro Hs i σ' Ha Hb ⟨v4, h0, h2, h3, h4⟩ e
      exact ⟨v4, h0, h2.then e, h3.then e, e _ _ h4⟩
    · rintro Hs i x σ' H' e hi ⟨v4, rfl, h2, h3, h4⟩ rfl
      have hl' : H' pl = some (.tup (numV (lensO lot))) := h3 _ _ (Ne.symm nfl) (e2 _ _ h1)
      have hlen : (numV (lensO lot)).length = maxL lot := by rw [numV_len]; unfold lensO; rw [List.length_map, List.length_range]
      have hsum : Ev (tCB (rSum K) (tCons (tLc (iEnumT K (tCons (tVar 2) tNil)) (gTup K 2 (gCons (gName 5) (gCons (gName 6) gNil))) (tTest (tOp (rI0 fun i j => .bl (decide (i < j))) (tVar 5) (tVar 4))) (tOp (rI CMulB fun i j => .int (i * j)) (tVar 6) (tOp (L2.rIxL K) (tVar 3) (tOp (rI0 fun i j => .int (i - j)) (tOp (rI0 fun i j => .int (i - j)) (tVar 4) (tVar 5)) (tC (.int 1))))) [5, 6]) tNil)) [some (.ref p), some (.int (most : Int)), some (.ref pl), some (.ref pf), some (.int (1 + (i : Int))), none, none] H' (.int ((cntA lot (i + 1) : Nat) : Int)) := by
        have hlc := el_lcG (σ := [some (.ref p), some (.int (most : Int)), some (.ref pl), some (.ref pf), some (.int (1 + (i : Int))), none, none]) (H := H') (wi := iEnumT K (tCons (tVar 2) tNil)) (g := gTup K 2 (gCons (gName 5) (gCons (gName 6) gNil))) (vs := [5, 6]) (t := tTest (tOp (rI0 fun i j => .bl (decide (i < j))) (tVar 5) (tVar 4))) (te := tOp (rI CMulB fun i j => .int (i * j)) (tVar 6) (tOp (L2.rIxL K) (tVar 3) (tOp (rI0 fun i j => .int (i - j)) (tOp (rI0 fun i j => .int (i - j)) (tVar 4) (tVar 5)) (tC (.int 1))))) (p := fun a : Nat => decide ((a : Int) < 1 + (i : Int))) (gv := fun a : Nat => V.int (((cntL lot (a + 1) * cntA lot (i + 1 - a - 1) : Nat) : Int))) (List.range (maxL lot)) (fun a => [some (.ref p), some (.int (most : Int)), some (.ref pl), some (.ref pf), some (.int (1 + (i : Int))), some (.int (a : Int)), some (.int ((cntL lot (a + 1) : Nat) : Int))]) (fun a x H1 => ∃ q, x = .ref q ∧ H1 q = some (.tup [.int (a : Int), .int ((cntL lot (a + 1) : Nat) : Int)])) (src_enumT (ev_var rfl) (st_of hl')) (by rw [hlen]; omega) (by rw [List.length_range, hlen]) ?_ ?_ (fun _ => rfl) (fun a H1 e1 ha => et_test (ev_op (ev_var rfl) (ev_var rfl) rv_I0)) ?_
        · refine ev_is (ev_cbL hlc fun q H3 hq e3 => rc_sum (ns := ((List.range (maxL lot)).filter fun a : Nat => decide ((a : Int) < 1 + (i : Int))).map fun a : Nat => (((cntL lot (a + 1) * cntA lot (i + 1 - a - 1) : Nat) : Int))) (sq_of (by rw [hq, List.map_map]; rfl))) ?_
          rw [sum_int, List.filter_congr (q := fun a : Nat => decide (a < i + 1)) fun a _ => decide_eq_decide.mpr (by omega), prog_sum hL.2.pos]
        · rintro j x H1 ⟨q, y, rfl, hy, hq⟩
          have hj : j < maxL lot := by
            have := (List.getElem?_eq_some_iff.mp hy).1
            omega
          refine ⟨j, List.getElem?_range hj, q, rfl, ?_⟩
          rw [hq]
          have : (numV (lensO lot))[j]? = some (.int ((cntL lot (j + 1) : Nat) : Int)) := by
            unfold numV lensO
            rw [List.getElem?_map, List.getElem?_map, List.getElem?_range hj]
            rfl
          rw [this] at hy
          cases hy
          rfl
        · rintro a x H1 Q' ⟨q, rfl, hq⟩ k'
          exact ⟨q, _, rfl, st_of hq, rfl, _, _, rfl, _, [], rfl, rfl, k'⟩
        · intro a H3 e3 ha hlt
          have hlt' : a < i + 1 := by
            have := of_decide_eq_true hlt
            omega
          refine ev_is (ev_op (ev_var rfl) (ev_op (ev_var rfl) (ev_op (ev_op (ev_var rfl) (ev_var rfl) rv_I0) ev_c rv_I0) (rv_ixL (i := (1 + (i : Int)) - (a : Int) - 1) (v := .int ((cntA lot (i + 1 - a - 1) : Nat) : Int)) (sq_of (e3 _ _ h4)) ?_)) (rv_I (C := CMulB) (g := fun i j => .int (i * j)) (mulB (a := 10) (b := 1700) ?_ (cntA_small hL.2.pos hL.2.few (by omega)) (by decide) (by decide) (by decide)))) ?_
          · rw [show (1 + (i : Int)) - (a : Int) - 1 = ((i + 1 - a - 1 : Nat) : Int) by omega]
            exact atI_nat (tab_at (by omega))
          · rw [Int.natAbs_natCast]
            have := cntL_le lot (a + 1)
            have := hL.2.few
            omega
          · rw [Int.natCast_mul]
      refine s_app (σ := [some (.ref p), some (.int (most : Int)), some (.ref pl), some (.ref pf), some (.int (1 + (i : Int))), none, none]) h4 (ev_var rfl) hsum (by rw [numV_len, tabA_len]; omega) fun H3 e3 => ⟨_, rfl, (h2.then e3).upd (.inl rfl), (h3.then e3).upd (.inl rfl), ?_⟩
      rw [upd_same]
      show _ = some (HO.lst (numV (tabA lot i ++ [nextA lot (tabA lot i) (i + 1)])))
      rw [nextA_is hL.2.pos]
      unfold numV
      rw [List.map_append]
      rfl
    · rintro Hs σ' H' e ⟨v4, rfl, h2, h3, h4⟩
      exact s_ret (ev_var rfl) fun H3 e3 => k pf H3 hfN (fun b o hb => e3 _ _ (h3 b o (fun z => by rw [z, hfN] at hb; cases hb) (e12 _ _ hb))) (e3 _ _ h4)
end
end K24
set_option Elab.async false
set_option linter.all false
set_option maxRecDepth 100000
set_option maxHeartbeats 4000000
set_option exponentiation.threshold 5000
namespace K24
open PySem PySem.Spec PyProof.Rows L2 Evl Wc Wt Wg Ws Wr
section
variable {K : PySem.W.Frag} {σ : L2.St} {H : Hp} {ta te : TE}
def dN (n : Nat) : PyData := .int (n : Int)
theorem sh_N (c : List Nat) : SeqAt.shaped (.list (c.map dN)) = true := shaped_list (m := 0) (fun _ _ => rfl) (fun _ _ => Nat.le_refl _) (by decide)
theorem dp_N {p : Addr} {c : List Nat} (h : H p = some (.lst (numV c))) : Dp K H (.ref p) (.list (c.map dN)) := dp_list (sq_of h) fun _ _ => .int _
theorem et_neNilL {c : List Nat} (hv : EvL te σ H (numV c)) : EvT (tTest (tOp (rNeD K) te (tLst tNil))) σ H (!decide (c = [])) := fun H2 e2 Q q => by
  refine hv H2 e2 _ fun p H3 hp e3 h3 => ⟨Nat.zero_le _, fun r hr => ?_⟩
  have e4 := Ex.new (o := HO.lst []) hr
  refine rv_neD (b := decide (c = [])) (fun H5 e5 => dp_N (e5 _ _ (e4 _ _ h3))) (fun H5 e5 => .lst (sq_of (e5 _ _ upd_same)) .nil) (sh_N c) (by decide) ?_ _ (Ex.refl _) _ fun H5 e5 => ⟨_, rfl, q _ ((e3.trans e4).trans e5)⟩
  cases c <;> rfl
theorem et_eqNilL {c : List Nat} (hv : EvL te σ H (numV c)) : EvT (tTest (tOp (rEqD K) te (tLst tNil))) σ H (decide (c = [])) := fun H2 e2 Q q => by
  refine hv H2 e2 _ fun p H3 hp e3 h3 => ⟨Nat.zero_le _, fun r hr => ?_⟩
  have e4 := Ex.new (o := HO.lst []) hr
  refine ⟨_, .list [], dp_N (e4 _ _ h3), .lst (sq_of upd_same) .nil, sh_N c, rfl, decide (c = []), ?_, q _ (e3.trans e4)⟩
  cases c <;> rfl
theorem et_neNilN {p : Addr} {c : List Nat} (h : H p = some (.lst (numV c))) (hv : Ev ta σ H (.ref p)) : EvT (tTest (tOp (rNeD K) ta (tLst tNil))) σ H (!decide (c = [])) := fun H2 e2 Q q => by
  refine hv H2 e2 _ fun H3 e3 => ⟨Nat.zero_le _, fun r hr => ?_⟩
  have e4 := Ex.new (o := HO.lst []) hr
  refine rv_neD (b := decide (c = [])) (fun H5 e5 => dp_N (e5 _ _ (((e2.trans e3).trans e4) _ _ h))) (fun H5 e5 => .lst (sq_of (e5 _ _ upd_same)) .nil) (sh_N c) (by decide) ?_ _ (Ex.refl _) _ fun H5 e5 => ⟨_, rfl, q _ ((e3.trans e4).trans e5)⟩
  cases c <;> rfl
end
/-- where there are more -/
def longO (l1 l2 : List Tx) (n : Nat) : List Nat := (List.range (n + 1)).filter fun i => decide (cntA l2 i < cntA l1 i)
def firstV : List Nat → V
  | [] => .non
  | a :: _ => .int (a : Int)
section
variable {K : PySem.W.Frag}
def sp_count_lists : Sp := fun vs H Q _ => ∃ (p : Addr) (lot : List Tx) (n : Nat), vs = [.ref p, .int (n : Int)] ∧ LotAt p lot H ∧ n ≤ 400 ∧ RetV (.int ((cntA lot n : Nat) : Int)) H Q
def sp_recurrence : Sp := sp_lengths_of
def sp_first_longer (CL CN : Addr) : Sp := fun vs H Q E => ∃ (v1 v2 v3 : V) (o1 o2 : Option (List Tx)) (o3 : Option Int), vs = [v1, v2, v3] ∧ Th H v1 o1 ∧ Th H v2 o2 ∧ Nt v3 o3 ∧ Sm o1 ∧ Sm o2 ∧
  ((lotB o1 = false ∧ ∀ H', Ex H H' → E (.ref CL) none H') ∨ (lotB o1 = true ∧ lotB o2 = false ∧ ∀ H', Ex H H' → E (.ref CL) none H') ∨ (lotB o1 = true ∧ lotB o2 = true ∧ inB 1 400 o3 = false ∧ ∀ H', Ex H H' → E (.ref CN) none H') ∨
   (∃ (p q : Addr) (l1 l2 : List Tx) (n : Nat), v1 = .ref p ∧ v2 = .ref q ∧ v3 = .int (n : Int) ∧ o1 = some l1 ∧ o2 = some l2 ∧ o3 = some (n : Int) ∧ LotAt p l1 H ∧ LotAt q l2 H ∧ 1 ≤ n ∧ n ≤ 400 ∧ RetV (firstV (longO l1 l2 n)) H Q))
def sp_lists : Sp := sp_list_counts
end
section
variable {P : Program} {w : World} {K : PySem.W.Frag} {mg : Str → Option Value} {base : Heap}
theorem ok_count_lists {f CL CN : Addr} {fd : FuncData} (F : Fun K "count_lists" "count_lists" st_count_lists f fd) (M : Md K mg) (S_need_lot : CalS P w K mg base "need_lot" st_need_lot 4 ["lot"] (sp_need_lot CL)) (S_need_number : CalS P w K mg base "need_number" st_need_number 3 ["thing", "least", "most"] (sp_need_number CN)) (C_list_counts : Cal P w K mg base "list_counts" st_list_counts 2 ["lot", "most"] sp_list_counts) : FnOk P w K mg base (L2.CX P w) 5 f fd ["lot", "count"] sp_count_lists := by
  have nd := sc_count_lists.nd
  refine F.okX sc_count_lists (fun vs H Q E h => ?_) (fun cdv A outer s H vs Q E hr h => ?_)
  · obtain ⟨_, _, _, rfl, _⟩ := h
    rfl
  · obtain ⟨p, lot, n, rfl, hL, hn, k⟩ := h
    refine ⟨_, (pss_cons (ps_expr (pe_clS S_need_lot hr (takes_of rfl rfl rfl rfl) (pa_cons (pv 0) pa_nil)))
  (pss_cons (ps_expr (pe_clS S_need_number hr (takes_of rfl rfl rfl rfl) (pa_cons (pv 1) (pa_cons pe_int (pa_cons (pe_gI M.c_MOST_COUNTED) pa_nil)))))
  (pss_one (ps_ret (pe_ix (kix K (r := L2.rIxL) ix_list) (pe_cl C_list_counts hr (pa_cons (pv 0) (pa_cons (pv 1) pa_nil))) (pv 1) (fun _ _ => rfl)))))), ?_⟩
    refine ⟨.ref p, rfl, .ref p, some lot, rfl, .tup hL.1, sm_ok hL.2, fun _ H1 e1 => ?_, fun z => by rw [lotB_ok hL.2] at z; cases z⟩
    have hin : inB 0 400 (some (n : Int)) = true := by
      unfold inB
      rw [Bool.and_eq_true, decide_eq_true_eq, decide_eq_true_eq]
      omega
    refine ⟨.int (n : Int), rfl, .int (n : Int), some (n : Int), 0, 400, rfl, .int _, fun _ H2 e2 => ?_, fun z => by rw [hin] at z; cases z⟩
    refine ⟨.ref p, rfl, .int (n : Int), rfl, p, lot, n, rfl, hL.ex (e1.trans e2), hn, fun q H3 hq e3 h3 => ⟨.int (n : Int), rfl, ?_⟩⟩
    exact rv_ixL (sq_of h3) (atI_nat (tab_at (Nat.le_refl n))) H3 (Ex.refl _) _ fun H4 e4 => k H4 (((e1.trans e2).trans e3).trans e4)
theorem ok_recurrence {f CL : Addr} {fd : FuncData} (F : Fun K "recurrence" "recurrence" st_recurrence f fd) (M : Md K mg) (S_need_lot : CalS P w K mg base "need_lot" st_need_lot 4 ["lot"] (sp_need_lot CL)) (C_lengths_of : Cal P w K mg base "lengths_of" st_lengths_of 1 ["lot"] sp_lengths_of) : FnOk P w K mg base (L2.CX P w) 5 f fd ["lot"] sp_recurrence := by
  have nd := sc_recurrence.nd
  refine F.okX sc_recurrence (fun vs H Q E h => ?_) (fun cdv A outer s H vs Q E hr h => ?_)
  · obtain ⟨_, _, rfl, _⟩ := h
    rfl
  · obtain ⟨p, lot, rfl, hL, k⟩ := h
    refine ⟨_, (pss_cons (ps_expr (pe_clS S_need_lot hr (takes_of rfl rfl rfl rfl) (pa_cons (pv 0) pa_nil)))
  (pss_one (ps_ret (pe_cl C_lengths_of hr (pa_cons (pv 0) pa_nil))))), ?_⟩
    refine ⟨.ref p, rfl, .ref p, some lot, rfl, .tup hL.1, sm_ok hL.2, fun _ H1 e1 => ?_, fun z => by rw [lotB_ok hL.2] at z; cases z⟩
    exact ⟨.ref p, rfl, p, lot, rfl, hL.ex e1, RetU.mono k e1⟩
theorem ok_first_longer {f CL CN : Addr} {fd : FuncData} (F : Fun K "first_longer" "first_longer" st_first_longer f fd) (M : Md K mg) (S_need_lot : CalS P w K mg base "need_lot" st_need_lot 4 ["lot"] (sp_need_lot CL)) (S_need_number : CalS P w K mg base "need_number" st_need_number 3 ["thing", "least", "most"] (sp_need_number CN)) (C_list_counts : Cal P w K mg base "list_counts" st_list_counts 2 ["lot", "most"] sp_list_counts) : FnOk P w K mg base (L2.CX P w) 5 f fd ["lot", "other", "count"] (sp_first_longer CL CN) := by
  have nd := sc_first_longer.nd
  refine F.okX sc_first_longer (fun vs H Q E h => ?_) (fun cdv A outer s H vs Q E hr h => ?_)
  · obtain ⟨_, _, _, _, _, _, rfl, _⟩ := h
    rfl
  · obtain ⟨v1, v2, v3, o1, o2, o3, rfl, t1, t2, n3, s1, s2, hc⟩ := h
    refine ⟨_, (pss_cons (ps_expr (pe_clS S_need_lot hr (takes_of rfl rfl rfl rfl) (pa_cons (pv 0) pa_nil)))
  (pss_cons (ps_expr (pe_clS S_need_lot hr (takes_of rfl rfl rfl rfl) (pa_cons (pv 1) pa_nil)))
  (pss_cons (ps_expr (pe_clS S_need_number hr (takes_of rfl rfl rfl rfl) (pa_cons (pv 2) (pa_cons pe_int (pa_cons (pe_gI M.c_MOST_COUNTED) pa_nil)))))
  (pss_cons (ps_asg (pe_tup (pa_cons (pe_cl C_list_counts hr (pa_cons (pv 0) (pa_cons (pv 2) pa_nil))) (pa_cons (pe_cl C_list_counts hr (pa_cons (pv 1) (pa_cons (pv 2) pa_nil))) pa_nil))) (kgt K (n := 2) (pg_tup rfl (pgs_cons (pg_name (i := 3) nd rfl (Or.inr rfl)) (pgs_cons (pg_name (i := 4) nd rfl (Or.inr rfl)) pgs_nil)))))
  (pss_cons (ps_setLc (i := 5) (own := [("many", 6)]) rfl nd rfl rfl (sw_true rfl rfl rfl (by decide +kernel)) (pi_range1 (by rfl) M.n_range (pa_cons (pe_op op_add (pv 2) pe_int) pa_nil)) (blkOk_by (N := N_first_longer) (sc := defScope st_first_longer) (by decide +kernel)) (fun _ _ _ _ _ => (pg_name (i := 6) nd rfl (Or.inl rfl))) (fun _ _ _ _ _ => (pts_one (pt_cmpR op_gt (pe_ix (kix K (r := L2.rIxL) ix_list) (pv 3) (pv 6) (fun _ _ => rfl)) (pe_ix (kix K (r := L2.rIxL) ix_list) (pv 4) (pv 6) (fun _ _ => rfl)) (nomark _)))) (fun _ _ _ _ _ => (pv 6)))
  (pss_one (ps_ret (pe_ifExp (pt_cmpR (kop K (r := rNeD) (op_neD hr.units)) (pv 5) (pe_lst pa_nil) (nomark _)) (pe_ix (kix K (r := L2.rIxL) ix_list) (pv 5) pe_int (fun _ _ => rfl)) pe_non)))))))), ?_⟩
    rcases hc with ⟨c1, ke⟩ | ⟨c1, c2, ke⟩ | ⟨c1, c2, c3, ke⟩ | ⟨p, q, l1, l2, n, rfl, rfl, rfl, rfl, rfl, rfl, hL1, hL2, hn1, hn2, k⟩
    · exact ⟨v1, rfl, v1, o1, rfl, t1, s1, (fun z => by rw [c1] at z; cases z), fun _ => ke⟩
    · exact ⟨v1, rfl, v1, o1, rfl, t1, s1, fun _ H1 e1 => ⟨v2, rfl, v2, o2, rfl, t2.ex e1, s2, (fun z => by rw [c2] at z; cases z), fun _ H' e' => ke H' (e1.trans e')⟩, (fun z => by rw [c1] at z; cases z)⟩
    · exact ⟨v1, rfl, v1, o1, rfl, t1, s1, fun _ H1 e1 => ⟨v2, rfl, v2, o2, rfl, t2.ex e1, s2, fun _ H2 e2 => ⟨v3, rfl, v3, o3, 1, 400, rfl, n3, (fun z => by rw [c3] at z; cases z), fun _ H' e' => ke H' ((e1.trans e2).trans e')⟩, (fun z => by rw [c2] at z; cases z)⟩, (fun z => by rw [c1] at z; cases z)⟩
    · have hin : inB 1 400 (some (n : Int)) = true := by
        unfold inB
        rw [Bool.and_eq_true, decide_eq_true_eq, decide_eq_true_eq]
        omega
      refine ⟨.ref p, rfl, .ref p, some l1, rfl, t1, s1, fun _ H1 e1 => ?_, fun z => by rw [lotB_ok hL1.2] at z; cases z⟩
      refine ⟨.ref q, rfl, .ref q, some l2, rfl, t2.ex e1, s2, fun _ H2 e2 => ?_, fun z => by rw [lotB_ok hL2.2] at z; cases z⟩
      refine ⟨.int (n : Int), rfl, .int (n : Int), some (n : Int), 1, 400, rfl, .int _, fun _ H3 e3 => ?_, fun z => by rw [hin] at z; cases z⟩
      have e13 := (e1.trans e2).trans e3
      refine ⟨.ref p, rfl, .int (n : Int), rfl, p, l1, n, rfl, hL1.ex e13, hn2, fun a H4 ha e4 h4 => ?_⟩
      refine ⟨.ref q, rfl, .int (n : Int), rfl, q, l2, n, rfl, hL2.ex (e13.trans e4), hn2, fun b H5 hb e5 h5 => ?_⟩
      refine ⟨by show 2 ≤ sizeLine; decide, fun pt hpt => ⟨pt, _, rfl, st_of upd_same, rfl, _, _, rfl, _, [], rfl, rfl, ?_⟩⟩
      have h46 := (e5.trans (Ex.new (o := HO.tup [.ref a, .ref b]) hpt)) _ _ h4
      have h56 := (Ex.new (o := HO.tup [.ref a, .ref b]) hpt) _ _ h5
      have e16 := (e13.trans (e4.trans e5)).trans (Ex.new (o := HO.tup [.ref a, .ref b]) hpt)
      generalize upd H5 pt (.tup [.ref a, .ref b]) = H6 at h46 h56 e16 ⊢
      have es : ((start N_first_longer [.ref p, .ref q, .int (n : Int)]).set 3 (some (.ref a))).set 4 (some (.ref b)) = [some (.ref p), some (.ref q), some (.int (n : Int)), some (.ref a), some (.ref b), none, none] := rfl
      rw [es]
      have hlc := el_lcF (wi := iRng1 (tCons (tOp (rI0 fun i j => .int (i + j)) (tVar 2) (tC (.int 1))) tNil)) (σ := [some (.ref p), some (.ref q), some (.int (n : Int)), some (.ref a), some (.ref b), none, none]) (H := H6) (j := 6) (vs := [6]) (t := tTest (tOp (rI0 fun i j => .bl (decide (i > j))) (tOp (L2.rIxL K) (tVar 3) (tVar 6)) (tOp (L2.rIxL K) (tVar 4) (tVar 6)))) (te := tVar 6) (f := fun (i : Nat) => V.int (i : Int)) (g := fun (i : Nat) => V.int (i : Int)) (p := fun i => decide (cntA l2 i < cntA l1 i)) (List.range (n + 1)) (src_range1L (n := n + 1) (ea_cons (ev_is (ev_op (ev_var rfl) ev_c rv_I0) (by rw [Int.natCast_add]; rfl)) ea_nil) (by omega)) (by rw [List.length_range]; omega) (fun _ => rfl) (fun i H7 e7 hi => et_is (et_test (ev_op (ev_op (ev_var rfl) (ev_var rfl) (rv_ixL (sq_of (e7 _ _ h46)) (atI_nat (tab_at (lot := l1) (n := n) (i := i) (by have := List.mem_range.mp hi; omega))))) (ev_op (ev_var rfl) (ev_var rfl) (rv_ixL (sq_of (e7 _ _ h56)) (atI_nat (tab_at (lot := l2) (n := n) (i := i) (by have := List.mem_range.mp hi; omega))))) rv_I0)) (decide_eq_decide.mpr (by omega))) (fun i H7 e7 hi _ => ev_var rfl)
      refine q_asgL (xs := numV (longO l1 l2 n)) hlc fun pf H7 hpf e7 h7 => ?_
      refine s_ret (v := firstV (longO l1 l2 n)) (ev_if (et_neNilN h7 (ev_var rfl)) (fun hb => ?_) fun hb => ?_) (RetV.mono k (e16.trans e7))
      · cases hlo : longO l1 l2 n with
        | nil => rw [hlo] at hb; cases hb
        | cons x xs =>
          rw [hlo] at h7
          exact ev_op (ev_var rfl) ev_c (rv_ixL (sq_of h7) (by show atI (numV (x :: xs)) ((0 : Nat) : Int) = _; exact atI_nat rfl))
      · cases hlo : longO l1 l2 n with
        | nil => exact ev_c
        | cons x xs => rw [hlo] at hb; cases hb
theorem ok__law_lists {f : Addr} {fd : FuncData} (F : Fun K "_law_lists" "_law_lists" st__law_lists f fd) (M : Md K mg) : FnOk P w K mg base CX0 1 f fd ["lot", "most"] sp_lists := by
  have nd := sc__law_lists.nd
  refine F.ok sc__law_lists (fun vs H Q E h => ?_) (fun cdv A outer s H vs Q E hr h => ?_)
  · obtain ⟨_, _, _, rfl, _⟩ := h
    rfl
  · obtain ⟨p, lot, most, rfl, hL, hm, k⟩ := h
    refine ⟨_, (pss_cons (ps_set (i := 2) nd rfl (Or.inr rfl) (pe_lst (pa_cons pe_int pa_nil)))
  (pss_cons (ps_for PassesOwn.never rfl (pi_range2 (by rfl) M.n_range (pa_cons pe_int (pa_cons (pe_op op_add (pv 1) pe_int) pa_nil))) (pg_name (i := 3) nd rfl (Or.inr rfl))
  (pss_one (ps_expr (kbm K (pe_bm PySem.F.plainAttrs_list PySem.F.slot_list_append PySem.F.type_list_append mt_append (pv 2) (pa_cons (pe_callB (kcr K (r := rSum) (cr_sum rfl)) (by rfl) M.n_sum boot_sum (pa_cons (pe_lc (own := [("word", 4)]) rfl nd (kit K (pi_tup (pv 0))) (blkOk_by (N := N__law_lists) (sc := defScope st__law_lists) (by decide +kernel)) (fun _ _ _ _ _ => (pg_name (i := 4) nd rfl (Or.inl rfl))) (fun _ _ _ _ _ => (pts_one (pt_cmpR op_le (pe_callB cr_lenT (by rfl) M.n_len boot_len (pa_cons (pv 4) pa_nil)) (pv 3) (nomark _)))) (fun _ _ _ _ _ => (pe_ix (kix K (r := L2.rIxL) ix_list) (pv 2) (pe_op op_sub (pv 3) (pe_callB cr_lenT (by rfl) M.n_len boot_len (pa_cons (pv 4) pa_nil))) (fun _ _ => rfl)))) pa_nil)) pa_nil))))))
  (pss_one (ps_ret (pv 2))))), ?_⟩
    refine q_asgL (xs := numV (tabA lot 0)) (el_lst (ea_cons ev_c ea_nil) (by show 1 ≤ 100000; decide)) fun pf H1 hpf e1 h1 => ?_
    have es : (start N__law_lists [.ref p, .int (most : Int)]).set 2 (some (.ref pf)) = [some (.ref p), some (.int (most : Int)), some (.ref pf), none, none] := rfl
    rw [es]
    have nfp : p ≠ pf := fun z => by rw [← z, hL.1] at hpf; cases hpf
    refine q_forW (fun c => c = pf) (src_range2 (lo := 1) (hi := (most : Int) + 1) (n := most) (ea_cons ev_c (ea_cons (ev_op (ev_var rfl) ev_c rv_I0) ea_nil)) (by decide) (by decide) (by omega) (by omega) (by omega)) ?_
      (fun Hs i σ' H' => ∃ (v3 : Option V), σ' = [some (.ref p), some (.int (most : Int)), some (.ref pf), v3, none] ∧ Exc (fun c => c = pf) Hs H' ∧ Exc (fun c => c = pf) H1 H' ∧ H' pf = some (.lst (numV (tabA lot i)))) ?_ ?_ ?_ ?_ ?_
    · rintro c rfl
      exact ⟨by rw [h1]; exact fun z => (nomatch z), fun z => z⟩
    · intro Hs e
      exact ⟨none, rfl, Exc.refl _, Exc.of e, e _ _ h1⟩
    · rintro Hs i σ' H' ⟨_, _, h, _⟩
      exact h
    · rintro Hs i σ' Ha Hb ⟨v3, h0, h2, h3, h4⟩ e
      exact ⟨v3, h0, h2.then e, h3.then e, e _ _ h4⟩
    · rintro Hs i x σ' H' e hi ⟨v3, rfl, h2, h3, h4⟩ rfl
      have hp' : H' p = some (.tup (lot.map T)) := h3 _ _ nfp (e1 _ _ hL.1)
      have hsum : Ev (tCB (rSum K) (tCons (tLc (iTup K (tVar 0)) (gName 4) (tTest (tOp (rI0 fun i j => .bl (decide (i ≤ j))) (tCB rLenT (tCons (tVar 4) tNil)) (tVar 3))) (tOp (L2.rIxL K) (tVar 2) (tOp (rI0 fun i j => .int (i - j)) (tVar 3) (tCB rLenT (tCons (tVar 4) tNil)))) [4]) tNil)) [some (.ref p), some (.int (most : Int)), some (.ref pf), some (.int (1 + (i : Int))), none] H' (.int ((cntA lot (i + 1) : Nat) : Int)) := by
        have hlen : ∀ t ∈ lot, t.length ≤ 16777216 := fun t ht => by
          have := (hL.2.wd t ht).1
          omega
        have hlc := el_lcF (wi := iTup K (tVar 0)) (σ := [some (.ref p), some (.int (most : Int)), some (.ref pf), some (.int (1 + (i : Int))), none]) (H := H') (j := 4) (vs := [4]) (t := tTest (tOp (rI0 fun i j => .bl (decide (i ≤ j))) (tCB rLenT (tCons (tVar 4) tNil)) (tVar 3))) (te := tOp (L2.rIxL K) (tVar 2) (tOp (rI0 fun i j => .int (i - j)) (tVar 3) (tCB rLenT (tCons (tVar 4) tNil)))) (f := T) (g := fun t : Tx => V.int ((cntA lot (i + 1 - t.length) : Nat) : Int)) (p := fun t => decide ((t.length : Int) ≤ 1 + (i : Int))) lot (src_tupM (ev_var rfl) (st_of hp')) (by have := hL.2.few; omega) (fun _ => rfl) (fun t H3 e3 ht => et_test (ev_op (ev_cb (ea_cons (ev_var rfl) ea_nil) (rc_lenT (hlen t ht))) (ev_var rfl) rv_I0)) fun t H3 e3 ht hlt => ?_
        · refine ev_is (ev_cbL hlc fun q H3 hq e3 => rc_sum (ns := (lot.filter fun t => decide ((t.length : Int) ≤ 1 + (i : Int))).map fun t : Tx => ((cntA lot (i + 1 - t.length) : Nat) : Int)) (sq_of (by rw [hq, List.map_map]; rfl))) ?_
          rw [sum_int, List.filter_congr (q := fun t : Tx => decide (t.length ≤ i + 1)) fun t _ => decide_eq_decide.mpr (by omega), ← cntA_succ hL.2.pos]
        · have h5 := of_decide_eq_true hlt
          have h6 := List.length_pos_iff.mpr (hL.2.pos t ht)
          refine ev_op (ev_var rfl) (ev_op (ev_var rfl) (ev_cb (ea_cons (ev_var rfl) ea_nil) (rc_lenT (hlen t ht))) rv_I0) (rv_ixL (i := (1 + (i : Int)) - (t.length : Int)) (sq_of (e3 _ _ h4)) ?_)
          rw [show (1 + (i : Int)) - (t.length : Int) = ((i + 1 - t.length : Nat) : Int) by omega]
          exact atI_nat (tab_at (by omega))
      refine s_app (σ := [some (.ref p), some (.int (most : Int)), some (.ref pf), some (.int (1 + (i : Int))), none]) h4 (ev_var rfl) hsum (by rw [numV_len, tabA_len]; omega) fun H3 e3 => ⟨_, rfl, (h2.then e3).upd (.inl rfl), (h3.then e3).upd (.inl rfl), ?_⟩
      rw [upd_same]
      show _ = some (HO.lst (numV (tabA lot i ++ [nextA lot (tabA lot i) (i + 1)])))
      rw [nextA_is hL.2.pos]
      unfold numV
      rw [List.map_append]
      rfl
    · rintro Hs σ' H' e ⟨v3, rfl, h2, h3, h4⟩
      exact s_ret (ev_var rfl) fun H3 e3 => k pf H3 hpf (fun b o hb => e3 _ _ (h3 b o (fun z => by rw [z, hpf] at hb; cases hb) (e1 _ _ hb))) (e3 _ _ h4)
end
end K24
set_option Elab.async false
set_option linter.all false
set_option maxRecDepth 100000
set_option maxHeartbeats 2000000
namespace K24
open PySem PySem.Spec PyProof.Rows L2 Evl Wc
/-! the plain law: from where on all multiples are reached -/
/-- the lengths, ascending, each once -/
abbrev tw : List Nat := [1, 2, 3, 4, 5, 6, 7, 8, 9, 10, 11, 12]
def lens (lot : List Tx) : List Nat := tw.filter fun l => decide (l ∈ lot.map List.length)
theorem mem_lens {lot : List Tx} (hL : IsLot lot) {l : Nat} : l ∈ lens lot ↔ l ∈ lot.map List.length := by
  unfold lens
  rw [List.mem_filter, decide_eq_true_eq]
  refine ⟨fun z => z.2, fun z => ⟨?_, z⟩⟩
  obtain ⟨t, ht, rfl⟩ := List.mem_map.mp z
  have h1 := (hL.wd t ht).1
  have h2 := List.length_pos_iff.mpr (hL.pos t ht)
  simp
  omega
theorem lens_asc (lot : List Tx) : (lens lot).Pairwise (· < ·) := List.Pairwise.filter _ (by decide)
theorem lens_in {lot : List Tx} {l : Nat} (h : l ∈ lens lot) : 1 ≤ l ∧ l ≤ 12 := by
  have := (List.mem_filter.mp h).1
  simp at this
  omega
theorem lens_len (lot : List Tx) : (lens lot).length ≤ 12 := List.length_filter_le _ _
theorem lens_ne {lot : List Tx} (hL : IsLot lot) : lens lot ≠ [] := fun z => by
  cases hl : lot with
  | nil => exact hL.ne hl
  | cons t r =>
    have : t.length ∈ lens lot := (mem_lens hL).mpr (List.mem_map.mpr ⟨t, by rw [hl]; exact List.mem_cons_self, rfl⟩)
    rw [z] at this
    cases this
/-- ascending lists with like items are alike -/
theorem asc_same {a b : List Int} (ha : a.Pairwise (· < ·)) (hb : b.Pairwise (· < ·)) (h : ∀ x, x ∈ a ↔ x ∈ b) : a = b := by
  have hp : a.Perm b := (List.perm_ext_iff_of_nodup (ha.imp fun h => by omega) (hb.imp fun h => by omega)).mpr h
  exact hp.eq_of_pairwise (fun x y _ _ h1 h2 => by omega) ha hb
/-! ### all sums, as bits -/
/-- up to 255 more of l -/
def close (l R : Nat) : Nat :=
  let R := R ||| (R <<< l)
  let R := R ||| (R <<< (2 * l))
  let R := R ||| (R <<< (4 * l))
  let R := R ||| (R <<< (8 * l))
  let R := R ||| (R <<< (16 * l))
  let R := R ||| (R <<< (32 * l))
  let R := R ||| (R <<< (64 * l))
  (R ||| (R <<< (128 * l))) &&& (2 ^ 160 - 1)
/-- all multiples of g from a * b on, for as long as a, are among the bits -/
def fine (R g a b : Nat) : Bool := (List.range (a / g)).all fun i => R.testBit (a * b + i * g)
/-- every choice of the rest -/
def chkAll : List Nat → Nat → Nat → Nat → Nat → Bool
  | [], R, g, a, b => decide (g = 0) || fine R g a b
  | l :: ls, R, g, a, b => chkAll ls R g a b && chkAll ls (close l R) (Nat.gcd g l) (if a = 0 then l else a) l
theorem chk : chkAll tw 1 0 0 0 = true := by decide +kernel
def sel (p : Nat → Bool) : List Nat → Nat → Nat → Nat → Nat → Nat × Nat × Nat × Nat
  | [], R, g, a, b => (R, g, a, b)
  | l :: ls, R, g, a, b => if p l = true then sel p ls (close l R) (Nat.gcd g l) (if a = 0 then l else a) l else sel p ls R g a b
theorem chk_sel (p : Nat → Bool) : ∀ (ls : List Nat) (R g a b : Nat), chkAll ls R g a b = true → ((sel p ls R g a b).2.1 = 0 ∨ fine (sel p ls R g a b).1 (sel p ls R g a b).2.1 (sel p ls R g a b).2.2.1 (sel p ls R g a b).2.2.2 = true)
  | [], R, g, a, b, h => by
    have h : (decide (g = 0) || fine R g a b) = true := h
    rw [Bool.or_eq_true, decide_eq_true_eq] at h
    exact h
  | l :: ls, R, g, a, b, h => by
    have h : (chkAll ls R g a b && chkAll ls (close l R) (Nat.gcd g l) (if a = 0 then l else a) l) = true := h
    rw [Bool.and_eq_true] at h
    show _ ∨ _
    unfold sel
    by_cases hp : p l = true
    · rw [if_pos hp]
      exact chk_sel p ls _ _ _ _ h.2
    · rw [if_neg hp]
      exact chk_sel p ls _ _ _ _ h.1
theorem sel_gab (p : Nat → Bool) : ∀ (ls : List Nat) (R g a b : Nat), (∀ l ∈ ls, l ≠ 0) → (sel p ls R g a b).2.1 = (ls.filter p).foldl Nat.gcd g ∧ (sel p ls R g a b).2.2.1 = (if a = 0 then (ls.filter p).headD 0 else a) ∧ (sel p ls R g a b).2.2.2 = (ls.filter p).getLastD b
  | [], R, g, a, b, _ => by
    refine ⟨rfl, ?_, rfl⟩
    show a = if a = 0 then 0 else a
    split <;> omega
  | l :: ls, R, g, a, b, h => by
    have hl := h l List.mem_cons_self
    have h' : ∀ l ∈ ls, l ≠ 0 := fun x hx => h x (List.mem_cons_of_mem _ hx)
    unfold sel
    rw [List.filter_cons]
    by_cases hp : p l = true
    · rw [if_pos hp, if_pos hp]
      obtain ⟨h1, h2, h3⟩ := sel_gab p ls (close l R) (Nat.gcd g l) (if a = 0 then l else a) l h'
      refine ⟨h1, ?_, ?_⟩
      · rw [h2]
        by_cases ha : a = 0
        · rw [if_pos ha, if_pos ha, if_neg hl]
          rfl
        · rw [if_neg ha, if_neg ha, if_neg ha]
      · rw [h3]
        cases hf : ls.filter p with
        | nil => rfl
        | cons x xs => simp [List.getLastD]
    · rw [if_neg hp, if_neg hp]
      exact sel_gab p ls R g a b h'
theorem Rc.times {L : List Nat} {l n : Nat} (hl : l ∈ L) (r : Rc L n) : ∀ k, Rc L (n + k * l)
  | 0 => by rw [Nat.zero_mul]; exact r
  | k + 1 => by
    rw [Nat.succ_mul, ← Nat.add_assoc]
    exact .add (Rc.times hl r k) hl
def Bits (L : List Nat) (R : Nat) : Prop := ∀ n, R.testBit n = true → Rc L n
theorem Bits.shift {L : List Nat} {R l : Nat} (k : Nat) (h : Bits L R) (hl : l ∈ L) : Bits L (R ||| (R <<< (k * l))) := fun n hn => by
  rw [Nat.testBit_or, Bool.or_eq_true] at hn
  rcases hn with hn | hn
  · exact h n hn
  · rw [Nat.testBit_shiftLeft, Bool.and_eq_true, decide_eq_true_eq] at hn
    have := Rc.times hl (h _ hn.2) k
    rw [Nat.sub_add_cancel hn.1] at this
    exact this
theorem Bits.close {L : List Nat} {R l : Nat} (h : Bits L R) (hl : l ∈ L) : Bits L (close l R) := fun n hn => by
  unfold K24.close at hn
  have h1 := h.shift 1 hl
  rw [Nat.one_mul] at h1
  have h2 := ((((((h1.shift 2 hl).shift 4 hl).shift 8 hl).shift 16 hl).shift 32 hl).shift 64 hl).shift 128 hl
  rw [Nat.testBit_and, Bool.and_eq_true] at hn
  exact h2 n hn.1
theorem sel_bits {L : List Nat} (p : Nat → Bool) : ∀ (ls : List Nat) (R g a b : Nat), Bits L R → (∀ l ∈ ls, p l = true → l ∈ L) → Bits L (sel p ls R g a b).1
  | [], R, g, a, b, h, _ => h
  | l :: ls, R, g, a, b, h, hl => by
    unfold sel
    have h' : ∀ x ∈ ls, p x = true → x ∈ L := fun x hx => hl x (List.mem_cons_of_mem _ hx)
    by_cases hp : p l = true
    · rw [if_pos hp]
      exact sel_bits p ls _ _ _ _ (h.close (hl l List.mem_cons_self hp)) h'
    · rw [if_neg hp]
      exact sel_bits p ls _ _ _ _ h h'
/-- the divisor, the least and the greatest length -/
def gL (lot : List Tx) : Nat := (lens lot).foldl Nat.gcd 0
def aL (lot : List Tx) : Nat := (lens lot).headD 0
def bL (lot : List Tx) : Nat := (lens lot).getLastD 0
theorem fold_gcd_dvd : ∀ (ls : List Nat) (g : Nat), ls.foldl Nat.gcd g ∣ g ∧ ∀ l ∈ ls, ls.foldl Nat.gcd g ∣ l
  | [], g => ⟨Nat.dvd_refl _, fun _ h => nomatch h⟩
  | x :: ls, g => by
    obtain ⟨h1, h2⟩ := fold_gcd_dvd ls (Nat.gcd g x)
    refine ⟨Nat.dvd_trans h1 (Nat.gcd_dvd_left _ _), fun l hl => ?_⟩
    rcases List.mem_cons.mp hl with rfl | hl
    · exact Nat.dvd_trans h1 (Nat.gcd_dvd_right _ _)
    · exact h2 l hl
theorem dvd_fold_gcd : ∀ (ls : List Nat) (g d : Nat), d ∣ g → (∀ l ∈ ls, d ∣ l) → d ∣ ls.foldl Nat.gcd g
  | [], g, d, h, _ => h
  | x :: ls, g, d, h, hl => dvd_fold_gcd ls (Nat.gcd g x) d (Nat.dvd_gcd h (hl x List.mem_cons_self)) fun l h' => hl l (List.mem_cons_of_mem _ h')
section
variable {lot : List Tx} (hL : IsLot lot)
include hL
theorem a_mem : aL lot ∈ lens lot := by
  unfold aL
  cases h : lens lot with
  | nil => exact absurd h (lens_ne hL)
  | cons x xs => exact List.mem_cons_self
theorem b_mem : bL lot ∈ lens lot := by
  unfold bL
  cases h : lens lot with
  | nil => exact absurd h (lens_ne hL)
  | cons x xs =>
    rw [List.getLastD_eq_getLast?]
    rw [List.getLast?_eq_some_getLast (by simp)]
    exact List.getLast_mem _
theorem a_le {l : Nat} (h : l ∈ lens lot) : aL lot ≤ l := by
  have hp := lens_asc lot
  unfold aL
  cases hl : lens lot with
  | nil => rw [hl] at h; cases h
  | cons x xs =>
    rw [hl] at h hp
    rcases List.mem_cons.mp h with rfl | h
    · exact Nat.le_refl _
    · exact Nat.le_of_lt ((List.pairwise_cons.mp hp).1 l h)
theorem a_in : 1 ≤ aL lot ∧ aL lot ≤ 12 := lens_in (a_mem hL)
theorem b_in : 1 ≤ bL lot ∧ bL lot ≤ 12 := lens_in (b_mem hL)
theorem g_dvd {l : Nat} (h : l ∈ lens lot) : gL lot ∣ l := (fold_gcd_dvd (lens lot) 0).2 l h
theorem g_pos : 1 ≤ gL lot := Nat.pos_of_dvd_of_pos (g_dvd hL (a_mem hL)) (a_in hL).1
theorem g_le : gL lot ≤ aL lot := Nat.le_of_dvd (a_in hL).1 (g_dvd hL (a_mem hL))
theorem Rc_dvd {n : Nat} (r : Rc (lens lot) n) : gL lot ∣ n := by
  induction r with
  | zero => exact Nat.dvd_zero _
  | add _ hl ih => exact (Nat.dvd_add_right ih).mpr (g_dvd hL hl)
theorem first_row (i : Nat) (hi : i < aL lot / gL lot) : Rc (lens lot) (aL lot * bL lot + i * gL lot) := by
  have hc := chk_sel (fun l => decide (l ∈ lot.map List.length)) tw 1 0 0 0 chk
  obtain ⟨h1, h2, h3⟩ := sel_gab (fun l => decide (l ∈ lot.map List.length)) tw 1 0 0 0 (by decide)
  have hb := sel_bits (L := lens lot) (fun l => decide (l ∈ lot.map List.length)) tw 1 0 0 0 (fun n hn => by
    by_cases h0 : n = 0
    · subst h0
      exact .zero
    · rw [show (1 : Nat) = 2 ^ 0 from rfl, Nat.testBit_two_pow] at hn
      exact absurd (of_decide_eq_true hn).symm h0) fun l hl hp => List.mem_filter.mpr ⟨hl, hp⟩
  rw [h1, h2, h3] at hc
  rcases hc with hc | hc
  · exact absurd hc (by have := g_pos hL; unfold gL lens at this; omega)
  · exact hb _ (List.all_eq_true.mp hc i (List.mem_range.mpr hi))
/-- all multiples from there on -/
theorem all_on {n : Nat} (hn : aL lot * bL lot ≤ n) (hg : gL lot ∣ n) : Rc (lens lot) n := by
  have hg1 := g_pos hL
  have ha := (a_in hL).1
  have hga := g_dvd hL (a_mem hL)
  obtain ⟨r, rfl⟩ := Nat.exists_eq_add_of_le hn
  have hr : gL lot ∣ r := (Nat.dvd_add_right (Nat.dvd_trans hga (Nat.dvd_mul_right _ _))).mp hg
  have hm : gL lot ∣ r % aL lot := (Nat.dvd_mod_iff hga).mpr hr
  obtain ⟨i, hi⟩ := hm
  have hlt := Nat.mod_lt r ha
  have hi2 : i < aL lot / gL lot := by
    rw [Nat.lt_div_iff_mul_lt hg1]
    obtain ⟨q, hq⟩ := hga
    have h5 : gL lot * i < gL lot * q := by rw [← hi, ← hq]; exact hlt
    have h6 : i < q := Nat.lt_of_mul_lt_mul_left h5
    have h7 : (i + 1) * gL lot ≤ q * gL lot := Nat.mul_le_mul_right _ h6
    rw [hq, Nat.mul_comm (gL lot) q]
    rw [Nat.succ_mul] at h7
    omega
  have h1 := Rc.times (a_mem hL) (first_row hL i hi2) (r / aL lot)
  have h2 := Nat.div_add_mod r (aL lot)
  rw [show aL lot * bL lot + r = aL lot * bL lot + i * gL lot + r / aL lot * aL lot by rw [Nat.mul_comm i, ← hi, Nat.mul_comm (r / aL lot)]; omega]
  exact h1
end
end K24
set_option Elab.async false
set_option linter.all false
set_option maxRecDepth 100000
set_option maxHeartbeats 2000000
namespace K24
open PySem PySem.Spec PyProof.Rows L2 Evl Wc
theorem size_step {j c : Nat} (hc : 1 ≤ c) (hj : 1 ≤ j) : Builtin.Range.rangeSize 0 (j : Int) (c : Int) = (((j - 1) / c + 1 : Nat) : Int) := by
  unfold Builtin.Range.rangeSize
  rw [if_pos (by omega), if_pos (by omega), show (j : Int) - 0 - 1 = ((j - 1 : Nat) : Int) by omega, ← Int.natCast_ediv]
  rfl
theorem rgc_step {j c : Nat} (hc : 1 ≤ c) (hc2 : c ≤ 1000) (hj : 1 ≤ j) (hj2 : j ≤ 100000) : RgC 0 (j : Int) (c : Int) ((j - 1) / c + 1) := by
  refine ⟨by omega, by omega, ?_, size_step hc hj⟩
  have hq : (j - 1) / c ≤ j - 1 := Nat.div_le_self _ _
  have hm : (j - 1) / c * c ≤ j - 1 := Nat.div_mul_le_self _ _
  unfold Builtin.Range.small
  rw [size_step hc hj]
  have h1 : ((((j - 1) / c + 1 : Nat) : Int)) * (c : Int) = ((((j - 1) / c) * c + c : Nat) : Int) := by
    rw [← Int.natCast_mul, Nat.succ_mul]
  simp only [Builtin.Range.rangeFitsLong, Bool.and_eq_true, Bool.or_eq_true, decide_eq_true_eq, beq_iff_eq, show ((c : Int) > 0) by omega, if_true]
  generalize (j - 1) / c * c = m at hm h1
  generalize (j - 1) / c = q at hq h1 ⊢
  omega
section
variable {σ : L2.St} {H : Hp}
/-- 0, c, 2 c, .. below j -/
theorem src_step {tq : TA} {j c : Nat} (h : EvA tq σ H [.int 0, .int (j : Int), .int (c : Int)]) (hc : 1 ≤ c) (hc2 : c ≤ 1000) (hj : 1 ≤ j) (hj2 : j ≤ 100000) : Src (iRng3 tq) σ H ((j - 1) / c + 1) (fun _ => False) (fun i v _ => v = .int ((i * c : Nat) : Int)) := fun H1 e R q =>
  h H1 e _ fun H2 e2 => ⟨_, _, _, _, rfl, rgc_step hc hc2 hj hj2, by
    have w := (walk_rangeC (lo := 0) (c := (c : Int)) (n := (j - 1) / c + 1)).mono (fun _ z => z) (Y' := fun i Ha v Hb => Ex Ha Hb ∧ v = .int ((i * c : Nat) : Int)) (fun i Ha v Hb _ _ hy => by
      obtain ⟨rfl, rfl⟩ := hy
      exact ⟨Ex.refl _, by show V.int ((0 : Int) + ((i : Nat) : Int) * c) = _; congr 1; rw [Int.natCast_mul]; omega⟩)
    exact q _ H2 _ e2 w fun _ _ _ _ => True.intro⟩
theorem src_stepL {tq : TA} {j c : Nat} (h : EvA tq σ H [.int 0, .int (j : Int), .int (c : Int)]) (hc : 1 ≤ c) (hc2 : c ≤ 1000) (hj : 1 ≤ j) (hj2 : j ≤ 100000) : Src (iRng3 tq) σ H (List.range ((j - 1) / c + 1)).length (fun _ => False) (fun i v _ => ((List.range ((j - 1) / c + 1)).map fun (i : Nat) => V.int ((i * c : Nat) : Int))[i]? = some v) := by
  rw [List.length_range]
  refine src_as (src_step h hc hc2 hj hj2) fun i v H' hi hv => ?_
  rw [List.getElem?_map, List.getElem?_range hi, hv]
  rfl
/-- a, a - 1, .. 1 -/
theorem src_downTo {tq : TA} {a : Nat} (h : EvA tq σ H [.int (a : Int), .int 0, .int (-1)]) (ha : a ≤ 100000) : Src (iRng3 tq) σ H a (fun _ => False) (fun i v _ => v = .int ((a : Int) - (i : Int))) := fun H1 e R q =>
  h H1 e _ fun H2 e2 => ⟨_, _, _, a, rfl, by
    have := RgC.neg (i := (a : Int)) (j := 0) (by omega) (by omega) (by decide) (by decide)
    have e : ((a : Int) - 0).toNat = a := by omega
    rw [e] at this
    exact this, by
    have w := (walk_rangeC (lo := (a : Int)) (c := -1) (n := a)).mono (fun _ z => z) (Y' := fun i Ha v Hb => Ex Ha Hb ∧ v = .int ((a : Int) - (i : Int))) (fun i Ha v Hb _ _ hy => by
      obtain ⟨rfl, rfl⟩ := hy
      exact ⟨Ex.refl _, by show V.int ((a : Int) + ((i : Nat) : Int) * -1) = _; congr 1; omega⟩)
    exact q _ H2 _ e2 w fun _ _ _ _ => True.intro⟩
end
/-! ### which are missing -/
noncomputable def rb (L : List Nat) (n : Nat) : Bool := @decide (Rc L n) (Classical.propDecidable _)
theorem rb_true {L : List Nat} {n : Nat} : rb L n = true ↔ Rc L n := @decide_eq_true_iff _ (Classical.propDecidable _)
theorem rb_false {L : List Nat} {n : Nat} : rb L n = false ↔ ¬ Rc L n := by
  rw [← rb_true, Bool.not_eq_true]
theorem rb_zero (L : List Nat) : rb L 0 = true := rb_true.mpr .zero
theorem rb_step {L : List Nat} (hL : ∀ l ∈ L, 1 ≤ l) {n : Nat} (hn : 1 ≤ n) : rb L n = L.any fun l => decide (l ≤ n) && rb L (n - l) := by
  rw [Bool.eq_iff_iff, rb_true, List.any_eq_true]
  constructor
  · intro r
    rcases r.last with z | ⟨l, hl, h1, h2⟩
    · omega
    · exact ⟨l, hl, by rw [Bool.and_eq_true, decide_eq_true_eq]; exact ⟨h1, rb_true.mpr h2⟩⟩
  · rintro ⟨l, hl, h⟩
    rw [Bool.and_eq_true, decide_eq_true_eq] at h
    have := Rc.add (rb_true.mp h.2) hl
    rw [Nat.sub_add_cancel h.1] at this
    exact this
noncomputable def missL (lot : List Tx) : List Nat := ((List.range ((aL lot * bL lot + bL lot) / gL lot + 1)).filter fun i => !rb (lens lot) (i * gL lot)).map fun i => i * gL lot
noncomputable def fromL (lot : List Tx) : Nat := match (missL lot).getLast? with
  | none => 0
  | some m => m + gL lot
theorem getLast_max : ∀ {l : List Nat} {x : Nat}, l.Pairwise (· < ·) → x ∈ l → (∀ y ∈ l, y ≤ x) → l.getLast? = some x
  | [], x, _, h, _ => nomatch h
  | [a], x, _, h, _ => by
    rw [List.mem_singleton] at h
    rw [h]
    rfl
  | a :: b :: l, x, hp, h, hm => by
    rw [List.getLast?_cons_cons]
    rw [List.pairwise_cons] at hp
    refine getLast_max hp.2 ?_ fun y hy => hm y (List.mem_cons_of_mem _ hy)
    rcases List.mem_cons.mp h with rfl | h
    · have h1 := hp.1 b List.mem_cons_self
      have h2 := hm b (List.mem_cons_of_mem _ List.mem_cons_self)
      omega
    · exact h
theorem from_is {lot : List Tx} (hL : IsLot lot) {s : Nat} (hg : gL lot ∣ s) (ha : ∀ n, s ≤ n → gL lot ∣ n → Rc (lens lot) n) (hm : 0 < s → ¬ Rc (lens lot) (s - gL lot)) : fromL lot = s := by
  have hg1 := g_pos hL
  have hmem : ∀ m, m ∈ missL lot ↔ ∃ i, i < (aL lot * bL lot + bL lot) / gL lot + 1 ∧ ¬ Rc (lens lot) (i * gL lot) ∧ i * gL lot = m := fun m => by
    unfold missL
    rw [List.mem_map]
    constructor
    · rintro ⟨i, hi, rfl⟩
      rw [List.mem_filter, List.mem_range] at hi
      exact ⟨i, hi.1, rb_false.mp (by simpa using hi.2), rfl⟩
    · rintro ⟨i, h1, h2, rfl⟩
      exact ⟨i, List.mem_filter.mpr ⟨List.mem_range.mpr h1, by rw [rb_false.mpr h2]; rfl⟩, rfl⟩
  have hasc : (missL lot).Pairwise (· < ·) := by
    unfold missL
    rw [List.pairwise_map]
    exact (List.Pairwise.filter _ List.pairwise_lt_range).imp fun h => Nat.mul_lt_mul_of_pos_right h hg1
  unfold fromL
  by_cases h0 : s = 0
  · subst h0
    have : missL lot = [] := List.eq_nil_iff_forall_not_mem.mpr fun m hmm => by
      obtain ⟨i, _, h2, rfl⟩ := (hmem m).mp hmm
      exact h2 (ha _ (Nat.zero_le _) (Nat.dvd_mul_left _ _))
    rw [this]
    rfl
  · obtain ⟨k, rfl⟩ := hg
    have hk : 1 ≤ k := Nat.pos_of_ne_zero fun z => h0 (by rw [z, Nat.mul_zero])
    have e : gL lot * k - gL lot = (k - 1) * gL lot := by
      rw [Nat.mul_comm, Nat.sub_mul, Nat.one_mul]
    have hmiss := hm (by omega)
    rw [e] at hmiss
    have hlt : (k - 1) * gL lot < aL lot * bL lot := Nat.lt_of_not_le fun z => hmiss (all_on hL z (Nat.dvd_mul_left _ _))
    have hlast : (missL lot).getLast? = some ((k - 1) * gL lot) := by
      refine getLast_max hasc ((hmem _).mpr ⟨k - 1, ?_, hmiss, rfl⟩) fun y hy => ?_
      · have : k - 1 ≤ (aL lot * bL lot + bL lot) / gL lot := by
          rw [Nat.le_div_iff_mul_le hg1]
          omega
        omega
      · obtain ⟨i, _, h2, rfl⟩ := (hmem y).mp hy
        refine Nat.mul_le_mul_right _ (Nat.le_of_not_lt fun z => h2 (ha _ ?_ (Nat.dvd_mul_left _ _)))
        rw [Nat.mul_comm (gL lot)]
        exact Nat.mul_le_mul_right _ (by omega)
    rw [hlast]
    show (k - 1) * gL lot + gL lot = gL lot * k
    rw [← Nat.succ_mul, Nat.mul_comm (gL lot)]
    congr 1
    omega
/-! ### rows of multiples -/
/-- so many multiples, ending ahead of k, are reached, and the one ahead of them is not -/
structure Row (L : List Nat) (g k row : Nat) : Prop where
  le : row ≤ k
  all : ∀ j, k - row ≤ j → j < k → Rc L (j * g)
  no : row < k → ¬ Rc L ((k - row - 1) * g)
theorem Row.zero (L : List Nat) (g : Nat) : Row L g 0 0 := ⟨Nat.le_refl _, fun j _ h => by omega, fun h => by omega⟩
theorem Row.yes {L : List Nat} {g k row : Nat} (h : Row L g k row) (r : Rc L (k * g)) : Row L g (k + 1) (row + 1) := ⟨by have := h.le; omega, fun j h1 h2 => by
  by_cases e : j = k
  · rw [e]; exact r
  · exact h.all j (by omega) (by omega), fun h1 => by
  rw [show k + 1 - (row + 1) - 1 = k - row - 1 by omega]
  exact h.no (by omega)⟩
theorem Row.nope {L : List Nat} {g k row : Nat} (h : ¬ Rc L (k * g)) : Row L g (k + 1) 0 := ⟨by omega, fun j h1 h2 => by omega, fun _ => by
  rw [show k + 1 - 0 - 1 = k by omega]
  exact h⟩
/-- a row as long as the least length begins where all are reached -/
theorem row_from {lot : List Tx} (hL : IsLot lot) {k row : Nat} (h : Row (lens lot) (gL lot) k row) (hr : aL lot ≤ row * gL lot) : fromL lot = (k - row) * gL lot := by
  have hg1 := g_pos hL
  refine from_is hL (Nat.dvd_mul_left _ _) (fun n hn hd => ?_) fun hs => ?_
  · -- by induction on n
    revert hn hd
    induction n using Nat.strongRecOn with
    | ind n ih =>
      intro hn hd
      obtain ⟨j, rfl⟩ := hd
      rw [Nat.mul_comm (gL lot) j] at hn ih ⊢
      have hj : k - row ≤ j := Nat.le_of_mul_le_mul_right hn hg1
      by_cases hjk : j < k
      · exact h.all j hj hjk
      · have h1 : k * gL lot ≤ j * gL lot := Nat.mul_le_mul_right _ (by omega)
        have h2 : (k - row) * gL lot + row * gL lot = k * gL lot := by rw [← Nat.add_mul]; congr 1; have := h.le; omega
        have ha := (a_in hL).1
        have hda := g_dvd hL (a_mem hL)
        have h3 := ih (j * gL lot - aL lot) (by omega) (by omega) (Nat.dvd_sub (Nat.dvd_mul_left _ _) hda)
        have := Rc.add h3 (a_mem hL)
        rw [Nat.sub_add_cancel (by omega)] at this
        exact this
  · have hlt : row < k := by
      have : 0 < k - row := by
        rcases Nat.eq_zero_or_pos (k - row) with z | z
        · rw [z, Nat.zero_mul] at hs
          exact absurd hs (Nat.lt_irrefl 0)
        · exact z
      omega
    have := h.no hlt
    rw [Nat.sub_mul, Nat.one_mul] at this
    exact this
/-- .. and one is found in time -/
theorem row_found {lot : List Tx} (hL : IsLot lot) {k row : Nat} (h : Row (lens lot) (gL lot) k row) (hk : 200 ≤ k * gL lot) : aL lot ≤ row * gL lot := by
  have hg1 := g_pos hL
  refine Nat.le_of_not_lt fun hlt => ?_
  have ha := a_in hL
  have hb := b_in hL
  have hab : aL lot * bL lot ≤ 12 * 12 := Nat.mul_le_mul ha.2 hb.2
  have hle : row < k := Nat.lt_of_mul_lt_mul_right (a := gL lot) (by omega)
  refine h.no hle (all_on hL ?_ (Nat.dvd_mul_left _ _))
  have hgl := g_le hL
  have : (k - row - 1) * gL lot = k * gL lot - row * gL lot - gL lot := by rw [Nat.sub_mul, Nat.sub_mul, Nat.one_mul]
  omega
end K24
set_option Elab.async false
set_option linter.all false
set_option maxRecDepth 100000
set_option maxHeartbeats 4000000
set_option exponentiation.threshold 5000
namespace K24
open PySem PySem.Spec PyProof.Rows L2 Evl Wc Wt Wg Ws Wr _root_.Wd
section
variable {K : PySem.W.Frag} {σ : L2.St} {H : Hp} {te ty td : TE}
theorem val_neg {ks : List Nat} {z : Int} (hz : z < 0) : valV (DS ks) (Sum.inl z) = none := by
  induction ks with
  | nil => rfl
  | cons m ks ih =>
    show valV ((Sum.inl (m : Int), V.bl true) :: DS ks) _ = _
    rw [valV_neg (fun e => by have := Sum.inl.inj e; omega), ih]
/-- z in d, z any number -/
theorem ev_inDI {d : Addr} {ks : List Nat} {z : Int} (hn : Ev ty σ H (.int z)) (hd : Ev td σ H (.ref d)) (h : H d = some (.dK (DS ks))) : Ev (tDIn ty td) σ H (.bl (decide (0 ≤ z ∧ z.toNat ∈ ks))) := by
  by_cases hz : 0 ≤ z
  · obtain ⟨n, rfl⟩ := Int.eq_ofNat_of_zero_le hz
    exact ev_is (ev_inD hn hd h) (by congr 1; exact decide_eq_decide.mpr ⟨fun z => ⟨hz, z⟩, fun z => z.2⟩)
  · refine fun H1 e Q q => hn H1 e _ fun H2 e2 => hd H2 (e.trans e2) _ fun H3 e3 => ⟨d, _, rfl, DGet.k (k := Sum.inl z) (((e.trans e2).trans e3) _ _ h), by
      rw [val_neg (by omega)]
      rw [decide_eq_false (fun y => hz y.1)] at q
      exact q H3 (e2.trans e3)⟩
/-- min of a list of numbers -/
theorem ev_minL {p : Addr} {ns : List Nat} {m : Nat} (hv : Ev te σ H (.ref p)) (hp : H p = some (.lst (numV ns))) (hm : m ∈ ns) (hl : ∀ y ∈ ns, m ≤ y) : Ev (tCB (rMin K) (tCons te tNil)) σ H (.int (m : Int)) := fun H1 e Q q => hv H1 e _ fun H2 e2 => by
  refine ⟨p, ns.map fun (n : Nat) => (n : Int), rfl, sq_of (by rw [(e.trans e2) _ _ hp]; unfold numV; rw [List.map_map]; rfl), by rw [List.length_map]; exact List.length_pos_of_mem hm, fun k h1 h2 => ?_⟩
  obtain ⟨n, hn, rfl⟩ := List.mem_map.mp h1
  have h3 := h2 (m : Int) (List.mem_map.mpr ⟨m, hm, rfl⟩)
  have h4 := hl n hn
  rw [show ((n : Nat) : Int) = (m : Int) by omega]
  exact q H2 e2
end
/-- the lengths in the sequence of the lot -/
abbrev lns (lot : List Tx) : List Nat := lot.map List.length
theorem lns_a {lot : List Tx} (hL : IsLot lot) : aL lot ∈ lns lot ∧ ∀ y ∈ lns lot, aL lot ≤ y := ⟨(mem_lens hL).mp (a_mem hL), fun y hy => a_le hL ((mem_lens hL).mpr hy)⟩
section
variable {K : PySem.W.Frag}
def sp_step_and_from : Sp := fun vs H Q _ => ∃ (p : Addr) (lot : List Tx), vs = [.ref p] ∧ LotAt p lot H ∧ RetU [.int (gL lot : Int), .int (fromL lot : Int)] H Q
def sp_divisor : Sp := fun vs H Q _ => ∃ (p : Addr) (lot : List Tx), vs = [.ref p] ∧ H p = some (.lst (numV (lns lot))) ∧ IsLot lot ∧ RetV (.int (gL lot : Int)) H Q
end
section
variable {P : Program} {w : World} {K : PySem.W.Frag} {mg : Str → Option Value} {base : Heap}
theorem ok__law_divisor {f : Addr} {fd : FuncData} (F : Fun K "_law_divisor" "_law_divisor" st__law_divisor f fd) (M : Md K mg) : FnOk P w K mg base CX0 1 f fd ["numbers"] sp_divisor := by
  have nd := sc__law_divisor.nd
  refine F.ok sc__law_divisor (fun vs H Q E h => ?_) (fun cdv A outer s H vs Q E hr h => ?_)
  · obtain ⟨_, _, rfl, _⟩ := h
    rfl
  · obtain ⟨p, lot, rfl, hp, hL, k⟩ := h
    refine ⟨_, (pss_cons (ps_for PassesOwn.never rfl (pi_range3 (by rfl) M.n_range (pa_cons (pe_callB (kcr K (r := rMin) (cr_min rfl)) (by rfl) M.n_min boot_min (pa_cons (pv 0) pa_nil)) (pa_cons pe_int (pa_cons (pe_un un_neg pe_int) pa_nil)))) (pg_name (i := 1) nd rfl (Or.inr rfl))
  (pss_one (ps_if (pt_cmpR (kop K (r := rEqD) (op_eqD hr.units)) (pe_lc (own := [("number", 2)]) rfl nd (kil K (pi_list (pv 0))) (blkOk_by (N := N__law_divisor) (sc := defScope st__law_divisor) (by decide +kernel)) (fun _ _ _ _ _ => (pg_name (i := 2) nd rfl (Or.inl rfl))) (fun _ _ _ _ _ => (pts_one (pt_cmpR op_gt (pe_op op_sub (pv 2) (pe_op op_mulB (pv 1) (pe_op op_fdivW (pv 2) (pv 1)))) pe_int (nomark _)))) (fun _ _ _ _ _ => (pv 2))) (pe_lst pa_nil) (nomark _))
  (pss_one (ps_ret (pv 1)))
  pss_nil)))
  (pss_one (ps_ret pe_int))), ?_⟩
    obtain ⟨ha, hmin⟩ := lns_a hL
    have ha12 := a_in hL
    have hall : ∀ d, (∀ l ∈ lns lot, d ∣ l) ↔ d ∣ gL lot := fun d => ⟨fun h => dvd_fold_gcd _ 0 d (Nat.dvd_zero _) fun l hl => h l ((mem_lens hL).mp hl), fun h l hl => Nat.dvd_trans h (g_dvd hL ((mem_lens hL).mpr hl))⟩
    have hfew := hL.few
    refine q_search (n := aL lot) (src_downTo (ea_cons (ev_minL (ev_var rfl) hp ha hmin) (ea_cons ev_c (ea_cons (ev_un ev_c ru_neg) ea_nil))) (by omega)) (by show 1 < 3; decide) (fun i => decide (((lns lot).filter fun l => decide (0 < l % (aL lot - i))) = [])) ?_ ?_ ?_
    · rintro i x H1 e1 hi rfl hno
      refine et_eqNilL (c := (lns lot).filter fun l => decide (0 < l % (aL lot - i))) ?_
      unfold numV
      refine el_lcF (j := 2) (vs := [2]) (f := fun (n : Nat) => V.int (n : Int)) (g := fun (n : Nat) => V.int (n : Int)) (lns lot) (src_listM (ev_var rfl) (sq_of (e1 _ _ hp))) (by rw [List.length_map]; omega) (fun _ => rfl) (fun l H2 e2 hl => ?_) (fun l H2 e2 hl _ => ev_var rfl)
      have hl12 : l ≤ 12 := (lens_in ((mem_lens hL).mpr hl)).2
      have hm : (aL lot : Int) - (i : Int) = ((aL lot - i : Nat) : Int) := by omega
      rw [hm]
      have hdiv : (l : Int) / ((aL lot - i : Nat) : Int) = ((l / (aL lot - i) : Nat) : Int) := (Int.natCast_ediv ..).symm
      refine et_is (et_test (ev_op (ev_op (ev_var rfl) (ev_op (ev_var rfl) (ev_op (ev_var rfl) (ev_var rfl) (rv_I (divW (by omega) (by omega)))) (rv_I (mulB (a := 10) (b := 10) (by rw [Int.natAbs_natCast]; omega) (by rw [hdiv, Int.natAbs_natCast]; have := Nat.div_le_self l (aL lot - i); omega) (by decide) (by decide) (by decide)))) rv_I0) ev_c rv_I0)) ?_
      refine decide_eq_decide.mpr ?_
      rw [hdiv, ← Int.natCast_mul]
      have := Nat.div_add_mod l (aL lot - i)
      omega
    · rintro i x H1 H2 e1 hi rfl e2 hno hyes D' hD
      have hpos : 0 < aL lot - i := by omega
      have h1 : (aL lot - i) ∣ gL lot := (hall _).mp fun l hl => by
        have hn := List.filter_eq_nil_iff.mp (of_decide_eq_true hyes) l hl
        have : l % (aL lot - i) = 0 := by
          have : ¬ 0 < l % (aL lot - i) := fun z => hn (decide_eq_true z)
          omega
        exact Nat.dvd_of_mod_eq_zero this
      have h2 : aL lot - i ≤ gL lot := Nat.le_of_dvd (g_pos hL) h1
      have h3 : gL lot ≤ aL lot - i := by
        have hg := g_le hL
        refine Nat.le_of_not_lt fun z => ?_
        have h4 := hno (aL lot - gL lot) (by omega)
        rw [show aL lot - (aL lot - gL lot) = gL lot by omega] at h4
        refine of_decide_eq_false h4 (List.filter_eq_nil_iff.mpr fun l hl z2 => ?_)
        have h5 := of_decide_eq_true z2
        have h6 := Nat.mod_eq_zero_of_dvd (g_dvd hL ((mem_lens hL).mpr hl))
        omega
      refine s_ret (v := .int (gL lot : Int)) (ev_is (ev_var (v := .int ((aL lot : Int) - (i : Int))) rfl) (by congr 1; omega)) fun H3 e3 => ?_
      rw [hD]
      exact k H3 ((e1.trans e2).trans e3)
    · intro y H1 e1 hno
      exfalso
      have hg := g_le hL
      have hg1 := g_pos hL
      have h4 := hno (aL lot - gL lot) (by omega)
      rw [show aL lot - (aL lot - gL lot) = gL lot by omega] at h4
      refine of_decide_eq_false h4 (List.filter_eq_nil_iff.mpr fun l hl z2 => ?_)
      have h5 := of_decide_eq_true z2
      have h6 := Nat.mod_eq_zero_of_dvd (g_dvd hL ((mem_lens hL).mpr hl))
      omega
end
end K24
set_option Elab.async false
set_option linter.all false
set_option maxRecDepth 100000
set_option maxHeartbeats 4000000
set_option exponentiation.threshold 5000
namespace K24
open PySem PySem.Spec PyProof.Rows L2 Evl Wc Wt Wg Ws Wr _root_.Wd
theorem atI_last {α : Type} {xs : List α} {v : α} (h : xs.getLast? = some v) : atI xs (-1) = some v := by
  have hne : xs ≠ [] := fun z => by rw [z] at h; cases h
  have hpos : 0 < xs.length := List.length_pos_iff.mpr hne
  have e : ixN xs.length (-1) = some (xs.length - 1) := by
    unfold ixN
    rw [if_neg (by decide), if_pos (by omega)]
    congr 1
    omega
  unfold atI
  rw [e]
  rw [List.getLast?_eq_getElem?] at h
  exact h
theorem numV_last {l : List Nat} {m : Nat} (h : l.getLast? = some m) : atI (numV l) (-1) = some (.int (m : Int)) := by
  refine atI_last ?_
  unfold numV
  rw [List.getLast?_map, h]
  rfl
/-- there, after i turns -/
noncomputable def thB (L : List Nat) (most i : Nat) : List V := (List.range (most + 1)).map fun j => V.bl (decide (j ≤ i) && rb L j)
theorem thB_len (L : List Nat) (most i : Nat) : (thB L most i).length = most + 1 := by unfold thB; rw [List.length_map, List.length_range]
theorem thB_at {L : List Nat} {most i j : Nat} (h : j ≤ most) : (thB L most i)[j]? = some (.bl (decide (j ≤ i) && rb L j)) := by
  unfold thB
  rw [List.getElem?_map, List.getElem?_range (by omega)]
  rfl
theorem thB_zero (L : List Nat) (most : Nat) : [V.bl true] ++ List.replicate most (V.bl false) = thB L most 0 := by
  unfold thB
  rw [List.range_succ_eq_map, List.map_cons, List.map_map]
  show V.bl true :: List.replicate most (V.bl false) = V.bl (decide (0 ≤ 0) && rb L 0) :: _
  rw [rb_zero]
  congr 1
  apply List.ext_getElem?
  intro j
  by_cases hj : j < most
  · rw [List.getElem?_replicate, if_pos hj, List.getElem?_map, List.getElem?_range hj]
    show _ = some (V.bl (decide (j + 1 ≤ 0) && rb L (j + 1)))
    rw [decide_eq_false (by omega)]
    rfl
  · rw [List.getElem?_eq_none (by rw [List.length_replicate]; omega), List.getElem?_eq_none (by rw [List.length_map, List.length_range]; omega)]
theorem thB_set {L : List Nat} {most i : Nat} : (thB L most i).set (i + 1) (.bl (rb L (i + 1))) = thB L most (i + 1) := by
  apply List.ext_getElem?
  intro j
  rw [List.getElem?_set, thB_len]
  by_cases hj : j ≤ most
  · rw [thB_at hj, thB_at hj]
    by_cases e : i + 1 = j
    · subst e
      rw [if_pos rfl, if_pos (by omega), decide_eq_true (Nat.le_refl _), Bool.true_and]
    · rw [if_neg e, decide_eq_decide.mpr (show j ≤ i ↔ j ≤ i + 1 by omega)]
  · have h1 : (thB L most i)[j]? = none := List.getElem?_eq_none (by rw [thB_len]; omega)
    have h2 : (thB L most (i + 1))[j]? = none := List.getElem?_eq_none (by rw [thB_len]; omega)
    rw [h1, h2]
    split <;> (try split) <;> first | rfl | omega
theorem fold_snoc {l : List Nat} {i x : Nat} (h : l[i]? = some x) : (l.take (i + 1)).foldl Nat.gcd 0 = Nat.gcd ((l.take i).foldl Nat.gcd 0) x := by
  obtain ⟨hi, rfl⟩ := List.getElem?_eq_some_iff.mp h
  rw [List.take_succ_eq_append_getElem hi, List.foldl_append]
  rfl
/-- x = sorted({.. for word in lot}), of numbers -/
theorem q_sortSetN {α : Type} {w : World} {σ : L2.St} {H : Hp} {te : TE} {D : Ends} {tz : TS} {x : Nat} {wi : TI} {j : Nat} {vs : List Nat} {own : Addr → Prop} {f : α → V} {g : α → Int} (xs : List α) (hs : Src wi σ H xs.length own (fun i v _ => (xs.map f)[i]? = some v)) (hz : xs.length ≤ 60) (hw : ∀ x, wipe ((wipe σ vs).set j (some x)) vs = wipe σ vs)
    (he : ∀ a H1, Ex H H1 → a ∈ xs → Ev te ((wipe σ vs).set j (some (f a))) H1 (.int (g a)))
    (k : ∀ r (zs : List Int) H2, zs.Pairwise (· < ·) → (∀ z, z ∈ zs ↔ z ∈ xs.map g) → H r = none → Ex H H2 → H2 r = some (.lst (zs.map V.int)) → tz D (σ.set x (some (.ref r))) H2) : tSeq (tAsg (tCB (rSortedSet w) (tCons (tSet (nwN w) (adN w) wi (gName j) tYes te vs) tNil)) (gName x)) tz D σ H := by
  have h : tSet (nwN w) (adN w) wi (gName j) tYes te vs σ H (fun v H2 => rSortedSet w [v] H2 fun v H3 => tz D (σ.set x (some v)) H3) :=
    el_setN xs hs (by omega) hw he fun d H2 S c hd e2 hS hc h2 => ⟨d, S, c, rfl, h2, by omega, fun zs r hasc hmem _ hr => k r zs _ hasc (fun z => (hmem z).trans (hS z)) (fresh_back e2 hr) (e2.trans (Ex.new hr)) upd_same⟩
  exact h
section
variable {P : Program} {w : World} {K : PySem.W.Frag} {mg : Str → Option Value} {base : Heap}
theorem ok_step_and_from {f : Addr} {fd : FuncData} (F : Fun K "step_and_from" "step_and_from" st_step_and_from f fd) (M : Md K mg) : FnOk P w K mg base CX0 1 f fd ["lot"] sp_step_and_from := by
  have nd := sc_step_and_from.nd
  refine F.ok sc_step_and_from (fun vs H Q E h => ?_) (fun cdv A outer s H vs Q E hr h => ?_)
  · obtain ⟨_, _, rfl, _⟩ := h
    rfl
  · obtain ⟨p, lot, rfl, hL, k⟩ := h
    refine ⟨_, (pss_cons (ps_set (i := 1) nd rfl (Or.inl rfl) (pe_callB (ksortI (w := w)) (by rfl) M.n_sorted boot_sorted (pa_cons (pe_set (own := [("word", 2)]) (fillN P w) rfl nd (kit K (pi_tup (pv 0))) (blkOk_by (N := N_step_and_from) (sc := defScope st_step_and_from) (by decide +kernel)) (fun _ _ _ _ _ => (pg_name (i := 2) nd rfl (Or.inl rfl))) (fun _ _ _ _ _ => pts_nil) (fun _ _ _ _ _ => (pe_callB cr_lenT (by rfl) M.n_len boot_len (pa_cons (pv 2) pa_nil)))) pa_nil)))
  (pss_cons (ps_set (i := 3) nd rfl (Or.inl rfl) pe_int)
  (pss_cons (ps_for PassesOwn.never rfl (kil K (pi_list (pv 1))) (pg_name (i := 4) nd rfl (Or.inr rfl))
  (pss_one (ps_set (i := 3) nd rfl (Or.inl rfl) (pe_callBfun cr_gcd (by rfl) M.f_gcd (pa_cons (pv 3) (pa_cons (pv 4) pa_nil))))))
  (pss_cons (ps_set (i := 5) nd rfl (Or.inl rfl) (pe_op op_add (pe_op op_mulB (pe_ix (kix K (r := L2.rIxL) ix_list) (pv 1) pe_int (fun _ _ => rfl)) (pe_ix (kix K (r := L2.rIxL) ix_list) (pv 1) (pe_un un_neg pe_int) (fun _ _ => rfl))) (pe_ix (kix K (r := L2.rIxL) ix_list) (pv 1) (pe_un un_neg pe_int) (fun _ _ => rfl))))
  (pss_cons (ps_set (i := 6) nd rfl (Or.inr rfl) (pe_op op_cat (pe_lst (pa_cons pe_bl pa_nil)) (pe_op op_rep (pe_lst (pa_cons pe_bl pa_nil)) (pv 5))))
  (pss_cons (ps_for PassesOwn.never rfl (pi_range2 (by rfl) M.n_range (pa_cons pe_int (pa_cons (pe_op op_add (pv 5) pe_int) pa_nil))) (pg_name (i := 4) nd rfl (Or.inr rfl))
  (pss_one (ps_asg (pe_callB (kcr K (r := rAny) (cr_any rfl)) (by rfl) M.n_any boot_any (pa_cons (pe_lc (own := [("one", 7)]) rfl nd (kil K (pi_list (pv 1))) (blkOk_by (N := N_step_and_from) (sc := defScope st_step_and_from) (by decide +kernel)) (fun _ _ _ _ _ => (pg_name (i := 7) nd rfl (Or.inl rfl))) (fun _ _ _ _ _ => pts_nil) (fun _ _ _ _ _ => (pe_and (pe_cmpR op_ge (pv 4) (pv 7) (nomark _)) (pe_one (pe_ix (kix K (r := L2.rIxL) ix_list) (pv 6) (pe_op op_sub (pv 4) (pv 7)) (fun _ _ => rfl)))))) pa_nil)) (pg_sub (pv 6) (pv 4) set_list))))
  (pss_cons (ps_setLc (i := 8) (own := [("many", 4)]) rfl nd rfl rfl (sw_true rfl rfl rfl (by decide +kernel)) (pi_range3 (by rfl) M.n_range (pa_cons pe_int (pa_cons (pe_op op_add (pv 5) pe_int) (pa_cons (pv 3) pa_nil)))) (blkOk_by (N := N_step_and_from) (sc := defScope st_step_and_from) (by decide +kernel)) (fun _ _ _ _ _ => (pg_name (i := 4) nd rfl (Or.inl rfl))) (fun _ _ _ _ _ => (pts_one (pt_not (pt_val (pe_ix (kix K (r := L2.rIxL) ix_list) (pv 6) (pv 4) (fun _ _ => rfl)))))) (fun _ _ _ _ _ => (pv 4)))
  (pss_one (ps_ret (pe_tup (pa_cons (pv 3) (pa_cons (pe_ifExp (pt_cmpR (kop K (r := rNeD) (op_neD hr.units)) (pv 8) (pe_lst pa_nil) (nomark _)) (pe_op op_add (pe_ix (kix K (r := L2.rIxL) ix_list) (pv 8) (pe_un un_neg pe_int) (fun _ _ => rfl)) (pv 3)) pe_int) pa_nil)))))))))))), ?_⟩
    have ha := a_in hL.2
    have hb := b_in hL.2
    have hg1 := g_pos hL.2
    have hga := g_le hL.2
    have hfew := hL.2.few
    have hab : aL lot * bL lot ≤ 12 * 12 := Nat.mul_le_mul ha.2 hb.2
    refine q_sortSetN (f := T) (g := fun t : Tx => (t.length : Int)) lot (src_tupM (ev_var rfl) (st_of hL.1)) (by omega) (fun _ => rfl) (fun t H1 e1 ht => ev_cb (ea_cons (ev_var rfl) ea_nil) (rc_lenT (by have := (hL.2.wd t ht).1; omega))) fun r zs H2 hasc hmem hrH e2 h2 => ?_
    obtain rfl : zs = (lens lot).map fun (n : Nat) => (n : Int) := asc_same hasc (by
      rw [List.pairwise_map]
      exact (lens_asc lot).imp fun h => by omega) fun x => by
      rw [hmem, List.mem_map, List.mem_map]
      constructor
      · rintro ⟨t, ht, rfl⟩
        exact ⟨t.length, (mem_lens hL.2).mpr (List.mem_map.mpr ⟨t, ht, rfl⟩), rfl⟩
      · rintro ⟨n, hn, rfl⟩
        obtain ⟨t, ht, rfl⟩ := List.mem_map.mp ((mem_lens hL.2).mp hn)
        exact ⟨t, ht, rfl⟩
    have h2 : H2 r = some (.lst (numV (lens lot))) := by
      rw [h2, List.map_map]
      rfl
    have es : (start N_step_and_from [.ref p]).set 1 (some (.ref r)) = [some (.ref p), some (.ref r), none, none, none, none, none, none, none] := rfl
    rw [es]
    refine q_asg ev_c fun H3 e3 => ?_
    have h3 := e3 _ _ h2
    refine q_forLn (a := r) (xs := numV (lens lot)) (ev_var rfl) (sq_of h3) (fun i σ' H' => ∃ v4, σ' = [some (.ref p), some (.ref r), none, some (.int ((((lens lot).take i).foldl Nat.gcd 0 : Nat) : Int)), v4, none, none, none, none] ∧ Ex H3 H') ?_ ?_ ?_ ?_
    · intro H4 e4
      exact ⟨none, rfl, e4⟩
    · rintro i σ' H' hi ⟨v4, rfl, e4⟩
      exact sq_of (e4 _ _ h3)
    · rintro i x σ' H' hx ⟨v4, rfl, e4⟩
      have hi : i < (lens lot).length := by
        have := (List.getElem?_eq_some_iff.mp hx).1
        rw [numV_len] at this
        exact this
      have hx2 : x = .int (((lens lot)[i] : Nat) : Int) := by
        unfold numV at hx
        rw [List.getElem?_map, List.getElem?_eq_getElem hi] at hx
        cases hx
        rfl
      subst hx2
      refine s_asg (ev_cb (ea_cons (ev_var rfl) (ea_cons (ev_var rfl) ea_nil)) rc_gcd) fun H5 e5 => ⟨some (.int (((lens lot)[i] : Nat) : Int)), ?_, e4.trans e5⟩
      rw [fold_snoc (List.getElem?_eq_getElem hi)]
      rfl
    rintro σ' H4 ⟨v4, rfl, e4⟩
    have h4 := e4 _ _ h3
    have e24 := e3.trans e4
    rw [numV_len, List.take_length, show (lens lot).foldl Nat.gcd 0 = gL lot from rfl]
    have hal : atI (numV (lens lot)) 0 = some (.int (aL lot : Int)) := by
      show atI (numV (lens lot)) ((0 : Nat) : Int) = _
      refine atI_nat ?_
      unfold aL
      cases hl : lens lot with
      | nil => exact absurd hl (lens_ne hL.2)
      | cons x xs => rfl
    have hbl : atI (numV (lens lot)) (-1) = some (.int (bL lot : Int)) := by
      refine numV_last ?_
      unfold bL
      rw [List.getLastD_eq_getLast?]
      cases hl : lens lot with
      | nil => exact absurd hl (lens_ne hL.2)
      | cons x xs =>
        rw [List.getLast?_eq_some_getLast (by simp)]
        rfl
    have hneg : ∀ {σ : L2.St} {H : Hp}, Ev (tUn (rU fun i => .int (-i)) (tC (.int 1))) σ H (.int (-1)) := ev_un ev_c ru_neg
    -- most
    refine q_asg (v := .int ((aL lot * bL lot + bL lot : Nat) : Int)) (ev_is (ev_op (ev_op (ev_op (ev_var (i := 1) rfl) ev_c (rv_ixL (sq_of h4) hal)) (ev_op (ev_var (i := 1) rfl) hneg (rv_ixL (sq_of h4) hbl)) (rv_I (mulB (a := 10) (b := 10) (by rw [Int.natAbs_natCast]; omega) (by rw [Int.natAbs_natCast]; omega) (by decide) (by decide) (by decide)))) (ev_op (ev_var (i := 1) rfl) hneg (rv_ixL (sq_of h4) hbl)) rv_I0) (by rw [← Int.natCast_mul]; rfl)) fun H5 e5 => ?_
    generalize hmost : aL lot * bL lot + bL lot = most
    have hm200 : most ≤ 200 := by omega
    -- there
    refine q_asgL (xs := thB (lens lot) most 0) ?_ fun pt H6 hpt e6 h6 => ?_
    · rw [← thB_zero, ← rep_one]
      exact el_catNN (el_lst (ea_cons ev_c ea_nil) (by show 1 ≤ 100000; decide)) (el_rep (el_lst (ea_cons ev_c ea_nil) (by show 1 ≤ 100000; decide)) (ev_var rfl) (by show 1 * most ≤ _; omega) (by omega)) (by rw [rep_one, List.length_replicate]; show 1 + most ≤ _; omega)
    have h26 := (e24.trans (e5.trans e6)) _ _ h2
    have nrt : r ≠ pt := fun z => by
      have := (e24.trans e5) _ _ h2
      rw [z, hpt] at this
      cases this
    have hptH : H pt = none := fresh_back (e2.trans (e24.trans e5)) hpt
    show tSeq _ _ _ [some (.ref p), some (.ref r), none, some (.int (gL lot : Int)), v4, some (.int (most : Int)), some (.ref pt), none, none] H6
    refine q_forW (fun c => c = pt) (src_range2 (lo := 1) (hi := (most : Int) + 1) (n := most) (ea_cons ev_c (ea_cons (ev_op (ev_var rfl) ev_c rv_I0) ea_nil)) (by decide) (by decide) (by omega) (by omega) (by omega)) ?_
      (fun Hs i σ' H' => ∃ (v4 : Option V), σ' = [some (.ref p), some (.ref r), none, some (.int (gL lot : Int)), v4, some (.int (most : Int)), some (.ref pt), none, none] ∧ Exc (fun c => c = pt) Hs H' ∧ Exc (fun c => c = pt) H6 H' ∧ H' pt = some (.lst (thB (lens lot) most i))) ?_ ?_ ?_ ?_ ?_
    · rintro c rfl
      exact ⟨by rw [h6]; exact fun z => (nomatch z), fun z => z⟩
    · intro Hs e
      exact ⟨v4, rfl, Exc.refl _, Exc.of e, e _ _ h6⟩
    · rintro Hs i σ' H' ⟨_, _, h, _⟩
      exact h
    · rintro Hs i σ' Ha Hb ⟨v4, h0, g2, g3, g4⟩ e
      exact ⟨v4, h0, g2.then e, g3.then e, e _ _ g4⟩
    · rintro Hs i x σ' H' e hi ⟨v4, rfl, g2, g3, g4⟩ rfl
      have hr' : H' r = some (.lst (numV (lens lot))) := g3 _ _ nrt h26
      have hany : Ev (tCB (rAny K) (tCons (tLc (iList K (tVar 1)) (gName 7) tYes (tAndV (tOp (rI0 fun i j => .bl (decide (i ≥ j))) (tVar 4) (tVar 7)) (tOp (L2.rIxL K) (tVar 6) (tOp (rI0 fun i j => .int (i - j)) (tVar 4) (tVar 7)))) [7]) tNil)) [some (.ref p), some (.ref r), none, some (.int (gL lot : Int)), some (.int (1 + (i : Int))), some (.int (most : Int)), some (.ref pt), none, none] H' (.bl (rb (lens lot) (i + 1))) := by
        rw [rb_step (fun l hl => (lens_in hl).1) (by omega)]
        refine ev_cbL (el_lcM (wi := iList K (tVar 1)) (j := 7) (vs := [7]) (f := fun (n : Nat) => V.int (n : Int)) (g := fun l => V.bl (decide (l ≤ i + 1) && rb (lens lot) (i + 1 - l))) (lens lot) (src_listM (ev_var rfl) (sq_of hr')) (by have := lens_len lot; omega) (fun _ => rfl) fun l H7 e7 hl => ?_) fun q H7 hq e7 => rc_anyM (sq_of hq)
        have hl1 := (lens_in hl).1
        refine ev_is (ev_andV (a := decide (l ≤ i + 1)) (b := rb (lens lot) (i + 1 - l)) (ev_is (ev_op (ev_var rfl) (ev_var rfl) rv_I0) (by congr 1; exact decide_eq_decide.mpr (by omega))) fun hle => ?_) rfl
        have hle' := of_decide_eq_true hle
        refine ev_op (ev_var rfl) (ev_op (ev_var rfl) (ev_var rfl) rv_I0) (rv_ixL (i := (1 + (i : Int)) - (l : Int)) (sq_of (e7 _ _ g4)) ?_)
        rw [show (1 + (i : Int)) - (l : Int) = ((i + 1 - l : Nat) : Int) by omega]
        refine atI_nat ?_
        rw [thB_at (by omega), decide_eq_true (by omega), Bool.true_and]
      refine s_setL (σ := [some (.ref p), some (.ref r), none, some (.int (gL lot : Int)), some (.int (1 + (i : Int))), some (.int (most : Int)), some (.ref pt), none, none]) (j := i + 1) g4 hany (ev_var rfl) (ev_is (ev_var (v := .int (1 + (i : Int))) rfl) (by congr 1; omega)) (by rw [thB_len]; omega) fun H7 e7 => ⟨_, rfl, (g2.then e7).upd (.inl rfl), (g3.then e7).upd (.inl rfl), ?_⟩
      rw [upd_same, thB_set]
    · rintro Hs σ' H7 e ⟨v4, rfl, g2, g3, g4⟩
      have hE : Ex H H7 := fun b o hb => g3 b o (fun z => by rw [z, hptH] at hb; cases hb) ((e2.trans (e24.trans (e5.trans e6))) _ _ hb)
      have hlc := el_lcF (wi := iRng3 (tCons (tC (.int 0)) (tCons (tOp (rI0 fun i j => .int (i + j)) (tVar 5) (tC (.int 1))) (tCons (tVar 3) tNil)))) (σ := [some (.ref p), some (.ref r), none, some (.int (gL lot : Int)), v4, some (.int (most : Int)), some (.ref pt), none, none]) (H := H7) (j := 4) (vs := [4]) (t := tNot (tB (tOp (L2.rIxL K) (tVar 6) (tVar 4)))) (te := tVar 4) (f := fun (i : Nat) => V.int ((i * gL lot : Nat) : Int)) (g := fun (i : Nat) => V.int ((i * gL lot : Nat) : Int)) (p := fun i => !rb (lens lot) (i * gL lot)) (List.range ((most + 1 - 1) / gL lot + 1)) (src_stepL (ea_cons ev_c (ea_cons (ev_is (ev_op (ev_var rfl) ev_c rv_I0) (by rw [Int.natCast_add]; rfl)) (ea_cons (ev_var rfl) ea_nil))) hg1 (by omega) (by omega) (by omega)) (by rw [List.length_range]; have := Nat.div_le_self (most + 1 - 1) (gL lot); omega) (fun _ => rfl) (fun i H8 e8 hi => ?_) (fun i H8 e8 hi _ => ev_var rfl)
      · have hms : (((List.range ((most + 1 - 1) / gL lot + 1)).filter fun i => !rb (lens lot) (i * gL lot)).map fun (i : Nat) => V.int ((i * gL lot : Nat) : Int)) = numV (missL lot) := by
          unfold missL numV
          rw [hmost, List.map_map]
          rfl
        rw [hms] at hlc
        refine q_asgL hlc fun pm H8 hpm e8 h8 => ?_
        refine s_retU (xs := [.int (gL lot : Int), .int (fromL lot : Int)]) (eu_tup (ea_cons (ev_var rfl) (ea_cons (ev_if (et_neNilN h8 (ev_var rfl)) (fun hb => ?_) fun hb => ?_) ea_nil)) (by show 2 ≤ 100000; decide)) fun q H9 hq e9 h9 => k q H9 (fresh_back (hE.trans e8) hq) ((hE.trans e8).trans e9) h9
        · cases hml : (missL lot).getLast? with
          | none =>
            rw [List.getLast?_eq_none_iff] at hml
            rw [hml] at hb
            cases hb
          | some m =>
            refine ev_is (ev_op (ev_op (ev_var rfl) hneg (rv_ixL (sq_of h8) (numV_last hml))) (ev_var rfl) rv_I0) ?_
            unfold fromL
            rw [hml]
            rfl
        · have hml : missL lot = [] := by simpa using hb
          refine ev_is ev_c ?_
          unfold fromL
          rw [hml]
          rfl
      · have hi' := List.mem_range.mp hi
        have hle : i * gL lot ≤ most := by
          have h1 : i ≤ most / gL lot := by
            have : most + 1 - 1 = most := rfl
            rw [this] at hi'
            omega
          exact Nat.le_trans (Nat.mul_le_mul_right _ h1) (Nat.div_mul_le_self _ _)
        refine et_not (et_B (ev_op (ev_var rfl) (ev_var rfl) (rv_ixL (sq_of (e8 _ _ g4)) (atI_nat ?_))))
        rw [thB_at hle, decide_eq_true hle, Bool.true_and]
theorem ok_all_lengths {f CL : Addr} {fd : FuncData} (F : Fun K "all_lengths" "all_lengths" st_all_lengths f fd) (M : Md K mg) (S_need_lot : CalS P w K mg base "need_lot" st_need_lot 4 ["lot"] (sp_need_lot CL)) (C_step_and_from : Cal P w K mg base "step_and_from" st_step_and_from 1 ["lot"] sp_step_and_from) : FnOk P w K mg base (L2.CX P w) 5 f fd ["lot"] sp_step_and_from := by
  have nd := sc_all_lengths.nd
  refine F.okX sc_all_lengths (fun vs H Q E h => ?_) (fun cdv A outer s H vs Q E hr h => ?_)
  · obtain ⟨_, _, rfl, _⟩ := h
    rfl
  · obtain ⟨p, lot, rfl, hL, k⟩ := h
    refine ⟨_, (pss_cons (ps_expr (pe_clS S_need_lot hr (takes_of rfl rfl rfl rfl) (pa_cons (pv 0) pa_nil)))
  (pss_one (ps_ret (pe_cl C_step_and_from hr (pa_cons (pv 0) pa_nil))))), ?_⟩
    refine ⟨.ref p, rfl, .ref p, some lot, rfl, .tup hL.1, sm_ok hL.2, fun _ H1 e1 => ?_, fun z => by rw [lotB_ok hL.2] at z; cases z⟩
    exact ⟨.ref p, rfl, p, lot, rfl, hL.ex e1, RetU.mono k e1⟩
end
end K24
set_option Elab.async false
set_option linter.all false
set_option maxRecDepth 100000
set_option maxHeartbeats 4000000
set_option exponentiation.threshold 5000
namespace K24
open PySem PySem.Spec PyProof.Rows L2 Evl Wc Wt Wg Ws Wr _root_.Wd
/-- how many multiples lie ahead of i -/
def mul_ (g i : Nat) : Nat := (i + g - 1) / g
theorem mul_yes {g m : Nat} (hg : 1 ≤ g) : mul_ g (m * g) = m ∧ mul_ g (m * g + 1) = m + 1 := by
  unfold mul_
  constructor
  · refine Nat.div_eq_of_lt_le (by omega) ?_
    rw [Nat.succ_mul]
    omega
  · refine Nat.div_eq_of_lt_le ?_ ?_
    · rw [Nat.succ_mul]
      omega
    · rw [Nat.succ_mul, Nat.succ_mul]
      omega
theorem mul_no {g i : Nat} (hg : 1 ≤ g) (h : i % g ≠ 0) : mul_ g (i + 1) = mul_ g i := by
  have h1 := Nat.div_add_mod i g
  have h2 := Nat.mod_lt i hg
  unfold mul_
  have e : ∀ x, (i / g) * g + g ≤ x → x < (i / g) * g + g + g → x / g = i / g + 1 := fun x h3 h4 => Nat.div_eq_of_lt_le (by rw [Nat.succ_mul]; omega) (by rw [Nat.succ_mul, Nat.succ_mul]; omega)
  rw [Nat.mul_comm] at h1
  rw [e (i + 1 + g - 1) (by omega) (by omega), e (i + g - 1) (by omega) (by omega)]
theorem mul_far {g : Nat} (hg : 1 ≤ g) (h : g ≤ 12) : 200 ≤ mul_ g 400 * g := by
  unfold mul_
  have h1 := Nat.div_add_mod (400 + g - 1) g
  have h2 := Nat.mod_lt (400 + g - 1) hg
  rw [Nat.mul_comm] at h1
  omega
/-- what is met among the numbers below i, and 0 -/
def Met_ (L : List Nat) (i : Nat) (ks : List Nat) : Prop := ∀ n, n ∈ ks ↔ (n < i ∨ n = 0) ∧ Rc L n
section
variable {K : PySem.W.Frag}
/-- the state of the turn -/
def StV (p pl pd : Addr) (lot : List Tx) (H3 Hs : Hp) (i : Nat) (σ' : L2.St) (H' : Hp) : Prop := ∃ (ks : List Nat) (row : Nat) (v7 : Option V), σ' = [some (.ref p), some (.ref pl), some (.ref pd), some (.int (row : Int)), none, some (.int (gL lot : Int)), some (.int (aL lot : Int)), v7, none] ∧ Exc (fun c => c = pd) Hs H' ∧ Exc (fun c => c = pd) H3 H' ∧ H' pd = some (.dK (DS ks)) ∧ ks.length ≤ i + 1 ∧ Met_ (lens lot) i ks ∧ Row (lens lot) (gL lot) (mul_ (gL lot) i) row ∧ row * gL lot < aL lot
end
theorem met_yes {lot : List Tx} (hL : IsLot lot) {i : Nat} {ks : List Nat} (hm : Met_ (lens lot) i ks) {l : Nat} (hl : l ∈ lns lot) (hle : l ≤ i) (hk : i - l ∈ ks) : Met_ (lens lot) (i + 1) (addN ks i) := fun n => by
  have hl' := (mem_lens hL).mpr hl
  have hr : Rc (lens lot) i := by
    have := Rc.add ((hm _).mp hk).2 hl'
    rwa [Nat.sub_add_cancel hle] at this
  rw [mem_addN, hm]
  constructor
  · rintro (⟨h1, h2⟩ | rfl)
    · exact ⟨by omega, h2⟩
    · exact ⟨by omega, hr⟩
  · rintro ⟨h1, h2⟩
    by_cases e : n = i
    · exact .inr e
    · exact .inl ⟨by omega, h2⟩
theorem met_no {lot : List Tx} (hL : IsLot lot) {i : Nat} {ks : List Nat} (hm : Met_ (lens lot) i ks) (hno : ∀ l ∈ lns lot, ¬ (l ≤ i ∧ i - l ∈ ks)) : Met_ (lens lot) (i + 1) ks := fun n => by
  rw [hm]
  constructor
  · rintro ⟨h1, h2⟩
    exact ⟨by omega, h2⟩
  · rintro ⟨h1, h2⟩
    refine ⟨?_, h2⟩
    by_cases e : n = i
    · subst e
      rcases h2.last with z | ⟨l, hl, h3, h4⟩
      · exact .inr z
      · exfalso
        have h5 := (lens_in hl).1
        exact hno l ((mem_lens hL).mp hl) ⟨h3, (hm _).mpr ⟨.inl (by omega), h4⟩⟩
    · omega
theorem q_parVV {σ : L2.St} {H : Hp} {ta tb : TE} {D : Ends} {tz : TS} {i j : Nat} {v w : V} (ha : Ev ta σ H v) (hb : Ev tb σ H w) (k : ∀ H1, Ex H H1 → tz D ((σ.set i (some v)).set j (some w)) H1) : tSeq (tPar i j (tCons ta (tCons tb tNil))) tz D σ H := ha H (Ex.refl _) _ fun H1 e1 => hb H1 e1 _ fun H2 e2 => ⟨v, w, rfl, k H2 (e1.trans e2)⟩
theorem q_asgT3 {K : PySem.W.Frag} {σ : L2.St} {H : Hp} {ta tb tc : TE} {D : Ends} {tz : TS} {i j l : Nat} {xs : List V} (hl : EvL ta σ H xs) (k : ∀ pl H1, H pl = none → Ex H H1 → H1 pl = some (.lst xs) → tb σ H1 fun v2 H2 => tc σ H2 fun v3 H3 => [V.ref pl, v2, v3].length ≤ sizeLine ∧ ∀ pt, H3 pt = none → gTup K 3 (gCons (gName i) (gCons (gName j) (gCons (gName l) gNil))) (.ref pt) σ (upd H3 pt (.tup [.ref pl, v2, v3])) (tz D)) : tSeq (tAsg (tTup (tCons ta (tCons tb (tCons tc tNil)))) (gTup K 3 (gCons (gName i) (gCons (gName j) (gCons (gName l) gNil))))) tz D σ H := hl H (Ex.refl _) _ k
section
variable {P : Program} {w : World} {K : PySem.W.Frag} {mg : Str → Option Value} {base : Heap}
theorem ok__law_step {f : Addr} {fd : FuncData} (F : Fun K "_law_step" "_law_step" st__law_step f fd) (M : Md K mg) (C__law_divisor : Cal P w K mg base "_law_divisor" st__law_divisor 1 ["numbers"] sp_divisor) : FnOk P w K mg base CX0 2 f fd ["lot"] sp_step_and_from := by
  have nd := sc__law_step.nd
  refine F.ok sc__law_step (fun vs H Q E h => ?_) (fun cdv A outer s H vs Q E hr h => ?_)
  · obtain ⟨_, _, rfl, _⟩ := h
    rfl
  · obtain ⟨p, lot, rfl, hL, k⟩ := h
    refine ⟨_, (pss_cons (ps_asg (pe_tup (pa_cons (pe_lc (own := [("word", 4)]) rfl nd (kit K (pi_tup (pv 0))) (blkOk_by (N := N__law_step) (sc := defScope st__law_step) (by decide +kernel)) (fun _ _ _ _ _ => (pg_name (i := 4) nd rfl (Or.inl rfl))) (fun _ _ _ _ _ => pts_nil) (fun _ _ _ _ _ => (pe_callB cr_lenT (by rfl) M.n_len boot_len (pa_cons (pv 4) pa_nil)))) (pa_cons (pe_disp (pps_cons pe_int pe_bl pps_nil) (by rfl) (by rfl) (fun z => nomatch z) (by decide)) (pa_cons pe_int pa_nil)))) (kgt K (n := 3) (pg_tup rfl (pgs_cons (pg_name (i := 1) nd rfl (Or.inl rfl)) (pgs_cons (pg_name (i := 2) nd rfl (Or.inr rfl)) (pgs_cons (pg_name (i := 3) nd rfl (Or.inl rfl)) pgs_nil))))))
  (pss_cons (ps_par (i := 5) (j := 6) rfl nd rfl rfl (by decide) rfl rfl (pa_cons (pe_cl C__law_divisor hr (pa_cons (pv 1) pa_nil)) (pa_cons (pe_callB (kcr K (r := rMin) (cr_min rfl)) (by rfl) M.n_min boot_min (pa_cons (pv 1) pa_nil)) pa_nil)) (by rfl))
  (pss_cons (ps_for PassesOwn.never rfl (pi_range2 (by rfl) M.n_range (pa_cons pe_int (pa_cons pe_int pa_nil))) (pg_name (i := 7) nd rfl (Or.inr rfl))
  (pss_cut (ps_if (pt_cmpR (kop K (r := rNeD) (op_neD hr.units)) (pe_lc (own := [("length", 8)]) rfl nd (kil K (pi_list (pv 1))) (blkOk_by (N := N__law_step) (sc := defScope st__law_step) (by decide +kernel)) (fun _ _ _ _ _ => (pg_name (i := 8) nd rfl (Or.inl rfl))) (fun _ _ _ _ _ => (pts_one (pt_cmp (pc_din (hu1 hr.units) (pe_op op_sub (pv 7) (pv 8)) (pv 2))))) (fun _ _ _ _ _ => (pv 8))) (pe_lst pa_nil) (nomark _))
  (pss_one (ps_dput (hu1 hr.units) (pv 2) (pv 7) pe_bl (by rfl)))
  pss_nil)
  (pss_one (ps_if (pt_cmpR op_eqI (pe_op op_sub (pv 7) (pe_op op_mulB (pv 5) (pe_op op_fdivW (pv 7) (pv 5)))) pe_int (nomark _))
  (pss_cons (ps_set (i := 3) nd rfl (Or.inl rfl) (pe_ifExp (pt_cmp (pc_din (hu1 hr.units) (pv 7) (pv 2))) (pe_op op_add (pv 3) pe_int) pe_int))
  (pss_one (ps_if (pt_cmpR op_ge (pe_op op_mulB (pv 3) (pv 5)) (pv 6) (nomark _))
  (pss_one (ps_ret (pe_tup (pa_cons (pv 5) (pa_cons (pe_op op_sub (pv 7) (pe_op op_mulB (pe_op op_sub (pv 3) pe_int) (pv 5))) pa_nil)))))
  pss_nil)))
  pss_nil))))
  (pss_one (ps_ret (pe_tup (pa_cons (pv 5) (pa_cons pe_non pa_nil)))))))), ?_⟩
    have ha := a_in hL.2
    have hg1 := g_pos hL.2
    have hga := g_le hL.2
    have hfew := hL.2.few
    have hlenL : (lns lot).length = lot.length := List.length_map _
    have hl0 : EvL (tLc (iTup K (tVar 0)) (gName 4) tYes (tCB rLenT (tCons (tVar 4) tNil)) [4]) (start N__law_step [.ref p]) H (numV (lns lot)) := by
      have := el_lcM (wi := iTup K (tVar 0)) (σ := start N__law_step [.ref p]) (H := H) (j := 4) (vs := [4]) (te := tCB rLenT (tCons (tVar 4) tNil)) (f := T) (g := fun t : Tx => V.int ((t.length : Nat) : Int)) lot (src_tupM (ev_var rfl) (st_of hL.1)) (by omega) (fun _ => rfl) (fun t H1 e1 ht => ev_cb (ea_cons (ev_var rfl) ea_nil) (rc_lenT (by have := (hL.2.wd t ht).1; omega)))
      unfold numV lns
      rw [List.map_map]
      exact this
    refine q_asgT3 hl0 fun pl H1 hpl e1 h1 => fun pd hpd => ⟨upd_same, [(Sum.inl 0, .bl true)], rfl, by decide, by show 3 ≤ sizeLine; decide, fun pt hpt => ⟨pt, _, rfl, st_of upd_same, rfl, _, _, rfl, _, _, rfl, _, [], rfl, rfl, ?_⟩⟩
    have npl : pl ≠ pd := fun z => by rw [← z, h1] at hpd; cases hpd
    have npt : pd ≠ pt := fun z => by rw [← z, upd_same] at hpt; cases hpt
    have e2 : Ex H1 (upd (upd (upd H1 pd (.dK [])) pd (.dK (mergeK [] [(Sum.inl 0, .bl true)]))) pt (.tup [.ref pl, .ref pd, .int 0])) := by
      intro b o hb
      have n1 : b ≠ pd := fun z => by rw [z, hpd] at hb; cases hb
      have n2 : b ≠ pt := fun z => by
        rw [← z, upd_ne n1, upd_ne n1, hb] at hpt
        cases hpt
      rw [upd_ne n2, upd_ne n1, upd_ne n1, hb]
    have h2 : (upd (upd (upd H1 pd (.dK [])) pd (.dK (mergeK [] [(Sum.inl 0, .bl true)]))) pt (.tup [.ref pl, .ref pd, .int 0])) pd = some (.dK (DS [0])) := by
      rw [upd_ne npt, upd_same]
      rfl
    have hpdH := fresh_back e1 hpd
    generalize upd (upd (upd H1 pd (.dK [])) pd (.dK (mergeK [] [(Sum.inl 0, .bl true)]))) pt (.tup [.ref pl, .ref pd, .int 0]) = H2 at e2 h2 ⊢
    have es : (((start N__law_step [.ref p]).set 1 (some (.ref pl))).set 2 (some (.ref pd))).set 3 (some (.int 0)) = [some (.ref p), some (.ref pl), some (.ref pd), some (.int 0), none, none, none, none, none] := rfl
    rw [es]
    have h12 := e2 _ _ h1
    obtain ⟨hmin1, hmin2⟩ := lns_a hL.2
    refine q_parVV (ev_call (ea_cons (ev_var rfl) ea_nil) fun H3 e3 Q3 q3 E => ⟨pl, lot, rfl, e3 _ _ h12, hL.2, q3⟩) (ev_minL (ev_var rfl) h12 hmin1 hmin2) fun H3 e3 => ?_
    have h13 := e3 _ _ h12
    have h23 := e3 _ _ h2
    have e13 := (e1.trans e2).trans e3
    show tSeq _ _ _ [some (.ref p), some (.ref pl), some (.ref pd), some (.int 0), none, some (.int (gL lot : Int)), some (.int (aL lot : Int)), none, none] H3
    refine q_forW (fun c => c = pd) (src_range2 (lo := 0) (hi := 400) (n := 400) (ea_cons ev_c (ea_cons ev_c ea_nil)) (by decide) (by decide) (by decide) (by decide) (by decide)) ?_ (StV p pl pd lot H3) ?_ ?_ ?_ ?_ ?_
    · rintro c rfl
      exact ⟨by rw [h23]; exact fun z => (nomatch z), fun z => z⟩
    · intro Hs e
      refine ⟨[0], 0, none, rfl, Exc.refl _, Exc.of e, e _ _ h23, Nat.le_refl _, fun n => ?_, ?_, by omega⟩
      · constructor
        · intro hn
          rw [List.mem_singleton] at hn
          subst hn
          exact ⟨.inr rfl, .zero⟩
        · rintro ⟨h1, h2⟩
          rw [List.mem_singleton]
          omega
      · have := (mul_yes (m := 0) hg1).1
        rw [Nat.zero_mul] at this
        rw [this]
        exact Row.zero _ _
    · rintro Hs i σ' H' ⟨_, _, _, _, h, _⟩
      exact h
    · rintro Hs i σ' Ha Hb ⟨ks, row, v7, g0, g2, g3, g4, g5⟩ e
      exact ⟨ks, row, v7, g0, g2.then e, g3.then e, e _ _ g4, g5⟩
    · rintro Hs i x σ' H' e hi ⟨ks, row, v7, rfl, g2, g3, g4, g5, g6, g7, g8⟩ rfl
      have hl' : H' pl = some (.lst (numV (lns lot))) := g3 _ _ npl h13
      have hix : (0 : Int) + (i : Int) = (i : Int) := Int.zero_add _
      rw [hix]
      show tCut _ _ _ [some (.ref p), some (.ref pl), some (.ref pd), some (.int (row : Int)), none, some (.int (gL lot : Int)), some (.int (aL lot : Int)), some (.int (i : Int)), none] H'
      refine q_cut (M := fun σ2 H2 => ∃ ks', σ2 = [some (.ref p), some (.ref pl), some (.ref pd), some (.int (row : Int)), none, some (.int (gL lot : Int)), some (.int (aL lot : Int)), some (.int (i : Int)), none] ∧ Exc (fun c => c = pd) Hs H2 ∧ Exc (fun c => c = pd) H3 H2 ∧ H2 pd = some (.dK (DS ks')) ∧ ks'.length ≤ i + 2 ∧ Met_ (lens lot) (i + 1) ks') ?_ ?_
      · have hlc : EvL (tLc (iList K (tVar 1)) (gName 8) (tTest (tDIn (tOp (rI0 fun i j => .int (i - j)) (tVar 7) (tVar 8)) (tVar 2))) (tVar 8) [8]) [some (.ref p), some (.ref pl), some (.ref pd), some (.int (row : Int)), none, some (.int (gL lot : Int)), some (.int (aL lot : Int)), some (.int (i : Int)), none] H' (numV ((lns lot).filter fun l => decide (l ≤ i ∧ i - l ∈ ks))) := by
          unfold numV
          refine el_lcF (j := 8) (vs := [8]) (f := fun (n : Nat) => V.int (n : Int)) (g := fun (n : Nat) => V.int (n : Int)) (lns lot) (src_listM (ev_var rfl) (sq_of hl')) (by omega) (fun _ => rfl) (fun l H4 e4 hl => ?_) (fun l H4 e4 hl _ => ev_var rfl)
          refine et_is (et_test (ev_inDI (z := (i : Int) - (l : Int)) (ev_op (ev_var rfl) (ev_var rfl) rv_I0) (ev_var rfl) (e4 _ _ g4))) (decide_eq_decide.mpr ?_)
          constructor
          · rintro ⟨h1, h2⟩
            refine ⟨by omega, ?_⟩
            rw [show ((i : Int) - (l : Int)).toNat = i - l by omega] at h2
            exact h2
          · rintro ⟨h1, h2⟩
            refine ⟨by omega, ?_⟩
            rw [show ((i : Int) - (l : Int)).toNat = i - l by omega]
            exact h2
        refine s_when (et_neNilL hlc) (fun hb H4 e4 => ?_) (fun hb H4 e4 => ?_)
        · have hne : ((lns lot).filter fun l => decide (l ≤ i ∧ i - l ∈ ks)) ≠ [] := by simpa using hb
          obtain ⟨l, hl⟩ := List.exists_mem_of_ne_nil _ hne
          rw [List.mem_filter, decide_eq_true_eq] at hl
          refine s_putD (n := i) (ev_var rfl) (ev_var rfl) (e4 _ _ g4) (by omega) fun H5 e5 => ⟨addN ks i, rfl, ((g2.then e4).then e5).upd (.inl rfl), ((g3.then e4).then e5).upd (.inl rfl), upd_same, ?_, met_yes hL.2 g6 hl.1 hl.2.1 hl.2.2⟩
          have := addN_len ks i
          omega
        · have hnil : ((lns lot).filter fun l => decide (l ≤ i ∧ i - l ∈ ks)) = [] := by simpa using hb
          exact ⟨ks, rfl, g2.then e4, g3.then e4, e4 _ _ g4, by omega, met_no hL.2 g6 fun l hl z => List.filter_eq_nil_iff.mp hnil l hl (decide_eq_true z)⟩
      · rintro σ2 H4 ⟨ks', rfl, f2, f3, f4, f5, f6⟩
        have hdiv : (i : Int) / (gL lot : Int) = ((i / gL lot : Nat) : Int) := (Int.natCast_ediv ..).symm
        have hdm := Nat.div_add_mod i (gL lot)
        have hdl := Nat.div_le_self i (gL lot)
        refine s_when (b := decide (i % gL lot = 0)) (et_is (et_test (ev_op (ev_op (ev_var rfl) (ev_op (ev_var rfl) (ev_op (ev_var rfl) (ev_var rfl) (rv_I (divW (by omega) (by omega)))) (rv_I (mulB (a := 10) (b := 10) (by rw [Int.natAbs_natCast]; omega) (by rw [hdiv, Int.natAbs_natCast]; omega) (by decide) (by decide) (by decide)))) rv_I0) ev_c rv_I0)) (decide_eq_decide.mpr (by rw [hdiv, ← Int.natCast_mul]; omega))) (fun hb H5 e5 => ?_) (fun hb H5 e5 => ?_)
        · have hmod := of_decide_eq_true hb
          obtain ⟨m, hm⟩ : ∃ m, i = m * gL lot := ⟨i / gL lot, by rw [Nat.mul_comm]; omega⟩
          have hrm : mul_ (gL lot) i = m ∧ mul_ (gL lot) (i + 1) = m + 1 := by rw [hm]; exact mul_yes hg1
          rw [hrm.1] at g7
          -- the new row
          have hrow : ∃ row', Row (lens lot) (gL lot) (m + 1) row' ∧ row' ≤ row + 1 ∧ ∀ H6, Ex H5 H6 → Ev (tIf (tTest (tDIn (tVar 7) (tVar 2))) (tOp (rI0 fun i j => .int (i + j)) (tVar 3) (tC (.int 1))) (tC (.int 0))) [some (.ref p), some (.ref pl), some (.ref pd), some (.int (row : Int)), none, some (.int (gL lot : Int)), some (.int (aL lot : Int)), some (.int (i : Int)), none] H6 (.int (row' : Int)) := by
            by_cases hin : i ∈ ks'
            · have hr : Rc (lens lot) (m * gL lot) := by rw [← hm]; exact ((f6 i).mp hin).2
              exact ⟨row + 1, g7.yes hr, Nat.le_refl _, fun H6 e6 => ev_if (et_test (ev_inD (ev_var rfl) (ev_var rfl) ((e5.trans e6) _ _ f4))) (fun _ => ev_is (ev_op (ev_var rfl) ev_c rv_I0) (by rw [Int.natCast_add]; rfl)) fun z => absurd hin (of_decide_eq_false z)⟩
            · have hr : ¬ Rc (lens lot) (m * gL lot) := fun z => hin ((f6 i).mpr ⟨.inl (by omega), by rw [hm]; exact z⟩)
              exact ⟨0, Row.nope (row := row) hr, by omega, fun H6 e6 => ev_if (et_test (ev_inD (ev_var rfl) (ev_var rfl) ((e5.trans e6) _ _ f4))) (fun z => absurd (of_decide_eq_true z) hin) fun _ => ev_c⟩
          obtain ⟨row', hR, hle, hev⟩ := hrow
          have hrl : row ≤ row * gL lot := Nat.le_mul_of_pos_right _ hg1
          have hr12 : row' ≤ 12 := by omega
          have hmulI : ∀ {x : Nat}, x ≤ 12 → CMulB (x : Int) (gL lot : Int) := fun hx => mulB (a := 10) (b := 10) (by rw [Int.natAbs_natCast]; omega) (by rw [Int.natAbs_natCast]; omega) (by decide) (by decide) (by decide)
          refine q_asg (hev H5 (Ex.refl _)) fun H6 e6 => ?_
          show tIfS _ _ _ _ [some (.ref p), some (.ref pl), some (.ref pd), some (.int (row' : Int)), none, some (.int (gL lot : Int)), some (.int (aL lot : Int)), some (.int (i : Int)), none] H6
          refine s_when (b := decide (aL lot ≤ row' * gL lot)) (et_is (et_test (ev_op (ev_op (ev_var rfl) (ev_var rfl) (rv_I (hmulI hr12))) (ev_var rfl) rv_I0)) (decide_eq_decide.mpr (by rw [← Int.natCast_mul]; omega))) (fun hb2 H7 e7 => ?_) (fun hb2 H7 e7 => ?_)
          · have hge := of_decide_eq_true hb2
            have hpos : 1 ≤ row' := Nat.pos_of_ne_zero fun z => by rw [z, Nat.zero_mul] at hge; omega
            have hfr := row_from hL.2 hR hge
            have hE : Ex H H7 := fun b o hb => (((Ex.refl _).trans e5).trans (e6.trans e7)) _ _ (f3 b o (fun z => by rw [z, hpdH] at hb; cases hb) (e13 _ _ hb))
            refine s_retU (xs := [.int (gL lot : Int), .int (fromL lot : Int)]) (eu_tup (ea_cons (ev_var rfl) (ea_cons (ev_is (ev_op (ev_var rfl) (ev_op (ev_op (ev_var rfl) ev_c rv_I0) (ev_var rfl) (rv_I (?_ : CMulB ((row' : Int) - 1) (gL lot : Int)))) rv_I0) ?_) ea_nil)) (by show 2 ≤ 100000; decide)) fun q H8 hq e8 h8 => k q H8 (fresh_back hE hq) (hE.trans e8) h8
            · rw [show (row' : Int) - 1 = ((row' - 1 : Nat) : Int) by omega]
              exact hmulI (by omega)
            · rw [hfr]
              congr 1
              rw [show (row' : Int) - 1 = ((row' - 1 : Nat) : Int) by omega, ← Int.natCast_mul, hm]
              have h5 : (m + 1 - row') * gL lot + (row' - 1) * gL lot = m * gL lot := by
                rw [← Nat.add_mul]
                congr 1
                have := hR.le
                omega
              omega
          · have hlt := of_decide_eq_false hb2
            have e57 := (e5.trans e6).trans e7
            refine ⟨ks', row', _, rfl, f2.then e57, f3.then e57, e57 _ _ f4, f5, f6, ?_, by omega⟩
            rw [hrm.2]
            exact hR
        · have hmod := of_decide_eq_false hb
          refine ⟨ks', row, _, rfl, f2.then e5, f3.then e5, e5 _ _ f4, f5, f6, ?_, g8⟩
          rw [mul_no hg1 hmod]
          exact g7
    · rintro Hs σ' H' e ⟨ks, row, v7, rfl, g2, g3, g4, g5, g6, g7, g8⟩
      exfalso
      have := row_found hL.2 g7 (mul_far hg1 (by omega))
      omega
end
end K24
set_option Elab.async false
set_option linter.all false
set_option maxRecDepth 100000
set_option maxHeartbeats 4000000
/-! t[::-1] of a tuple -/
namespace HT
open PySem PySem.Spec PyProof.Rows
section
variable {prog : Program} {w : World} {A : Around} {E : Value → Shared → Prop} {s : Shared}
theorem adjust_rev (n : Nat) (hn : 1 ≤ n) : Builtin.Slice.sliceAdjust none none (-1) (n : Int) = ((n : Int) - 1, -1) := by
  unfold Builtin.Slice.sliceAdjust
  simp
theorem places_rev (n : Nat) (hn : 1 ≤ n) : Builtin.Slice.slicePlaces ((n : Int) - 1) (-1) (-1) = n := by
  unfold Builtin.Slice.slicePlaces
  have h1 : ¬ ((-1 : Int) > 0) := by decide
  simp only [h1, if_false]
  rw [if_pos (by omega), show (- -1 : Int) = 1 by decide, Int.ediv_one]
  omega
theorem sliceApplied_rev {sl : Addr} {u : Tok} {n : Nat} {Q : Int × Int × Nat → Shared → Prop} (hn : 1 ≤ n) (hs : s.heap.IsSliceOf sl .none .none (.int (-1) u))
    (h : Q ((n : Int) - 1, -1, n) s) : wpAny (model prog w) A (Builtin.Slice.sliceApplied (.ref sl) (pure (n : Int))) Q E s := by
  obtain ⟨os, hos, hcs, hds⟩ := id hs
  unfold Builtin.Slice.sliceApplied Builtin.Slice.sliceFields
  refine wpAny_bind (wpAny_bind (wpAny_field hos hds (x := .none) rfl (wpAny_bind (wpAny_field hos hds (x := .none) rfl (wpAny_bind (wpAny_field hos hds (x := .int (-1) u) rfl (wpAny_pure ?_)))))))
  refine wpAny_bind (slicePart_int ?_)
  show wpAny _ _ (if ((-1 : Int) == 0) = true then _ else _) _ _ s
  rw [if_neg (by decide)]
  refine wpAny_bind (slicePart_none (wpAny_bind (slicePart_none (wpAny_bind (wpAny_pure ?_)))))
  show wpAny _ _ (match Builtin.Slice.sliceAdjust none none (-1) (n : Int) with | (lo, hi) => pure (lo, (-1 : Int), Builtin.Slice.slicePlaces lo hi (-1))) _ _ s
  rw [adjust_rev n hn]
  show wpAny _ _ (pure ((n : Int) - 1, (-1 : Int), Builtin.Slice.slicePlaces ((n : Int) - 1) (-1) (-1))) _ _ s
  rw [places_rev n hn]
  exact wpAny_pure h
theorem fmap_congr {α β : Type} {f g : α → Option β} : ∀ {l : List α}, (∀ a ∈ l, f a = g a) → l.filterMap f = l.filterMap g
  | [], _ => rfl
  | a :: l, h => by
    rw [List.filterMap_cons, List.filterMap_cons, h a List.mem_cons_self, fmap_congr fun b hb => h b (List.mem_cons_of_mem _ hb)]
theorem pick_rev (xs : Array Value) : ((List.range xs.size).filterMap fun (m : Nat) => xs[(((xs.size : Int) - 1) + (m : Int) * -1).toNat]?).toArray = xs.toList.reverse.toArray := by
  congr 1
  rw [← PySem.W.krv_all xs, ← List.filterMap_reverse, ← PySem.W.krv_range, List.filterMap_map]
  refine fmap_congr fun m hm => ?_
  show xs[_]? = xs[xs.size - 1 - m]?
  congr 1
  omega
theorem getItem_tuple_rev {t sl : Addr} {items : Array Value} {u : Tok} {Q : Value → Shared → Prop} (ht : IsTup s.heap t items) (hs : s.heap.IsSliceOf sl .none .none (.int (-1) u)) (hn : 1 ≤ items.size)
    (h : Q (.ref s.heap.objs.size) { s with heap := s.heap.push { cls := .type "tuple", data := .seq items.toList.reverse.toArray } })
    (hsz : items.size ≤ sizeLine) : wpAny (model prog w) A (getItem (.ref t) (.ref sl)) Q E s := by
  have htake : sizeOk (.seq items.toList.reverse.toArray) := by
    show items.toList.reverse.toArray.size ≤ sizeLine
    rw [List.size_toArray, List.length_reverse, Array.length_toList]
    omega
  obtain ⟨os, hos, hcs, hds⟩ := id hs
  have hTs : s.TypeIs (.ref sl) "slice" := ⟨os, hos, hcs⟩
  unfold getItem
  try with_reducible refine wpAny_holding ?_
  first | refine wpAny_bind (wpAny_pure ?_) | skip
  refine wpAny_bind (wpAny_sequenceKey ht.typeIs (by decide) ?_)
  refine wpAny_bind (wpAny_callSpecial?_slot (name := Str.ofString "__getitem__") ht.typeIs PyProof.Rows.slot_tuple_getitem
    (wpAny_call_entry PyProof.Rows.slot_tuple_getitem ht.typeIs entry_tuple_getitem ?_ (args_tuple_getitem _ _)))
  show wpAny _ _ (Builtin.Tuple.tupleItemsOf (.ref t) >>= _) _ _ s
  refine wpAny_bind (tupleItemsOf_ ht ?_)
  refine wpAny_bind (wpAny_typeOf hTs ?_)
  rw [if_pos (by decide)]
  refine wpAny_bind (sliceApplied_rev hn hs ?_)
  have hno : ¬ ((((items.size : Int) - 1) == 0 && (-1 : Int) == 1 && items.size == items.size) = true) := by
    intro q
    rw [Bool.and_eq_true, Bool.and_eq_true] at q
    exact absurd q.1.2 (by decide)
  show wpAny _ _ (if (((items.size : Int) - 1) == 0 && (-1 : Int) == 1 && items.size == items.size) = true then _ else _) _ _ s
  rw [if_neg hno, pick_rev]
  first
    | exact wpAny_bind (m := Builtin.Tuple.tupleExact _) (wpAny_newObj_type (wpAny_pure ⟨_, rfl, wpAny_pure h⟩) htake)
    | exact wpAny_bind (m := Builtin.Tuple.tupleExact _) (wpAny_newObj_type (wpAny_bind (wpAny_pure (wpAny_pure ⟨_, rfl, wpAny_pure h⟩))) htake)
    | exact wpAny_bind (wpAny_bind (m := Builtin.Tuple.tupleExact _) (wpAny_newObj_type (wpAny_pure (wpAny_pure ⟨_, rfl, wpAny_pure h⟩)) htake))
    | exact wpAny_bind (wpAny_bind (m := Builtin.Tuple.tupleExact _) (wpAny_newObj_type (wpAny_pure ⟨_, rfl, wpAny_pure h⟩) htake))
end
end HT
namespace Ws
open PySem PySem.Spec PyProof.Rows L2 Evl Wc Wt Wg Wd
def tRevU (K : PySem.W.Frag) (te : TE) : TE := fun σ H Q => te σ H fun x H1 => ∃ a xs, x = .ref a ∧ SqT K H1 a xs ∧ xs ≠ [] ∧ ∀ p, H1 p = none → Q (.ref p) (upd H1 p (.tup xs.reverse))
theorem pe_revU {X : Cx} {K : PySem.W.Frag} {e : Expr} {te : TE} {k : Nat} {p1 p2 p3 pos : Pos} (he : PE X e te) (hK : X.K = K := by rfl) : PE X (.Subscript e (.Slice none none (some (.UnaryOp .USub (.Constant (.int 1) k p1) p2)) p3) pos) (tRevU K te) := by
  subst hK
  refine ⟨fun pins s σ H Q I h => ?_⟩
  refine Subscript_ (thn (he.run pins s σ H _ I h) fun v s1 ⟨x, H1, I1, r1, q1⟩ => ?_)
  obtain ⟨a, xs, ex, hx, hne, q⟩ := q1
  subst ex
  cases r1
  have hst : PO X (some (.UnaryOp .USub (.Constant (.int 1) k p1) p2)) (tPart (tUn (rU fun i => .int (-i)) (tC (.int 1)))) := po_some (pe_un un_neg pe_int)
  refine wpAny_Slice (thn (po_none.run pins s1 σ H1 (fun o H2 => o = none ∧ H2 = H1) I1 ⟨rfl, rfl⟩) fun vl s2 ⟨l, H2, I2, pl, el, e2⟩ => ?_)
  subst el e2
  refine thn (po_none.run pins s2 σ H2 (fun o H3 => o = none ∧ H3 = H2) I2 ⟨rfl, rfl⟩) fun vu s3 ⟨u, H3, I3, pu, eu, e3⟩ => ?_
  subst eu e3
  refine thn (hst.run pins s3 σ H3 (fun o H4 => o = some (-1) ∧ H4 = H3) I3 ⟨1, rfl, -1, rfl, rfl, rfl⟩) fun vs s4 ⟨o, H4, I4, ps, eo, e4⟩ => ?_
  subst eo e4
  cases pl
  cases pu
  cases ps with
  | int i tk =>
  have I5 : Inv X pins σ H4 { s4 with heap := s4.heap.push { cls := .type "slice", data := .fields #[.none, .none, .int (-1) tk] } } := I4.kept (t' := s4.toks) fun b ob q => Heap.get?_push_of_some _ q
  obtain ⟨its, r, ht, hz⟩ := I5.tuple hx
  have hlen := r.length
  show wpAny (model X.prog X.w) X.A (subscriptTail e (.Slice none none (some (.UnaryOp .USub (.Constant (.int 1) k p1) p2)) p3) (.ref a) (.ref s4.heap.objs.size)) (EP X pins σ Q) X.xe { s4 with heap := s4.heap.push { cls := .type "slice", data := .fields #[.none, .none, .int (-1) tk] } }
  refine tail_any (ops := [.ref a, .ref s4.heap.objs.size]) ht.typeIs (PyProof.Rows.slot_tuple_getitem.lookup) ?_ (by with_unfolding_all rfl)
  refine HT.getItem_tuple_rev ht (Heap.IsSliceOf.new _ .none .none (.int (-1) tk)) (by rw [List.size_toArray, ← hlen]; exact List.length_pos_iff.mpr hne) ?_ (by rw [List.size_toArray]; omega)
  refine ⟨.ref _, _, I5.laid (t' := s4.toks) (o := .tup xs.reverse) (fun b ob q => Heap.get?_push_of_some _ q) (Nat.le_refl _) ?_, rfl, q _ (I5.hok.fresh (Nat.le_refl _))⟩
  exact ⟨by rw [List.length_reverse]; exact hz, _, r.reverse, IsTup.new _ _⟩
section
variable {K : PySem.W.Frag} {σ : L2.St} {H : Hp} {te tb : TE}
theorem eu_revU {p : Addr} {xs : List V} (h : Ev te σ H (.ref p)) (hp : H p = some (.tup xs)) (hne : xs ≠ []) : EvU (tRevU K te) σ H xs.reverse := fun H1 e Q q => h H1 e _ fun H2 e2 => ⟨p, xs, rfl, st_of ((e.trans e2) _ _ hp), hne, fun r hr => q r _ (fresh_back e2 hr) (e2.trans (Ex.new hr)) upd_same⟩
/-- t * 2 of a new tuple -/
theorem eu_mul {xs : List V} {n : Nat} (h : EvU te σ H xs) (hn : Ev tb σ H (.int (n : Int))) (hne : xs ≠ []) (h2 : 2 ≤ n) (h3 : n ≤ 1000) (hl : xs.length ≤ 1000) : EvU (tOp (rRepT K) te tb) σ H (List.replicate n xs).flatten := fun H1 e Q q => h H1 e _ fun p H2 hp e2 hp2 => hn H2 (e.trans e2) _ fun H3 e3 => ⟨p, (n : Int), xs, rfl, rfl, st_of (e3 _ _ hp2), hne, by omega, by omega, hl, fun r hr => by
  rw [Int.toNat_natCast]
  exact q r _ (fresh_back (e2.trans e3) hr) ((e2.trans e3).trans (Ex.new hr)) upd_same⟩
/-- t + u, both not empty, u new -/
theorem eu_catA {p : Addr} {xs ys : List V} (h : Ev te σ H (.ref p)) (hp : H p = some (.tup xs)) (hb : EvU tb σ H ys) (hx : xs ≠ []) (hy : ys ≠ []) (hl : xs.length + ys.length ≤ 100000) : EvU (tOp (rCatA K) te tb) σ H (xs ++ ys) := fun H1 e Q q => h H1 e _ fun H2 e2 => hb H2 (e.trans e2) _ fun r H3 hr e3 h3 => ⟨p, r, xs, ys, rfl, rfl, st_of (((e.trans e2).trans e3) _ _ hp), st_of h3, sz_of hl, fun z => absurd z hx, fun _ z => absurd z hy, fun _ _ n hn => q n _ (fresh_back (e2.trans e3) hn) ((e2.trans e3).trans (Ex.new hn)) upd_same⟩
/-- list(t) -/
theorem el_listU {p : Addr} {xs : List V} (h : Ev te σ H (.ref p)) (hp : H p = some (.tup xs)) : EvL (tCB (rListS K) (tCons te tNil)) σ H xs := fun H1 e Q q => h H1 e _ fun H2 e2 => ⟨p, xs, rfl, .inr (st_of ((e.trans e2) _ _ hp)), fun r hr => q r _ (fresh_back e2 hr) (e2.trans (Ex.new hr)) upd_same⟩
theorem krepT {X : Cx} {K : PySem.W.Frag} (hK : X.K = K := by rfl) : OpR X (binaryOp .Mult) (rRepT K) := hK ▸ op_repT
end
end Ws
set_option Elab.async false
set_option linter.all false
set_option maxRecDepth 100000
set_option maxHeartbeats 4000000
namespace K24
open PySem PySem.Spec PyProof.Rows L2 Evl Wc Wt Wg Ws Wr
section
variable {K : PySem.W.Frag} {P : Program} {w : World} {σ : L2.St} {H : Hp} {te : TE}
/-- sorted(set(ws)) of a standing list -/
theorem wp_sortSetS {p : Addr} {xs : List Tx} (h : Ev te σ H (.ref p)) (hp : H p = some (.lst (xs.map T))) (hl : xs.length ≤ 4000) (Q : VK) (k : ∀ r ys H1, Uniq xs ys → ys.length ≤ xs.length → H r = none → Ex H H1 → H1 r = some (.lst ((sortT ys).map T)) → Q (.ref r) H1) :
    tCB (rSortX K P w) (tCons (tCB (rSetTx K P w) (tCons te tNil)) tNil) σ H Q := h H (Ex.refl _) _ fun H1 e1 => ⟨p, xs, rfl, sq_of (e1 _ _ hp), hl, fun q ys u hly hq => .inr ⟨q, ys, rfl, upd_same, fun zs r pz hr => by
  have hr1 : H1 r = none := fresh_back (Ex.new hq) hr
  exact k r zs _ ⟨pz.nodup_iff.mpr u.nd, fun x => (pz.mem_iff).trans (u.mem x)⟩ (by rw [pz.length_eq]; exact hly) (fresh_back e1 hr1) ((e1.trans (Ex.new hq)).trans (Ex.new hr)) upd_same⟩⟩
def sp_near_lot : Sp := fun vs H Q _ => ∃ (fa p : Addr) (lot : List Tx), vs = [.ref fa, .ref p] ∧ LotAt p lot H ∧ GF fa 1100 H ∧ ∀ q lot' H', IsLot lot' → H q = none → Rf fa 1100 H H' → H' q = some (.tup (lot'.map T)) → Q (.ref q) H'
/-- words as they are changed -/
def NearW (fa p pw : Addr) (H : Hp) (σ' : L2.St) (H' : Hp) : Prop := ∃ (v2 v3 : Option V) (ws : List Tx), σ' = [some (.ref fa), some (.ref p), v2, v3, some (.ref pw)] ∧ Rf fa 20 H H' ∧ H' pw = some (.lst (ws.map T)) ∧ ws ≠ [] ∧ ws.length ≤ 12 ∧ Wof 1 12 AB ws
end
section
variable {P : Program} {w : World} {K : PySem.W.Frag} {mg : Str → Option Value} {base : Heap}
theorem ok__law_near_lot {f : Addr} {fd : FuncData} (F : Fun K "_law_near_lot" "_law_near_lot" st__law_near_lot f fd) (M : Md K mg) (C__law_draw : Cal P w K mg base "_law_draw" st__law_draw 1 ["feed", "many"] sp_draw) (C__law_one : Cal P w K mg base "_law_one" st__law_one 2 ["feed", "things"] (sp_one K)) (C__law_piece : Cal P w K mg base "_law_piece" st__law_piece 3 ["feed", "signs", "long"] sp_piece) (C__law_lot : Cal P w K mg base "_law_lot" st__law_lot 7 ["feed"] sp_lot) : FnOk P w K mg base CX0 8 f fd ["feed", "lot"] sp_near_lot := by
  have nd := sc__law_near_lot.nd
  refine F.ok sc__law_near_lot (fun vs H Q E h => ?_) (fun cdv A outer s H vs Q E hr h => ?_)
  · obtain ⟨_, _, _, rfl, _⟩ := h
    rfl
  · obtain ⟨fa, p, lot, rfl, hL, G, k⟩ := h
    refine ⟨_, (pss_cons (ps_par (i := 2) (j := 3) rfl nd rfl rfl (by decide) rfl rfl (pa_cons (pe_cl C__law_draw hr (pa_cons (pv 0) (pa_cons pe_int pa_nil))) (pa_cons (pe_cl C__law_draw hr (pa_cons (pv 0) (pa_cons (pe_callB (kcr K (r := rLenS) call_len_seq) (by rfl) M.n_len boot_len (pa_cons (pv 1) pa_nil)) pa_nil))) pa_nil)) (by rfl))
  (pss_cons (ps_if (pt_cmpR op_eqI (pv 2) pe_int (nomark _))
  (pss_one (ps_ret (pe_cl C__law_lot hr (pa_cons (pv 0) pa_nil))))
  pss_nil)
  (pss_cons (ps_set (i := 4) nd rfl (Or.inl rfl) (pe_callTy (kcr K (r := rListS) call_list_of) (by rfl) M.n_list boot_list (pa_cons (pv 1) pa_nil)))
  (pss_cut (ps_if (PW.pt (pw_and (pt_cmpR op_eqI (pv 2) pe_int (nomark _)) (pw_and1 (pt_cmpR op_gt (pe_callB (kcr K (r := rLenS) call_len_seq) (by rfl) M.n_len boot_len (pa_cons (pv 1) pa_nil)) pe_int (nomark _)))))
  (pss_one (ps_expr (kbm K (pe_bm PySem.F.plainAttrs_list PySem.F.slot_list_pop PySem.F.type_list_pop mt_popAt (pv 4) (pa_cons (pv 3) pa_nil)))))
  (pss_one (ps_if (PW.pt (pw_and (pt_cmpR op_eqI (pv 2) pe_int (nomark _)) (pw_and1 (pt_cmpR op_lt (pe_callB (kcr K (r := rLenS) call_len_seq) (by rfl) M.n_len boot_len (pa_cons (pv 1) pa_nil)) pe_int (nomark _)))))
  (pss_one (ps_expr (kbm K (pe_bm PySem.F.plainAttrs_list PySem.F.slot_list_append PySem.F.type_list_append mt_append (pv 4) (pa_cons (pe_cl C__law_piece hr (pa_cons (pv 0) (pa_cons (pe_sT [97, 98, 99, 100]) (pa_cons pe_int pa_nil)))) pa_nil)))))
  (pss_one (ps_asg (pe_slice sl_T (pe_op op_addT (pe_ix (kix K (r := L2.rIxL) ix_list) (pv 4) (pv 3) (fun _ _ => rfl)) (pe_cl C__law_one hr (pa_cons (pv 0) (pa_cons (pe_sT [97, 98, 99, 100]) pa_nil)))) po_none (po_some pe_int)) (pg_sub (pv 4) (pv 3) set_list))))))
  (pss_one (ps_ret (pe_callTy (kcr K (r := rTupS) call_tuple_of) (by rfl) M.n_tuple boot_tuple (pa_cons (pe_callB (ksorted P w K hr.units) (by rfl) M.n_sorted boot_sorted (pa_cons (pe_callTy (kset P w K) (by rfl) M.n_set boot_set (pa_cons (pv 4) pa_nil)) pa_nil)) pa_nil)))))))), ?_⟩
    have hp : p ≠ fa := G.ofTup hL.1
    have hpos : 0 < lot.length := List.length_pos_iff.mpr hL.2.ne
    have hfew := hL.2.few
    have hlw : Wof 1 12 AB lot := fun t ht => ⟨List.length_pos_iff.mpr (hL.2.pos t ht), (hL.2.wd t ht).1, fun c hc => abcd_AB.mp ((hL.2.wd t ht).2 c hc)⟩
    have hlen : ∀ {σ : L2.St} {B : Hp}, σ[1]? = some (some (.ref p)) → B p = some (.tup (lot.map T)) → Ev (tCB (rLenS K) (tCons (tVar 1) tNil)) σ B (.int (lot.length : Int)) := fun h0 hh => ev_is (ev_lenU (ev_var h0) (st_of hh)) (by rw [List.length_map])
    refine wp_draw (many := 4) rfl ev_c (G.mono (m := 1100) (by omega)) (by decide) (by decide) fun way H1 hw R1 => ?_
    have h1 := R1.at_ hL.1 hp
    refine wp_draw (many := (lot.length : Int)) rfl (hlen rfl h1) (G.go R1 (m' := 1) (by omega)) (by omega) (by omega) fun d H2 hd R2 => ⟨_, _, rfl, ?_⟩
    have R12 := R1.trans R2
    have h2 := R2.at_ h1 hp
    have hd' : d < lot.length := by omega
    show tSeq _ _ _ [some (.ref fa), some (.ref p), some (.int (way : Int)), some (.int (d : Int)), none] H2
    refine q_when (et_test (ev_op (ev_var rfl) ev_c rv_I0)) (fun hb H3 e3 => ?_) (fun hb H3 e3 => ?_)
    · have R3 := R12.then e3
      exact ⟨.ref fa, rfl, fa, rfl, G.go R3 (by omega), fun q lot' H4 hL4 hq R4 h4 => k q lot' H4 hL4 (R3.free G.is hq (G.go R3 (m' := 0) (by omega)).is) ((R3.trans R4).mono (by omega)) h4⟩
    have R3 := R12.then e3
    have h3 := e3 _ _ h2
    refine q_asgL (el_listU (ev_var rfl) h3) fun pw H4 hpw e4 h4 => ?_
    have R4 := R3.then e4
    have h4p := e4 _ _ h3
    have npw : pw ≠ fa := (G.go R3 (m' := 0) (by omega)).new hpw
    have hpwH : H pw = none := R3.free G.is hpw (G.go R3 (m' := 0) (by omega)).is
    have G4 : GF fa 1000 H4 := G.go R4 (by omega)
    show tCut _ _ _ [some (.ref fa), some (.ref p), some (.int (way : Int)), some (.int (d : Int)), some (.ref pw)] H4
    have hAB : ∀ t : Tx, (1 ≤ t.length ∧ t.length ≤ 12 ∧ ∀ c ∈ t, c ∈ AB) → Wof 1 12 AB [t] := fun t h t' ht' => by
      rw [List.mem_singleton.mp ht']
      exact h
    refine q_cut (M := NearW fa p pw H) ?_ ?_
    · refine s_if (et_andI (et_test (ev_op (ev_var rfl) ev_c rv_I0)) fun _ => et_test (ev_op (hlen rfl h4p) ev_c rv_I0)) (fun hb H5 e5 => ?_) (fun hb H5 e5 => ?_)
      · rw [Bool.and_eq_true, decide_eq_true_eq, decide_eq_true_eq] at hb
        refine ⟨.ref pw, rfl, .inl ⟨rfl, _, sq_of (e5 _ _ h4)⟩, .int (d : Int), rfl, pw, lot.map T, (d : Int), d, T lot[d], rfl, rfl, e5 _ _ h4, by omega, by omega, seqIx_nat (by rw [List.length_map]; exact hd'), by rw [List.getElem?_map, List.getElem?_eq_getElem hd']; rfl, ?_⟩
        have hel : (lot.eraseIdx d).length = lot.length - 1 := by rw [List.length_eraseIdx]; simp [hd']
        exact ⟨_, _, lot.eraseIdx d, rfl, ((R4.then e5).upd hpwH G.is).mono (by omega), by rw [upd_same, erase_map], fun z => by rw [z, List.length_nil] at hel; omega, by omega, hlw.sub fun t ht => List.mem_of_mem_eraseIdx ht⟩
      · have h5 := e5 _ _ h4
        have h5p := e5 _ _ h4p
        have R5 := R4.then e5
        refine s_if (et_andI (et_test (ev_op (ev_var rfl) ev_c rv_I0)) fun _ => et_test (ev_op (hlen rfl h5p) ev_c rv_I0)) (fun hb2 H6 e6 => ?_) (fun hb2 H6 e6 => ?_)
        · rw [Bool.and_eq_true, decide_eq_true_eq, decide_eq_true_eq] at hb2
          have R6 := R5.then e6
          refine ⟨.ref pw, rfl, .inl ⟨rfl, _, sq_of (e6 _ _ h5)⟩, ?_⟩
          refine wp_piece (i := 0) (long := 5) (s := AB) rfl ev_c (.inl rfl) (by decide) (by decide) (G.go R6 (m' := 100) (by omega)) (by decide) (by decide) fun y H7 ⟨t, hy, t1, t2, t3⟩ R7 => ?_
          subst hy
          have R67 := R6.trans R7
          exact ⟨pw, lot.map T, T t, rfl, rfl, R7.at_ (e6 _ _ h5) npw, sz_lt (by rw [List.length_map]; omega), _, _, lot ++ [t], rfl, (R67.upd hpwH G.is).mono (by omega), by rw [upd_same, List.map_append]; rfl, by simp, by rw [List.length_append]; show _ + 1 ≤ 12; omega, hlw.app (hAB t ⟨t1, by omega, t3⟩)⟩
        · have h6 := e6 _ _ h5
          have R6 := R5.then e6
          have hwd := hlw lot[d] (List.getElem_mem hd')
          -- words[at] + a sign, cut
          refine (ev_op (ev_var rfl) (ev_var rfl) (rv_ixL (sq_of h6) (atI_nat (j := d) (v := T lot[d]) (by rw [List.getElem?_map, List.getElem?_eq_getElem hd']; rfl))) : Ev (tOp (L2.rIxL K) (tVar 4) (tVar 3)) [some (.ref fa), some (.ref p), some (.int (way : Int)), some (.int (d : Int)), some (.ref pw)] H6 (T lot[d])) H6 (Ex.refl _) _ fun H7 e7 => ?_
          refine wp_oneT (i := 0) (s := AB) rfl ev_c (G.go (R6.then e7) (m' := 1) (by omega)) (by decide) (by decide) fun c H8 hc R8 => ?_
          have R8' := (R6.then e7).trans R8
          have h8 := R8.at_ (e7 _ _ h6) npw
          refine ⟨lot[d], [c], rfl, rfl, by show _ + 1 ≤ _; omega, (12 : Int), rfl, lot[d] ++ [c], rfl, by rw [List.length_append]; show _ + 1 ≤ _; omega, .ref pw, rfl, .int (d : Int), rfl, pw, lot.map T, (d : Int), d, rfl, rfl, h8, ixN_nat (by rw [List.length_map]; exact hd'), ?_⟩
          rw [show cutT (lot[d] ++ [c]) none (some (12 : Int)) = (lot[d] ++ [c]).take 12 from cutT_to _ 12]
          refine ⟨_, _, lot.set d ((lot[d] ++ [c]).take 12), rfl, (R8'.upd hpwH G.is).mono (by omega), by rw [upd_same, List.map_set], fun z => by have := congrArg List.length z; rw [List.length_set, List.length_nil] at this; omega, by rw [List.length_set]; exact hfew, fun t ht => ?_⟩
          rcases List.mem_or_eq_of_mem_set ht with z | rfl
          · exact hlw t z
          · refine ⟨by rw [List.length_take, List.length_append]; show 1 ≤ min 12 (_ + 1); omega, by rw [List.length_take]; omega, fun c' hc' => ?_⟩
            rcases List.mem_append.mp (List.mem_of_mem_take hc') with z | z
            · exact hwd.2.2 c' z
            · rw [List.mem_singleton.mp z]
              exact hc
    · rintro σ' H5 ⟨v2, v3, ws, rfl, R5, h5, w1, w2, w3⟩
      refine wp_sortSetS (P := P) (w := w) (xs := ws) (ev_var rfl) h5 (by omega) _ fun r ys H6 u hly hr e6 h6 => ⟨r, _, rfl, .inl ⟨sq_of h6, fun l hl => ?_⟩⟩
      have R6 := R5.then e6
      refine k l (sortT ys) _ ⟨fun z => ?_, by rw [sortT_len]; omega, fun t ht => ?_, fun t ht z => ?_, pw_lt (sortT_pw ys) ((sortT_perm ys).nodup_iff.mpr u.nd)⟩ (R6.free G.is hl (G.go R6 (m' := 0) (by omega)).is) ((R6.then (Ex.new hl)).mono (by omega)) upd_same
      · obtain ⟨t, ht⟩ := List.exists_mem_of_ne_nil _ w1
        have := sortT_mem.mpr ((u.mem t).mpr ht)
        rw [z] at this
        cases this
      · have := w3 t ((u.mem t).mp (sortT_mem.mp ht))
        exact ⟨this.2.1, fun c hc => abcd_AB.mpr (this.2.2 c hc)⟩
      · have := (w3 t ((u.mem t).mp (sortT_mem.mp ht))).1
        rw [z] at this
        simp at this
end
end K24
set_option Elab.async false
set_option linter.all false
set_option maxRecDepth 100000
set_option maxHeartbeats 4000000
/-! an error that is kept behind its except suite; isinstance of it -/
namespace We
open PySem PySem.Spec PyProof.Rows L2 Evl Wc Wt Wg
/-- the error at a -/
def ExO (cls : Value) (d : Option Addr) (a : Addr) : HO := .ext fun h => ∃ (oe : Obj) (vs : Array Value), h.get? a = some oe ∧ oe.cls = cls ∧ oe.dict = d ∧ oe.data = .fields vs
section
variable {X : Cx} {pins : List (Addr × Obj)} {σ : L2.St} {H : Hp} {s : Shared} {a : Addr}
theorem exO_ok {P : Program} {w : World} {H : Hp} {h : Heap} {cls : Value} {d : Option Addr} {oe : Obj} (he : h.get? a = some oe) (hz : Zc cls d oe) (hd : ∃ vs, oe.data = .fields vs) : ObjOk P w H h a (ExO cls d a) := by
  obtain ⟨vs, hd⟩ := hd
  exact ⟨⟨oe, vs, he, hz.1, hz.2, hd⟩, ⟨oe, he⟩, fun h1 h2 ⟨o, v, x1, x2⟩ k => ⟨o, v, k o x1, x2⟩⟩
/-- an object that stands is looked after from now on -/
theorem track {o : HO} (I : Inv X pins σ H s) (na : H a = none) (nL : a ≠ X.env.locals) (nC : ∀ x c, X.env.cells.lookup x = some c → c ≠ a) (nP : ∀ p ∈ X.pn ++ pins, p.1 ≠ a) (n0 : X.s_0.heap.get? a = none) (new : ObjOk X.prog X.w (upd H a o) s.heap a o) : Inv X pins σ (upd H a o) s where
  ok := I.ok
  os := I.os
  bare := I.bare
  base := ⟨I.base.keep, I.base.slot, fun b u e n hx => by rw [upd_ne (fun z => by rw [z, n0] at e; cases e)]; exact I.base.free b u e n hx, I.base.there, fun b xs e => by have := I.base.tups b xs e; rw [upd_ne (fun z => by rw [z, na] at this; cases this)]; exact this, fun b u v e => by have := I.base.frzs b u v e; rw [upd_ne (fun z => by rw [z, na] at this; cases this)]; exact this, fun b ps e => by
    obtain ⟨more, hm⟩ := I.base.tbls b ps e
    exact ⟨more, by rw [upd_ne (fun z => by rw [z, na] at hm; cases hm)]; exact hm⟩⟩
  loc := I.loc
  cell := I.cell
  free := by rw [upd_ne (Ne.symm nL)]; exact I.free
  freeC := fun x c e => by rw [upd_ne (nC x c e)]; exact I.freeC x c e
  pin := fun p hp => by
    obtain ⟨h1, h2, h3⟩ := I.pin p hp
    exact ⟨h1, by rw [upd_ne (nP p hp)]; exact h2, h3⟩
  hok := fun b u e => by
    by_cases hb : b = a
    · subst hb
      rw [upd_same] at e
      cases e
      exact new
    · rw [upd_ne hb] at e
      exact (I.hok b u e).stay (fun c v _ q => q) (fun c q => by rw [upd_ne (ne_of_none q na)]; exact q) fun c xs q => by rw [upd_ne (ne_of_none q na)]; exact q
  len := I.len
/-- isinstance of a kept error -/
def rIsK (K : PySem.W.Frag) : List V → Hp → VK → Prop := fun xs H Q => ∃ (a D : Addr) (c : V) (cv : Value) (b : Bool), xs = [.ref a, c] ∧ H a = some (ExO (.ref D) none a) ∧ ExcC K D ∧ (∀ u, RelV c u → u = cv) ∧ PySem.W.kitOne K (.ref D) cv = some b ∧ Q (.bl b) H
theorem cr_isK : CallR X (.builtin "isinstance") (rIsK X.K) := by
  intro pins s σ H xs us Q I r h
  obtain ⟨a, D, c, cv, b, rfl, hx, C, hcv, e, q⟩ := h
  cases r with
  | cons rx rr =>
    cases rr with
    | cons rt rr =>
      cases rr
      cases rx
      have ec := hcv _ rt
      subst ec
      obtain ⟨⟨oe, vs, hget, h1, h2, hv⟩, _⟩ := (I.hok a _ hx : ObjOk X.prog X.w H s.heap a (ExO (.ref D) none a))
      have J : PySem.W.InstAt s.heap a oe D none := by
        obtain ⟨oc, od, oda, osl⟩ := oe
        dsimp only at h1 h2 hv
        subst h1 h2 hv
        exact ⟨hget, rfl, rfl, trivial⟩
      exact PySem.W.kia_one (PySem.W.handS_kitx_exc C.hg C.hk C.hs C.hd C.ha C.hn C.ht C.hm) I.kIn J e (fun z => nomatch z) fun tk => ⟨.bl b, H, I.kept (t' := tk) fun _ _ z => z, rfl, q⟩
end
theorem kisK {X : Cx} {K : PySem.W.Frag} (hK : X.K = K := by rfl) : CallR X (.builtin "isinstance") (rIsK K) := hK ▸ cr_isK
/-- as wAs of HandS, the error looked after behind the suite -/
def wKeep (K : PySem.W.Frag) (c : Value) (i : Nat) (ts : Addr → Value → Option Addr → TS) (Wout : WX) (D : Ends) : WX := fun cls d σ H =>
  ∃ b, PySem.W.exmOne K cls c = some b ∧ (b = true → ∀ a, H a = none → ts a cls d { nx := fun σ' H' => H' a = none → D.nx (σ'.set i none) (upd H' a (ExO cls d a)), rt := fun _ _ => False, bk := fun _ _ => False, ct := fun _ _ => False } (σ.set i (some (.ref a))) H) ∧ (b = false → Wout cls d σ H)
section
variable {X : Cx} {x n : Str} {c : Value} {i : Nat} {body suite : List Stmt} {b₀ : Stmt} {np pos pos' : Pos} {tb : WX → TS} {ts : Addr → Value → Option Addr → TS} {Wout : WX}
theorem ps_try_keep (hs : X.stack = X.env :: X.outer) (hf : X.env.frame = some X.env.locals) (hN : X.N.Nodup) (hi : X.N[i]? = some n) (hln : X.env.kindOf n = some .local) (hc : Names X x c) (tk : Takes X Wout) (hex : X.ex = [])
    (hb : ∀ (W : WX) (pn : List (Addr × Obj)) (xe : Value → Shared → Prop), Takes (X.tr pn xe) W → PassesOwn (model X.prog X.w) X.A X.env xe → PSs (X.tr pn xe) body (tb W))
    (hsu : ∀ (a : Addr) (oe : Obj) (cls : Value) (d : Option Addr) (pn : List (Addr × Obj)), Zc cls d oe → (∃ vs, oe.data = .fields vs) → PSs (X.suite a ((a, oe) :: pn)) (b₀ :: suite) (ts a cls d)) :
    PS X (.Try body [.ExceptHandler (some (.Name x np)) (some n) (b₀ :: suite) pos'] [] [] pos) (fun D σ H => tb (wKeep X.K c i ts Wout D) D σ H) := by
  refine ⟨fun pins s σ H D I h => ?_⟩
  have ok := I.ok
  have hfr : X.A.frames = some (X.env :: X.outer) := by rw [ok.frames, hs]
  refine wpAny_Try_except ?_
  refine wpAny_mono ((hb (wKeep X.K c i ts Wout D) (X.pn ++ pins) (fun e s₁ => wpAny (model X.prog X.w) X.A (noteFrame e X.env) (fun _ s₂ => wpAny (model X.prog X.w) X.A (setFlight e none) (fun _ s₃ =>
    wpAny (model X.prog X.w) X.A (handleBy e X.env [.ExceptHandler (some (.Name x np)) (some n) (b₀ :: suite) pos']) (SP X pins D) X.xe s₃) X.xe s₂) X.xe s₁) (fun u s' xx => ?_) PassesOwn.looking).run [] s σ H D (I.toTry _) h) (fun f s1 hsp => ?_) (fun e s1 he => he)
  · obtain ⟨a, B, sI, pins', σ', H', cls, d, rfl, J', nb, up, sky, na, os, ag, b, hb1, hyes, hno⟩ := xx
    have J : Inv X pins σ' H' sI := J'.ofTry ok
    show wpAny (model X.prog X.w) X.A (noteFrame (.ref a) X.env) _ _ _
    refine Sky.land Zc.steady hfr hf (by rw [← hs]; exact sky) fun h3 fl3 up3 => ?_
    have J3 : Inv X pins σ' H' { s' with heap := h3 } := J.landed nb fl3.1 (up.trans up3) os ag
    obtain ⟨oe3, vs3, he3, hz3, hd3⟩ := fl3.there
    have nfr : a ∉ frs (X.env :: X.outer) := fun hm => by
      obtain ⟨_, o', e', hnf⟩ := fl3.2.2.1.mem hm
      rw [he3] at e'
      cases e'
      exact hnf _ hd3
    have nI : sI.heap.get? a = none := by
      cases e : sI.heap.get? a with
      | none => rfl
      | some o =>
        have e1 := nb a o e (by rw [hs]; exact nfr)
        rw [fl3.2.1] at e1
        cases e1
    have n0 : X.s_0.heap.get? a = none := by
      cases e : X.s_0.heap.get? a with
      | none => rfl
      | some o =>
        obtain ⟨o', e1⟩ := J.base.there a o e (by rw [hex]; exact fun z => nomatch z)
        rw [nI] at e1
        cases e1
    have nL : a ≠ X.env.locals := fun z => nfr (List.mem_filterMap.mpr ⟨X.env, List.mem_cons_self, by rw [hf, z]⟩)
    have nF : a ∉ X.fs := fun hm => by
      obtain ⟨e, he, q⟩ := List.mem_filterMap.mp hm
      exact nfr (List.mem_filterMap.mpr ⟨e, List.mem_cons_of_mem _ he, q⟩)
    have nP : ∀ p ∈ X.pn ++ pins, p.1 ≠ a := fun p hp z => by
      have := (J.pin p hp).1
      rw [z, nI] at this
      cases this
    have S3 := J3.suite he3 hd3 na nL nF
    refine wpAny_handleBy_cons (codeAny_handlers_test ?_) (by intro q; cases q)
    have LM := PySem.W.exm_one (M := model X.prog X.w) (J3.kIn) (fun A Q E s k q => wpAny_typeOf_ref (k _ _ he3) (by rw [hz3.1]; exact q) : PySem.W.Looks (model X.prog X.w) h3 (typeOf (.ref a)) cls) hb1
    have test : ∀ {Q : Value → Shared → Prop} {E : Value → Shared → Prop}, Q c { s' with heap := h3 } → wpAny (model X.prog X.w) (X.A.mark (some (.ref a))) (eval (.Name x np) X.env) Q E { s' with heap := h3 } := fun {Q E} q => by
      obtain ⟨hg, hdbg, hm | ⟨hm, hv, hnn⟩⟩ := hc
      · exact ld_glob (X := X.suite a ((a, oe3) :: (X.pn ++ pins))) S3 hg hm q hdbg
      · exact ld_blt (X := X.suite a ((a, oe3) :: (X.pn ++ pins))) S3 hg hm hv q hnn hdbg
    refine test (LM.here ?_)
    cases b with
    | true =>
      refine codeAny_handlers_suite_as ?_
      refine HandSPX.lands_againZ fl3 fun h4 fl4 up4 => ?_
      have J4 : Inv X pins σ' H' { s' with heap := h4 } := J.landed nb fl4.1 ((up.trans up3).trans up4) os ag
      obtain ⟨oe4, vs4, he4, hz4, hd4⟩ := fl4.there
      have S4 := J4.suite he4 hd4 na nL nF
      refine store_ok (X := X.suite a ((a, oe4) :: (X.pn ++ pins))) (v := .ref a) S4 hN hi (.inl hln) rfl (fun s5 S5 => ?_) (.inr hln)
      refine wpAny_mono ((hsu a oe4 cls d (X.pn ++ pins) hz4 ⟨_, hd4⟩).run [] s5 _ H' _ S5 (hyes rfl a na)) (fun f s6 hsp => ?_) (fun _ _ z => False.elim z)
      cases f with
      | next =>
        obtain ⟨σ6, H6, S6, q6⟩ := hsp
        obtain ⟨g1, g2, _⟩ := S6.pin (a, oe4) (List.mem_append.mpr (.inl List.mem_cons_self))
        have U6 : Inv X pins σ6 H6 s6 := S6.unsuite ok
        have T6 := track U6 g2 nL (fun y cc hy z => by
          obtain ⟨v, hv⟩ := U6.cell y cc hy
          rw [z] at hv
          obtain ⟨ob, e1, e2⟩ := hv
          rw [g1] at e1
          cases e1
          rw [hd4] at e2
          cases e2) nP n0 (exO_ok (cls := cls) (d := d) g1 hz4 ⟨_, hd4⟩)
        exact gone_ok T6 hN hi hln fun s7 J7 => ⟨_, _, J7, q6 g2⟩
      | brk =>
        obtain ⟨σ6, H6, S6, q6⟩ := hsp
        exact False.elim q6
      | cont =>
        obtain ⟨σ6, H6, S6, q6⟩ := hsp
        exact False.elim q6
      | ret u =>
        obtain ⟨v6, σ6, H6, S6, r6, q6⟩ := hsp
        exact False.elim q6
    | false =>
      show wpAny _ X.A (handleBy (.ref a) X.env []) _ _ _
      refine wpAny_handleBy_nil ?_
      obtain ⟨k1, k2, k3, oe, vs, T, oT, ts', he, hz, hd, h1, hr⟩ := id fl3
      unfold PySem.passOn
      refine wpAny_bind (wpAny_field he hd h1 ?_)
      rw [if_neg (show ¬ ((Value.ref T == Value.none) = true) from by simp)]
      have fin : wpAny (model X.prog X.w) X.A (setFlight (.ref a) X.env.frame) (fun _ s4 => wpAny (model X.prog X.w) X.A (throw (.ref a) : Sem Flow) (SP X pins D) X.xe s4) X.xe { s' with heap := h3 } := by
        rw [hf]
        refine HandSPX.setFlight_upZ fl3 fun h4 hh4 up4 => wpAny_throw (tk _ _ ?_)
        exact ⟨a, B, sI, pins, σ', H', cls, d, rfl, J, nb, (up.trans up3).trans up4, .inr (.inr (by rw [hs]; exact hh4)), na, os, ag, hno rfl⟩
      first
        | exact wpAny_bind (wpAny_pure (wpAny_bind fin))
        | exact wpAny_bind fin
  · cases f with
    | next =>
      obtain ⟨σ', H', J', q⟩ := hsp
      exact wpAny_execs_nil ⟨σ', H', J'.ofTry ok, q⟩
    | brk =>
      obtain ⟨σ', H', J', q⟩ := hsp
      exact ⟨σ', H', J'.ofTry ok, q⟩
    | cont =>
      obtain ⟨σ', H', J', q⟩ := hsp
      exact ⟨σ', H', J'.ofTry ok, q⟩
    | ret u =>
      obtain ⟨v, σ', H', J', r, q⟩ := hsp
      exact ⟨v, σ', H', J'.ofTry ok, r, q⟩
end
section
variable {K : PySem.W.Frag} {σ : L2.St} {H : Hp}
theorem rc_isK {a D : Addr} {c : V} {cv : Value} {b : Bool} (hx : H a = some (ExO (.ref D) none a)) (C : ExcC K D) (hcv : ∀ u, RelV c u → u = cv) (e : PySem.W.kitOne K (.ref D) cv = some b) : RC (rIsK K) [.ref a, c] H (.bl b) := fun H1 e1 _ q => ⟨a, D, c, cv, b, rfl, e1 _ _ hx, C, hcv, e, q H1 (Ex.refl H1)⟩
end
end We
set_option Elab.async false
set_option linter.all false
set_option maxRecDepth 100000
set_option maxHeartbeats 4000000
namespace K24
open PySem PySem.Spec PyProof.Rows L2 Evl Wc Wt Wg Ws Wr We
/-- the errors that are asked for -/
structure ErrA (K : PySem.W.Frag) (mg : Str → Option Value) (CL CN CM CB : Addr) : Prop where
  nB : mg "CutError" = some (.ref CB)
  tL : PySem.W.exmOne K (.ref CL) (.ref CB) = some true
  tN : PySem.W.exmOne K (.ref CN) (.ref CB) = some true
  cL : ExcC K CL
  cN : ExcC K CN
  g_BadLot : ∃ u, mg "BadLot" = some u ∧ RelV (.ref CL) u
  g_BadNumber : ∃ u, mg "BadNumber" = some u ∧ RelV (.ref CN) u
  g_TooMany : ∃ u, mg "TooMany" = some u ∧ RelV (.ref CM) u
  ll : PySem.W.kitOne K (.ref CL) (.ref CL) = some true
  ln : PySem.W.kitOne K (.ref CL) (.ref CN) = some false
  lm : PySem.W.kitOne K (.ref CL) (.ref CM) = some false
  nl : PySem.W.kitOne K (.ref CN) (.ref CL) = some false
  nn : PySem.W.kitOne K (.ref CN) (.ref CN) = some true
  nm : PySem.W.kitOne K (.ref CN) (.ref CM) = some false
abbrev xTold : Tx := [116, 111, 108, 100]
abbrev xErr : Tx := [101, 114, 114, 111, 114]
abbrev xLot : Tx := [108, 111, 116]
abbrev xNum : Tx := [110, 117, 109, 98, 101, 114]
abbrev xMany : Tx := [109, 97, 110, 121]
/-- a pair of a word and what is told -/
def Said (t : Tx) (v : V) (H : Hp) (Q : VK) : Prop := ∀ p H', Ex H H' → H' p = some (.tup [T t, v]) → Q (.ref p) H'
def sp_asked : Sp := fun vs H Q _ => ∃ (v1 v2 v3 : V) (o1 o2 : Option (List Tx)) (o3 : Option Int), vs = [v1, v2, v3] ∧ Th H v1 o1 ∧ Th H v2 o2 ∧ Nt v3 o3 ∧ Sm o1 ∧ Sm o2 ∧
  ((lotB o1 = false ∧ Said xErr (T xLot) H Q) ∨ (lotB o1 = true ∧ lotB o2 = false ∧ Said xErr (T xLot) H Q) ∨ (lotB o1 = true ∧ lotB o2 = true ∧ inB 1 400 o3 = false ∧ Said xErr (T xNum) H Q) ∨
   (∃ (p q : Addr) (l1 l2 : List Tx) (n : Nat), v1 = .ref p ∧ v2 = .ref q ∧ v3 = .int (n : Int) ∧ o1 = some l1 ∧ o2 = some l2 ∧ o3 = some (n : Int) ∧ LotAt p l1 H ∧ LotAt q l2 H ∧ 1 ≤ n ∧ n ≤ 400 ∧ Said xTold (firstV (longO l1 l2 n)) H Q))
section
variable {K : PySem.W.Frag} {σ : L2.St} {H : Hp}
/-- zip of a new list and a standing one -/
theorem src_zipN {b : Addr} {xs ys : List V} {n : Nat} {tl tr : TE} (h : EvL tl σ H xs) (h2 : Ev tr σ H (.ref b)) (hs2 : SqL K H b ys) (hn : n = min xs.length ys.length) :
    Src (iZip K (tCons tl (tCons tr tNil))) σ H n (fun c => c = b) (fun i v Hb => ∃ p x y, v = .ref p ∧ xs[i]? = some x ∧ ys[i]? = some y ∧ Hb p = some (.tup [x, y])) := fun H1 e R q =>
  h H1 e _ fun a H2 ha e2 ha2 => h2 H2 (e.trans e2) _ fun H3 e3 => ⟨a, b, xs, ys, rfl, sq_of (e3 _ _ ha2), ex_l ((e.trans e2).trans e3) hs2, q _ H3 _ (e2.trans e3) ((walk_zip hn).mono (fun _ z => z) fun i Ha v Hb _ _ hy => by
    obtain ⟨p, x, y, rfl, hf, rfl, h1, h2⟩ := hy
    exact ⟨Ex.new hf, p, x, y, rfl, h1, h2, upd_same⟩) fun B Ha hB ea => ⟨ea.l (fun z => (hB a z).1 (fresh_back e ha)) (sq_of (e3 _ _ ha2)), ea.l (fun z => (hB b z).2 rfl) (ex_l ((e.trans e2).trans e3) hs2)⟩⟩
end
section
variable {P : Program} {w : World} {K : PySem.W.Frag} {mg : Str → Option Value} {base : Heap}
set_option pp.explicit false
theorem ok__law_asked {f CL CN CM CB : Addr} {fd : FuncData} (F : Fun K "_law_asked" "_law_asked" st__law_asked f fd) (M : Md K mg) (X : ErrA K mg CL CN CM CB) (S_first_longer : CalS P w K mg base "first_longer" st_first_longer 5 ["lot", "other", "count"] (sp_first_longer CL CN)) : FnOk P w K mg base CX0 6 f fd ["lot", "other", "count"] sp_asked := by
  have nd := sc__law_asked.nd
  refine F.ok sc__law_asked (fun vs H Q E h => ?_) (fun cdv A outer s H vs Q E hr h => ?_)
  · obtain ⟨_, _, _, _, _, _, rfl, _⟩ := h
    rfl
  · obtain ⟨v1, v2, v3, o1, o2, o3, rfl, t1, t2, n3, s1, s2, hc⟩ := h
    refine ⟨_, (pss_cons (ps_asg (pe_tup (pa_cons (pe_tup (pa_cons (pe_sT [110, 111, 110, 101]) (pa_cons pe_non pa_nil))) (pa_cons pe_non pa_nil))) (kgt K (n := 2) (pg_tup rfl (pgs_cons (pg_name (i := 3) nd rfl (Or.inl rfl)) (pgs_cons (pg_name (i := 4) nd rfl (Or.inl rfl)) pgs_nil)))))
  (pss_cut (We.ps_try_keep (i := 5) (Wout := fun _ _ _ _ => False) rfl rfl nd rfl rfl ⟨rfl, by decide, Or.inl X.nB⟩ takes0 rfl (fun W pn xe tk _ => (pss_one (ps_set (i := 3) nd rfl (Or.inl rfl) (pe_tup (pa_cons (pe_sT [116, 111, 108, 100]) (pa_cons (pe_clS S_first_longer hr tk (pa_cons (pv 0) (pa_cons (pv 1) (pa_cons (pv 2) pa_nil)))) pa_nil)))))) (fun a oe cls d pn hz hf => (pss_one (ps_set (i := 4) nd rfl (Or.inl rfl) (pv 5)))))
  (pss_cons (ps_if (pt_cmpR op_isN (pv 4) pe_non (nomark _))
  (pss_one (ps_ret (pv 3)))
  pss_nil)
  (pss_cons (ps_set (i := 6) nd rfl (Or.inl rfl) (pe_lst (pa_cons (pe_callB (We.kisK (K := K)) (by rfl) M.n_isinstance boot_isinstance (pa_cons (pv 4) (pa_cons (C8.pe_gc rfl X.g_BadLot) pa_nil))) (pa_cons (pe_callB (We.kisK (K := K)) (by rfl) M.n_isinstance boot_isinstance (pa_cons (pv 4) (pa_cons (C8.pe_gc rfl X.g_BadNumber) pa_nil))) (pa_cons (pe_callB (We.kisK (K := K)) (by rfl) M.n_isinstance boot_isinstance (pa_cons (pv 4) (pa_cons (C8.pe_gc rfl X.g_TooMany) pa_nil))) pa_nil)))))
  (pss_one (ps_ret (pe_tup (pa_cons (pe_sT [101, 114, 114, 111, 114]) (pa_cons (kbm K (pe_bm PySem.F.plainAttrs_str PySem.F.slot_str_join PySem.F.type_str_join (kmt K (r := rJoinT) mt_joinT) (pe_sT []) (pa_cons (pe_lc (own := [("word", 7), ("kind", 8)]) rfl nd (kiz K (pi_zip (by rfl) M.n_zip (pa_cons (pe_lst (pa_cons (pe_sT [108, 111, 116]) (pa_cons (pe_sT [110, 117, 109, 98, 101, 114]) (pa_cons (pe_sT [109, 97, 110, 121]) pa_nil)))) (pa_cons (pv 6) pa_nil)))) (blkOk_by (N := N__law_asked) (sc := defScope st__law_asked) (by decide +kernel)) (fun _ _ _ _ _ => (kgt K (n := 2) (pg_tup rfl (pgs_cons (pg_name (i := 7) nd rfl (Or.inl rfl)) (pgs_cons (pg_name (i := 8) nd rfl (Or.inl rfl)) pgs_nil))))) (fun _ _ _ _ _ => (pts_one (pt_val (pv 8)))) (fun _ _ _ _ _ => (pv 7))) pa_nil))) pa_nil))))))))), ?_⟩
    refine ⟨by show 2 ≤ sizeLine; decide, fun pn hpn => ⟨by show 2 ≤ sizeLine; decide, fun pt hpt => ⟨pt, _, rfl, st_of upd_same, rfl, _, _, rfl, _, [], rfl, rfl, ?_⟩⟩⟩
    have e1 : Ex H (upd (upd H pn (.tup [T [110, 111, 110, 101], .non])) pt (.tup [.ref pn, .non])) := (Ex.new hpn).trans (Ex.new hpt)
    generalize upd (upd H pn (.tup [T [110, 111, 110, 101], .non])) pt (.tup [.ref pn, .non]) = H1 at e1 ⊢
    have es : ((start N__law_asked [v1, v2, v3]).set 3 (some (.ref pn))).set 4 (some .non) = [some v1, some v2, some v3, some (.ref pn), some .non, none, none, none, none] := rfl
    rw [es]
    dsimp only
    refine q_cut (M := fun σ' H' => Ex H H' ∧ ((∃ (pr : Addr) (v : V), σ' = [some v1, some v2, some v3, some (.ref pr), some .non, none, none, none, none] ∧ H' pr = some (.tup [T xTold, v]) ∧ Said xTold v H Q) ∨
      (∃ (a D : Addr) (b1 b2 b3 : Bool) (t : Tx), σ' = [some v1, some v2, some v3, some (.ref pn), some (.ref a), none, none, none, none] ∧ H' a = some (ExO (.ref D) none a) ∧ ExcC K D ∧ PySem.W.kitOne K (.ref D) (.ref CL) = some b1 ∧ PySem.W.kitOne K (.ref D) (.ref CN) = some b2 ∧ PySem.W.kitOne K (.ref D) (.ref CM) = some b3 ∧ t = (([(xLot, b1), (xNum, b2), (xMany, b3)] : List (Tx × Bool)).filter (·.2)).flatMap (·.1) ∧ t.length ≤ 100 ∧ Said xErr (T t) H Q))) ?_ ?_
    · refine ⟨v1, rfl, v2, rfl, v3, rfl, v1, v2, v3, o1, o2, o3, rfl, t1.ex e1, t2.ex e1, n3, s1, s2, ?_⟩
      rcases hc with ⟨c1, ke⟩ | ⟨c1, c2, ke⟩ | ⟨c1, c2, c3, ke⟩ | ⟨p, q, l1, l2, n, rfl, rfl, rfl, rfl, rfl, rfl, hL1, hL2, hn1, hn2, k⟩
      · exact .inl ⟨c1, fun H2 e2 => ⟨true, X.tL, fun _ a ha => ⟨.ref a, rfl, fun na => ⟨(e1.trans e2).trans (Ex.new na), .inr ⟨a, CL, true, false, false, _, rfl, upd_same, X.cL, X.ll, X.ln, X.lm, rfl, by decide, ke⟩⟩⟩, fun z => Bool.noConfusion z⟩⟩
      · exact .inr (.inl ⟨c1, c2, fun H2 e2 => ⟨true, X.tL, fun _ a ha => ⟨.ref a, rfl, fun na => ⟨(e1.trans e2).trans (Ex.new na), .inr ⟨a, CL, true, false, false, _, rfl, upd_same, X.cL, X.ll, X.ln, X.lm, rfl, by decide, ke⟩⟩⟩, fun z => Bool.noConfusion z⟩⟩)
      · exact .inr (.inr (.inl ⟨c1, c2, c3, fun H2 e2 => ⟨true, X.tN, fun _ a ha => ⟨.ref a, rfl, fun na => ⟨(e1.trans e2).trans (Ex.new na), .inr ⟨a, CN, false, true, false, _, rfl, upd_same, X.cN, X.nl, X.nn, X.nm, rfl, by decide, ke⟩⟩⟩, fun z => Bool.noConfusion z⟩⟩))
      · exact .inr (.inr (.inr ⟨p, q, l1, l2, n, rfl, rfl, rfl, rfl, rfl, rfl, hL1.ex e1, hL2.ex e1, hn1, hn2, fun H2 e2 => ⟨by show 2 ≤ sizeLine; decide, fun pr hpr => ⟨(e1.trans e2).trans (Ex.new hpr), .inl ⟨pr, _, rfl, upd_same, k⟩⟩⟩⟩))
    · rintro σ' H2 ⟨e2, ⟨pr, v, rfl, h2, k⟩ | ⟨a, D, b1, b2, b3, t, rfl, h2, hC, k1, k2, k3, ht, htl, k⟩⟩
      · exact q_when (b := true) (et_is (et_test (ev_op (ev_var rfl) ev_c rv_isN)) rfl) (fun _ H3 e3 => s_ret (ev_var rfl) fun H4 e4 => k pr H4 ((e2.trans e3).trans e4) ((e3.trans e4) _ _ h2)) (fun z => by cases z)
      · refine q_when (b := false) (et_is (et_test (ev_op (ev_var rfl) ev_c rv_isN)) rfl) (fun z => by cases z) (fun _ H3 e3 => ?_)
        have h3 := e3 _ _ h2
        have cl : ∀ {C : Addr} (u : Value), RelV (.ref C) u → u = .ref C := fun u h => h
        refine q_asgL (xs := ([(xLot, b1), (xNum, b2), (xMany, b3)] : List (Tx × Bool)).map fun a => V.bl a.2) (el_lst (ea_cons (ev_cb (ea_cons (ev_var rfl) (ea_cons ev_c ea_nil)) (rc_isK h3 hC cl k1)) (ea_cons (ev_cb (ea_cons (ev_var rfl) (ea_cons ev_c ea_nil)) (rc_isK h3 hC cl k2)) (ea_cons (ev_cb (ea_cons (ev_var rfl) (ea_cons ev_c ea_nil)) (rc_isK h3 hC cl k3)) ea_nil))) (by show 3 ≤ 100000; decide)) fun pk H4 hpk e4 h4 => ?_
        have hlc := el_lcG (σ := [some v1, some v2, some v3, some (.ref pn), some (.ref a), none, some (.ref pk), none, none]) (H := H4) (wi := iZip K (tCons (tLst (tCons (tC (T xLot)) (tCons (tC (T xNum)) (tCons (tC (T xMany)) tNil)))) (tCons (tVar 6) tNil))) (g := gTup K 2 (gCons (gName 7) (gCons (gName 8) gNil))) (vs := [7, 8]) (t := tB (tVar 8)) (te := tVar 7) (p := fun a : Tx × Bool => a.2) (gv := fun a => T a.1) ([(xLot, b1), (xNum, b2), (xMany, b3)] : List (Tx × Bool)) (fun q => [some v1, some v2, some v3, some (.ref pn), some (.ref a), none, some (.ref pk), some (T q.1), some (.bl q.2)]) (fun q x H1 => ∃ z, x = .ref z ∧ H1 z = some (.tup [T q.1, .bl q.2])) (src_zipN (n := 3) (xs := ([(xLot, b1), (xNum, b2), (xMany, b3)] : List (Tx × Bool)).map fun a => T a.1) (el_lst (ea_cons ev_c (ea_cons ev_c (ea_cons ev_c ea_nil))) (by show 3 ≤ 100000; decide)) (ev_var rfl) (sq_of h4) rfl) (by decide) rfl ?_ ?_ (fun _ => rfl) (fun q H5 e5 hq => et_B (ev_var rfl)) (fun q H5 e5 hq _ => ev_var rfl)
        · refine s_retU (xs := [T xErr, T t]) (eu_tup (ea_cons ev_c (ea_cons (ev_is (ev_bmTL (xs := (((([(xLot, b1), (xNum, b2), (xMany, b3)] : List (Tx × Bool)).filter (·.2)).map (·.1)).map T)) ev_c (by rw [List.map_map]; exact hlc) fun q H5 hq e5 => rm_join (.inl (sq_of hq)) (by rw [← flat_len, ← List.flatMap_def, ← ht]; omega)) (by rw [ht, List.flatMap_def])) ea_nil)) (by show 2 ≤ 100000; decide)) fun q H5 hq e5 h5 => k q H5 (((e2.trans e3).trans e4).trans e5) h5
        · rintro i x H5 ⟨z, y1, y2, rfl, hy1, hy2, hz⟩
          obtain ⟨q1, hq1, rfl⟩ := at_map hy1
          obtain ⟨q2, hq2, rfl⟩ := at_map hy2
          rw [hq1] at hq2
          cases hq2
          exact ⟨q1, hq1, z, rfl, hz⟩
        · rintro q x H5 Q' ⟨z, rfl, hz⟩ k'
          exact ⟨z, _, rfl, st_of hz, rfl, _, _, rfl, _, [], rfl, rfl, k'⟩
end
end K24
set_option Elab.async false
set_option linter.all false
set_option maxRecDepth 100000
set_option maxHeartbeats 2000000
/-! repr of any plain data -/
namespace Wd
open PySem PySem.Spec PyProof.Rows L2 Evl Wc Wt Wg
section
variable {X : Cx}
def rReprD (K : PySem.W.Frag) : List V → Hp → VK → Prop := fun xs H Q => ∃ (v : V) (d : PyData), xs = [v] ∧ Dp K H v d ∧ d.showable = true ∧ d.hasDict = false ∧ d.depth ≤ 50 ∧ d.shown.length ≤ sizeLine ∧ Q (T d.shown.cps.toList) H
theorem cr_reprD (hgd : X.A.guards = some []) (hu : X.A.units + 64 < cLine) : CallR X (.builtin "repr") (rReprD X.K) := by
  intro pins s σ H xs us Q I r h
  obtain ⟨v, d, rfl, hd, h1, h2, h3, h4, q⟩ := h
  obtain ⟨u, rfl, rv⟩ := vals1 r
  have fin : ∀ (tk : Nat) (t : Tok), EP X pins σ Q (.str d.shown t) { s with toks := tk } := fun tk t => ⟨T d.shown.cps.toList, H, I.tok _, ⟨t, congrArg (fun z => Value.str z t) (SX.S_tl d.shown).symm⟩, q⟩
  cases hd with
  | non =>
    obtain rfl : u = Value.none := rv
    exact PySem.P.repr_of_none (fin _ _)
  | bl b =>
    obtain rfl : u = Value.bool b := rv
    exact PySem.P.repr_of_bool (fin _ _)
  | int i =>
    obtain ⟨t, rfl⟩ := (show ∃ t, u = Value.int i t from rv)
    exact PySem.P.repr_of_int (of_decide_eq_true h1) (fin _ _)
  | str x =>
    obtain ⟨t, rfl⟩ := (show ∃ t, u = Value.str x t from rv)
    exact PySem.P.repr_of_str (fin _ _) h4
  | lst ha hs =>
    obtain ⟨as, rd⟩ := Dp.reads I _ _ _ (.lst ha hs) rv
    obtain rfl : u = Value.ref _ := rv
    refine repr_of_reads' rd h1 (fun z => by rw [h2] at z; cases z) hgd (by omega) (fun b o e => e) (fun h' u tk hk => ?_) h4
    exact ⟨T _, H, I.kept (t' := tk) hk, ⟨u, congrArg (fun z => Value.str z u) (SX.S_tl _).symm⟩, q⟩
  | tup ha hs =>
    obtain ⟨as, rd⟩ := Dp.reads I _ _ _ (.tup ha hs) rv
    obtain rfl : u = Value.ref _ := rv
    refine repr_of_reads' rd h1 (fun z => by rw [h2] at z; cases z) hgd (by omega) (fun b o e => e) (fun h' u tk hk => ?_) h4
    exact ⟨T _, H, I.kept (t' := tk) hk, ⟨u, congrArg (fun z => Value.str z u) (SX.S_tl _).symm⟩, q⟩
end
theorem rc_reprD {K : PySem.W.Frag} {H : Hp} {v : V} {d : PyData} (h : ∀ H1, Ex H H1 → Dp K H1 v d) (h1 : d.showable = true) (h2 : d.hasDict = false) (h3 : d.depth ≤ 50) (h4 : d.shown.length ≤ sizeLine) : RC (rReprD K) [v] H (T d.shown.cps.toList) := fun H1 e Q q => ⟨v, d, rfl, h H1 e, h1, h2, h3, h4, q H1 (Ex.refl _)⟩
end Wd
set_option Elab.async false
set_option linter.all false
set_option maxRecDepth 100000
set_option maxHeartbeats 4000000
namespace K24
open PySem PySem.Spec PyProof.Rows L2 Evl Wc Wt Wg Ws Wr We _root_.Wd
/-! ### small data, and readings that give it -/
structure Sd (k n : Nat) (d : PyData) : Prop where
  sh : d.showable = true
  nd : d.hasDict = false
  dp : d.depth ≤ k
  ln : d.shown.length ≤ n
theorem sd_all {k n : Nat} : ∀ {ds : List PyData}, (∀ d ∈ ds, Sd k n d) → PyData.showableAll ds = true ∧ PyData.hasDictAll ds = false ∧ PyData.depthAll ds ≤ k ∧ ((PyData.shownAll ds).map (·.length)).sum ≤ ds.length * n ∧ (PyData.shownAll ds).length = ds.length
  | [], _ => ⟨rfl, rfl, Nat.zero_le _, Nat.zero_le _, rfl⟩
  | d :: ds, h => by
    obtain ⟨h1, h2, h3, h4, h5⟩ := sd_all (ds := ds) (fun e he => h e (List.mem_cons_of_mem _ he))
    have g := h d List.mem_cons_self
    refine ⟨?_, ?_, ?_, ?_, ?_⟩
    · rw [PyData.showableAll, g.sh, h1]; rfl
    · rw [PyData.hasDictAll, g.nd, h2]; rfl
    · rw [PyData.depthAll]; exact Nat.max_le.mpr ⟨g.dp, h3⟩
    · rw [PyData.shownAll, List.map_cons, List.sum_cons, List.length_cons, Nat.succ_mul]
      have := g.ln
      omega
    · rw [PyData.shownAll, List.length_cons, List.length_cons, h5]
theorem sd_list {k n : Nat} {ds : List PyData} (h : ∀ d ∈ ds, Sd k n d) (hl : ds.length ≤ 12) (hn : n ≤ 1000) : Sd (k + 1) 20000 (.list ds) := by
  obtain ⟨h1, h2, h3, h4, h5⟩ := sd_all h
  have h6 : ds.length * n ≤ 12 * 1000 := Nat.mul_le_mul hl hn
  refine ⟨?_, ?_, ?_, ?_⟩
  · rw [PyData.showable]; exact h1
  · rw [PyData.hasDict]; exact h2
  · rw [PyData.depth]; omega
  · rw [PyData.shown]
    refine Nat.le_trans (PySem.listText_len_le _) ?_
    rw [h5]
    omega
theorem sd_tup {k n : Nat} {ds : List PyData} (h : ∀ d ∈ ds, Sd k n d) (hl : ds.length ≤ 12) (hn : n ≤ 20) : Sd (k + 1) 500 (.tuple ds) := by
  obtain ⟨h1, h2, h3, h4, h5⟩ := sd_all h
  have h6 : ds.length * n ≤ 12 * 20 := Nat.mul_le_mul hl hn
  refine ⟨?_, ?_, ?_, ?_⟩
  · rw [PyData.showable]; exact h1
  · rw [PyData.hasDict]; exact h2
  · rw [PyData.depth]; omega
  · rw [PyData.shown]
    refine Nat.le_trans (PySem.tupleText_len_le _) ?_
    rw [h5]
    omega
theorem int_small : ∀ n < 502, (PyData.shown (.int ((n : Nat) : Int))).length ≤ 4 ∧ PyData.showable (.int ((n : Nat) : Int)) = true := by decide +kernel
theorem sd_int {n : Nat} (h : n ≤ 500) : Sd 0 20 (.int (n : Int)) := by
  obtain ⟨g1, g2⟩ := int_small n (by omega)
  exact ⟨g2, rfl, Nat.zero_le _, Nat.le_trans g1 (by decide)⟩
theorem sd_none : Sd 0 20 .none := ⟨rfl, rfl, Nat.zero_le _, by decide +kernel⟩
theorem sd_told : Sd 0 20 (dT xTold) := ⟨rfl, rfl, Nat.zero_le _, by decide +kernel⟩
theorem Sd.up {k n k' n' : Nat} {d : PyData} (h : Sd k n d) (hk : k ≤ k') (hn : n ≤ n') : Sd k' n' d := ⟨h.sh, h.nd, Nat.le_trans h.dp hk, Nat.le_trans h.ln hn⟩
section
variable {K : PySem.W.Frag} {σ : L2.St} {H H1 : Hp} {te ta tb : TE} {d d1 d2 : PyData}
/-- a reading gives a thing with the data d -/
def EvD (K : PySem.W.Frag) (te : TE) (σ : L2.St) (H : Hp) (d : PyData) : Prop := ∀ H1, Ex H H1 → ∀ Q : VK, (∀ v H2, Ex H1 H2 → (∀ H3, Ex H2 H3 → Dp K H3 v d) → Q v H2) → te σ H1 Q
theorem EvD.ex (h : EvD K te σ H d) (e : Ex H H1) : EvD K te σ H1 d := fun H2 e2 => h H2 (e.trans e2)
theorem evd_ev {v : V} (h : Ev te σ H v) (hd : ∀ H3, Ex H H3 → Dp K H3 v d) : EvD K te σ H d := fun H1 e Q q => h H1 e Q fun H2 e2 => q v H2 e2 fun H3 e3 => hd H3 ((e.trans e2).trans e3)
/-- a new tuple of flat things -/
theorem evd_tup {xs : List V} {ds : List PyData} (h : EvU te σ H xs) (hd : ∀ H3, DpAll K H3 xs ds) : EvD K te σ H (.tuple ds) := fun H1 e Q q => h H1 e Q fun p H2 hp e2 h2 => q _ H2 e2 fun H3 e3 => .tup (st_of (e3 _ _ h2)) (hd H3)
/-- a displayed pair as a list -/
theorem evd_pair (h1 : EvD K ta σ H d1) (h2 : EvD K tb σ H d2) : EvD K (tLst (tCons ta (tCons tb tNil))) σ H (.list [d1, d2]) := fun H1 e Q q => h1 H1 e _ fun x H2 e2 x2 => h2 H2 (e.trans e2) _ fun y H3 e3 y3 => ⟨by show 2 ≤ sizeLine; decide, fun p hp => q _ _ ((e2.trans e3).trans (Ex.new hp)) fun H4 e4 => .lst (sq_of (e4 _ _ upd_same)) (.cons (x2 H4 ((e3.trans (Ex.new hp)).trans e4)) (.cons (y3 H4 ((Ex.new hp).trans e4)) .nil))⟩
/-- repr(x) != repr(y), of like data -/
theorem et_reprNe {k n : Nat} (hs : Sd k n d) (hk : k ≤ 50) (hn : n ≤ 100000) (ha : EvD K ta σ H d) (hb : EvD K tb σ H d) : EvT (tTest (tOp rNeT (tCB (rReprD K) (tCons ta tNil)) (tCB (rReprD K) (tCons tb tNil)))) σ H false := by
  have r : ∀ {te : TE}, EvD K te σ H d → Ev (tCB (rReprD K) (tCons te tNil)) σ H (T d.shown.cps.toList) := fun h H1 e Q q => h H1 e _ fun v H2 e2 hv => rc_reprD hv hs.sh hs.nd (Nat.le_trans hs.dp hk) (by have := hs.ln; rw [sizeLine_eq]; omega) H2 (Ex.refl _) Q fun H3 e3 => q H3 (e2.trans e3)
  refine et_is (et_test (ev_op (r ha) (r hb) rv_neT)) ?_
  rw [decide_eq_true rfl]
  rfl
theorem dp_nums (ns : List Nat) : DpAll K H (numV ns) (ns.map dN) := by
  induction ns with
  | nil => exact .nil
  | cons n ns ih => exact .cons (.int _) ih
end
def dF : List Nat → PyData
  | [] => .none
  | a :: _ => .int (a : Int)
theorem dp_firstV {K : PySem.W.Frag} {H : Hp} (l : List Nat) : Dp K H (firstV l) (dF l) := by
  cases l with
  | nil => exact .non
  | cons a l => exact .int _
theorem sd_firstV {l : List Nat} (h : ∀ a ∈ l, a ≤ 500) : Sd 0 20 (dF l) := by
  cases l with
  | nil => exact sd_none
  | cons a l => exact sd_int (h a List.mem_cons_self)
end K24
set_option Elab.async false
set_option linter.all false
set_option maxRecDepth 100000
set_option maxHeartbeats 4000000
namespace K24
open PySem PySem.Spec PyProof.Rows L2 Evl Wc Wt Wg Ws Wr We _root_.Wd
theorem last_max : ∀ {l : List Nat} {m y : Nat}, l.Pairwise (· < ·) → l.getLast? = some m → y ∈ l → y ≤ m
  | [], _, _, _, h, _ => by cases h
  | [a], m, y, _, h, hy => by
    have : a = m := by simpa using h
    rw [List.mem_singleton] at hy
    omega
  | a :: b :: l, m, y, hp, h, hy => by
    rw [List.getLast?_cons_cons] at h
    rw [List.pairwise_cons] at hp
    rcases List.mem_cons.mp hy with rfl | hy
    · have h1 := hp.1 b List.mem_cons_self
      have h2 := last_max hp.2 h List.mem_cons_self
      omega
    · exact last_max hp.2 h hy
theorem from_spec {lot : List Tx} (hL : IsLot lot) : fromL lot ≤ 200 ∧ gL lot ∣ fromL lot ∧ (∀ n, fromL lot ≤ n → gL lot ∣ n → Rc (lens lot) n) ∧ (0 < fromL lot → ¬ Rc (lens lot) (fromL lot - gL lot)) := by
  have hg1 := g_pos hL
  have hga := g_le hL
  have ha := a_in hL
  have hb := b_in hL
  have hab : aL lot * bL lot ≤ 12 * 12 := Nat.mul_le_mul ha.2 hb.2
  have hmem : ∀ m, m ∈ missL lot ↔ ∃ i, i < (aL lot * bL lot + bL lot) / gL lot + 1 ∧ ¬ Rc (lens lot) (i * gL lot) ∧ i * gL lot = m := fun m => by
    unfold missL
    rw [List.mem_map]
    constructor
    · rintro ⟨i, hi, rfl⟩
      rw [List.mem_filter, List.mem_range] at hi
      exact ⟨i, hi.1, rb_false.mp (by simpa using hi.2), rfl⟩
    · rintro ⟨i, h1, h2, rfl⟩
      exact ⟨i, List.mem_filter.mpr ⟨List.mem_range.mpr h1, by rw [rb_false.mpr h2]; rfl⟩, rfl⟩
  have hasc : (missL lot).Pairwise (· < ·) := by
    unfold missL
    rw [List.pairwise_map]
    exact (List.Pairwise.filter _ List.pairwise_lt_range).imp fun h => Nat.mul_lt_mul_of_pos_right h hg1
  have hcov : ∀ n, gL lot ∣ n → ¬ Rc (lens lot) n → n ∈ missL lot := fun n hd hn => by
    obtain ⟨k, rfl⟩ := hd
    have hlt : gL lot * k < aL lot * bL lot := Nat.lt_of_not_le fun z => hn (all_on hL z (Nat.dvd_mul_right _ _))
    rw [Nat.mul_comm] at hn hlt ⊢
    refine (hmem _).mpr ⟨k, ?_, hn, rfl⟩
    have : k ≤ (aL lot * bL lot + bL lot) / gL lot := by
      rw [Nat.le_div_iff_mul_le hg1]
      omega
    omega
  unfold fromL
  cases hl : (missL lot).getLast? with
  | none =>
    rw [List.getLast?_eq_none_iff] at hl
    refine ⟨Nat.zero_le _, Nat.dvd_zero _, fun n _ hd => ?_, fun h => absurd h (Nat.lt_irrefl _)⟩
    refine Classical.byContradiction fun z => ?_
    have := hcov n hd z
    rw [hl] at this
    cases this
  | some m =>
    have hm : m ∈ missL lot := List.mem_of_getLast? hl
    obtain ⟨i, h1, h2, h3⟩ := (hmem m).mp hm
    have hle : m ≤ aL lot * bL lot + bL lot := by
      rw [← h3]
      exact Nat.le_trans (Nat.mul_le_mul_right _ (Nat.le_of_lt_succ h1)) (Nat.div_mul_le_self _ _)
    refine ⟨by show m + gL lot ≤ 200; omega, ?_, fun n hn hd => ?_, fun _ => ?_⟩
    · show gL lot ∣ m + gL lot
      rw [← h3]
      exact (Nat.dvd_add_right (Nat.dvd_mul_left _ _)).mpr (Nat.dvd_refl _)
    · refine Classical.byContradiction fun z => ?_
      have := last_max hasc hl (hcov n hd z)
      have hn : m + gL lot ≤ n := hn
      omega
    · show ¬ Rc (lens lot) (m + gL lot - gL lot)
      rw [Nat.add_sub_cancel, ← h3]
      exact h2
theorem Rc_lns {lot : List Tx} (hL : IsLot lot) {n : Nat} : Rc (lens lot) n ↔ Rc (lot.map List.length) n := ⟨Rc.sub fun l hl => (mem_lens hL).mp hl, Rc.sub fun l hl => (mem_lens hL).mpr hl⟩
/-- some lists: reached lengths -/
theorem cnt_some {lot : List Tx} (hL : IsLot lot) {n : Nat} (h : fromL lot ≤ n) (hd : gL lot ∣ n) : cntA lot n ≠ 0 := by
  have := (cntA_pos hL.pos n).mpr ((Rc_lns hL).mp ((from_spec hL).2.2.1 n h hd))
  omega
theorem cnt_none {lot : List Tx} (hL : IsLot lot) (h : 0 < fromL lot) : cntA lot (fromL lot - gL lot) = 0 := by
  refine Classical.byContradiction fun z => (from_spec hL).2.2.2 h ((Rc_lns hL).mpr ((cntA_pos hL.pos _).mp (by omega)))
/-! ### what is no lot -/
theorem asc_pw : ∀ {ws : List Tx}, ascB ws = true → ws.Pairwise (· < ·)
  | [], _ => .nil
  | [a], _ => by simp
  | a :: b :: l, h => by
    have h' : (decide (a < b) && ascB (b :: l)) = true := h
    rw [Bool.and_eq_true, decide_eq_true_eq] at h'
    have ih := asc_pw h'.2
    refine List.pairwise_cons.mpr ⟨fun c hc => ?_, ih⟩
    rcases List.mem_cons.mp hc with rfl | hc
    · exact h'.1
    · exact List.lt_trans h'.1 ((List.pairwise_cons.mp ih).1 c hc)
theorem twice_no {r : List Tx} (hr : r ≠ []) : lotB (some (r ++ r)) = false := by
  have : ascB (r ++ r) = false := by
    cases h : ascB (r ++ r) with
    | false => rfl
    | true =>
      exfalso
      have hp := asc_pw h
      cases r with
      | nil => exact hr rfl
      | cons a l =>
        rw [List.pairwise_append] at hp
        exact List.lt_irrefl a (hp.2.2 a List.mem_cons_self a List.mem_cons_self)
  rw [lotB_some, this, Bool.and_false, Bool.and_false]
theorem empty_no (ws : List Tx) : lotB (some (ws ++ [[]])) = false := by
  have : (ws ++ [[]]).all wordB = false := by
    rw [List.all_append]
    have : ([[]] : List Tx).all wordB = false := rfl
    rw [this, Bool.and_false]
  rw [lotB_some, this, Bool.false_and, Bool.and_false]
section
variable {K : PySem.W.Frag} {σ : L2.St} {H : Hp} {te : TE} {D : Ends} {tz tu : TS} {g : TG}
theorem q_forOf (h : te σ H fun v H1 => tSeq (tFor (iList K (fun _ H' Q' => Q' v H')) g tu) tz D σ H1) : tSeq (tFor (iList K te) g tu) tz D σ H := h
/-- what a call hands back as a new tuple -/
theorem eu_call {sp : Sp} {vs xs : List V} {ta : TA} (h : EvA ta σ H vs) (hs : ∀ H1 Q, Ex H H1 → RetU xs H1 Q → sp (vs ++ []) H1 Q E0) : EvU (tCall sp [] E0 ta) σ H xs := fun H1 e Q q => h H1 e _ fun H2 e2 => hs H2 _ (e.trans e2) fun p H3 hp e3 h3 => q p H3 (fresh_back e2 hp) (e2.trans e3) h3
theorem eu_callK0 {sp : Sp} {gV : List V → List V → List V} {vs xs : List V} {tk : TA} (h : EvA tk σ H vs) (hs : ∀ H1 Q, Ex H H1 → RetU xs H1 Q → sp (gV [] vs) H1 Q E0) : EvU (tCallK0 sp gV tk) σ H xs := fun H1 e Q q => h H1 e _ fun H2 e2 => hs H2 _ (e.trans e2) fun p H3 hp e3 h3 => q p H3 (fresh_back e2 hp) (e2.trans e3) h3
theorem ev_callK0 {sp : Sp} {gV : List V → List V → List V} {vs : List V} {tk : TA} {z : V} (h : EvA tk σ H vs) (hs : ∀ H1 Q, Ex H H1 → RetV z H1 Q → sp (gV [] vs) H1 Q E0) : Ev (tCallK0 sp gV tk) σ H z := fun H1 e Q q => h H1 e _ fun H2 e2 => hs H2 _ (e.trans e2) fun H3 e3 => q H3 (e2.trans e3)
/-- a pair that asked hands back -/
theorem evd_said {sp : Sp} {vs : List V} {ta : TA} {t : Tx} {v : V} {d : PyData} (h : EvA ta σ H vs) (hv : ∀ H3, Dp K H3 v d) (hs : ∀ H1 Q, Ex H H1 → Said t v H1 Q → sp (vs ++ []) H1 Q E0) : EvD K (tCall sp [] E0 ta) σ H (.tuple [dT t, d]) := fun H1 e Q q => h H1 e _ fun H2 e2 => hs H2 _ (e.trans e2) fun p H3 e3 h3 => q _ H3 (e2.trans e3) fun H4 e4 => .tup (st_of (e4 _ _ h3)) (.cons (.str _) (.cons (hv H4) .nil))
/-- enumerate of a new tuple -/
theorem src_enumU {xs : List V} {tl : TE} (h : EvU tl σ H xs) : Src (iEnumT K (tCons tl tNil)) σ H xs.length (fun _ => False) (fun i v Hb => ∃ p x, v = .ref p ∧ xs[i]? = some x ∧ Hb p = some (.tup [.int (i : Nat), x])) := fun H1 e R q =>
  h H1 e _ fun a H2 ha e2 h2 => (src_enumT (K := K) (tl := fun _ H' Q' => Q' (.ref a) H') (fun H3 e3 Q3 q3 => q3 H3 (Ex.refl _)) (st_of h2) : Src _ σ H2 _ _ _) H2 (Ex.refl _) R fun J H3 S e3 w hS => q J H3 S (e2.trans e3) w fun B Ha hB ea => hS B Ha (fun b hb => by
    have h1 := (hB b hb).1
    refine ⟨?_, ?_⟩
    · intro z
      cases hq : H b with
      | none => exact h1 hq
      | some o =>
        rw [(e.trans e2) _ _ hq] at z
        cases z
    · intro z
      have z : b = a := z
      rw [z] at h1
      exact h1 (fresh_back e ha)) ea
end
end K24
set_option Elab.async false
set_option linter.all false
set_option maxRecDepth 100000
set_option maxHeartbeats 4000000
namespace K24
open PySem PySem.Spec PyProof.Rows L2 Evl Wc Wt Wg Ws Wr We _root_.Wd
section
variable {K : PySem.W.Frag} {σ : L2.St} {H : Hp} {te ta tb tc : TE} {tq : TA} {D : Ends} {tz : TS} {v : V} {xs : List V} {Q : VK} {R : List V → Hp → Prop} {d d1 d2 d3 : PyData}
/-! things one by one -/
theorem a_c (k : tq σ H fun vs H1 => R (v :: vs) H1) : tCons (tC v) tq σ H R := k
theorem a_ev (h : Ev te σ H v) (k : ∀ H1, Ex H H1 → tq σ H1 fun vs H2 => R (v :: vs) H2) : tCons te tq σ H R := h H (Ex.refl _) _ k
theorem a_el (h : EvL te σ H xs) (k : ∀ p H1, H p = none → Ex H H1 → H1 p = some (.lst xs) → tq σ H1 fun vs H2 => R (.ref p :: vs) H2) : tCons te tq σ H R := h H (Ex.refl _) _ k
theorem a_eu (h : EvU te σ H xs) (k : ∀ p H1, H p = none → Ex H H1 → H1 p = some (.tup xs) → tq σ H1 fun vs H2 => R (.ref p :: vs) H2) : tCons te tq σ H R := h H (Ex.refl _) _ k
theorem a_nil (k : R [] H) : tNil σ H R := k
theorem l_lst {ta : TA} (k : ta σ H fun vs H1 => vs.length ≤ sizeLine ∧ ∀ p, H1 p = none → Q (.ref p) (upd H1 p (.lst vs))) : tLst ta σ H Q := k
theorem q_asgD {i : Nat} (h : EvD K te σ H d) (k : ∀ v H1, Ex H H1 → (∀ H3, Ex H1 H3 → Dp K H3 v d) → tz D (σ.set i (some v)) H1) : tSeq (tAsg te (gName i)) tz D σ H := h H (Ex.refl _) _ k
theorem evd_lst3 (h1 : EvD K ta σ H d1) (h2 : EvD K tb σ H d2) (h3 : EvD K tc σ H d3) : EvD K (tLst (tCons ta (tCons tb (tCons tc tNil)))) σ H (.list [d1, d2, d3]) := fun H1 e Q q => h1 H1 e _ fun x H2 e2 x2 => h2 H2 (e.trans e2) _ fun y H3 e3 y3 => h3 H3 ((e.trans e2).trans e3) _ fun z H4 e4 z4 => ⟨by show 3 ≤ sizeLine; decide, fun p hp => q _ _ (((e2.trans e3).trans e4).trans (Ex.new hp)) fun H5 e5 => .lst (sq_of (e5 _ _ upd_same)) (.cons (x2 H5 (((e3.trans e4).trans (Ex.new hp)).trans e5)) (.cons (y3 H5 ((e4.trans (Ex.new hp)).trans e5)) (.cons (z4 H5 ((Ex.new hp).trans e5)) .nil)))⟩
theorem ev_eqDD {e : PyData} (ha : EvD K ta σ H d) (hb : EvD K tb σ H e) (s1 : SeqAt.shaped d = true) (s2 : SeqAt.shaped e = true) (he : PyData.eqv d e = true) : Ev (tOp (rEqD K) ta tb) σ H (.bl true) := fun H1 e1 Q q => ha H1 e1 _ fun x H2 e2 hx => hb H2 (e1.trans e2) _ fun y H3 e3 hy => rv_eqD (d := d) (e := e) (b := true) (fun H4 e4 => hx H4 (e3.trans e4)) (fun H4 e4 => hy H4 e4) s1 s2 he H3 (Ex.refl _) Q fun H4 e4 => q H4 ((e2.trans e3).trans e4)
end
/-- what is no lot -/
def NoLot (H : Hp) (x : V) : Prop := ∃ o, Th H x o ∧ lotB o = false ∧ Sm o
theorem NoLot.ex {H H1 : Hp} {x : V} (h : NoLot H x) (e : Ex H H1) : NoLot H1 x := by
  obtain ⟨o, h1, h2⟩ := h
  exact ⟨o, h1.ex e, h2⟩
section
variable {K : PySem.W.Frag} {fa : Addr} {σ : L2.St} {H : Hp} {Q : VK}
theorem wp_wrong {pl : Addr} {lot : List Tx} {B : Nat} (h0 : σ[0]? = some (some (.ref fa))) (h1 : σ[1]? = some (some (.ref pl))) (hL : LotAt pl lot H) (G : GF fa B H) (hB : 1 ≤ B) (k : ∀ x H', NoLot H' x → Rf fa 1 H H' → Q x H') :
    tCall (sp_one K) [] E0 (tCons (tVar 0) (tCons (tLst (tCons (tC .non) (tCons (tCB (rListS K) (tCons (tVar 1) tNil)) (tCons (tTup tNil) (tCons (tOp (rCatA K) (tVar 1) (tTup (tCons (tC (T [])) tNil))) (tCons (tOp (rRepT K) (tRevU K (tVar 1)) (tC (.int 2))) (tCons (tC (T [97])) (tCons (tC (.int 0)) tNil)))))))) tNil)) σ H Q := by
  have hne : lot.map T ≠ [] := fun z => hL.2.ne (List.map_eq_nil_iff.mp z)
  have hfew := hL.2.few
  have hwd : ∀ t ∈ lot, t.length ≤ 20000 := fun t ht => by
    have := (hL.2.wd t ht).1
    omega
  refine a_ev (ev_var h0) fun Ha ea => ?_
  refine l_lst ?_
  refine a_c ?_
  refine a_el (el_listU (ev_var h1) (ea _ _ hL.1)) fun p1 H1 hp1 e1 g1 => ?_
  refine a_eu (eu_tup ea_nil (by decide)) fun p2 H2 hp2 e2 g2 => ?_
  refine a_eu (eu_catA (xs := lot.map T) (ys := [T []]) (ev_var h1) (((ea.trans e1).trans e2) _ _ hL.1) (eu_tup (ea_cons ev_c ea_nil) (by show 1 ≤ 100000; decide)) hne (by simp) (by rw [List.length_map]; show _ + 1 ≤ _; omega)) fun p3 H3 hp3 e3 g3 => ?_
  refine a_eu (eu_mul (n := 2) (eu_revU (xs := lot.map T) (ev_var h1) ((((ea.trans e1).trans e2).trans e3) _ _ hL.1) hne) ev_c (fun z => hne (List.reverse_eq_nil_iff.mp z)) (by decide) (by decide) (by rw [List.length_reverse, List.length_map]; omega)) fun p4 H4 hp4 e4 g4 => ?_
  refine a_c (a_c (a_nil ⟨by show 7 ≤ sizeLine; decide, fun pw hpw => ?_⟩))
  have eN := Ex.new (o := HO.lst [.non, .ref p1, .ref p2, .ref p3, .ref p4, T [97], .int 0]) hpw
  have eA := (((ea.trans e1).trans e2).trans e3).trans e4
  have npw : pw ≠ fa := (G.ex eA).new hpw
  have k1 := eN _ _ (((e2.trans e3).trans e4) _ _ g1)
  have k2 := eN _ _ ((e3.trans e4) _ _ g2)
  have k3 := eN _ _ (e4 _ _ g3)
  have k4 := eN _ _ g4
  have e0 := eA.trans eN
  have hw : (upd H4 pw (.lst [.non, .ref p1, .ref p2, .ref p3, .ref p4, T [97], .int 0])) pw = some (.lst [.non, .ref p1, .ref p2, .ref p3, .ref p4, T [97], .int 0]) := upd_same
  generalize upd H4 pw (.lst [.non, .ref p1, .ref p2, .ref p3, .ref p4, T [97], .int 0]) = H5 at k1 k2 k3 k4 e0 hw ⊢
  clear eN
  have n1 : p1 ≠ fa := (G.ex ea).new hp1
  have n2 : p2 ≠ fa := (G.ex (ea.trans e1)).new hp2
  have n3 : p3 ≠ fa := (G.ex ((ea.trans e1).trans e2)).new hp3
  have n4 : p4 ≠ fa := (G.ex (((ea.trans e1).trans e2).trans e3)).new hp4
  refine ⟨fa, (G.ex e0).mono hB, .inr ⟨pw, _, rfl, .inl (sq_of hw), npw, by simp, by simp, fun x H' hx R => ?_⟩⟩
  have RR := Rf.pre e0 R
  have c3 : (lot.map T ++ [T []]) = (lot ++ [[]]).map T := by rw [List.map_append]; rfl
  have c4 : (List.replicate 2 (lot.map T).reverse).flatten = (lot.reverse ++ lot.reverse).map T := by
    rw [List.map_append, List.map_reverse]
    simp [List.replicate]
  refine k x H' ?_ RR
  simp only [List.mem_cons, List.not_mem_nil, or_false] at hx
  rcases hx with rfl | rfl | rfl | rfl | rfl | rfl | rfl
  · exact ⟨none, .non, rfl, trivial⟩
  · exact ⟨none, .lst (R.at_ k1 n1), rfl, trivial⟩
  · exact ⟨some [], .tup (R.at_ k2 n2), rfl, by simp [Sm]⟩
  · rw [c3] at k3
    refine ⟨some (lot ++ [[]]), .tup (R.at_ k3 n3), empty_no lot, by rw [List.length_append]; show _ + 1 ≤ _; omega, fun t ht => ?_⟩
    rcases List.mem_append.mp ht with z | z
    · exact hwd t z
    · rw [List.mem_singleton.mp z]
      exact Nat.zero_le _
  · rw [c4] at k4
    refine ⟨some (lot.reverse ++ lot.reverse), .tup (R.at_ k4 n4), twice_no fun z => hL.2.ne (List.reverse_eq_nil_iff.mp z), by rw [List.length_append, List.length_reverse]; omega, fun t ht => ?_⟩
    rcases List.mem_append.mp ht with z | z <;> exact hwd t (List.mem_reverse.mp z)
  · exact ⟨none, .str _, rfl, trivial⟩
  · exact ⟨none, .int _, rfl, trivial⟩
end
end K24
set_option Elab.async false
set_option linter.all false
set_option maxRecDepth 100000
set_option maxHeartbeats 16000000
set_option exponentiation.threshold 5000
namespace K24
open PySem PySem.Spec PyProof.Rows L2 Evl Wc Wt Wg Ws Wr We _root_.Wd
theorem kb_recurrence_0 : KB "recurrence" st_recurrence 0 ["lot"] ["lot"] sw1 sw1 := kb1 rfl (fun _ _ _ _ _ _ a => rfl)
theorem kb_all_lengths_0 : KB "all_lengths" st_all_lengths 0 ["lot"] ["lot"] sw1 sw1 := kb1 rfl (fun _ _ _ _ _ _ a => rfl)
theorem kb_first_longer_2_1_0 : KB "first_longer" st_first_longer 0 ["lot", "other", "count"] ["count", "other", "lot"] sw3 sw3 := kb3 rfl (fun _ _ _ _ _ _ a b c => rfl)
abbrev sc_due : Scope := { kind := .function, names := [(".0", .local), ("many", .cell), ("len", .globalImplicit), ("lot", .cell)], isGenerator := false, isCoroutine := false }
def sp_law_right : Sp := fun vs H Q _ => ∃ (fa : Addr), vs = [.ref fa] ∧ GF fa 5000 H ∧ ∀ H', Rf fa 5000 H H' → Q (.bl true) H'
theorem sd_numsT {ns : List Nat} (h : ∀ n ∈ ns, n ≤ 500) (hl : ns.length ≤ 12) : Sd 1 500 (.tuple (ns.map dN)) := sd_tup (k := 0) (n := 20) (fun d hd => by
  obtain ⟨n, hn, rfl⟩ := List.mem_map.mp hd
  exact sd_int (h n hn)) (by rw [List.length_map]; exact hl) (by decide)
theorem sd_twice {d : PyData} (h : Sd 1 500 d) : Sd 2 20000 (.list [d, d]) := sd_list (k := 1) (n := 500) (fun e he => by
  simp at he
  rw [he]
  exact h) (by simp) (by decide)
theorem longO_small {l1 l2 : List Tx} {n : Nat} (hn : n ≤ 400) : ∀ a ∈ longO l1 l2 n, a ≤ 500 := fun a ha => by
  have := List.mem_range.mp (List.mem_filter.mp ha).1
  omega
theorem sd_found {l : List Nat} (h : ∀ a ∈ l, a ≤ 500) : Sd 2 20000 (.list [.tuple [dT xTold, dF l], dF l]) := sd_list (k := 1) (n := 500) (fun e he => by
  simp at he
  rcases he with rfl | rfl
  · refine sd_tup (k := 0) (n := 20) (fun e he => ?_) (by simp) (by decide)
    simp at he
    rcases he with rfl | rfl
    · exact sd_told
    · exact sd_firstV h
  · exact (sd_firstV h).up (by decide) (by decide)) (by simp) (by decide)
section
variable {K : PySem.W.Frag} {σ : L2.St} {H : Hp} {ta tb tc : TE} {D : Ends} {tz tu : TS} {g : TG} {v1 v2 : V}
theorem q_forOf3 (h1 : Ev ta σ H v1) (h2 : Ev tb σ H v2) (k : ∀ H1, Ex H H1 → tc σ H1 fun v3 H2 => [v1, v2, v3].length ≤ sizeLine ∧ ∀ p, H2 p = none → tSeq (tFor (iList K (fun _ H' Q' => Q' (.ref p) H')) g tu) tz D σ (upd H2 p (.lst [v1, v2, v3]))) : tSeq (tFor (iList K (tLst (tCons ta (tCons tb (tCons tc tNil))))) g tu) tz D σ H := h1 H (Ex.refl _) _ fun H1 e1 => h2 H1 e1 _ fun H2 e2 => k H2 (e1.trans e2)
end
theorem NoLot.rf {fa : Addr} {m B : Nat} {H H1 : Hp} {x : V} (h : NoLot H x) (R : Rf fa m H H1) (G0 : GF fa 0 H) (G : GF fa B H1) : NoLot H1 x := by
  obtain ⟨o, h1, h2⟩ := h
  refine ⟨o, ?_, h2⟩
  cases h1 with
  | tup h => exact .tup (R.at_ h (G0.ofTup h))
  | @lst a xs h =>
    by_cases e : a = fa
    · subst e
      obtain ⟨n, _, a', b, c, ee, g1, _⟩ := G
      exact .lst g1
    · exact .lst (R.at_ h e)
  | non => exact .non
  | int i => exact .int i
  | str s => exact .str s
theorem lensO_small {lot : List Tx} (hL : IsLot lot) : (∀ n ∈ lensO lot, n ≤ 500) ∧ (lensO lot).length ≤ 12 := by
  unfold lensO
  refine ⟨fun n hn => ?_, by rw [List.length_map, List.length_range]; exact maxL_12 hL⟩
  obtain ⟨i, _, rfl⟩ := List.mem_map.mp hn
  have := cntL_le lot (i + 1)
  have := hL.few
  omega
section
variable {P : Program} {w : World} {K : PySem.W.Frag} {mg : Str → Option Value} {base : Heap}
theorem ok__law_right {f CL CN : Addr} {fd : FuncData} (F : Fun K "_law_right" "_law_right" st__law_right f fd) (M : Md K mg) (C__law_draw : Cal P w K mg base "_law_draw" st__law_draw 1 ["feed", "many"] sp_draw) (C__law_one : Cal P w K mg base "_law_one" st__law_one 2 ["feed", "things"] (sp_one K)) (C__law_lot : Cal P w K mg base "_law_lot" st__law_lot 7 ["feed"] sp_lot) (C__law_near_lot : Cal P w K mg base "_law_near_lot" st__law_near_lot 8 ["feed", "lot"] sp_near_lot) (C__law_lists : Cal P w K mg base "_law_lists" st__law_lists 1 ["lot", "most"] sp_lists) (C__law_step : Cal P w K mg base "_law_step" st__law_step 2 ["lot"] sp_step_and_from) (C__law_asked : Cal P w K mg base "_law_asked" st__law_asked 6 ["lot", "other", "count"] sp_asked)
    (C_recurrence : Cal P w K mg base "recurrence" st_recurrence 5 ["lot"] (calm sp_recurrence)) (C_count_lists : Cal P w K mg base "count_lists" st_count_lists 5 ["lot", "count"] (calm sp_count_lists)) (C_first_longer : Cal P w K mg base "first_longer" st_first_longer 5 ["lot", "other", "count"] (calm (sp_first_longer CL CN))) (C_all_lengths : Cal P w K mg base "all_lengths" st_all_lengths 5 ["lot"] (calm sp_step_and_from)) : FnOkG P w K mg base 9 f fd ["feed"] sp_law_right := by
  have nd := sc__law_right.nd
  refine Fun.okG F sc__law_right (fun vs H Q E h => ?_) (fun cdv A outer s H vs Q E hr hgd h => ?_)
  · obtain ⟨_, rfl, _⟩ := h
    rfl
  · obtain ⟨fa, rfl, G, k⟩ := h
    refine ⟨_, (pss_cons (ps_set (i := 1) nd rfl (Or.inr rfl) (pe_cl C__law_lot hr (pa_cons (pv 0) pa_nil)))
  (pss_cons (ps_par (i := 2) (j := 3) rfl nd rfl rfl (by decide) rfl rfl (pa_cons (pe_cl C__law_near_lot hr (pa_cons (pv 0) (pa_cons (pv 1) pa_nil))) (pa_cons (pe_cl C__law_one hr (pa_cons (pv 0) (pa_cons (pe_lst (pa_cons pe_int (pa_cons pe_int (pa_cons pe_int (pa_cons pe_int (pa_cons pe_int pa_nil)))))) pa_nil))) pa_nil)) (by rfl))
  (pss_cons (ps_set (i := 4) nd rfl (Or.inl rfl) (pe_callB (kcr K (r := rMax) (cr_max rfl)) (by rfl) M.n_max boot_max (pa_cons (pe_lc (own := [("word", 5)]) rfl nd (kit K (pi_tup (pv 1))) (blkOk_by (N := N__law_right) (sc := defScope st__law_right) (by decide +kernel)) (fun _ _ _ _ _ => (pg_name (i := 5) nd rfl (Or.inl rfl))) (fun _ _ _ _ _ => pts_nil) (fun _ _ _ _ _ => (pe_callB cr_lenT (by rfl) M.n_len boot_len (pa_cons (pv 5) pa_nil)))) pa_nil)))
  (pss_cons (ps_set (i := 6) nd rfl (Or.inl rfl) (pe_callTy (kcr K (r := rTupS) call_tuple_of) (by rfl) M.n_tuple boot_tuple (pa_cons (pe_lc (own := [("many", 7)]) rfl nd (pi_range2 (by rfl) M.n_range (pa_cons pe_int (pa_cons (pe_op op_add (pv 4) pe_int) pa_nil))) (blkOk_by (N := N__law_right) (sc := defScope st__law_right) (by decide +kernel)) (fun _ _ _ _ _ => (pg_name (i := 7) nd rfl (Or.inr rfl))) (fun _ _ _ _ _ => pts_nil) (fun _ _ _ _ _ => (pe_callB (kcr K (r := rLenS) call_len_seq) (by rfl) M.n_len boot_len (pa_cons (pe_lc (own := [("word", 5)]) rfl nd (kit K (pi_tup (pv 1))) (blkOk_by (N := N__law_right) (sc := sc_due) (by decide +kernel)) (fun _ _ _ _ _ => (pg_name (i := 5) nd rfl (Or.inl rfl))) (fun _ _ _ _ _ => (pts_one (pt_cmpR op_eqI (pe_callB cr_lenT (by rfl) M.n_len boot_len (pa_cons (pv 5) pa_nil)) (pv 7) (nomark _)))) (fun _ _ _ _ _ => (pv 5))) pa_nil)))) pa_nil)))
  (pss_cons (ps_if (pt_cmpR op_neT (pe_callB (kcr K (r := rReprD) (cr_reprD hgd hr.units)) (by rfl) M.n_repr boot_repr (pa_cons (pe_lst (pa_cons (pe_cl C_recurrence hr (pa_cons (pv 1) pa_nil)) (pa_cons (pe_clK0 C_recurrence (kb_recurrence_0) hr (pk_cons (pv 1) pk_nil)) pa_nil))) pa_nil)) (pe_callB (kcr K (r := rReprD) (cr_reprD hgd hr.units)) (by rfl) M.n_repr boot_repr (pa_cons (pe_lst (pa_cons (pv 6) (pa_cons (pv 6) pa_nil))) pa_nil)) (nomark _))
  (pss_one (ps_ret pe_bl))
  pss_nil)
  (pss_cons (ps_asg (pe_tup (pa_cons (pe_cl C__law_lists hr (pa_cons (pv 1) (pa_cons (pv 3) pa_nil))) (pa_cons (pe_cl C__law_lists hr (pa_cons (pv 2) (pa_cons (pv 3) pa_nil))) pa_nil))) (kgt K (n := 2) (pg_tup rfl (pgs_cons (pg_name (i := 8) nd rfl (Or.inr rfl)) (pgs_cons (pg_name (i := 9) nd rfl (Or.inl rfl)) pgs_nil)))))
  (pss_cons (ps_for PassesOwn.never rfl (kil K (pi_list (pe_lst (pa_cons pe_int (pa_cons (pv 3) (pa_cons (pe_op op_add pe_int (pe_cl C__law_draw hr (pa_cons (pv 0) (pa_cons (pv 3) pa_nil)))) pa_nil)))))) (pg_name (i := 7) nd rfl (Or.inr rfl))
  (pss_cons (ps_setLc (i := 10) (own := [("at", 11), ("number", 12)]) rfl nd rfl rfl (sw_true rfl rfl rfl (by decide +kernel)) (kiet K (pi_enumT (by rfl) M.n_enumerate (pa_cons (pe_cl C_recurrence hr (pa_cons (pv 1) pa_nil)) pa_nil))) (blkOk_by (N := N__law_right) (sc := defScope st__law_right) (by decide +kernel)) (fun _ _ _ _ _ => (kgt K (n := 2) (pg_tup rfl (pgs_cons (pg_name (i := 11) nd rfl (Or.inl rfl)) (pgs_cons (pg_name (i := 12) nd rfl (Or.inl rfl)) pgs_nil))))) (fun _ _ _ _ _ => (pts_one (pt_cmpR op_lt (pv 11) (pv 7) (nomark _)))) (fun _ _ _ _ _ => (pe_op op_mulB (pv 12) (pe_ix (kix K (r := L2.rIxL) ix_list) (pv 8) (pe_op op_sub (pe_op op_sub (pv 7) (pv 11)) pe_int) (fun _ _ => rfl)))))
  (pss_one (ps_if (PW.pt (pw_or (pt_cmpR op_neI (pe_cl C_count_lists hr (pa_cons (pv 1) (pa_cons (pv 7) pa_nil))) (pe_callB (kcr K (r := rSum) (cr_sum rfl)) (by rfl) M.n_sum boot_sum (pa_cons (pv 10) pa_nil)) (nomark _)) (pw_or1 (pt_cmpR op_neI (pe_cl C_count_lists hr (pa_cons (pv 1) (pa_cons (pv 7) pa_nil))) (pe_ix (kix K (r := L2.rIxL) ix_list) (pv 8) (pv 7) (fun _ _ => rfl)) (nomark _)))))
  (pss_one (ps_ret pe_bl))
  pss_nil))))
  (pss_cons (ps_for PassesOwn.never rfl (kil K (pi_list (pe_lst (pa_cons (pe_tup (pa_cons (pv 8) (pa_cons (pv 9) (pa_cons (pv 1) (pa_cons (pv 2) pa_nil))))) (pa_cons (pe_tup (pa_cons (pv 9) (pa_cons (pv 8) (pa_cons (pv 2) (pa_cons (pv 1) pa_nil))))) (pa_cons (pe_tup (pa_cons (pv 8) (pa_cons (pv 8) (pa_cons (pv 1) (pa_cons (pv 1) pa_nil))))) pa_nil)))))) (kgt K (n := 4) (pg_tup rfl (pgs_cons (pg_name (i := 13) nd rfl (Or.inr rfl)) (pgs_cons (pg_name (i := 14) nd rfl (Or.inr rfl)) (pgs_cons (pg_name (i := 15) nd rfl (Or.inl rfl)) (pgs_cons (pg_name (i := 16) nd rfl (Or.inl rfl)) pgs_nil))))))
  (pss_cons (ps_setLc (i := 17) (own := [("many", 7)]) rfl nd rfl rfl (sw_true rfl rfl rfl (by decide +kernel)) (pi_range1 (by rfl) M.n_range (pa_cons (pe_op op_add (pv 3) pe_int) pa_nil)) (blkOk_by (N := N__law_right) (sc := defScope st__law_right) (by decide +kernel)) (fun _ _ _ _ _ => (pg_name (i := 7) nd rfl (Or.inl rfl))) (fun _ _ _ _ _ => (pts_one (pt_cmpR op_gt (pe_ix (kix K (r := L2.rIxL) ix_list) (pv 13) (pv 7) (fun _ _ => rfl)) (pe_ix (kix K (r := L2.rIxL) ix_list) (pv 14) (pv 7) (fun _ _ => rfl)) (nomark _)))) (fun _ _ _ _ _ => (pv 7)))
  (pss_cons (ps_set (i := 18) nd rfl (Or.inl rfl) (pe_ifExp (pt_cmpR (kop K (r := rNeD) (op_neD hr.units)) (pv 17) (pe_lst pa_nil) (nomark _)) (pe_ix (kix K (r := L2.rIxL) ix_list) (pv 17) pe_int (fun _ _ => rfl)) pe_non))
  (pss_one (ps_if (pt_cmpR op_neT (pe_callB (kcr K (r := rReprD) (cr_reprD hgd hr.units)) (by rfl) M.n_repr boot_repr (pa_cons (pe_lst (pa_cons (pe_cl C__law_asked hr (pa_cons (pv 15) (pa_cons (pv 16) (pa_cons (pv 3) pa_nil)))) (pa_cons (pe_clK0 C_first_longer (kb_first_longer_2_1_0) hr (pk_cons (pv 3) (pk_cons (pv 16) (pk_cons (pv 15) pk_nil)))) pa_nil))) pa_nil)) (pe_callB (kcr K (r := rReprD) (cr_reprD hgd hr.units)) (by rfl) M.n_repr boot_repr (pa_cons (pe_lst (pa_cons (pe_tup (pa_cons (pe_sT [116, 111, 108, 100]) (pa_cons (pv 18) pa_nil))) (pa_cons (pv 18) pa_nil))) pa_nil)) (nomark _))
  (pss_one (ps_ret pe_bl))
  pss_nil)))))
  (pss_cons (ps_set (i := 19) nd rfl (Or.inl rfl) (pe_cl C__law_step hr (pa_cons (pv 1) pa_nil)))
  (pss_cons (ps_if (pt_cmpR op_neT (pe_callB (kcr K (r := rReprD) (cr_reprD hgd hr.units)) (by rfl) M.n_repr boot_repr (pa_cons (pe_lst (pa_cons (pe_cl C_all_lengths hr (pa_cons (pv 1) pa_nil)) (pa_cons (pe_clK0 C_all_lengths (kb_all_lengths_0) hr (pk_cons (pv 1) pk_nil)) pa_nil))) pa_nil)) (pe_callB (kcr K (r := rReprD) (cr_reprD hgd hr.units)) (by rfl) M.n_repr boot_repr (pa_cons (pe_lst (pa_cons (pv 19) (pa_cons (pv 19) pa_nil))) pa_nil)) (nomark _))
  (pss_one (ps_ret pe_bl))
  pss_nil)
  (pss_cons (ps_for PassesOwn.never rfl (kil K (pi_list (pe_lst (pa_cons (pe_ix (kix K (r := L2.rIxT) ix_tup) (pv 19) pe_int (fun _ _ => rfl)) (pa_cons (pe_op op_add (pe_ix (kix K (r := L2.rIxT) ix_tup) (pv 19) pe_int (fun _ _ => rfl)) (pe_ix (kix K (r := L2.rIxT) ix_tup) (pv 19) pe_int (fun _ _ => rfl))) (pa_cons (pe_op op_add (pe_ix (kix K (r := L2.rIxT) ix_tup) (pv 19) pe_int (fun _ _ => rfl)) (pe_op op_mulB (pe_ix (kix K (r := L2.rIxT) ix_tup) (pv 19) pe_int (fun _ _ => rfl)) (pe_cl C__law_draw hr (pa_cons (pv 0) (pa_cons pe_int pa_nil))))) pa_nil)))))) (pg_name (i := 7) nd rfl (Or.inr rfl))
  (pss_one (ps_if (PW.pt (pw_and (pt_cmpR op_le (pv 7) pe_int (nomark _)) (pw_and1 (pt_cmpR op_eqI (pe_cl C_count_lists hr (pa_cons (pv 1) (pa_cons (pv 7) pa_nil))) pe_int (nomark _)))))
  (pss_one (ps_ret pe_bl))
  pss_nil)))
  (pss_cons (ps_if (PW.pt (pw_and (pt_cmpR op_gt (pe_ix (kix K (r := L2.rIxT) ix_tup) (pv 19) pe_int (fun _ _ => rfl)) pe_int (nomark _)) (pw_and1 (pt_cmpR op_neI (pe_cl C_count_lists hr (pa_cons (pv 1) (pa_cons (pe_op op_sub (pe_ix (kix K (r := L2.rIxT) ix_tup) (pv 19) pe_int (fun _ _ => rfl)) (pe_ix (kix K (r := L2.rIxT) ix_tup) (pv 19) pe_int (fun _ _ => rfl))) pa_nil))) pe_int (nomark _)))))
  (pss_one (ps_ret pe_bl))
  pss_nil)
  (pss_cons (ps_par (i := 20) (j := 12) rfl nd rfl rfl (by decide) rfl rfl (pa_cons (pe_cl C__law_one hr (pa_cons (pv 0) (pa_cons (pe_lst (pa_cons pe_non (pa_cons (pe_callTy (kcr K (r := rListS) call_list_of) (by rfl) M.n_list boot_list (pa_cons (pv 1) pa_nil)) (pa_cons (pe_tup pa_nil) (pa_cons (pe_op (kop K (r := rCatA) op_catA) (pv 1) (pe_tup (pa_cons (pe_sT []) pa_nil))) (pa_cons (pe_op (krepT (K := K)) (pe_revU (K := K) (pv 1)) pe_int) (pa_cons (pe_sT [97]) (pa_cons pe_int pa_nil)))))))) pa_nil))) (pa_cons (pe_cl C__law_one hr (pa_cons (pv 0) (pa_cons (pe_lst (pa_cons pe_int (pa_cons pe_int (pa_cons (pe_un un_neg pe_int) (pa_cons pe_bl (pa_cons pe_non (pa_cons (pe_sT [51]) (pa_cons (pe_op op_pow pe_int pe_int) pa_nil)))))))) pa_nil))) pa_nil)) (by rfl))
  (pss_cons (ps_set (i := 21) nd rfl (Or.inl rfl) (pe_lst (pa_cons (pe_cl C__law_asked hr (pa_cons (pv 20) (pa_cons (pv 20) (pa_cons (pv 12) pa_nil)))) (pa_cons (pe_cl C__law_asked hr (pa_cons (pv 1) (pa_cons (pv 20) (pa_cons (pv 12) pa_nil)))) (pa_cons (pe_cl C__law_asked hr (pa_cons (pv 1) (pa_cons (pv 2) (pa_cons (pv 12) pa_nil)))) pa_nil)))))
  (pss_one (ps_ret (pe_cmpR (kop K (r := rEqD) (op_eqD hr.units)) (pv 21) (pe_lst (pa_cons (pe_tup (pa_cons (pe_sT [101, 114, 114, 111, 114]) (pa_cons (pe_sT [108, 111, 116]) pa_nil))) (pa_cons (pe_tup (pa_cons (pe_sT [101, 114, 114, 111, 114]) (pa_cons (pe_sT [108, 111, 116]) pa_nil))) (pa_cons (pe_tup (pa_cons (pe_sT [101, 114, 114, 111, 114]) (pa_cons (pe_sT [110, 117, 109, 98, 101, 114]) pa_nil))) pa_nil)))) (nomark _)))))))))))))))))), ?_⟩
    refine ⟨.ref fa, rfl, fa, rfl, G.mono (by omega), fun pl lot H1 hL hpl R1 h1 => ?_⟩
    have npl : pl ≠ fa := G.new hpl
    have hfew := hL.few
    dsimp only [gName]
    have es : (start N__law_right [.ref fa]).set 1 (some (.ref pl)) = [some (.ref fa), some (.ref pl), none, none, none, none, none, none, none, none, none, none, none, none, none, none, none, none, none, none, none, none] := rfl
    rw [es]
    clear es
    refine ⟨.ref fa, rfl, .ref pl, rfl, fa, pl, lot, rfl, ⟨h1, hL⟩, G.go R1 (by omega), fun po oth H2 hO hpo R2 h2 => ?_⟩
    have R12 := R1.trans R2
    refine (dI_oneL (ns := [1, 5, 12, 40, 400]) (lo := 1) (hi := 400) rfl (fun H => el_lst (ea_cons ev_c (ea_cons ev_c (ea_cons ev_c (ea_cons ev_c (ea_cons ev_c ea_nil))))) (by show 5 ≤ 100000; decide)) (by decide) (by simp) (by decide) : Dw fa [some (.ref fa), some (.ref pl), none, none, none, none, none, none, none, none, none, none, none, none, none, none, none, none, none, none, none, none] 1 _ (GdI 1 400)) H2 (G.go R12 (m' := 1) (by omega)) _ fun vm H3 ⟨mo, hvm, hm1, hm2⟩ R3 => ⟨_, _, rfl, ?_⟩
    subst hvm
    obtain ⟨most, rfl⟩ := Int.eq_ofNat_of_zero_le (show 0 ≤ mo by omega)
    have npo : po ≠ fa := (G.go R1 (m' := 0) (by omega)).new hpo
    have RA := R12.trans R3
    have hLA : LotAt pl lot H3 := ⟨(R2.trans R3).at_ h1 npl, hL⟩
    have hOA : LotAt po oth H3 := ⟨R3.at_ h2 npo, hO⟩
    have G3 : GF fa 2000 H3 := G.go RA (by omega)
    clear R1 R2 R12 h1 h2 hpl hpo
    have es : (([some (.ref fa), some (.ref pl), none, none, none, none, none, none, none, none, none, none, none, none, none, none, none, none, none, none, none, none] : L2.St).set 2 (some (.ref po))).set 3 (some (.int (most : Int))) = [some (.ref fa), some (.ref pl), some (.ref po), some (.int (most : Int)), none, none, none, none, none, none, none, none, none, none, none, none, none, none, none, none, none, none] := rfl
    rw [es]
    clear es
    have hm1' : 1 ≤ most := by omega
    have hm2' : most ≤ 400 := by omega
    have h12 := maxL_12 hL
    -- longest
    refine q_asg (ev_maxLen rfl hLA (fun _ => rfl) (fun _ => rfl)) fun H4 e4 => ?_
    have es : ([some (.ref fa), some (.ref pl), some (.ref po), some (.int (most : Int)), none, none, none, none, none, none, none, none, none, none, none, none, none, none, none, none, none, none] : L2.St).set 4 (some (.int (maxL lot : Int))) = [some (.ref fa), some (.ref pl), some (.ref po), some (.int (most : Int)), some (.int (maxL lot : Int)), none, none, none, none, none, none, none, none, none, none, none, none, none, none, none, none, none] := rfl
    rw [es]
    clear es
    have hL4 := hLA.ex e4
    have hO4 := hOA.ex e4
    have hlc := el_lcM (wi := iRng2 (tCons (tC (.int 1)) (tCons (tOp (rI0 fun i j => .int (i + j)) (tVar 4) (tC (.int 1))) tNil))) (σ := [some (.ref fa), some (.ref pl), some (.ref po), some (.int (most : Int)), some (.int (maxL lot : Int)), none, none, none, none, none, none, none, none, none, none, none, none, none, none, none, none, none]) (H := H4) (j := 7) (vs := [7]) (te := tCB (rLenS K) (tCons (tLc (iTup K (tVar 1)) (gName 5) (tTest (tOp (rI0 fun i j => .bl (decide (i = j))) (tCB rLenT (tCons (tVar 5) tNil)) (tVar 7))) (tVar 5) [5]) tNil)) (f := fun (i : Nat) => V.int (1 + (i : Int))) (g := fun i => V.int ((cntL lot (i + 1) : Nat) : Int)) (List.range (maxL lot)) (src_range2L (lo := 1) (hi := (maxL lot : Int) + 1) (n := maxL lot) (ea_cons ev_c (ea_cons (ev_op (ev_var rfl) ev_c rv_I0) ea_nil)) (by decide) (by decide) (by omega) (by omega) (by omega)) (by rw [List.length_range]; omega) (fun _ => rfl) (fun i H5 e5 hi => ev_is (ev_lenN (xs := (lot.filter fun t => decide ((t.length : Int) = 1 + (i : Int))).map T) (el_lcF (j := 5) (vs := [5]) (f := T) (g := T) lot (src_tupM (ev_var rfl) (st_of (e5 _ _ hL4.1))) (by omega) (fun _ => rfl) (fun t H6 e6 ht => et_test (ev_op (ev_cb (ea_cons (ev_var rfl) ea_nil) (rc_lenT (by have := (hL.wd t ht).1; omega))) (ev_var rfl) rv_I0)) (fun t H6 e6 ht _ => ev_var rfl))) (by
      rw [List.length_map]
      unfold cntL
      rw [List.filter_congr (q := fun t : Tx => decide (t.length = i + 1)) fun t _ => decide_eq_decide.mpr (by omega)]))
    -- due
    refine q_asgU (xs := numV (lensO lot)) (eu_tupL (by unfold numV lensO; rw [List.map_map]; exact hlc)) fun pd H5 hpd e5 h5 => ?_
    clear hlc
    have es : ([some (.ref fa), some (.ref pl), some (.ref po), some (.int (most : Int)), some (.int (maxL lot : Int)), none, none, none, none, none, none, none, none, none, none, none, none, none, none, none, none, none] : L2.St).set 6 (some (.ref pd)) = [some (.ref fa), some (.ref pl), some (.ref po), some (.int (most : Int)), some (.int (maxL lot : Int)), none, some (.ref pd), none, none, none, none, none, none, none, none, none, none, none, none, none, none, none] := rfl
    rw [es]
    clear es
    have hL5 := hL4.ex e5
    have hO5 := hO4.ex e5
    have hnd : ∀ H : Hp, DpAll K H (numV (lensO lot)) ((lensO lot).map dN) := fun H => dp_nums _
    refine q_when (b := false) (et_reprNe (sd_twice (sd_numsT (lensO_small hL).1 (lensO_small hL).2)) (by decide) (by decide) (evd_pair (evd_tup (eu_call (ea_cons (ev_var rfl) ea_nil) fun H6 Q6 e6 q6 => ⟨pl, lot, rfl, hL5.ex e6, q6⟩) hnd) (evd_tup (eu_callK0 (ea_cons (ev_var rfl) ea_nil) fun H6 Q6 e6 q6 => ⟨pl, lot, rfl, hL5.ex e6, q6⟩) hnd)) (evd_pair (evd_ev (ev_var rfl) fun H6 e6 => .tup (st_of (e6 _ _ h5)) (hnd H6)) (evd_ev (ev_var rfl) fun H6 e6 => .tup (st_of (e6 _ _ h5)) (hnd H6)))) (fun z => by cases z) (fun _ H6 e6 => ?_)
    have hL6 := hL5.ex e6
    have hO6 := hO5.ex e6
    -- lists, others
    refine ⟨.ref pl, rfl, .int (most : Int), rfl, pl, lot, most, rfl, hL6, hm2', fun pa H7 hpa e7 h7 => ⟨.ref po, rfl, .int (most : Int), rfl, po, oth, most, rfl, hO6.ex e7, hm2', fun pb H8 hpb e8 h8 => ⟨by show 2 ≤ sizeLine; decide, fun pt hpt => ⟨pt, _, rfl, st_of upd_same, rfl, _, _, rfl, _, [], rfl, rfl, ?_⟩⟩⟩⟩
    have e9 : Ex H6 (upd H8 pt (.tup [.ref pa, .ref pb])) := (e7.trans e8).trans (Ex.new hpt)
    have ha9 : (upd H8 pt (.tup [.ref pa, .ref pb])) pa = some (.lst (numV (tabA lot most))) := (e8.trans (Ex.new hpt)) _ _ h7
    have hb9 : (upd H8 pt (.tup [.ref pa, .ref pb])) pb = some (.lst (numV (tabA oth most))) := (Ex.new hpt) _ _ h8
    have e39 := ((e4.trans e5).trans e6).trans e9
    generalize upd H8 pt (.tup [.ref pa, .ref pb]) = H9 at e9 ha9 hb9 e39 ⊢
    have hL9 := hL6.ex e9
    have hO9 := hO6.ex e9
    have R9 := RA.then e39
    have npa : pa ≠ fa := (G.go (((RA.then e4).then e5).then e6) (m' := 0) (by omega)).new hpa
    have npb : pb ≠ fa := (G.go ((((RA.then e4).then e5).then e6).then e7) (m' := 0) (by omega)).new hpb
    clear e9 e39 hL6 hO6 hL5 hO5 hL4 hO4 hLA hOA h5 h7 h8 hpd hpa hpb hpt
    have es : (([some (.ref fa), some (.ref pl), some (.ref po), some (.int (most : Int)), some (.int (maxL lot : Int)), none, some (.ref pd), none, none, none, none, none, none, none, none, none, none, none, none, none, none, none] : L2.St).set 8 (some (.ref pa))).set 9 (some (.ref pb)) = [some (.ref fa), some (.ref pl), some (.ref po), some (.int (most : Int)), some (.int (maxL lot : Int)), none, some (.ref pd), none, some (.ref pa), some (.ref pb), none, none, none, none, none, none, none, none, none, none, none, none] := rfl
    rw [es]
    clear es
    -- for many in [1, most, 1 + ..]
    dsimp only
    refine q_forOf ?_
    refine ⟨_, rfl, wp_draw (many := (most : Int)) rfl (ev_var rfl) (G.go R9 (m' := 1) (by omega)) (by omega) (by omega) fun d H10 hd R10 => ⟨1, (d : Int), rfl, rfl, by show 3 ≤ sizeLine; decide, fun pv hpv => ?_⟩⟩
    have RB := R9.trans R10
    have hpvf : pv ≠ fa := (G.go RB (m' := 0) (by omega)).new hpv
    have RBx := RB.then (Ex.new (o := HO.lst [.int 1, .int (most : Int), .int (1 + (d : Int))]) hpv)
    have hL11 : LotAt pl lot (upd H10 pv (.lst [.int 1, .int (most : Int), .int (1 + (d : Int))])) := ⟨(Ex.new hpv) _ _ (R10.at_ hL9.1 npl), hL⟩
    have hO11 : LotAt po oth (upd H10 pv (.lst [.int 1, .int (most : Int), .int (1 + (d : Int))])) := ⟨(Ex.new hpv) _ _ (R10.at_ hO9.1 npo), hO⟩
    have ha11 : (upd H10 pv (.lst [.int 1, .int (most : Int), .int (1 + (d : Int))])) pa = some (.lst (numV (tabA lot most))) := (Ex.new hpv) _ _ (R10.at_ ha9 npa)
    have hb11 : (upd H10 pv (.lst [.int 1, .int (most : Int), .int (1 + (d : Int))])) pb = some (.lst (numV (tabA oth most))) := (Ex.new hpv) _ _ (R10.at_ hb9 npb)
    have hv11 : (upd H10 pv (.lst [.int 1, .int (most : Int), .int (1 + (d : Int))])) pv = some (.lst (numV [1, most, 1 + d])) := by
      rw [upd_same]
      unfold numV
      rw [List.map_cons, List.map_cons, List.map_cons, List.map_nil, Int.natCast_add]
      rfl
    generalize upd H10 pv (.lst [.int 1, .int (most : Int), .int (1 + (d : Int))]) = H11 at RBx hL11 hO11 ha11 hb11 hv11 ⊢
    clear hL9 hO9 ha9 hb9 R9 R10 RB hpv
    refine q_forW (fun _ => False) (src_list (xs := numV [1, most, 1 + d]) (fun H' e' Q' q' => q' H' (Ex.refl _)) (sq_of hv11)) (fun _ z => z.elim)
      (fun Hs i σ' H' => ∃ (v7 v10 v11 v12 : Option V), σ' = [some (.ref fa), some (.ref pl), some (.ref po), some (.int (most : Int)), some (.int (maxL lot : Int)), none, some (.ref pd), v7, some (.ref pa), some (.ref pb), v10, v11, v12, none, none, none, none, none, none, none, none, none] ∧ Ex Hs H') ?_ ?_ ?_ ?_ ?_
    · intro Hs e
      exact ⟨none, none, none, none, rfl, Ex.refl _⟩
    · rintro Hs i σ' H' ⟨_, _, _, _, _, h⟩
      exact .of h
    · rintro Hs i σ' Ha Hb ⟨v7, v10, v11, v12, h0, h⟩ e
      exact ⟨v7, v10, v11, v12, h0, h.trans e⟩
    · rintro Hs i x σ' H' e0 hi ⟨v7, v10, v11, v12, rfl, e1⟩ hx
      obtain ⟨m, hm, rfl, hm0, hmm⟩ : ∃ m : Nat, True ∧ x = .int (m : Int) ∧ 1 ≤ m ∧ m ≤ most := by
        have hmem : x ∈ numV [1, most, 1 + d] := List.mem_of_getElem? hx
        unfold numV at hmem
        obtain ⟨m, hm, rfl⟩ := List.mem_map.mp hmem
        simp at hm
        exact ⟨m, trivial, rfl, by omega, by omega⟩
      have eA := e0.trans e1
      have hLx := hL11.ex eA
      have hax := eA _ _ ha11
      show tSeq _ _ _ [some (.ref fa), some (.ref pl), some (.ref po), some (.int (most : Int)), some (.int (maxL lot : Int)), none, some (.ref pd), some (.int (m : Int)), some (.ref pa), some (.ref pb), v10, v11, v12, none, none, none, none, none, none, none, none, none] H'
      have hlen : (numV (lensO lot)).length = maxL lot := by rw [numV_len]; unfold lensO; rw [List.length_map, List.length_range]
      have hlc := el_lcG (σ := [some (.ref fa), some (.ref pl), some (.ref po), some (.int (most : Int)), some (.int (maxL lot : Int)), none, some (.ref pd), some (.int (m : Int)), some (.ref pa), some (.ref pb), v10, v11, v12, none, none, none, none, none, none, none, none, none]) (H := H') (wi := iEnumT K (tCons (tCall (calm sp_recurrence) [] E0 (tCons (tVar 1) tNil)) tNil)) (g := gTup K 2 (gCons (gName 11) (gCons (gName 12) gNil))) (vs := [11, 12]) (t := tTest (tOp (rI0 fun i j => .bl (decide (i < j))) (tVar 11) (tVar 7))) (te := tOp (rI CMulB fun i j => .int (i * j)) (tVar 12) (tOp (L2.rIxL K) (tVar 8) (tOp (rI0 fun i j => .int (i - j)) (tOp (rI0 fun i j => .int (i - j)) (tVar 7) (tVar 11)) (tC (.int 1))))) (p := fun a : Nat => decide ((a : Int) < (m : Int))) (gv := fun a : Nat => V.int (((cntL lot (a + 1) * cntA lot (m - a - 1) : Nat) : Int))) (List.range (maxL lot)) (fun a => [some (.ref fa), some (.ref pl), some (.ref po), some (.int (most : Int)), some (.int (maxL lot : Int)), none, some (.ref pd), some (.int (m : Int)), some (.ref pa), some (.ref pb), v10, some (.int (a : Int)), some (.int ((cntL lot (a + 1) : Nat) : Int)), none, none, none, none, none, none, none, none, none]) (fun a x H1 => ∃ q, x = .ref q ∧ H1 q = some (.tup [.int (a : Int), .int ((cntL lot (a + 1) : Nat) : Int)])) (src_enumU (xs := numV (lensO lot)) (eu_call (ea_cons (ev_var rfl) ea_nil) fun H6 Q6 e6 q6 => ⟨pl, lot, rfl, hLx.ex e6, q6⟩)) (by rw [hlen]; omega) (by rw [List.length_range, hlen]) ?_ ?_ (fun _ => rfl) (fun a H1 e1 ha => et_test (ev_op (ev_var rfl) (ev_var rfl) rv_I0)) ?_
      · refine q_asgL (xs := (((List.range (maxL lot)).filter fun a : Nat => decide ((a : Int) < (m : Int))).map fun a : Nat => (((cntL lot (a + 1) * cntA lot (m - a - 1) : Nat) : Int))).map V.int) (by rw [List.map_map]; exact hlc) fun pq H12 hpq e12 h12 => ?_
        have hsum : (((List.range (maxL lot)).filter fun a : Nat => decide ((a : Int) < (m : Int))).map fun a : Nat => (((cntL lot (a + 1) * cntA lot (m - a - 1) : Nat) : Int))).sum = ((cntA lot m : Nat) : Int) := by
          rw [sum_int, List.filter_congr (q := fun a : Nat => decide (a < m - 1 + 1)) fun a _ => decide_eq_decide.mpr (by omega)]
          have := prog_sum hL.pos (m - 1)
          rw [show m - 1 + 1 = m by omega] at this ⊢
          rw [this]
        have hLy := hLx.ex e12
        have hay := e12 _ _ hax
        have hcnt : ∀ {σ : L2.St} {Hx : Hp}, σ[1]? = some (some (.ref pl)) → σ[7]? = some (some (.int (m : Int))) → LotAt pl lot Hx → Ev (tCall (calm sp_count_lists) [] E0 (tCons (tVar 1) (tCons (tVar 7) tNil))) σ Hx (.int ((cntA lot m : Nat) : Int)) := fun h1 h7 hl => ev_call (ea_cons (ev_var h1) (ea_cons (ev_var h7) ea_nil)) fun H6 e6 Q q E => ⟨pl, lot, m, rfl, hl.ex e6, by omega, q⟩
        refine s_when (b := false) (et_is (et_or (a := false) (b := false) (et_is (et_test (ev_op (hcnt rfl rfl hLy) (ev_cb (ea_cons (ev_var rfl) ea_nil) (rc_sum (sq_of h12))) rv_I0)) (by rw [hsum]; simp)) fun _ => et_is (et_test (ev_op (hcnt rfl rfl hLy) (ev_op (ev_var rfl) (ev_var rfl) (rv_ixL (sq_of hay) (atI_nat (tab_at hmm)))) rv_I0)) (by simp)) rfl) (fun z => by cases z) (fun _ H13 e13 => ⟨_, _, _, _, rfl, (e1.trans e12).trans e13⟩)
      · rintro j x H1 ⟨q, y, rfl, hy, hq⟩
        have hj : j < maxL lot := by
          have := (List.getElem?_eq_some_iff.mp hy).1
          omega
        refine ⟨j, List.getElem?_range hj, q, rfl, ?_⟩
        rw [hq]
        have : (numV (lensO lot))[j]? = some (.int ((cntL lot (j + 1) : Nat) : Int)) := by
          unfold numV lensO
          rw [List.getElem?_map, List.getElem?_map, List.getElem?_range hj]
          rfl
        rw [this] at hy
        cases hy
        rfl
      · rintro a x H1 Q' ⟨q, rfl, hq⟩ k'
        exact ⟨q, _, rfl, st_of hq, rfl, _, _, rfl, _, [], rfl, rfl, k'⟩
      · intro a H13 e13 ha hlt
        have hlt' := of_decide_eq_true hlt
        refine ev_is (ev_op (ev_var rfl) (ev_op (ev_var rfl) (ev_op (ev_op (ev_var rfl) (ev_var rfl) rv_I0) ev_c rv_I0) (rv_ixL (i := (m : Int) - (a : Int) - 1) (v := .int ((cntA lot (m - a - 1) : Nat) : Int)) (sq_of (e13 _ _ hax)) ?_)) (rv_I (C := CMulB) (g := fun i j => .int (i * j)) (mulB (a := 10) (b := 1700) ?_ (cntA_small hL.pos hL.few (by omega)) (by decide) (by decide) (by decide)))) ?_
        · rw [show (m : Int) - (a : Int) - 1 = ((m - a - 1 : Nat) : Int) by omega]
          exact atI_nat (tab_at (by omega))
        · rw [Int.natAbs_natCast]
          have := cntL_le lot (a + 1)
          omega
        · rw [Int.natCast_mul]
    rintro Hs σ' H12 eS ⟨v7, v10, v11, v12, rfl, eS2⟩
    have e12 := eS.trans eS2
    have RC := RBx.then e12
    have hL12 := hL11.ex e12
    have hO12 := hO11.ex e12
    have ha12 := e12 _ _ ha11
    have hb12 := e12 _ _ hb11
    clear hL11 hO11 ha11 hb11 hv11 RBx eS eS2
    try dsimp only
    -- both sequences, and one lot alone
    refine q_forOf ?_
    refine ⟨_, rfl, _, rfl, _, rfl, _, rfl, by show 4 ≤ sizeLine; decide, fun p1 hp1 => ⟨_, rfl, _, rfl, _, rfl, _, rfl, by show 4 ≤ sizeLine; decide, fun p2 hp2 => ⟨_, rfl, _, rfl, _, rfl, _, rfl, by show 4 ≤ sizeLine; decide, fun p3 hp3 => ⟨by show 3 ≤ sizeLine; decide, fun pw hpw => ?_⟩⟩⟩⟩
    have x1 := Ex.new (o := HO.tup [.ref pa, .ref pb, .ref pl, .ref po]) hp1
    have x2 := Ex.new (o := HO.tup [.ref pb, .ref pa, .ref po, .ref pl]) hp2
    have x3 := Ex.new (o := HO.tup [.ref pa, .ref pa, .ref pl, .ref pl]) hp3
    have x4 := Ex.new (o := HO.lst [.ref p1, .ref p2, .ref p3]) hpw
    have g1 := x4 _ _ (x3 _ _ (x2 _ _ (upd_same : (upd H12 p1 (.tup [.ref pa, .ref pb, .ref pl, .ref po])) p1 = _)))
    have g2 := x4 _ _ (x3 _ _ (upd_same : (upd (upd H12 p1 (.tup [.ref pa, .ref pb, .ref pl, .ref po])) p2 (.tup [.ref pb, .ref pa, .ref po, .ref pl])) p2 = _))
    have g3 := x4 _ _ (upd_same : (upd (upd (upd H12 p1 (.tup [.ref pa, .ref pb, .ref pl, .ref po])) p2 (.tup [.ref pb, .ref pa, .ref po, .ref pl])) p3 (.tup [.ref pa, .ref pa, .ref pl, .ref pl])) p3 = _)
    have g4 : (upd (upd (upd (upd H12 p1 (.tup [.ref pa, .ref pb, .ref pl, .ref po])) p2 (.tup [.ref pb, .ref pa, .ref po, .ref pl])) p3 (.tup [.ref pa, .ref pa, .ref pl, .ref pl])) pw (.lst [.ref p1, .ref p2, .ref p3])) pw = some (.lst [.ref p1, .ref p2, .ref p3]) := upd_same
    have x14 := ((x1.trans x2).trans x3).trans x4
    generalize upd (upd (upd (upd H12 p1 (.tup [.ref pa, .ref pb, .ref pl, .ref po])) p2 (.tup [.ref pb, .ref pa, .ref po, .ref pl])) p3 (.tup [.ref pa, .ref pa, .ref pl, .ref pl])) pw (.lst [.ref p1, .ref p2, .ref p3]) = H13 at g1 g2 g3 g4 x14 ⊢
    clear x1 x2 x3 x4 hp1 hp2 hp3 hpw
    have RD := RC.then x14
    have hL13 := hL12.ex x14
    have hO13 := hO12.ex x14
    have ha13 := x14 _ _ ha12
    have hb13 := x14 _ _ hb12
    clear hL12 hO12 ha12 hb12 RC x14
    have hfour : ∀ x ∈ [V.ref p1, .ref p2, .ref p3], ∃ (p a1 a2 q1 q2 : Addr) (M1 M2 : List Tx), x = .ref p ∧ H13 p = some (.tup [.ref a1, .ref a2, .ref q1, .ref q2]) ∧ H13 a1 = some (.lst (numV (tabA M1 most))) ∧ H13 a2 = some (.lst (numV (tabA M2 most))) ∧ LotAt q1 M1 H13 ∧ LotAt q2 M2 H13 := fun x hx => by
      simp at hx
      rcases hx with rfl | rfl | rfl
      · exact ⟨p1, pa, pb, pl, po, lot, oth, rfl, g1, ha13, hb13, hL13, hO13⟩
      · exact ⟨p2, pb, pa, po, pl, oth, lot, rfl, g2, hb13, ha13, hO13, hL13⟩
      · exact ⟨p3, pa, pa, pl, pl, lot, lot, rfl, g3, ha13, ha13, hL13, hL13⟩
    refine q_forW (fun _ => False) (src_list (xs := [V.ref p1, .ref p2, .ref p3]) (fun H' e' Q' q' => q' H' (Ex.refl _)) (sq_of g4)) (fun _ z => z.elim)
      (fun Hs i σ' H' => ∃ (v7 v10 v11 v12 v13 v14 v15 v16 v17 v18 : Option V), σ' = [some (.ref fa), some (.ref pl), some (.ref po), some (.int (most : Int)), some (.int (maxL lot : Int)), none, some (.ref pd), v7, some (.ref pa), some (.ref pb), v10, v11, v12, v13, v14, v15, v16, v17, v18, none, none, none] ∧ Ex Hs H') ?_ ?_ ?_ ?_ ?_
    · intro Hs e
      exact ⟨_, _, _, _, _, _, _, _, _, _, rfl, Ex.refl _⟩
    · rintro Hs i σ' H' ⟨_, _, _, _, _, _, _, _, _, _, _, h⟩
      exact .of h
    · rintro Hs i σ' Ha Hb ⟨w7, w10, w11, w12, w13, w14, w15, w16, w17, w18, h0, h⟩ e
      exact ⟨w7, w10, w11, w12, w13, w14, w15, w16, w17, w18, h0, h.trans e⟩
    · rintro Hs i x σ' H' e0 hi ⟨w7, w10, w11, w12, w13, w14, w15, w16, w17, w18, rfl, e1⟩ hx
      obtain ⟨p, a1, a2, q1, q2, M1, M2, rfl, f0, f1, f2, f3, f4⟩ := hfour x (List.mem_of_getElem? hx)
      have eA := e0.trans e1
      have F1 := eA _ _ f1
      have F2 := eA _ _ f2
      have F3 := f3.ex eA
      have F4 := f4.ex eA
      refine ⟨p, _, rfl, st_of (eA _ _ f0), rfl, _, _, rfl, _, _, rfl, _, _, rfl, _, [], rfl, rfl, ?_⟩
      show tSeq _ _ _ [some (.ref fa), some (.ref pl), some (.ref po), some (.int (most : Int)), some (.int (maxL lot : Int)), none, some (.ref pd), w7, some (.ref pa), some (.ref pb), w10, w11, w12, some (.ref a1), some (.ref a2), some (.ref q1), some (.ref q2), w17, w18, none, none, none] H'
      have hlc := el_lcF (wi := iRng1 (tCons (tOp (rI0 fun i j => .int (i + j)) (tVar 3) (tC (.int 1))) tNil)) (σ := [some (.ref fa), some (.ref pl), some (.ref po), some (.int (most : Int)), some (.int (maxL lot : Int)), none, some (.ref pd), w7, some (.ref pa), some (.ref pb), w10, w11, w12, some (.ref a1), some (.ref a2), some (.ref q1), some (.ref q2), w17, w18, none, none, none]) (H := H') (j := 7) (vs := [7]) (t := tTest (tOp (rI0 fun i j => .bl (decide (i > j))) (tOp (L2.rIxL K) (tVar 13) (tVar 7)) (tOp (L2.rIxL K) (tVar 14) (tVar 7)))) (te := tVar 7) (f := fun (i : Nat) => V.int (i : Int)) (g := fun (i : Nat) => V.int (i : Int)) (p := fun i => decide (cntA M2 i < cntA M1 i)) (List.range (most + 1)) (src_range1L (n := most + 1) (ea_cons (ev_is (ev_op (ev_var rfl) ev_c rv_I0) (by rw [Int.natCast_add]; rfl)) ea_nil) (by omega)) (by rw [List.length_range]; omega) (fun _ => rfl) (fun i H7 e7 hi => et_is (et_test (ev_op (ev_op (ev_var rfl) (ev_var rfl) (rv_ixL (sq_of (e7 _ _ F1)) (atI_nat (tab_at (lot := M1) (n := most) (i := i) (by have := List.mem_range.mp hi; omega))))) (ev_op (ev_var rfl) (ev_var rfl) (rv_ixL (sq_of (e7 _ _ F2)) (atI_nat (tab_at (lot := M2) (n := most) (i := i) (by have := List.mem_range.mp hi; omega))))) rv_I0)) (decide_eq_decide.mpr (by omega))) (fun i H7 e7 hi _ => ev_var rfl)
      refine q_asgL (xs := numV (longO M1 M2 most)) hlc fun pf H14 hpf e14 h14 => ?_
      clear hlc
      have hsm := longO_small (l1 := M1) (l2 := M2) hm2'
      refine q_asg (v := firstV (longO M1 M2 most)) (ev_if (et_neNilN h14 (ev_var rfl)) (fun hb => ?_) fun hb => ?_) fun H15 e15 => ?_
      · cases hlo : longO M1 M2 most with
        | nil => rw [hlo] at hb; cases hb
        | cons x xs =>
          rw [hlo] at h14
          exact ev_op (ev_var rfl) ev_c (rv_ixL (sq_of h14) (by show atI (numV (x :: xs)) ((0 : Nat) : Int) = _; exact atI_nat rfl))
      · cases hlo : longO M1 M2 most with
        | nil => exact ev_c
        | cons x xs => rw [hlo] at hb; cases hb
      · have e16 := e14.trans e15
        have G3' := F3.ex e16
        have G4' := F4.ex e16
        refine s_when (b := false) (et_reprNe (sd_found hsm) (by decide) (by decide) (evd_pair (evd_said (t := xTold) (ea_cons (ev_var rfl) (ea_cons (ev_var rfl) (ea_cons (ev_var rfl) ea_nil))) (fun _ => dp_firstV _) fun H6 Q6 e6 q6 => ⟨.ref q1, .ref q2, .int (most : Int), some M1, some M2, some (most : Int), rfl, .tup (e6 _ _ G3'.1), .tup (e6 _ _ G4'.1), .int _, sm_ok G3'.2, sm_ok G4'.2, .inr (.inr (.inr ⟨q1, q2, M1, M2, most, rfl, rfl, rfl, rfl, rfl, rfl, G3'.ex e6, G4'.ex e6, hm1', hm2', q6⟩))⟩) (evd_ev (ev_callK0 (z := firstV (longO M1 M2 most)) (ea_cons (ev_var rfl) (ea_cons (ev_var rfl) (ea_cons (ev_var rfl) ea_nil))) fun H6 Q6 e6 q6 => ⟨.ref q1, .ref q2, .int (most : Int), some M1, some M2, some (most : Int), rfl, .tup (e6 _ _ G3'.1), .tup (e6 _ _ G4'.1), .int _, sm_ok G3'.2, sm_ok G4'.2, .inr (.inr (.inr ⟨q1, q2, M1, M2, most, rfl, rfl, rfl, rfl, rfl, rfl, G3'.ex e6, G4'.ex e6, hm1', hm2', q6⟩))⟩) fun _ _ => dp_firstV _)) (evd_pair (evd_tup (eu_tup (ea_cons ev_c (ea_cons (ev_var rfl) ea_nil)) (by show 2 ≤ 100000; decide)) fun _ => .cons (.str _) (.cons (dp_firstV _) .nil)) (evd_ev (ev_var rfl) fun _ _ => dp_firstV _))) (fun z => by cases z) (fun _ H17 e17 => ⟨_, _, _, _, _, _, _, _, _, _, rfl, (e1.trans e16).trans e17⟩)
    rintro Hs σ' H14 eS ⟨w7, w10, w11, w12, w13, w14, w15, w16, w17, w18, rfl, eS2⟩
    have e14 := eS.trans eS2
    have RE := RD.then e14
    have hL14 := hL13.ex e14
    have hO14 := hO13.ex e14
    clear hL13 hO13 ha13 hb13 RD eS eS2 g1 g2 g3 g4 hfour e14
    try dsimp only
    -- step
    refine ⟨.ref pl, rfl, pl, lot, rfl, hL14, fun ps H15 hps e15 h15 => ?_⟩
    dsimp only [gName]
    have es : ([some (.ref fa), some (.ref pl), some (.ref po), some (.int (most : Int)), some (.int (maxL lot : Int)), none, some (.ref pd), w7, some (.ref pa), some (.ref pb), w10, w11, w12, w13, w14, w15, w16, w17, w18, none, none, none] : L2.St).set 19 (some (.ref ps)) = [some (.ref fa), some (.ref pl), some (.ref po), some (.int (most : Int)), some (.int (maxL lot : Int)), none, some (.ref pd), w7, some (.ref pa), some (.ref pb), w10, w11, w12, w13, w14, w15, w16, w17, w18, some (.ref ps), none, none] := rfl
    rw [es]
    clear es
    have hL15 := hL14.ex e15
    have hO15 := hO14.ex e15
    have RF := RE.then e15
    have nps : ps ≠ fa := (G.go RE (m' := 0) (by omega)).new hps
    obtain ⟨hF1, hF2, hF3, hF4⟩ := from_spec hL
    have hg12 : gL lot ≤ 12 := Nat.le_trans (g_le hL) (a_in hL).2
    have hg1 := g_pos hL
    have hst : ∀ Hx : Hp, DpAll K Hx [.int (gL lot : Int), .int (fromL lot : Int)] ([gL lot, fromL lot].map dN) := fun _ => .cons (.int _) (.cons (.int _) .nil)
    have hsm2 : ∀ n ∈ [gL lot, fromL lot], n ≤ 500 := fun n hn => by
      simp at hn
      omega
    refine q_when (b := false) (et_reprNe (sd_twice (sd_numsT hsm2 (by simp))) (by decide) (by decide) (evd_pair (evd_tup (eu_call (ea_cons (ev_var rfl) ea_nil) fun H6 Q6 e6 q6 => ⟨pl, lot, rfl, hL15.ex e6, q6⟩) hst) (evd_tup (eu_callK0 (ea_cons (ev_var rfl) ea_nil) fun H6 Q6 e6 q6 => ⟨pl, lot, rfl, hL15.ex e6, q6⟩) hst)) (evd_pair (evd_ev (ev_var rfl) fun H6 e6 => .tup (st_of (e6 _ _ h15)) (hst H6)) (evd_ev (ev_var rfl) fun H6 e6 => .tup (st_of (e6 _ _ h15)) (hst H6)))) (fun z => by cases z) (fun _ H16 e16 => ?_)
    have hL16 := hL15.ex e16
    have hO16 := hO15.ex e16
    have h16 := e16 _ _ h15
    have RG := RF.then e16
    have hix : ∀ {σ : L2.St} {Hx : Hp}, σ[19]? = some (some (.ref ps)) → Hx ps = some (.tup [.int (gL lot : Int), .int (fromL lot : Int)]) → Ev (tOp (L2.rIxT K) (tVar 19) (tC (.int 1))) σ Hx (.int (fromL lot : Int)) ∧ Ev (tOp (L2.rIxT K) (tVar 19) (tC (.int 0))) σ Hx (.int (gL lot : Int)) := fun h0 hh => ⟨ev_op (ev_var h0) ev_c (rv_ixT (st_of hh) (by show atI _ ((1 : Nat) : Int) = _; exact atI_nat rfl)), ev_op (ev_var h0) ev_c (rv_ixT (st_of hh) (by show atI _ ((0 : Nat) : Int) = _; exact atI_nat rfl))⟩
    have hcnt : ∀ {te : TE} {σ : L2.St} {Hx : Hp} {m : Nat}, σ[1]? = some (some (.ref pl)) → Ev te σ Hx (.int (m : Int)) → m ≤ 400 → LotAt pl lot Hx → Ev (tCall (calm sp_count_lists) [] E0 (tCons (tVar 1) (tCons te tNil))) σ Hx (.int ((cntA lot m : Nat) : Int)) := fun {te σ Hx m} h1 h7 hm hl => ev_call (ea_cons (ev_var h1) (ea_cons h7 ea_nil)) fun H6 e6 Q q E => ⟨pl, lot, m, rfl, hl.ex e6, hm, q⟩
    -- for many in ..
    refine q_forOf3 (v1 := .int (fromL lot : Int)) (v2 := .int ((fromL lot + gL lot : Nat) : Int)) (hix rfl h16).1 (ev_is (ev_op (hix rfl h16).1 (hix rfl h16).2 rv_I0) (by rw [Int.natCast_add])) fun H17 e17 => ?_
    have h17 := e17 _ _ h16
    refine (hix rfl h17).1 H17 (Ex.refl _) _ fun H18 e18 => ?_
    refine (hix rfl (e18 _ _ h17)).2 H18 (Ex.refl _) _ fun H19 e19 => ?_
    have RH := ((RG.then e17).then e18).then e19
    refine wp_draw (many := 9) rfl ev_c (G.go RH (m' := 1) (by omega)) (by decide) (by decide) fun d2 H20 hd2 R20 => ?_
    have hd9 : d2 < 9 := by omega
    refine ⟨(gL lot : Int), (d2 : Int), rfl, rfl, mulB (a := 10) (b := 10) (by rw [Int.natAbs_natCast]; omega) (by rw [Int.natAbs_natCast]; omega) (by decide) (by decide) (by decide), (fromL lot : Int), (gL lot : Int) * (d2 : Int), rfl, rfl, by show 3 ≤ sizeLine; decide, fun pw2 hpw2 => ?_⟩
    have RI := RH.trans R20
    have e1719 := (e17.trans e18).trans e19
    have xN := Ex.new (o := HO.lst [.int (fromL lot : Int), .int ((fromL lot + gL lot : Nat) : Int), .int ((fromL lot : Int) + (gL lot : Int) * (d2 : Int))]) hpw2
    have RJ := RI.then xN
    have hL21 : LotAt pl lot (upd H20 pw2 (.lst [.int (fromL lot : Int), .int ((fromL lot + gL lot : Nat) : Int), .int ((fromL lot : Int) + (gL lot : Int) * (d2 : Int))])) := ⟨xN _ _ (R20.at_ (e1719 _ _ hL16.1) npl), hL⟩
    have hO21 : LotAt po oth (upd H20 pw2 (.lst [.int (fromL lot : Int), .int ((fromL lot + gL lot : Nat) : Int), .int ((fromL lot : Int) + (gL lot : Int) * (d2 : Int))])) := ⟨xN _ _ (R20.at_ (e1719 _ _ hO16.1) npo), hO⟩
    have hs21 := xN _ _ (R20.at_ (e1719 _ _ h16) nps)
    have hw21 : (upd H20 pw2 (.lst [.int (fromL lot : Int), .int ((fromL lot + gL lot : Nat) : Int), .int ((fromL lot : Int) + (gL lot : Int) * (d2 : Int))])) pw2 = some (.lst (numV [fromL lot, fromL lot + gL lot, fromL lot + gL lot * d2])) := by
      rw [upd_same]
      unfold numV
      rw [List.map_cons, List.map_cons, List.map_cons, List.map_nil, Int.natCast_add (fromL lot) (gL lot * d2), Int.natCast_mul]
    generalize upd H20 pw2 (.lst [.int (fromL lot : Int), .int ((fromL lot + gL lot : Nat) : Int), .int ((fromL lot : Int) + (gL lot : Int) * (d2 : Int))]) = H21 at RJ hL21 hO21 hs21 hw21 ⊢
    clear xN hpw2
    refine q_forW (fun _ => False) (src_list (xs := numV [fromL lot, fromL lot + gL lot, fromL lot + gL lot * d2]) (fun H' e' Q' q' => q' H' (Ex.refl _)) (sq_of hw21)) (fun _ z => z.elim)
      (fun Hs i σ' H' => ∃ (v7 : Option V), σ' = [some (.ref fa), some (.ref pl), some (.ref po), some (.int (most : Int)), some (.int (maxL lot : Int)), none, some (.ref pd), v7, some (.ref pa), some (.ref pb), w10, w11, w12, w13, w14, w15, w16, w17, w18, some (.ref ps), none, none] ∧ Ex Hs H') ?_ ?_ ?_ ?_ ?_
    · intro Hs e
      exact ⟨_, rfl, Ex.refl _⟩
    · rintro Hs i σ' H' ⟨_, _, h⟩
      exact .of h
    · rintro Hs i σ' Ha Hb ⟨v7, h0, h⟩ e
      exact ⟨v7, h0, h.trans e⟩
    · rintro Hs i x σ' H' e0 hi ⟨v7, rfl, e1⟩ hx
      obtain ⟨m, rfl, hm1, hm2⟩ : ∃ m : Nat, x = .int (m : Int) ∧ fromL lot ≤ m ∧ gL lot ∣ m := by
        have hmem : x ∈ numV [fromL lot, fromL lot + gL lot, fromL lot + gL lot * d2] := List.mem_of_getElem? hx
        unfold numV at hmem
        obtain ⟨m, hm, rfl⟩ := List.mem_map.mp hmem
        simp only [List.mem_cons, List.not_mem_nil, or_false] at hm
        rcases hm with rfl | rfl | rfl
        · exact ⟨_, rfl, Nat.le_refl _, hF2⟩
        · exact ⟨_, rfl, Nat.le_add_right _ _, (Nat.dvd_add_right hF2).mpr (Nat.dvd_refl _)⟩
        · exact ⟨_, rfl, Nat.le_add_right _ _, (Nat.dvd_add_right hF2).mpr (Nat.dvd_mul_right _ _)⟩
      have hLx := hL21.ex (e0.trans e1)
      have hne := cnt_some hL hm1 hm2
      refine s_when (σ := [some (.ref fa), some (.ref pl), some (.ref po), some (.int (most : Int)), some (.int (maxL lot : Int)), none, some (.ref pd), some (.int (m : Int)), some (.ref pa), some (.ref pb), w10, w11, w12, w13, w14, w15, w16, w17, w18, some (.ref ps), none, none]) (b := false) (et_andG (a := decide ((m : Int) ≤ 400)) (et_test (ev_op (ev_var rfl) ev_c rv_I0)) (fun hle => ?_) fun _ => rfl) (fun z => by cases z) (fun _ H22 e22 => ⟨_, rfl, e1.trans e22⟩)
      have hle' := of_decide_eq_true hle
      exact et_is (et_test (ev_op (hcnt rfl (ev_var rfl) (by omega) hLx) ev_c rv_I0)) (decide_eq_false (by omega))
    rintro Hs σ' H22 eS ⟨v7, rfl, eS2⟩
    have e22 := eS.trans eS2
    have RK := RJ.then e22
    have hL22 := hL21.ex e22
    have hO22 := hO21.ex e22
    have hs22 := e22 _ _ hs21
    clear hL21 hO21 hs21 hw21 RJ eS eS2
    try dsimp only
    -- the one ahead
    refine q_when (b := false) (et_andG (a := decide ((fromL lot : Int) > 0)) (et_test (ev_op (hix rfl hs22).1 ev_c rv_I0)) (fun hpos => ?_) fun _ => rfl) (fun z => by cases z) (fun _ H23 e23 => ?_)
    · have hpos' := of_decide_eq_true hpos
      have hgF : gL lot ≤ fromL lot := Nat.le_of_dvd (by omega) hF2
      refine et_is (et_test (ev_op (hcnt (m := fromL lot - gL lot) rfl (ev_is (ev_op (hix rfl hs22).1 (hix rfl hs22).2 rv_I0) (by congr 1; omega)) (by omega) hL22) ev_c rv_I0)) ?_
      rw [cnt_none hL (by omega)]
      rfl
    have hL23 := hL22.ex e23
    have hO23 := hO22.ex e23
    have RL := RK.then e23
    -- wrong, number
    refine wp_wrong (pl := pl) (lot := lot) (B := 1) rfl rfl hL23 (G.go RL (m' := 1) (by omega)) (by decide) fun wr H24 hwr R24 => ?_
    have RM := RL.trans R24
    refine wp_oneL (i := 0) (vs := [.int 0, .int 401, .int (-1), .bl true, .non, T [51], .int (10 ^ 20)]) rfl (el_lst (ea_cons ev_c (ea_cons ev_c (ea_cons (ev_un ev_c ru_neg) (ea_cons ev_c (ea_cons ev_c (ea_cons ev_c (ea_cons (ev_is (ev_op ev_c ev_c (rv_I (C := CPow) (g := fun i j => .int (i ^ j.toNat)) ⟨by decide, by decide, by decide⟩)) rfl) ea_nil))))))) (by show 7 ≤ 100000; decide)) (G.go RM (m' := 1) (by omega)) (by simp) (by simp) fun nu H25 hnu R25 => ⟨_, _, rfl, ?_⟩
    have RN := RM.trans R25
    obtain ⟨on, hnt, hnb⟩ : ∃ o, Nt nu o ∧ inB 1 400 o = false := by
      simp only [List.mem_cons, List.not_mem_nil, or_false] at hnu
      rcases hnu with rfl | rfl | rfl | rfl | rfl | rfl | rfl
      · exact ⟨_, .int _, rfl⟩
      · exact ⟨_, .int _, rfl⟩
      · exact ⟨_, .int _, rfl⟩
      · exact ⟨_, .bl _, rfl⟩
      · exact ⟨_, .non, rfl⟩
      · exact ⟨_, .str _, rfl⟩
      · exact ⟨_, .int _, by decide⟩
    have hL25 : LotAt pl lot H25 := ⟨R25.at_ (R24.at_ hL23.1 npl) npl, hL⟩
    have hO25 : LotAt po oth H25 := ⟨R25.at_ (R24.at_ hO23.1 npo) npo, hO⟩
    obtain ⟨ow, hwt, hwb, hws⟩ := hwr.rf R25 (G.go RM (by omega)) (G.go RN (m' := 0) (by omega))
    have es : (([some (.ref fa), some (.ref pl), some (.ref po), some (.int (most : Int)), some (.int (maxL lot : Int)), none, some (.ref pd), v7, some (.ref pa), some (.ref pb), w10, w11, w12, w13, w14, w15, w16, w17, w18, some (.ref ps), none, none] : L2.St).set 20 (some wr)).set 12 (some nu) = [some (.ref fa), some (.ref pl), some (.ref po), some (.int (most : Int)), some (.int (maxL lot : Int)), none, some (.ref pd), v7, some (.ref pa), some (.ref pb), w10, w11, some nu, w13, w14, w15, w16, w17, w18, some (.ref ps), some wr, none] := rfl
    rw [es]
    clear es
    have hxl : ∀ (t : Tx) (H3 : Hp), Dp K H3 (T t) (dT t) := fun _ _ => .str _
    refine q_asgD (d := .list [.tuple [dT xErr, dT xLot], .tuple [dT xErr, dT xLot], .tuple [dT xErr, dT xNum]]) (evd_lst3 (evd_said (t := xErr) (ea_cons (ev_var rfl) (ea_cons (ev_var rfl) (ea_cons (ev_var rfl) ea_nil))) (hxl xLot) fun H6 Q6 e6 q6 => ⟨wr, wr, nu, ow, ow, on, rfl, hwt.ex e6, hwt.ex e6, hnt, hws, hws, .inl ⟨hwb, q6⟩⟩) (evd_said (t := xErr) (ea_cons (ev_var rfl) (ea_cons (ev_var rfl) (ea_cons (ev_var rfl) ea_nil))) (hxl xLot) fun H6 Q6 e6 q6 => ⟨.ref pl, wr, nu, some lot, ow, on, rfl, .tup (e6 _ _ hL25.1), hwt.ex e6, hnt, sm_ok hL, hws, .inr (.inl ⟨lotB_ok hL, hwb, q6⟩)⟩) (evd_said (t := xErr) (ea_cons (ev_var rfl) (ea_cons (ev_var rfl) (ea_cons (ev_var rfl) ea_nil))) (hxl xNum) fun H6 Q6 e6 q6 => ⟨.ref pl, .ref po, nu, some lot, some oth, on, rfl, .tup (e6 _ _ hL25.1), .tup (e6 _ _ hO25.1), hnt, sm_ok hL, sm_ok hO, .inr (.inr (.inl ⟨lotB_ok hL, lotB_ok hO, hnb, q6⟩))⟩)) fun vt H26 e26 hvt => ?_
    have hpair : ∀ (t : Tx) {σ : L2.St} {Hx : Hp}, EvD K (tTup (tCons (tC (T xErr)) (tCons (tC (T t)) tNil))) σ Hx (.tuple [dT xErr, dT t]) := fun t {σ Hx} => evd_tup (eu_tup (ea_cons ev_c (ea_cons ev_c ea_nil)) (by show 2 ≤ 100000; decide)) fun _ => .cons (.str _) (.cons (.str _) .nil)
    refine s_ret (ev_eqDD (d := .list [.tuple [dT xErr, dT xLot], .tuple [dT xErr, dT xLot], .tuple [dT xErr, dT xNum]]) (e := .list [.tuple [dT xErr, dT xLot], .tuple [dT xErr, dT xLot], .tuple [dT xErr, dT xNum]]) (evd_ev (ev_var rfl) hvt) (evd_lst3 (hpair xLot) (hpair xLot) (hpair xNum)) (by decide +kernel) (by decide +kernel) (by decide +kernel)) fun H27 e27 => k H27 (((RN.then e26).then e27).mono (by omega))
end
end K24
set_option Elab.async false
set_option linter.all false
set_option maxRecDepth 100000
set_option maxHeartbeats 2000000
set_option exponentiation.threshold 5000
namespace K24
open PySem PySem.Spec PyProof.Rows L2 Evl Wc
section
variable {P : Program} {w : World} {K : PySem.W.Frag} {mg : Str → Option Value} {base : Heap}
theorem ok__law_feed {f : Addr} {fd : FuncData} (F : Fun K "_law_feed" "_law_feed" st__law_feed f fd) (M : Md K mg) : FnOk P w K mg base CX0 1 f fd ["script", "k"] (sp_feed K) := by
  have nd := sc__law_feed.nd
  refine F.ok sc__law_feed (fun vs H Q E h => ?_) (fun cdv A outer s H vs Q E hr h => ?_)
  · obtain ⟨_, _, _, _, rfl, _⟩ := h
    rfl
  · obtain ⟨a, ns, k, e, rfl, hS, hk, he1, he2, hz, kk⟩ := h
    refine ⟨_, (pss_cons (ps_set (i := 2) nd rfl (Or.inl rfl) (pe_op op_add (pe_op op_mulB pe_int (pv 1)) (pe_callB (kcr K (r := rSum) (cr_sum rfl)) (by rfl) M.n_sum boot_sum (pa_cons (pe_slice (ksl K (r := rSlL) sl_list) (pv 0) po_none (po_some pe_int)) pa_nil))))
  (pss_cons (ps_if (pt_cmpR op_lt (pv 1) (pe_callB (kcr K (r := rLenS) call_len_seq) (by rfl) M.n_len boot_len (pa_cons (pv 0) pa_nil)) (nomark _))
  (pss_one (ps_set (i := 2) nd rfl (Or.inl rfl) (pe_ix (kix K (r := L2.rIxL) ix_list) (pv 0) (pv 1) (fun _ _ => rfl))))
  pss_nil)
  (pss_one (ps_ret (pe_lst (pa_cons (pe_callB (call_max2 rfl) (by rfl) M.n_max boot_max (pa_cons pe_int (pa_cons (pe_op op_sub (pv 2) (pe_op op_pow pe_int pe_int)) pa_nil))) (pa_cons (pe_op op_modP (pe_callTy call_int1 (by rfl) M.n_int boot_int (pa_cons (pe_op op_add (pe_op op_mulB (pv 2) pe_int) (pe_op op_mulB pe_int (pv 1))) pa_nil)) (pe_op op_add (pe_op op_pow pe_int pe_int) pe_int)) (pa_cons pe_int pa_nil)))))))), ?_⟩
    have hsum : Ev (tCB (rSum K) (tCons (tSl (rSlL K) (tVar 0) tNoPart (tPart (tC (.int 1)))) tNil)) (start N__law_feed [.ref a, .int (k : Int)]) H (.int (ns.take 1).sum) := by
      refine ev_cbL (el_sl (ev_var rfl) eo_none (eo_some ev_c) hS) fun p H1 hp e1 => rc_sum (ns := ns.take 1) (sq_of ?_)
      have ec : cutV (ns.map V.int) none (some 1) = (ns.take 1).map V.int := by
        rw [List.map_take]
        exact cutV_to _ 1
      rw [hp, ec]
    have hs1 : (ns.take 1).sum.natAbs < 2 ^ e := by
      cases ns with
      | nil => exact Nat.pow_pos (by decide)
      | cons z r =>
        have := hz z List.mem_cons_self
        simpa using this
    refine q_asg (ev_op (ev_op ev_c (ev_var rfl) (rv_I (mulB (a := 20) (b := 20) (by decide) (by simp; omega) (by decide) (by decide) (by decide)))) hsum rv_I0) fun H1 e1 => ?_
    -- what cell is behind the if
    have rest : ∀ (cell : Int) H2, Ex H H2 → cell.natAbs < 2 ^ (e + 72) → ∀ {tz : TS}, (∀ {te : TE}, EvL te [some (.ref a), some (.int (k : Int)), some (.int cell)] H2 [.int (if cell - 10 ^ (18 : Int).toNat > 0 then cell - 10 ^ (18 : Int).toNat else 0), .int ((cell * 19 + 7 * (k : Int)) % (10 ^ (39 : Int).toNat + 23)), .int 0] → tRet te { nx := fun _ H' => Q .non H', rt := Q } [some (.ref a), some (.int (k : Int)), some (.int cell)] H2) := fun cell H2 e2 hc {tz te} h => by
      refine s_retL h fun fa H3 nfa e3 hfa => kk fa H3 (fresh_back e2 nfa) (e2.trans e3) ?_
      have hd : (cell + -(10 : Int) ^ (18 : Int).toNat).natAbs < 2 ^ (e + 72 + 72) := pow_add_small hc (by decide)
      refine ⟨_, _, _, e + 144, hfa, ?_, by omega, by omega, ?_, Int.emod_nonneg _ (by decide), Int.lt_trans (Int.emod_lt_of_pos _ (by decide)) (by decide), Int.le_refl _, Int.le_refl _⟩
      · split
        · omega
        · exact Int.le_refl _
      · split
        · rw [Int.sub_eq_add_neg]
          exact hd
        · exact Nat.pow_pos (by decide)
    have hfin : ∀ (cell : Int) H2, Ex H H2 → cell.natAbs < 2 ^ (e + 72) → EvL _ [some (.ref a), some (.int (k : Int)), some (.int cell)] H2 [.int (if cell - 10 ^ (18 : Int).toNat > 0 then cell - 10 ^ (18 : Int).toNat else 0), .int ((cell * 19 + 7 * (k : Int)) % (10 ^ (39 : Int).toNat + 23)), .int 0] := fun cell H2 e2 hc =>
      el_lst (ea_cons (ev_max2 ev_c (ev_op (ev_var (i := 2) rfl) (ev_op ev_c ev_c (rv_I (C := CPow) (g := fun i j => .int (i ^ j.toNat)) ⟨by decide, by decide, by decide⟩)) (rv_I0 (g := fun i j => .int (i - j))))) (ea_cons (ev_op (ev_cb (ea_cons (ev_op (ev_op (ev_var (i := 2) rfl) ev_c (rv_I (C := CMulB) (g := fun i j => .int (i * j)) (mulB hc (b := 10) (by decide) (by omega) (by decide) (by omega)))) (ev_op ev_c (ev_var (i := 1) rfl) (rv_I (C := CMulB) (g := fun i j => .int (i * j)) (mulB (a := 20) (b := 20) (by decide) (by simp; omega) (by decide) (by decide) (by decide)))) (rv_I0 (g := fun i j => .int (i + j)))) ea_nil) rc_int)
        (ev_op (ev_op ev_c ev_c (rv_I (C := CPow) (g := fun i j => .int (i ^ j.toNat)) ⟨by decide, by decide, by decide⟩)) ev_c (rv_I0 (g := fun i j => .int (i + j)))) (rv_I (C := fun _ j => 0 < j) (g := fun i j => .int (i % j)) (by decide))) (ea_cons ev_c ea_nil))) (by show 3 ≤ 100000; decide)
    refine q_when (et_test (ev_op (ev_var rfl) (ev_len (ev_var rfl) (ex_l e1 hS)) rv_I0)) (fun hb H2 e2 => ?_) (fun hb H2 e2 => ?_)
    · have hlt : k < ns.length := by
        have := of_decide_eq_true hb
        rw [List.length_map] at this
        omega
      refine s_asg (v := .int ns[k]) (ev_op (ev_var rfl) (ev_var rfl) (rv_ixL (ex_l (e1.trans e2) hS) (atI_nat (by rw [List.getElem?_map, List.getElem?_eq_getElem hlt]; rfl)))) fun H3 e3 => ?_
      exact rest ns[k] H3 ((e1.trans e2).trans e3) (Nat.lt_of_lt_of_le (hz _ (List.getElem_mem hlt)) (Nat.pow_le_pow_right (by decide) (by omega))) (tz := tNext) (hfin ns[k] H3 ((e1.trans e2).trans e3) (Nat.lt_of_lt_of_le (hz _ (List.getElem_mem hlt)) (Nat.pow_le_pow_right (by decide) (by omega))))
    · have hc : (977 * (k : Int) + (ns.take 1).sum).natAbs < 2 ^ (e + 72) := by
        rw [Int.add_comm]
        refine pow_add_small hs1 (Nat.le_trans (show (977 * (k : Int)).natAbs ≤ 1000000 by omega) (by decide))
      exact rest _ H2 (e1.trans e2) hc (tz := tNext) (hfin _ H2 (e1.trans e2) hc)
end
end K24
set_option Elab.async false
set_option linter.all false
set_option maxRecDepth 100000
set_option maxHeartbeats 2000000
namespace K24
open PySem PySem.Spec PyProof.Rows L2 Evl Wc Wt Wg
section
variable {P : Program} {w : World} {K : PySem.W.Frag} {mg : Str → Option Value} {base : Heap}
def sp_law (K : PySem.W.Frag) : Sp := fun vs H Q _ => ∃ (a : Addr) (ns : List Int) (e : Nat), vs = [.ref a] ∧ SqL K H a (ns.map V.int) ∧ ns.length ≤ 63 ∧ 1 ≤ e ∧ e ≤ 1100000 ∧ (∀ z ∈ ns, z.natAbs < 2 ^ e) ∧ ∀ H', Q (.bl true) H'
theorem ok_law {f : Addr} {fd : FuncData} (F : Fun K "law" "law" st_law f fd) (M : Md K mg) (C__law_feed : Cal P w K mg base "_law_feed" st__law_feed 1 ["script", "k"] (sp_feed K)) (C__law_right : CalG P w K mg base "_law_right" st__law_right 9 ["feed"] sp_law_right) : FnOkG P w K mg base 10 f fd ["script"] (sp_law K) := by
  have nd := sc_law.nd
  refine Fun.okG F sc_law (fun vs H Q E h => ?_) (fun cdv A outer s H vs Q E hr hgd h => ?_)
  · obtain ⟨_, _, _, rfl, _⟩ := h
    rfl
  · obtain ⟨a, ns, e, rfl, hS, hlen, he1, he2, hz, k⟩ := h
    refine ⟨_, (pss_cons (ps_for PassesOwn.never rfl (pi_range1 (by rfl) M.n_range (pa_cons (pe_callB (call_max2 rfl) (by rfl) M.n_max boot_max (pa_cons pe_int (pa_cons (pe_callB (call_min2 rfl) (by rfl) M.n_min boot_min (pa_cons (pe_callB (kcr K (r := rLenS) call_len_seq) (by rfl) M.n_len boot_len (pa_cons (pv 0) pa_nil)) (pa_cons pe_int pa_nil))) pa_nil))) pa_nil)) (pg_name (i := 1) nd rfl (Or.inl rfl))
  (pss_one (ps_if (pt_not (pt_val (pe_clG C__law_right hr hgd (pa_cons (pe_cl C__law_feed hr (pa_cons (pv 0) (pa_cons (pv 1) pa_nil))) pa_nil))))
  (pss_one (ps_ret pe_bl))
  pss_nil)))
  (pss_one (ps_ret pe_bl))), ?_⟩
    obtain ⟨n, hn6, hn⟩ : ∃ n : Nat, n ≤ 4 ∧ (if (if (4 : Int) < ((ns.map V.int).length : Int) then (4 : Int) else ((ns.map V.int).length : Int)) > 1 then (if (4 : Int) < ((ns.map V.int).length : Int) then (4 : Int) else ((ns.map V.int).length : Int)) else 1) = (n : Int) := by
      refine ⟨max 1 (min ns.length 4), by omega, ?_⟩
      rw [List.length_map]
      split <;> split <;> omega
    have hcnt : EvA (tCons (tCB rMax2 (tCons (tC (.int 1)) (tCons (tCB rMin2 (tCons (tCB (rLenS K) (tCons (tVar 0) tNil)) (tCons (tC (.int 4)) tNil))) tNil))) tNil) (start N_law [.ref a]) H [.int (n : Int)] :=
      ea_cons (ev_is (ev_max2 ev_c (ev_min2 (ev_len (ev_var rfl) hS) ev_c)) (by rw [hn])) ea_nil
    refine q_forW (fun _ => False) (src_range1 (n := n) hcnt (by omega)) (fun _ z => z.elim)
      (fun Hs i σ' H' => ∃ v1 : Option V, σ' = [some (.ref a), v1] ∧ Ex Hs H') ?_ ?_ ?_ ?_ ?_
    · intro Hs e
      exact ⟨none, rfl, Ex.refl _⟩
    · rintro Hs i σ' H' ⟨_, _, h1⟩
      exact .of h1
    · rintro Hs i σ' Ha Hb ⟨v1, h0, h1⟩ e
      exact ⟨v1, h0, h1.trans e⟩
    · rintro Hs i x σ' H' e0 hi ⟨v1, rfl, h1⟩ rfl
      have eA : Ex H H' := e0.trans h1
      show tIfS _ _ _ _ [some (.ref a), some (.int (i : Int))] H'
      refine ⟨.ref a, rfl, .int (i : Int), rfl, a, ns, i, e, rfl, ex_l eA hS, by omega, he1, he2, hz, fun fa H2 hfa e2 hF => ?_⟩
      have G0 : GF fa 5000 H2 := ⟨0, by decide, hF⟩
      exact ⟨fa, rfl, G0, fun H3 R3 => ⟨true, rfl, ⟨_, rfl, h1.trans (ex_of_exc e2 hfa R3.keep)⟩⟩⟩
    · rintro Hs σ' H' e0 ⟨v1, rfl, h1⟩
      exact s_ret ev_c fun H2 e2 => k H2
end
end K24
set_option Elab.async false
set_option linter.all false
set_option maxRecDepth 100000
set_option maxHeartbeats 2000000
namespace K24
open PySem PySem.Spec PyProof.Rows L2 Evl Wc Wt Wg Ws Wr We _root_.Wd
/-- a def of the top, as it stands -/
def Top (K : PySem.W.Frag) (x : Str) (st : Stmt) : Prop := ∃ (f : Addr) (oc : Value) (od an : Option Addr) (osl : Array (Option Value)) (kV doc pm cdv ct : Value), PySem.W.nsIn K mainGlobals x = some (some (.ref f)) ∧ K.lookup f = some ⟨oc, od, .func (PySem.W.fnOf x x (defArgs st) (defBody st) (defScope st) .none kV doc pm an cdv ct), osl⟩ ∧ PySem.W.codeIn K cdv x = true ∧ PySem.W.keepIn K (.ref f) = true
theorem top_mk {K : PySem.W.Frag} {x : Str} {st : Stmt} {f : Addr} {oc : Value} {od an : Option Addr} {osl : Array (Option Value)} {kV doc pm cdv ct : Value} (a : PySem.W.nsIn K mainGlobals x = some (some (.ref f))) (l : K.lookup f = some ⟨oc, od, .func (PySem.W.fnOf x x (defArgs st) (defBody st) (defScope st) .none kV doc pm an cdv ct), osl⟩) (c : PySem.W.codeIn K cdv x = true) (k : PySem.W.keepIn K (.ref f) = true) : Top K x st := ⟨f, oc, od, an, osl, kV, doc, pm, cdv, ct, a, l, c, k⟩
section
variable {P : Program} {w : World} {K : PySem.W.Frag} {mg : Str → Option Value} {base h : Heap} {x : Str} {st : Stmt} {k : Nat} {ps : List Str} {sp : Sp}
theorem Top.cal (T : Top K x st) (X : K.In h) (G : h.Ns mainGlobals mg)
    (hb : ∀ (kV doc pm : Value) (an : Option Addr) (cdv ct : Value) (us : List Value), us.length = ps.length → bindArgs (PySem.W.fnOf x x (defArgs st) (defBody st) (defScope st) .none kV doc pm an cdv ct) ⟨us, []⟩ = pure (ps.zip us))
    (ok : ∀ f fd, Fun K x x st f fd → FnOk P w K mg base CX0 k f fd ps sp) : Cal P w K mg base x st k ps sp := by
  obtain ⟨f, oc, od, an, osl, kV, doc, pm, cdv, ct, a, l, c, k⟩ := T
  have F := fun_mk (st := st) l c k
  exact ⟨f, _, ok _ _ F, PySem.W.mg_of X G a, F, F.binds hb⟩
theorem Top.calG (T : Top K x st) (X : K.In h) (G : h.Ns mainGlobals mg)
    (hb : ∀ (kV doc pm : Value) (an : Option Addr) (cdv ct : Value) (us : List Value), us.length = ps.length → bindArgs (PySem.W.fnOf x x (defArgs st) (defBody st) (defScope st) .none kV doc pm an cdv ct) ⟨us, []⟩ = pure (ps.zip us))
    (ok : ∀ f fd, Fun K x x st f fd → FnOkG P w K mg base k f fd ps sp) : CalG P w K mg base x st k ps sp := by
  obtain ⟨f, oc, od, an, osl, kV, doc, pm, cdv, ct, a, l, c, k⟩ := T
  have F := fun_mk (st := st) l c k
  exact ⟨f, _, ok _ _ F, PySem.W.mg_of X G a, F, F.binds hb⟩
theorem Top.calS (T : Top K x st) (X : K.In h) (G : h.Ns mainGlobals mg)
    (hb : ∀ (kV doc pm : Value) (an : Option Addr) (cdv ct : Value) (us : List Value), us.length = ps.length → bindArgs (PySem.W.fnOf x x (defArgs st) (defBody st) (defScope st) .none kV doc pm an cdv ct) ⟨us, []⟩ = pure (ps.zip us))
    (ok : ∀ f fd, Fun K x x st f fd → FnOk P w K mg base (L2.CX P w) k f fd ps sp) : CalS P w K mg base x st k ps sp := by
  obtain ⟨f, oc, od, an, osl, kV, doc, pm, cdv, ct, a, l, c, k⟩ := T
  have F := fun_mk (st := st) l c k
  exact ⟨f, _, ok _ _ F, PySem.W.mg_of X G a, F, F.binds hb⟩
/-- .. by its address, its name a value -/
theorem Top.at_ (T : Top K x st) (X : K.In h) (G : h.Ns mainGlobals mg)
    (hb : ∀ (kV doc pm : Value) (an : Option Addr) (cdv ct : Value) (us : List Value), us.length = ps.length → bindArgs (PySem.W.fnOf x x (defArgs st) (defBody st) (defScope st) .none kV doc pm an cdv ct) ⟨us, []⟩ = pure (ps.zip us))
    (ok : ∀ f fd, Fun K x x st f fd → FnOk P w K mg base CX0 k f fd ps sp) : ∃ f, C8.CalAt P w K mg base k f sp ∧ ∃ u, mg x = some u ∧ RelV (.ref f) u := by
  obtain ⟨f, oc, od, an, osl, kV, doc, pm, cdv, ct, a, l, c, k⟩ := T
  have F := fun_mk (st := st) l c k
  exact ⟨f, ⟨_, ps, ok _ _ F, k, F.binds hb⟩, _, PySem.W.mg_of X G a, rfl⟩
/-- .. whatever its context -/
theorem Top.fn {CX : CXT} (T : Top K x st) (X : K.In h) (G : h.Ns mainGlobals mg)
    (hb : ∀ (kV doc pm : Value) (an : Option Addr) (cdv ct : Value) (us : List Value), us.length = ps.length → bindArgs (PySem.W.fnOf x x (defArgs st) (defBody st) (defScope st) .none kV doc pm an cdv ct) ⟨us, []⟩ = pure (ps.zip us))
    (ok : ∀ f fd, Fun K x x st f fd → FnOk P w K mg base CX k f fd ps sp) : ∃ f fd, FnOk P w K mg base CX k f fd ps sp ∧ Binds K fd ps [] ∧ mg x = some (.ref f) ∧ PySem.W.keepIn K (.ref f) = true := by
  obtain ⟨f, oc, od, an, osl, kV, doc, pm, cdv, ct, a, l, c, k⟩ := T
  have F := fun_mk (st := st) l c k
  exact ⟨f, _, ok _ _ F, F.binds hb, PySem.W.mg_of X G a, k⟩
/-- a method, as it stands -/
def TopM (K : PySem.W.Frag) (C : Addr) (m q : Str) (st : Stmt) : Prop := ∃ (f : Addr) (oc : Value) (od an : Option Addr) (osl : Array (Option Value)) (kV doc pm cdv ct : Value), PySem.W.findIn K (.ref C) m = some (some (.ref f)) ∧ PySem.W.isFn K (.ref f) = true ∧ K.lookup f = some ⟨oc, od, .func (PySem.W.fnOf m q (defArgs st) (defBody st) (defScope st) .none kV doc pm an cdv ct), osl⟩ ∧ PySem.W.codeIn K cdv q = true ∧ PySem.W.keepIn K (.ref f) = true
theorem topm_mk {C : Addr} {m q : Str} {f : Addr} {oc : Value} {od an : Option Addr} {osl : Array (Option Value)} {kV doc pm cdv ct : Value} (a : PySem.W.findIn K (.ref C) m = some (some (.ref f))) (i : PySem.W.isFn K (.ref f) = true) (l : K.lookup f = some ⟨oc, od, .func (PySem.W.fnOf m q (defArgs st) (defBody st) (defScope st) .none kV doc pm an cdv ct), osl⟩) (c : PySem.W.codeIn K cdv q = true) (k : PySem.W.keepIn K (.ref f) = true) : TopM K C m q st := ⟨f, oc, od, an, osl, kV, doc, pm, cdv, ct, a, i, l, c, k⟩
theorem TopM.met {C : Addr} {m q : Str} (T : TopM K C m q st) (cl : Cls K C)
    (hb : ∀ (kV doc pm : Value) (an : Option Addr) (cdv ct : Value) (us : List Value), us.length = ps.length → bindArgs (PySem.W.fnOf m q (defArgs st) (defBody st) (defScope st) .none kV doc pm an cdv ct) ⟨us, []⟩ = pure (ps.zip us))
    (ok : ∀ f fd, Fun K m q st f fd → FnOk P w K mg base CX0 k f fd ps sp) : C8.Met P w K mg base k C m sp [] := by
  obtain ⟨f, oc, od, an, osl, kV, doc, pm, cdv, ct, a, i, l, c, k⟩ := T
  have F := fun_mk (st := st) l c k
  exact ⟨f, _, ps, [], cl, ⟨a, i, k⟩, ok _ _ F, F.binds hb, .nil⟩
theorem TopM.mak {C : Addr} {q : Str} (T : TopM K C "__init__" q st) (X : K.In h) (G : h.Ns mainGlobals mg) (n : PySem.W.nsIn K mainGlobals x = some (some (.ref C))) (mk : PySem.W.makesIn K C = true) (kc : PySem.W.keepIn K (.ref C) = true)
    (hb : ∀ (kV doc pm : Value) (an : Option Addr) (cdv ct : Value) (us : List Value), us.length = ps.length → bindArgs (PySem.W.fnOf "__init__" q (defArgs st) (defBody st) (defScope st) .none kV doc pm an cdv ct) ⟨us, []⟩ = pure (ps.zip us))
    (ok : ∀ f fd, Fun K "__init__" q st f fd → FnOk P w K mg base CX0 k f fd ps sp) : Mak P w K mg base k C x sp := by
  obtain ⟨f, oc, od, an, osl, kV, doc, pm, cdv, ct, a, i, l, c, k⟩ := T
  have F := fun_mk (st := st) l c k
  exact ⟨f, _, ps, ⟨mk, a, i, kc⟩, ok _ _ F, F.binds hb, PySem.W.mg_of X G n⟩
end
theorem all_mk {l : PySem.W.OpenLaw} {w : World} {K : PySem.W.Frag} {h : Heap} {mg : Str → Option Value} {fa : Addr} (X : K.In h) (G : h.Ns mainGlobals mg) (hfa : mg "law" = some (.ref fa))
    (n_ValueError : PySem.W.nsIn K mainGlobals "ValueError" = some none)
    (n_all : PySem.W.nsIn K mainGlobals "all" = some none)
    (n_any : PySem.W.nsIn K mainGlobals "any" = some none)
    (n_bool : PySem.W.nsIn K mainGlobals "bool" = some none)
    (n_enumerate : PySem.W.nsIn K mainGlobals "enumerate" = some none)
    (n_int : PySem.W.nsIn K mainGlobals "int" = some none)
    (n_isinstance : PySem.W.nsIn K mainGlobals "isinstance" = some none)
    (n_len : PySem.W.nsIn K mainGlobals "len" = some none)
    (n_list : PySem.W.nsIn K mainGlobals "list" = some none)
    (n_max : PySem.W.nsIn K mainGlobals "max" = some none)
    (n_min : PySem.W.nsIn K mainGlobals "min" = some none)
    (n_range : PySem.W.nsIn K mainGlobals "range" = some none)
    (n_repr : PySem.W.nsIn K mainGlobals "repr" = some none)
    (n_set : PySem.W.nsIn K mainGlobals "set" = some none)
    (n_sorted : PySem.W.nsIn K mainGlobals "sorted" = some none)
    (n_str : PySem.W.nsIn K mainGlobals "str" = some none)
    (n_sum : PySem.W.nsIn K mainGlobals "sum" = some none)
    (n_tuple : PySem.W.nsIn K mainGlobals "tuple" = some none)
    (n_zip : PySem.W.nsIn K mainGlobals "zip" = some none)
    {t_c_SIGNS : Tok} (c_SIGNS : PySem.W.nsIn K mainGlobals "SIGNS" = some (some (.str (Str.ofString "abcd") t_c_SIGNS)))
    {t_c_MOST_LETTERS : Tok} (c_MOST_LETTERS : PySem.W.nsIn K mainGlobals "MOST_LETTERS" = some (some (.int 12 t_c_MOST_LETTERS)))
    {t_c_MOST_WORDS : Tok} (c_MOST_WORDS : PySem.W.nsIn K mainGlobals "MOST_WORDS" = some (some (.int 12 t_c_MOST_WORDS)))
    {t_c_MOST_COUNTED : Tok} (c_MOST_COUNTED : PySem.W.nsIn K mainGlobals "MOST_COUNTED" = some (some (.int 400 t_c_MOST_COUNTED)))
    (f_gcd : PySem.W.nsIn K mainGlobals "gcd" = some (some (.builtin "math.gcd")))
    {CL CN CM CB : Addr}
    (aB : PySem.W.nsIn K mainGlobals "CutError" = some (some (.ref CB)))
    (aM : PySem.W.nsIn K mainGlobals "TooMany" = some (some (.ref CM)))
    (bx3 : PySem.W.subIn K (.ref CB) (.type "BaseException") = some true)
    (bx4 : PySem.W.typeIn K (.ref CB) = some (.type "type"))
    (by3 : PySem.W.hasDictIn K CB = true)
    (aL : PySem.W.nsIn K mainGlobals "BadLot" = some (some (.ref CL)))
    (Lx1 : PySem.W.excIn K CL [.type "ValueError", .type "Exception", .type "BaseException", .type "object"] "ValueError.__new__" = true)
    (Lx2 : PySem.W.keepIn K (.ref CL) = true)
    (Lx3 : PySem.W.subIn K (.ref CL) (.type "BaseException") = some true)
    (Lx4 : PySem.W.typeIn K (.ref CL) = some (.type "type"))
    (LxB : PySem.W.subIn K (.ref CL) (.ref CB) = some true)
    (Ly1 : PySem.W.findIn K (.ref CL) "__getattribute__" = some (some (.builtin "BaseException.__getattribute__")))
    (Ly2 : PySem.W.findIn K (.ref CL) "__getattr__" = some none)
    (Ly3 : PySem.W.hasDictIn K CL = true)
    (Ly4 : PySem.W.findIn K (.ref CL) "__class__" = some (some (.builtin "object.__class__")))
    (Ly5 : PySem.W.specialIn K (.builtin "object.__class__") "__get__" = some (some (.builtin "getset_descriptor.__get__")))
    (Ly6 : PySem.W.takesIn K (.builtin "object.__class__") = some true)
    (Ly7 : PySem.W.mroIn K CL (.type "object") = some true)
    (aN : PySem.W.nsIn K mainGlobals "BadNumber" = some (some (.ref CN)))
    (Nx1 : PySem.W.excIn K CN [.type "ValueError", .type "Exception", .type "BaseException", .type "object"] "ValueError.__new__" = true)
    (Nx2 : PySem.W.keepIn K (.ref CN) = true)
    (Nx3 : PySem.W.subIn K (.ref CN) (.type "BaseException") = some true)
    (Nx4 : PySem.W.typeIn K (.ref CN) = some (.type "type"))
    (NxB : PySem.W.subIn K (.ref CN) (.ref CB) = some true)
    (Ny1 : PySem.W.findIn K (.ref CN) "__getattribute__" = some (some (.builtin "BaseException.__getattribute__")))
    (Ny2 : PySem.W.findIn K (.ref CN) "__getattr__" = some none)
    (Ny3 : PySem.W.hasDictIn K CN = true)
    (Ny4 : PySem.W.findIn K (.ref CN) "__class__" = some (some (.builtin "object.__class__")))
    (Ny5 : PySem.W.specialIn K (.builtin "object.__class__") "__get__" = some (some (.builtin "getset_descriptor.__get__")))
    (Ny6 : PySem.W.takesIn K (.builtin "object.__class__") = some true)
    (Ny7 : PySem.W.mroIn K CN (.type "object") = some true)
    (kll : PySem.W.kitOne K (.ref CL) (.ref CL) = some true)
    (kln : PySem.W.kitOne K (.ref CL) (.ref CN) = some false)
    (klm : PySem.W.kitOne K (.ref CL) (.ref CM) = some false)
    (knl : PySem.W.kitOne K (.ref CN) (.ref CL) = some false)
    (knn : PySem.W.kitOne K (.ref CN) (.ref CN) = some true)
    (knm : PySem.W.kitOne K (.ref CN) (.ref CM) = some false)
    (T__law_draw : Top K "_law_draw" st__law_draw)
    (T__law_one : Top K "_law_one" st__law_one)
    (T__law_feed : Top K "_law_feed" st__law_feed)
    (T__law_mixed : Top K "_law_mixed" st__law_mixed)
    (T__law_piece : Top K "_law_piece" st__law_piece)
    (T__law_tree : Top K "_law_tree" st__law_tree)
    (T__law_some_words : Top K "_law_some_words" st__law_some_words)
    (T__law_made : Top K "_law_made" st__law_made)
    (T__law_late : Top K "_law_late" st__law_late)
    (T__law_words : Top K "_law_words" st__law_words)
    (T__law_lot : Top K "_law_lot" st__law_lot)
    (T_is_integer : Top K "is_integer" st_is_integer)
    (T_is_within : Top K "is_within" st_is_within)
    (T_need_number : Top K "need_number" st_need_number)
    (T_are_signs : Top K "are_signs" st_are_signs)
    (T_is_word : Top K "is_word" st_is_word)
    (T_is_ascending : Top K "is_ascending" st_is_ascending)
    (T_is_lot_form : Top K "is_lot_form" st_is_lot_form)
    (T_need_lot : Top K "need_lot" st_need_lot)
    (T_lengths_of : Top K "lengths_of" st_lengths_of)
    (T_list_counts : Top K "list_counts" st_list_counts)
    (T_count_lists : Top K "count_lists" st_count_lists)
    (T_recurrence : Top K "recurrence" st_recurrence)
    (T_first_longer : Top K "first_longer" st_first_longer)
    (T__law_lists : Top K "_law_lists" st__law_lists)
    (T__law_divisor : Top K "_law_divisor" st__law_divisor)
    (T_step_and_from : Top K "step_and_from" st_step_and_from)
    (T_all_lengths : Top K "all_lengths" st_all_lengths)
    (T__law_step : Top K "_law_step" st__law_step)
    (T__law_near_lot : Top K "_law_near_lot" st__law_near_lot)
    (T__law_asked : Top K "_law_asked" st__law_asked)
    (T__law_right : Top K "_law_right" st__law_right)
    (T_law : Top K "law" st_law)
    : ∃ fd : FuncData, (∀ (s : Shared) (v : Value), BindsTo s fd ⟨[v], []⟩ [("script", v)]) ∧ ∀ base : Heap, K.In base → base.Ns mainGlobals mg → FnOkG l.prog w K mg base 10 fa fd ["script"] (sp_law K) := by
  have M : Md K mg := ⟨PySem.W.mg_none_of X G n_ValueError, PySem.W.mg_none_of X G n_all, PySem.W.mg_none_of X G n_any, PySem.W.mg_none_of X G n_bool, PySem.W.mg_none_of X G n_enumerate, PySem.W.mg_none_of X G n_int, PySem.W.mg_none_of X G n_isinstance, PySem.W.mg_none_of X G n_len, PySem.W.mg_none_of X G n_list, PySem.W.mg_none_of X G n_max, PySem.W.mg_none_of X G n_min, PySem.W.mg_none_of X G n_range, PySem.W.mg_none_of X G n_repr, PySem.W.mg_none_of X G n_set, PySem.W.mg_none_of X G n_sorted, PySem.W.mg_none_of X G n_str, PySem.W.mg_none_of X G n_sum, PySem.W.mg_none_of X G n_tuple, PySem.W.mg_none_of X G n_zip, ⟨_, PySem.W.mg_of X G c_SIGNS⟩, ⟨_, PySem.W.mg_of X G c_MOST_LETTERS⟩, ⟨_, PySem.W.mg_of X G c_MOST_WORDS⟩, ⟨_, PySem.W.mg_of X G c_MOST_COUNTED⟩, PySem.W.mg_of X G f_gcd⟩
  have E_BadLot : Err K mg "BadLot" CL := ⟨PySem.W.mg_of X G aL, Lx1, Lx2, Lx3, Lx4⟩
  have E_BadNumber : Err K mg "BadNumber" CN := ⟨PySem.W.mg_of X G aN, Nx1, Nx2, Nx3, Nx4⟩
  have EA : ErrA K mg CL CN CM CB := ⟨PySem.W.mg_of X G aB, PySem.W.exm_ref bx3 by3 bx4 LxB, PySem.W.exm_ref bx3 by3 bx4 NxB, ⟨Ly1, Ly2, Lx3, Ly3, Ly4, Ly5, Ly6, Ly7⟩, ⟨Ny1, Ny2, Nx3, Ny3, Ny4, Ny5, Ny6, Ny7⟩, ⟨_, PySem.W.mg_of X G aL, rfl⟩, ⟨_, PySem.W.mg_of X G aN, rfl⟩, ⟨_, PySem.W.mg_of X G aM, rfl⟩, kll, kln, klm, knl, knn, knm⟩
  obtain ⟨f, oc, od, an, osl, kV, doc, pm, cdv, ct, a, lk, c, k⟩ := T_law
  have e := hfa.symm.trans (PySem.W.mg_of X G a)
  cases e
  have F := fun_mk (st := st_law) lk c k
  refine ⟨PySem.W.fnOf "law" "law" (defArgs st_law) (defBody st_law) (defScope st_law) .none kV doc pm an cdv ct, fun s v => .of_eq rfl, fun base _ _ => ?_⟩
  have C__law_draw : Cal l.prog w K mg base "_law_draw" st__law_draw 1 ["feed", "many"] sp_draw := T__law_draw.cal X G (fun _ _ _ _ _ _ us hl => match us, hl with | [_, _], _ => rfl) fun _ _ F => ok__law_draw F M
  have C__law_one : Cal l.prog w K mg base "_law_one" st__law_one 2 ["feed", "things"] (sp_one K) := T__law_one.cal X G (fun _ _ _ _ _ _ us hl => match us, hl with | [_, _], _ => rfl) fun _ _ F => ok__law_one F M C__law_draw
  have C__law_feed : Cal l.prog w K mg base "_law_feed" st__law_feed 1 ["script", "k"] (sp_feed K) := T__law_feed.cal X G (fun _ _ _ _ _ _ us hl => match us, hl with | [_, _], _ => rfl) fun _ _ F => ok__law_feed F M
  have C__law_mixed : Cal l.prog w K mg base "_law_mixed" st__law_mixed 2 ["feed", "things"] (sp_mixed K) := T__law_mixed.cal X G (fun _ _ _ _ _ _ us hl => match us, hl with | [_, _], _ => rfl) fun _ _ F => ok__law_mixed F M C__law_draw
  have C__law_piece : Cal l.prog w K mg base "_law_piece" st__law_piece 3 ["feed", "signs", "long"] sp_piece := T__law_piece.cal X G (fun _ _ _ _ _ _ us hl => match us, hl with | [_, _, _], _ => rfl) fun _ _ F => ok__law_piece F M C__law_draw C__law_one
  have C__law_tree : Cal l.prog w K mg base "_law_tree" st__law_tree 2 ["feed", "signs", "most"] sp_tree := T__law_tree.cal X G (fun _ _ _ _ _ _ us hl => match us, hl with | [_, _, _], _ => rfl) fun _ _ F => ok__law_tree F M C__law_draw
  have C__law_some_words : Cal l.prog w K mg base "_law_some_words" st__law_some_words 4 ["feed", "signs"] sp_some_words := T__law_some_words.cal X G (fun _ _ _ _ _ _ us hl => match us, hl with | [_, _], _ => rfl) fun _ _ F => ok__law_some_words F M C__law_draw C__law_one C__law_piece
  have C__law_made : Cal l.prog w K mg base "_law_made" st__law_made 5 ["feed", "signs"] sp_made := T__law_made.cal X G (fun _ _ _ _ _ _ us hl => match us, hl with | [_, _], _ => rfl) fun _ _ F => ok__law_made F M C__law_draw C__law_tree C__law_some_words
  have C__law_late : Cal l.prog w K mg base "_law_late" st__law_late 5 ["feed"] sp_late := T__law_late.cal X G (fun _ _ _ _ _ _ us hl => match us, hl with | [_], _ => rfl) fun _ _ F => ok__law_late F M C__law_draw C__law_one C__law_mixed C__law_tree
  have C__law_words : Cal l.prog w K mg base "_law_words" st__law_words 6 ["feed"] sp_words := T__law_words.cal X G (fun _ _ _ _ _ _ us hl => match us, hl with | [_], _ => rfl) fun _ _ F => ok__law_words F M C__law_draw C__law_one C__law_mixed C__law_piece C__law_tree C__law_some_words C__law_made C__law_late
  have C__law_lot : Cal l.prog w K mg base "_law_lot" st__law_lot 7 ["feed"] sp_lot := T__law_lot.cal X G (fun _ _ _ _ _ _ us hl => match us, hl with | [_], _ => rfl) fun _ _ F => ok__law_lot F M C__law_mixed C__law_words
  have C_is_integer : Cal l.prog w K mg base "is_integer" st_is_integer 1 ["thing"] sp_is_integer := T_is_integer.cal X G (fun _ _ _ _ _ _ us hl => match us, hl with | [_], _ => rfl) fun _ _ F => ok_is_integer F M
  have C_is_within : Cal l.prog w K mg base "is_within" st_is_within 2 ["thing", "least", "most"] sp_is_within := T_is_within.cal X G (fun _ _ _ _ _ _ us hl => match us, hl with | [_, _, _], _ => rfl) fun _ _ F => ok_is_within F M C_is_integer
  have S_need_number : CalS l.prog w K mg base "need_number" st_need_number 3 ["thing", "least", "most"] (sp_need_number CN) := T_need_number.calS X G (fun _ _ _ _ _ _ us hl => match us, hl with | [_, _, _], _ => rfl) fun _ _ F => ok_need_number F M E_BadNumber C_is_within
  have C_need_number : Cal l.prog w K mg base "need_number" st_need_number 3 ["thing", "least", "most"] (calm (sp_need_number CN)) := S_need_number.calm
  have C_are_signs : Cal l.prog w K mg base "are_signs" st_are_signs 1 ["thing", "most"] sp_are_signs := T_are_signs.cal X G (fun _ _ _ _ _ _ us hl => match us, hl with | [_, _], _ => rfl) fun _ _ F => ok_are_signs F M
  have C_is_word : Cal l.prog w K mg base "is_word" st_is_word 2 ["thing"] sp_is_word := T_is_word.cal X G (fun _ _ _ _ _ _ us hl => match us, hl with | [_], _ => rfl) fun _ _ F => ok_is_word F M C_are_signs
  have C_is_ascending : Cal l.prog w K mg base "is_ascending" st_is_ascending 1 ["things"] sp_ascending := T_is_ascending.cal X G (fun _ _ _ _ _ _ us hl => match us, hl with | [_], _ => rfl) fun _ _ F => ok_is_ascending F M
  have C_is_lot_form : Cal l.prog w K mg base "is_lot_form" st_is_lot_form 3 ["thing"] sp_lot_form := T_is_lot_form.cal X G (fun _ _ _ _ _ _ us hl => match us, hl with | [_], _ => rfl) fun _ _ F => ok_is_lot_form F M C_is_word C_is_ascending
  have S_need_lot : CalS l.prog w K mg base "need_lot" st_need_lot 4 ["lot"] (sp_need_lot CL) := T_need_lot.calS X G (fun _ _ _ _ _ _ us hl => match us, hl with | [_], _ => rfl) fun _ _ F => ok_need_lot F M E_BadLot C_is_lot_form
  have C_need_lot : Cal l.prog w K mg base "need_lot" st_need_lot 4 ["lot"] (calm (sp_need_lot CL)) := S_need_lot.calm
  have C_lengths_of : Cal l.prog w K mg base "lengths_of" st_lengths_of 1 ["lot"] sp_lengths_of := T_lengths_of.cal X G (fun _ _ _ _ _ _ us hl => match us, hl with | [_], _ => rfl) fun _ _ F => ok_lengths_of F M
  have C_list_counts : Cal l.prog w K mg base "list_counts" st_list_counts 2 ["lot", "most"] sp_list_counts := T_list_counts.cal X G (fun _ _ _ _ _ _ us hl => match us, hl with | [_, _], _ => rfl) fun _ _ F => ok_list_counts F M C_lengths_of
  have S_count_lists : CalS l.prog w K mg base "count_lists" st_count_lists 5 ["lot", "count"] sp_count_lists := T_count_lists.calS X G (fun _ _ _ _ _ _ us hl => match us, hl with | [_, _], _ => rfl) fun _ _ F => ok_count_lists F M S_need_lot S_need_number C_list_counts
  have C_count_lists : Cal l.prog w K mg base "count_lists" st_count_lists 5 ["lot", "count"] (calm sp_count_lists) := S_count_lists.calm
  have S_recurrence : CalS l.prog w K mg base "recurrence" st_recurrence 5 ["lot"] sp_recurrence := T_recurrence.calS X G (fun _ _ _ _ _ _ us hl => match us, hl with | [_], _ => rfl) fun _ _ F => ok_recurrence F M S_need_lot C_lengths_of
  have C_recurrence : Cal l.prog w K mg base "recurrence" st_recurrence 5 ["lot"] (calm sp_recurrence) := S_recurrence.calm
  have S_first_longer : CalS l.prog w K mg base "first_longer" st_first_longer 5 ["lot", "other", "count"] (sp_first_longer CL CN) := T_first_longer.calS X G (fun _ _ _ _ _ _ us hl => match us, hl with | [_, _, _], _ => rfl) fun _ _ F => ok_first_longer F M S_need_lot S_need_number C_list_counts
  have C_first_longer : Cal l.prog w K mg base "first_longer" st_first_longer 5 ["lot", "other", "count"] (calm (sp_first_longer CL CN)) := S_first_longer.calm
  have C__law_lists : Cal l.prog w K mg base "_law_lists" st__law_lists 1 ["lot", "most"] sp_lists := T__law_lists.cal X G (fun _ _ _ _ _ _ us hl => match us, hl with | [_, _], _ => rfl) fun _ _ F => ok__law_lists F M
  have C__law_divisor : Cal l.prog w K mg base "_law_divisor" st__law_divisor 1 ["numbers"] sp_divisor := T__law_divisor.cal X G (fun _ _ _ _ _ _ us hl => match us, hl with | [_], _ => rfl) fun _ _ F => ok__law_divisor F M
  have C_step_and_from : Cal l.prog w K mg base "step_and_from" st_step_and_from 1 ["lot"] sp_step_and_from := T_step_and_from.cal X G (fun _ _ _ _ _ _ us hl => match us, hl with | [_], _ => rfl) fun _ _ F => ok_step_and_from F M
  have S_all_lengths : CalS l.prog w K mg base "all_lengths" st_all_lengths 5 ["lot"] sp_step_and_from := T_all_lengths.calS X G (fun _ _ _ _ _ _ us hl => match us, hl with | [_], _ => rfl) fun _ _ F => ok_all_lengths F M S_need_lot C_step_and_from
  have C_all_lengths : Cal l.prog w K mg base "all_lengths" st_all_lengths 5 ["lot"] (calm sp_step_and_from) := S_all_lengths.calm
  have C__law_step : Cal l.prog w K mg base "_law_step" st__law_step 2 ["lot"] sp_step_and_from := T__law_step.cal X G (fun _ _ _ _ _ _ us hl => match us, hl with | [_], _ => rfl) fun _ _ F => ok__law_step F M C__law_divisor
  have C__law_near_lot : Cal l.prog w K mg base "_law_near_lot" st__law_near_lot 8 ["feed", "lot"] sp_near_lot := T__law_near_lot.cal X G (fun _ _ _ _ _ _ us hl => match us, hl with | [_, _], _ => rfl) fun _ _ F => ok__law_near_lot F M C__law_draw C__law_one C__law_piece C__law_lot
  have C__law_asked : Cal l.prog w K mg base "_law_asked" st__law_asked 6 ["lot", "other", "count"] sp_asked := T__law_asked.cal X G (fun _ _ _ _ _ _ us hl => match us, hl with | [_, _, _], _ => rfl) fun _ _ F => ok__law_asked F M EA S_first_longer
  have C__law_right : CalG l.prog w K mg base "_law_right" st__law_right 9 ["feed"] sp_law_right := T__law_right.calG X G (fun _ _ _ _ _ _ us hl => match us, hl with | [_], _ => rfl) fun _ _ F => ok__law_right F M C__law_draw C__law_one C__law_lot C__law_near_lot C__law_lists C__law_step C__law_asked C_recurrence C_count_lists C_first_longer C_all_lengths
  exact ok_law F M C__law_feed C__law_right
theorem walk {l : PySem.W.OpenLaw} {q : Program} {loose : List Str} {XP : (Str → Option Value) → Heap → Prop} {YP : World → Heap → Prop} {d : DefRec} {K : Params → PySem.W.Frag} (hn : l.most = some 63) (hdf : d.params.defaults = [])
    (hY : ∀ (w : World) (h : Heap), YP w h → (K w.params).In h)
    (F : ∀ (w : World) (mg : Str → Option Value) (fa : Addr) (h : Heap), (K w.params).In h → h.Ns mainGlobals mg → mg d.name = some (.ref fa) →
      ∃ fd : FuncData, (∀ (s : Shared) (u : Value), BindsTo s fd ⟨[u], []⟩ [("script", u)]) ∧ ∀ base : Heap, (K w.params).In base → base.Ns mainGlobals mg → FnOkG l.prog w (K w.params) mg base 10 fa fd ["script"] (sp_law (K w.params))) :
    PySem.W.WalkO q loose XP YP l.row.toRowW d [] (fun f vs => PySem.call f vs) :=
  Wg.walk_ofG (n := 63) (k := 10) (x := "script") (sp := fun w => sp_law (K w.params)) hn (by decide) hdf ⟨rfl, by decide, by decide⟩ hY F (fun _ _ a ns hl hb _ hS => ⟨a, ns, 1048576, rfl, hS, hl, by decide, by decide, fun z hz => PySem.intBits_le_iff.mp (hb z hz), fun _ => rfl⟩)
end K24
open PySem PySem.W PyProof.Rows
set_option maxRecDepth 100000 in
set_option maxHeartbeats 0 in
theorem PySem.Challenge.cw_wordscut_k24_lengths_of_lists_and_texts_holds : PySem.Challenge.rw_wordscut_k24_lengths_of_lists_and_texts.Holds := by
  w_on; o_law; k_head; (case hw => w_witness2)
  k_fill
  refine K24.walk (l := PySem.Challenge.rw_wordscut_k24_lengths_of_lists_and_texts) rfl rfl (fun w h Y => PySem.W.kIn_of Y) ?F
  case F =>
    intro w mg fa h KX G hmg
    refine' K24.all_mk KX G hmg ?n_ValueError ?n_all ?n_any ?n_bool ?n_enumerate ?n_int ?n_isinstance ?n_len ?n_list ?n_max ?n_min ?n_range ?n_repr ?n_set ?n_sorted ?n_str ?n_sum ?n_tuple ?n_zip ?c_SIGNS ?c_MOST_LETTERS ?c_MOST_WORDS ?c_MOST_COUNTED ?f_gcd ?aB ?aM ?bx3 ?bx4 ?by3 ?aL ?Lx1 ?Lx2 ?Lx3 ?Lx4 ?LxB ?Ly1 ?Ly2 ?Ly3 ?Ly4 ?Ly5 ?Ly6 ?Ly7 ?aN ?Nx1 ?Nx2 ?Nx3 ?Nx4 ?NxB ?Ny1 ?Ny2 ?Ny3 ?Ny4 ?Ny5 ?Ny6 ?Ny7 ?kll ?kln ?klm ?knl ?knn ?knm ?T__law_draw ?T__law_one ?T__law_feed ?T__law_mixed ?T__law_piece ?T__law_tree ?T__law_some_words ?T__law_made ?T__law_late ?T__law_words ?T__law_lot ?T_is_integer ?T_is_within ?T_need_number ?T_are_signs ?T_is_word ?T_is_ascending ?T_is_lot_form ?T_need_lot ?T_lengths_of ?T_list_counts ?T_count_lists ?T_recurrence ?T_first_longer ?T__law_lists ?T__law_divisor ?T_step_and_from ?T_all_lengths ?T__law_step ?T__law_near_lot ?T__law_asked ?T__law_right ?T_law
    (case n_ValueError => k_is)
    (case n_all => k_is)
    (case n_any => k_is)
    (case n_bool => k_is)
    (case n_enumerate => k_is)
    (case n_int => k_is)
    (case n_isinstance => k_is)
    (case n_len => k_is)
    (case n_list => k_is)
    (case n_max => k_is)
    (case n_min => k_is)
    (case n_range => k_is)
    (case n_repr => k_is)
    (case n_set => k_is)
    (case n_sorted => k_is)
    (case n_str => k_is)
    (case n_sum => k_is)
    (case n_tuple => k_is)
    (case n_zip => k_is)
    (case c_SIGNS => k_is)
    (case c_MOST_LETTERS => k_is)
    (case c_MOST_WORDS => k_is)
    (case c_MOST_COUNTED => k_is)
    (case f_gcd => k_is)
    (case aB => k_is)
    (case aM => k_is)
    (case bx3 => k_is)
    (case bx4 => k_is)
    (case by3 => k_is)
    (case aL => k_is)
    (case Lx1 => k_exc)
    (case Lx2 => k_is)
    (case Lx3 => k_is)
    (case Lx4 => k_is)
    (case LxB => k_is)
    (case Ly1 => k_is)
    (case Ly2 => k_is)
    (case Ly3 => k_is)
    (case Ly4 => k_is)
    (case Ly5 => k_is)
    (case Ly6 => k_is)
    (case Ly7 => k_is)
    (case aN => k_is)
    (case Nx1 => k_exc)
    (case Nx2 => k_is)
    (case Nx3 => k_is)
    (case Nx4 => k_is)
    (case NxB => k_is)
    (case Ny1 => k_is)
    (case Ny2 => k_is)
    (case Ny3 => k_is)
    (case Ny4 => k_is)
    (case Ny5 => k_is)
    (case Ny6 => k_is)
    (case Ny7 => k_is)
    (case kll => kit_is)
    (case kln => kit_is)
    (case klm => kit_is)
    (case knl => kit_is)
    (case knn => kit_is)
    (case knm => kit_is)
    (case T__law_draw => refine' K24.top_mk ?a ?l ?c ?k; (case a => k_is); (case l => k_is); (case c => k_is); (case k => k_is))
    (case T__law_one => refine' K24.top_mk ?a ?l ?c ?k; (case a => k_is); (case l => k_is); (case c => k_is); (case k => k_is))
    (case T__law_feed => refine' K24.top_mk ?a ?l ?c ?k; (case a => k_is); (case l => k_is); (case c => k_is); (case k => k_is))
    (case T__law_mixed => refine' K24.top_mk ?a ?l ?c ?k; (case a => k_is); (case l => k_is); (case c => k_is); (case k => k_is))
    (case T__law_piece => refine' K24.top_mk ?a ?l ?c ?k; (case a => k_is); (case l => k_is); (case c => k_is); (case k => k_is))
    (case T__law_tree => refine' K24.top_mk ?a ?l ?c ?k; (case a => k_is); (case l => k_is); (case c => k_is); (case k => k_is))
    (case T__law_some_words => refine' K24.top_mk ?a ?l ?c ?k; (case a => k_is); (case l => k_is); (case c => k_is); (case k => k_is))
    (case T__law_made => refine' K24.top_mk ?a ?l ?c ?k; (case a => k_is); (case l => k_is); (case c => k_is); (case k => k_is))
    (case T__law_late => refine' K24.top_mk ?a ?l ?c ?k; (case a => k_is); (case l => k_is); (case c => k_is); (case k => k_is))
    (case T__law_words => refine' K24.top_mk ?a ?l ?c ?k; (case a => k_is); (case l => k_is); (case c => k_is); (case k => k_is))
    (case T__law_lot => refine' K24.top_mk ?a ?l ?c ?k; (case a => k_is); (case l => k_is); (case c => k_is); (case k => k_is))
    (case T_is_integer => refine' K24.top_mk ?a ?l ?c ?k; (case a => k_is); (case l => k_is); (case c => k_is); (case k => k_is))
    (case T_is_within => refine' K24.top_mk ?a ?l ?c ?k; (case a => k_is); (case l => k_is); (case c => k_is); (case k => k_is))
    (case T_need_number => refine' K24.top_mk ?a ?l ?c ?k; (case a => k_is); (case l => k_is); (case c => k_is); (case k => k_is))
    (case T_are_signs => refine' K24.top_mk ?a ?l ?c ?k; (case a => k_is); (case l => k_is); (case c => k_is); (case k => k_is))
    (case T_is_word => refine' K24.top_mk ?a ?l ?c ?k; (case a => k_is); (case l => k_is); (case c => k_is); (case k => k_is))
    (case T_is_ascending => refine' K24.top_mk ?a ?l ?c ?k; (case a => k_is); (case l => k_is); (case c => k_is); (case k => k_is))
    (case T_is_lot_form => refine' K24.top_mk ?a ?l ?c ?k; (case a => k_is); (case l => k_is); (case c => k_is); (case k => k_is))
    (case T_need_lot => refine' K24.top_mk ?a ?l ?c ?k; (case a => k_is); (case l => k_is); (case c => k_is); (case k => k_is))
    (case T_lengths_of => refine' K24.top_mk ?a ?l ?c ?k; (case a => k_is); (case l => k_is); (case c => k_is); (case k => k_is))
    (case T_list_counts => refine' K24.top_mk ?a ?l ?c ?k; (case a => k_is); (case l => k_is); (case c => k_is); (case k => k_is))
    (case T_count_lists => refine' K24.top_mk ?a ?l ?c ?k; (case a => k_is); (case l => k_is); (case c => k_is); (case k => k_is))
    (case T_recurrence => refine' K24.top_mk ?a ?l ?c ?k; (case a => k_is); (case l => k_is); (case c => k_is); (case k => k_is))
    (case T_first_longer => refine' K24.top_mk ?a ?l ?c ?k; (case a => k_is); (case l => k_is); (case c => k_is); (case k => k_is))
    (case T__law_lists => refine' K24.top_mk ?a ?l ?c ?k; (case a => k_is); (case l => k_is); (case c => k_is); (case k => k_is))
    (case T__law_divisor => refine' K24.top_mk ?a ?l ?c ?k; (case a => k_is); (case l => k_is); (case c => k_is); (case k => k_is))
    (case T_step_and_from => refine' K24.top_mk ?a ?l ?c ?k; (case a => k_is); (case l => k_is); (case c => k_is); (case k => k_is))
    (case T_all_lengths => refine' K24.top_mk ?a ?l ?c ?k; (case a => k_is); (case l => k_is); (case c => k_is); (case k => k_is))
    (case T__law_step => refine' K24.top_mk ?a ?l ?c ?k; (case a => k_is); (case l => k_is); (case c => k_is); (case k => k_is))
    (case T__law_near_lot => refine' K24.top_mk ?a ?l ?c ?k; (case a => k_is); (case l => k_is); (case c => k_is); (case k => k_is))
    (case T__law_asked => refine' K24.top_mk ?a ?l ?c ?k; (case a => k_is); (case l => k_is); (case c => k_is); (case k => k_is))
    (case T__law_right => refine' K24.top_mk ?a ?l ?c ?k; (case a => k_is); (case l => k_is); (case c => k_is); (case k => k_is))
    (case T_law => refine' K24.top_mk ?a ?l ?c ?k; (case a => k_is); (case l => k_is); (case c => k_is); (case k => k_is))
