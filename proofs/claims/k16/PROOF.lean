import PyProof.Rows.All
import Wide.All
import OpenK.AllK
import Wide.FinOn
import HandS.ForMost
import HandS.Walk
import HandS.IsInst
import HandS.Gcd
import HandS.Wide
import HandS.StrMore
import HandS.Codes
import HandS.EndBits
import HandS.TryOnly
import HandS.Style
import HandS.SortKw
import HandS.TupAny
import KE.SortKeyHeap
import KE.SortData
import HandS.Evl
import HandS.Set
import HandS.SetFor
import KE.GoesEnum
import HandS.Zip
import HandS.Strs
import HandS.TupLe
import PyProof.ReprRoads
import HandS.RevRange
import HandS.ForExc
import HandS.ExcIs
import HandS.Dict
import HandS.DictComp
import HandS.Conv
import HandS.More
import HandS.SortInts
import HandS.SetBool
import PyProof.TupleOfSeq
import HandS.Replace
import HandS.TupMul
import KE.KRevSl
import HandS.DictTup
import HandS.DictEq
import KE.KDictItemsList
import KE.KDictDisplayH
import PyProof.Rows.TupDisplay
import KE.IntBitsLaws
import KE.RegKIsAll
import PySem.Challenge.RW_wordscut_k16_whole_cuts_of_rounds
set_option Elab.async false
set_option linter.all false
set_option maxRecDepth 100000
set_option maxHeartbeats 2000000
/-! rules over texts as lists of code points; called defs as bundles -/
namespace Wc
open PySem PySem.Spec PyProof.Rows L2

abbrev Tx := List Nat
/-- a text as a value -/
abbrev T (l : Tx) : V := .str (SX.S l)
theorem T_inj {a b : Tx} (h : T a = T b) : a = b := SX.S_inj (V.str.inj h)
theorem T_str (x : Str) : V.str x = T x.cps.toList := congrArg V.str (SX.S_tl x).symm
theorem dec_T (a b : Tx) : decide (T a = T b) = decide (a = b) := by
  by_cases h : a = b
  · subst h
    rw [decide_eq_true rfl, decide_eq_true rfl]
  · rw [decide_eq_false h, decide_eq_false fun e => h (T_inj e)]
theorem S_length (a : Tx) : (SX.S a).length = a.length := SX.S_len a

/-- text + text -/
def rAddT : R2 := fun x y H Q => ∃ a b : Tx, x = T a ∧ y = T b ∧ a.length + b.length ≤ 16777216 ∧ Q (T (a ++ b)) H
theorem op_addT {X : Cx} : OpR X (binaryOp .Add) rAddT := by
  intro pins s σ H x y v u Q I rx ry h
  obtain ⟨a, b, rfl, rfl, hl, q⟩ := h
  refine op_add_str pins s σ H _ _ v u Q I rx ry ⟨_, _, rfl, rfl, ?_, ?_⟩
  · rw [S_length, S_length]
    exact hl
  · rw [SX.S_cat]
    exact q
/-- text * int -/
def repT (n : Nat) (a : Tx) : Tx := (List.replicate n a).flatten
theorem repT_zero (a : Tx) : repT 0 a = [] := rfl
theorem repT_succ (n : Nat) (a : Tx) : repT (n + 1) a = a ++ repT n a := by
  unfold repT
  rw [List.replicate_succ, List.flatten_cons]
theorem repT_len (n : Nat) (a : Tx) : (repT n a).length = n * a.length := by
  induction n with
  | zero => simp [repT]
  | succ n ih => rw [repT_succ, List.length_append, ih, Nat.succ_mul]; omega
theorem fold_app : ∀ (l : List (Array Nat)) (acc : Array Nat), (l.foldl (· ++ ·) acc).toList = acc.toList ++ (l.map Array.toList).flatten
  | [], acc => by simp
  | x :: l, acc => by
    show (l.foldl (· ++ ·) (acc ++ x)).toList = _
    rw [fold_app l (acc ++ x)]
    simp
theorem mul_S (a : Tx) (n : Int) : Txt.mul (SX.S a) n = SX.S (repT n.toNat a) := by
  unfold Txt.mul
  by_cases h1 : n < 1
  · rw [if_pos h1]
    have e : n.toNat = 0 := by omega
    rw [e]
    rfl
  · rw [if_neg h1]
    by_cases h2 : (n == 1 || (SX.S a).length == 0) = true
    · rw [if_pos h2]
      rw [Bool.or_eq_true] at h2
      rcases h2 with h2 | h2
      · have e : n.toNat = 1 := by
          have := eq_of_beq h2
          omega
        rw [e]
        simp [repT]
      · have e := eq_of_beq h2
        rw [S_length] at e
        have e2 := List.length_eq_zero_iff.mp e
        subst e2
        have : repT n.toNat [] = [] := List.length_eq_zero_iff.mp (by rw [repT_len]; simp)
        rw [this]
    · rw [if_neg h2]
      refine TL.ext_tl ?_
      show (List.foldl (· ++ ·) #[] (List.replicate n.toNat a.toArray)).toList = repT n.toNat a
      rw [fold_app]
      simp [repT, List.map_replicate]
def rMulT : R2 := fun x y H Q => ∃ (a : Tx) (n : Int), x = T a ∧ y = .int n ∧ -1000000000 ≤ n ∧ n ≤ 1000000000 ∧ a.length * n.toNat ≤ 16777216 ∧ Q (T (repT n.toNat a)) H
theorem mulOk {a : Tx} {n : Int} (h0 : -1000000000 ≤ n) (h1 : n ≤ 1000000000) (h : a.length * n.toNat ≤ 16777216) : MulOk (SX.S a) n := by
  refine ⟨?_, fun hn _ => ?_, fun hn _ => ?_⟩
  · rw [Bool.or_eq_false_iff]
    exact ⟨decide_eq_false (by omega), decide_eq_false (by omega)⟩
  · rw [S_length]
    intro hgt
    have h2 : (a.length : Int) ≤ 16777216 := by
      have : a.length * 1 ≤ a.length * n.toNat := Nat.mul_le_mul_left _ (by omega)
      omega
    have h3 : (16777216 : Int) ≤ (2 ^ 63 - 1) / n := by
      rw [Int.le_ediv_iff_mul_le (by omega)]
      have : (16777216 : Int) * n ≤ 16777216 * 1000000000 := Int.mul_le_mul_of_nonneg_left h1 (by decide)
      omega
    omega
  · rw [S_length]
    unfold Builtin.Str.tooLong
    have : ¬ (a.length * n.toNat > 16777216) := by omega
    exact decide_eq_false (by first | exact this | (simp; omega))
theorem op_mulT {X : Cx} : OpR X (binaryOp .Mult) rMulT := by
  intro pins s σ H x y v u Q I rx ry h
  obtain ⟨a, n, rfl, rfl, h0, h1, hl, q⟩ := h
  obtain ⟨t, rfl⟩ := rx
  obtain ⟨t', rfl⟩ := ry
  refine SB.mul (mulOk h0 h1 hl) fun t2 k => ?_
  rw [mul_S]
  exact ⟨T (repT n.toNat a), H, I.tok _, ⟨_, rfl⟩, q⟩

/-! ### subscripts, slices, length, comparisons -/
def rIxT : R2 := fun x y H Q => ∃ (a : Tx) (i : Int) (c : Nat), x = T a ∧ y = .int i ∧ a.length ≤ 16777216 ∧ atI a i = some c ∧ Q (T [c]) H
theorem ix_T {X : Cx} : IxR X rIxT := by
  intro value slice pins s σ H x y v u Q I rx ry h hs
  obtain ⟨a, i, c, rfl, rfl, hl, ha, q⟩ := h
  exact ix_str value slice pins s σ H _ _ v u Q I rx ry ⟨_, i, c, rfl, rfl, by rw [S_length]; exact hl, ha, q⟩ hs
def cutT (a : Tx) (lo hi : Option Int) : Tx := (a.drop (HT.sIx a.length 0 lo)).take (HT.sIx a.length a.length hi - HT.sIx a.length 0 lo)
theorem cutS_T (a : Tx) (lo hi : Option Int) : cutS (SX.S a) lo hi = SX.S (cutT a lo hi) := by
  unfold cutS cutT
  rw [S_length]
def rSlT : V → Option Int → Option Int → Hp → VK → Prop := fun x lo hi H Q => ∃ a : Tx, x = T a ∧ a.length ≤ 16777216 ∧ Q (T (cutT a lo hi)) H
theorem sl_T {X : Cx} : SlR X rSlT := by
  intro pins s σ H x v vl vu lo hi sl Q I rx hs pl pu h
  obtain ⟨a, rfl, hl, q⟩ := h
  refine sl_str pins s σ H _ v vl vu lo hi sl Q I rx hs pl pu ⟨_, rfl, by rw [S_length]; exact hl, ?_⟩
  rw [cutS_T]
  exact q
theorem cutT_to (a : Tx) (n : Nat) : cutT a none (some (n : Int)) = a.take n := by
  unfold cutT
  rw [HT.sIx_none, HT.sIx_nat, List.drop_zero, Nat.sub_zero]
  by_cases h : n ≤ a.length
  · rw [Nat.min_eq_left h]
  · rw [Nat.min_eq_right (by omega), List.take_of_length_le (Nat.le_refl _), List.take_of_length_le (by omega)]
theorem cutT_from (a : Tx) (n : Nat) : cutT a (some (n : Int)) none = a.drop n := by
  unfold cutT
  rw [HT.sIx_none, HT.sIx_nat]
  by_cases h : n ≤ a.length
  · rw [Nat.min_eq_left h]
    exact List.take_of_length_le (by rw [List.length_drop]; exact Nat.le_refl _)
  · rw [Nat.min_eq_right (by omega), List.drop_eq_nil_of_le (Nat.le_refl _), List.drop_eq_nil_of_le (by omega), List.take_nil]
theorem cutT_mid (a : Tx) (m n : Nat) : cutT a (some (m : Int)) (some (n : Int)) = (a.drop m).take (n - m) := by
  unfold cutT
  rw [HT.sIx_nat, HT.sIx_nat]
  by_cases h : m ≤ a.length
  · rw [Nat.min_eq_left h]
    by_cases h2 : n ≤ a.length
    · rw [Nat.min_eq_left h2]
    · rw [Nat.min_eq_right (by omega), List.take_of_length_le (by rw [List.length_drop]; exact Nat.le_refl _), List.take_of_length_le (by rw [List.length_drop]; omega)]
  · rw [Nat.min_eq_right (show a.length ≤ m by omega), List.drop_eq_nil_of_le (Nat.le_refl _), List.drop_eq_nil_of_le (show a.length ≤ m by omega), List.take_nil, List.take_nil]
/-- without the last so many -/
theorem cutT_but (a : Tx) (k : Nat) : cutT a none (some (-((k : Int) + 1))) = a.take (a.length - (k + 1)) := by
  unfold cutT
  rw [HT.sIx_none, List.drop_zero, Nat.sub_zero]
  have e : HT.sIx a.length a.length (some (-((k : Int) + 1))) = a.length - (k + 1) := by
    show (if (-((k : Int) + 1)) < 0 then ((-((k : Int) + 1)) + (a.length : Int)).toNat else min (-((k : Int) + 1)).toNat a.length) = _
    rw [if_pos (by omega)]
    omega
  rw [e]
/-- the last so many -/
theorem cutT_last (a : Tx) (k : Nat) : cutT a (some (-((k : Int) + 1))) none = a.drop (a.length - (k + 1)) := by
  unfold cutT
  rw [HT.sIx_none]
  have e : HT.sIx a.length 0 (some (-((k : Int) + 1))) = a.length - (k + 1) := by
    show (if (-((k : Int) + 1)) < 0 then ((-((k : Int) + 1)) + (a.length : Int)).toNat else min (-((k : Int) + 1)).toNat a.length) = _
    rw [if_pos (by omega)]
    omega
  rw [e]
  exact List.take_of_length_le (by rw [List.length_drop]; exact Nat.le_refl _)
theorem cutT_len (a : Tx) (lo hi : Option Int) : (cutT a lo hi).length ≤ a.length := by
  unfold cutT
  rw [List.length_take, List.length_drop]
  omega
theorem cutT_mem {a : Tx} {lo hi : Option Int} {c : Nat} (h : c ∈ cutT a lo hi) : c ∈ a := List.mem_of_mem_drop (List.mem_of_mem_take h)
def rLenT : List V → Hp → VK → Prop := fun vs H Q => ∃ a : Tx, vs = [T a] ∧ a.length ≤ 16777216 ∧ Q (.int (a.length : Int)) H
theorem cr_lenT {X : Cx} : CallR X (.builtin "len") rLenT := by
  intro pins s σ H vs us Q I r h
  obtain ⟨a, rfl, hl, q⟩ := h
  refine call_len_str pins s σ H _ us Q I r ⟨_, rfl, by rw [S_length]; exact hl, ?_⟩
  rw [S_length]
  exact q
def rEqT : R2 := fun x y H Q => ∃ a b : Tx, x = T a ∧ y = T b ∧ Q (.bl (decide (a = b))) H
theorem op_eqT {X : Cx} : OpR X (compareOp .Eq) rEqT := by
  intro pins s σ H x y v u Q I rx ry h
  obtain ⟨a, b, rfl, rfl, q⟩ := h
  refine op_eq pins s σ H _ _ v u Q I rx ry ⟨rfl, ?_⟩
  rw [dec_T]
  exact q
def rNeT : R2 := fun x y H Q => ∃ a b : Tx, x = T a ∧ y = T b ∧ Q (.bl (!decide (a = b))) H
theorem op_neT {X : Cx} : OpR X (compareOp .NotEq) rNeT := by
  intro pins s σ H x y v u Q I rx ry h
  obtain ⟨a, b, rfl, rfl, q⟩ := h
  refine op_ne pins s σ H _ _ v u Q I rx ry ⟨rfl, ?_⟩
  rw [dec_T]
  exact q
theorem dec_int (i j : Int) : decide (V.int i = V.int j) = decide (i = j) := by
  by_cases h : i = j
  · subst h
    rw [decide_eq_true rfl, decide_eq_true rfl]
  · rw [decide_eq_false h, decide_eq_false fun e => h (V.int.inj e)]
theorem dec_bl (i j : Bool) : decide (V.bl i = V.bl j) = decide (i = j) := by
  cases i <;> cases j <;> decide
theorem op_eqI {X : Cx} : OpR X (compareOp .Eq) (rI0 fun i j => .bl (decide (i = j))) := by
  intro pins s σ H x y v u Q I rx ry h
  obtain ⟨i, j, rfl, rfl, q⟩ := h
  refine op_eq pins s σ H _ _ v u Q I rx ry ⟨rfl, ?_⟩
  rw [dec_int]
  exact q
theorem op_neI {X : Cx} : OpR X (compareOp .NotEq) (rI0 fun i j => .bl (!decide (i = j))) := by
  intro pins s σ H x y v u Q I rx ry h
  obtain ⟨i, j, rfl, rfl, q⟩ := h
  refine op_ne pins s σ H _ _ v u Q I rx ry ⟨rfl, ?_⟩
  rw [dec_int]
  exact q
def rB0 (g : Bool → Bool → Bool) : R2 := fun x y H Q => ∃ i j, x = .bl i ∧ y = .bl j ∧ Q (.bl (g i j)) H
theorem op_eqB {X : Cx} : OpR X (compareOp .Eq) (rB0 fun i j => decide (i = j)) := by
  intro pins s σ H x y v u Q I rx ry h
  obtain ⟨i, j, rfl, rfl, q⟩ := h
  refine op_eq pins s σ H _ _ v u Q I rx ry ⟨rfl, ?_⟩
  rw [dec_bl]
  exact q
def rInT : R2 := fun x y H Q => ∃ (c : Nat) (z : Tx), x = T [c] ∧ y = T z ∧ Q (.bl (decide (c ∈ z))) H
theorem op_inT {X : Cx} : OpR X (compareOp .In) rInT := by
  intro pins s σ H x y v u Q I rx ry h
  obtain ⟨c, z, rfl, rfl, q⟩ := h
  exact op_in_sign pins s σ H _ _ v u Q I rx ry ⟨c, SX.S z, rfl, rfl, q⟩
def rLtT : R2 := fun x y H Q => ∃ a b : Tx, x = T a ∧ y = T b ∧ Q (.bl (decide (a < b))) H
theorem op_ltT' {X : Cx} : OpR X (compareOp .Lt) rLtT := by
  intro pins s σ H x y v u Q I rx ry h
  obtain ⟨a, b, rfl, rfl, q⟩ := h
  exact op_lt_str pins s σ H _ _ v u Q I rx ry ⟨_, _, rfl, rfl, q⟩
/-! ### % and // by a positive number -/
theorem op_modP {X : Cx} : OpR X (binaryOp .Mod) (rI (fun _ j => 0 < j) fun i j => .int (i % j)) := op_mod
/-- * of any two whose bits together are below the line -/
def CMulB (i j : Int) : Prop := i.natAbs.log2 + j.natAbs.log2 < 100000000
theorem CMulB.ok {i j : Int} (h : CMulB i j) : IntMulOk i j := by
  have b : ∀ x : Int, Builtin.Int.intBits x ≤ x.natAbs.log2 + 1 := fun x => by
    unfold Builtin.Int.intBits
    split <;> omega
  have h1 := b i
  have h2 := b j
  have h3 : i.natAbs.log2 + j.natAbs.log2 < 100000000 := h
  have e : bitsLine = 134217728 := by decide
  unfold IntMulOk
  intro z
  rw [Bool.and_eq_true] at z
  have z2 := z.2
  unfold Builtin.Int.intTooBig at z2
  have z3 := of_decide_eq_true z2
  rw [e] at z3
  omega
theorem op_mulB {X : Cx} : OpR X (binaryOp .Mult) (rI CMulB fun i j => .int (i * j)) := opI fun _ _ _ _ _ _ _ hc q => mul_int q hc.ok
theorem mulB {i j : Int} {a b : Nat} (ha : i.natAbs < 2 ^ a) (hb : j.natAbs < 2 ^ b) (h0 : 0 < a) (h1 : 0 < b) (h : a + b ≤ 100000000) : CMulB i j := by
  have x := PySem.Flt.log2_lt_of h0 ha
  have y := PySem.Flt.log2_lt_of h1 hb
  unfold CMulB
  omega
/-! ### str.join, find, startswith -/
def rJoinT (K : PySem.W.Frag) : V → List V → Hp → VK → Prop := fun x xs H Q => ∃ (a : Tx) (p : Addr) (ys : List Tx), x = T a ∧ xs = [.ref p] ∧ (SqL K H p (ys.map T) ∨ SqT K H p (ys.map T)) ∧ (ys.map List.length).sum + ys.length * a.length ≤ 16777216 ∧ Q (T (TL.joinL a ys)) H
theorem mt_joinT {X : Cx} : MtR X "str.join" (rJoinT X.K) := by
  intro pins s σ H x xs v us Q I rx r h
  obtain ⟨a, p, ys, rfl, rfl, hs, hl, q⟩ := h
  have em : ys.map T = (ys.map SX.S).map V.str := by rw [List.map_map]; rfl
  rw [em] at hs
  refine mt_join pins s σ H _ _ v us Q I rx r ⟨_, p, ys.map SX.S, rfl, rfl, hs, ?_, ?_⟩
  · rw [SX.lens, List.length_map, S_length]
    exact hl
  · rw [SX.join_S]
    exact q
theorem joinL_nil : ∀ ys : List Tx, TL.joinL [] ys = ys.flatten
  | [] => rfl
  | [p] => by simp [TL.joinL]
  | p :: q :: r => by
    show p ++ ([] ++ TL.joinL [] (q :: r)) = _
    rw [joinL_nil (q :: r)]
    rfl
/-- b stands in a at i -/
abbrev StAt (a b : Tx) (i : Nat) : Prop := (a.drop i).take b.length = b
theorem subAt_T (a b : Tx) (i : Nat) : Builtin.Str.subAt (SX.S a) (SX.S b) i = decide (StAt a b i) := by
  rw [StrLaws.subAt_eq, S_length]
  show ((a.drop i).take b.length == b) = decide _
  by_cases h : StAt a b i
  · rw [decide_eq_true h]
    exact beq_iff_eq.mpr h
  · rw [decide_eq_false h]
    exact beq_eq_false_iff_ne.mpr h
/-- where b stands first in a, from i on -/
inductive FindT (a b : Tx) (i : Nat) : Int → Prop where
  | at_ (k : Nat) : i ≤ k → k + b.length ≤ a.length → StAt a b k → (∀ j, i ≤ j → j < k → ¬ StAt a b j) → FindT a b i (k : Int)
  | no : (∀ j, i ≤ j → j + b.length ≤ a.length → ¬ StAt a b j) → FindT a b i (-1)
theorem fromIndex_nat (n i : Nat) : fromIndex n (i : Int) = i := by
  unfold fromIndex
  rw [if_neg (by omega)]
  omega
theorem range'_pre {s n : Nat} {pre post : List Nat} {a : Nat} (h : List.range' s n = pre ++ a :: post) : s ≤ a ∧ ∀ k, s ≤ k → k < a → k ∈ pre := by
  have hl : n = pre.length + (post.length + 1) := by
    have e := congrArg List.length h
    simpa using e
  have ha : s + pre.length = a := by
    have h1 : (List.range' s n)[pre.length]? = some a := by rw [h]; simp
    rw [List.getElem?_range' (by omega)] at h1
    have := Option.some.inj h1
    omega
  refine ⟨by omega, fun k h1 h2 => ?_⟩
  have h3 : (List.range' s n)[k - s]? = some k := by
    rw [List.getElem?_range' (by omega)]
    congr 1
    omega
  rw [h, List.getElem?_append_left (by omega)] at h3
  exact List.mem_of_getElem? h3
theorem find3_spec (a b : Tx) (i : Nat) : FindT a b i (Txt.find3 (SX.S a) (SX.S b) (i : Int)) := by
  have hAt : ∀ j, StrLaws.At (SX.S a) (SX.S b) a.length j ↔ (j + b.length ≤ a.length ∧ StAt a b j) := fun j => by
    unfold StrLaws.At
    rw [subAt_T, S_length, decide_eq_true_eq]
  unfold Txt.find3
  rw [S_length, fromIndex_nat, StrLaws.occ_eq]
  rcases StrLaws.occ_first (SX.S a) (SX.S b) a.length 1 (Nat.le_refl _) (List.range' i (a.length + 1 - i)) i (fun k hk => (List.mem_range'_1.mp hk).1) with ⟨h0, hn⟩ | ⟨pre, k, post, e, h0, hk, hn⟩
  · rw [h0]
    refine .no fun j h1 h2 h3 => hn j ?_ ((hAt j).mpr ⟨h2, h3⟩)
    exact List.mem_range'_1.mpr ⟨h1, by omega⟩
  · have hp := range'_pre e
    have hk' := (hAt k).mp hk
    generalize hL : (forIn (List.range' i (a.length + 1 - i)) ((#[] : Array Nat), i) (StrLaws.occBody (SX.S a) (SX.S b) a.length 1)).run.fst = L at h0 ⊢
    have e2 : ∃ r, L.toList = k :: r := by
      have h1 : L.toList[0]? = some k := by rw [Array.getElem?_toList]; exact h0
      cases hh : L.toList with
      | nil => rw [hh] at h1; simp at h1
      | cons y r => rw [hh] at h1; exact ⟨r, by rw [show y = k from Option.some.inj h1]⟩
    obtain ⟨r, e2⟩ := e2
    rw [e2]
    exact .at_ k hp.1 hk'.1 hk'.2 fun j h1 h2 h3 => hn j (hp.2 j h1 h2) ((hAt j).mpr ⟨by omega, h3⟩)
def rFind3T : V → List V → Hp → VK → Prop := fun x xs H Q => ∃ (a b : Tx) (i : Nat), x = T a ∧ xs = [T b, .int (i : Int)] ∧ ∀ r, FindT a b i r → Q (.int r) H
theorem mt_find3T {X : Cx} : MtR X "str.find" rFind3T := by
  intro pins s σ H x xs v us Q I rx r h
  obtain ⟨a, b, i, rfl, rfl, q⟩ := h
  exact mt_find3 pins s σ H _ _ v us Q I rx r ⟨_, _, _, rfl, rfl, q _ (find3_spec a b i)⟩
def rFindT : V → List V → Hp → VK → Prop := fun x xs H Q => ∃ (a b : Tx), x = T a ∧ xs = [T b] ∧ ∀ r, FindT a b 0 r → Q (.int r) H
theorem find_spec (a b : Tx) : FindT a b 0 (Txt.find (SX.S a) (SX.S b)) := by
  have h := find3_spec a b 0
  unfold Txt.find3 at h
  rw [S_length, fromIndex_nat] at h
  unfold Txt.find
  rw [S_length]
  exact h
theorem mt_findT {X : Cx} : MtR X "str.find" rFindT := by
  intro pins s σ H x xs v us Q I rx r h
  obtain ⟨a, b, rfl, rfl, q⟩ := h
  exact mt_find pins s σ H _ _ v us Q I rx r ⟨_, _, rfl, rfl, q _ (find_spec a b)⟩
def rStart3T : V → List V → Hp → VK → Prop := fun x xs H Q => ∃ (a b : Tx) (i : Nat), x = T a ∧ xs = [T b, .int (i : Int)] ∧ Q (.bl (decide (i + b.length ≤ a.length ∧ StAt a b i))) H
theorem mt_start3T {X : Cx} : MtR X "str.startswith" rStart3T := by
  intro pins s σ H x xs v us Q I rx r h
  obtain ⟨a, b, i, rfl, rfl, q⟩ := h
  refine mt_startswith3 pins s σ H _ _ v us Q I rx r ⟨_, _, _, rfl, rfl, ?_⟩
  unfold Txt.startswith3
  rw [S_length, S_length, fromIndex_nat, subAt_T, ← Bool.decide_and]
  exact q
end Wc
set_option Elab.async false
set_option linter.all false
set_option maxRecDepth 100000
set_option maxHeartbeats 2000000
namespace Wc
open PySem PySem.Spec PyProof.Rows L2
/-! ### constants -/
theorem pe_sT {X : Cx} (l : Tx) {x : Str} {j pos} (e : x = SX.S l := by decide +kernel) : PE X (.Constant (.str x) j pos) (tC (T l)) := by
  rw [e]
  exact pe_str
theorem pe_gT {X : Cx} {x : Str} {z : Str} {pos : Pos} (h : ∃ t, X.mg x = some (.str z t)) (l : Tx) (hg : Gl X x := by rfl) (e : z = SX.S l := by decide +kernel) (hd : (x == ("__debug__" : Str)) = false := by decide) : PE X (.Name x pos) (tC (T l)) := by
  obtain ⟨t, h⟩ := h
  subst e
  exact pe_glob hg h ⟨t, rfl⟩ hd
theorem pe_gI {X : Cx} {x : Str} {i : Int} {pos : Pos} (h : ∃ t, X.mg x = some (.int i t)) (hg : Gl X x := by rfl) (hd : (x == ("__debug__" : Str)) = false := by decide) : PE X (.Name x pos) (tC (.int i)) := by
  obtain ⟨t, h⟩ := h
  exact pe_glob hg h ⟨t, rfl⟩ hd
/-! ### a def that is called -/
structure Cal (P : Program) (w : World) (K : PySem.W.Frag) (mg : Str → Option Value) (base : Heap) (x : Str) (st : Stmt) (k : Nat) (ps : List Str) (sp : Sp) : Prop where
  ex : ∃ f fd, FnOk P w K mg base CX0 k f fd ps sp ∧ mg x = some (.ref f) ∧ Fun K x x st f fd ∧ Binds K fd ps []
section
variable {X : Cx} {x : Str} {st : Stmt} {k n : Nat} {ps ks : List Str} {sp : Sp} {p pos : Pos} {e : Expr} {es : List Expr} {kws : List Keyword} {t tk : TA}
theorem pe_cl (C : Cal X.prog X.w X.K X.mg X.base x st k ps sp) (hr : Room n X.A) (ha : PA X (e :: es) t) (hkn : k ≤ n := by decide) (hg : Gl X x := by rfl) (hdb : (x == ("__debug__" : Str)) = false := by decide)
    (he : starEach (e :: es) X.env = (false, eval e X.env) :: starEach es X.env := by rfl) (hpl : (backTo pos (starEach es X.env)).any (·.1) = false := by rfl) : PE X (.Call (.Name x p) (e :: es) [] pos) (tCall sp [] E0 t) := by
  obtain ⟨f, fd, F, hm, hF, hb⟩ := C.ex
  exact pe_call F (hr.mono hkn) hg hm hF.kp hb .nil pass0 ha hdb he hpl
theorem pe_cl0 (C : Cal X.prog X.w X.K X.mg X.base x st k ps sp) (hr : Room n X.A) (hkn : k ≤ n := by decide) (hg : Gl X x := by rfl) (hdb : (x == ("__debug__" : Str)) = false := by decide) : PE X (.Call (.Name x p) [] [] pos) (tCall sp [] E0 tNil) := by
  obtain ⟨f, fd, F, hm, hF, hb⟩ := C.ex
  exact pe_call0 F (hr.mono hkn) hg hm hF.kp hb .nil pass0 hdb
/-- the values of the parameters out of the named ones -/
def KB (x : Str) (st : Stmt) (n : Nat) (ps ks : List Str) (g : List Value → List Value → List Value) (gV : List V → List V → List V) : Prop :=
  ∀ (K : PySem.W.Frag) (f : Addr) (fd : FuncData), Fun K x x st f fd → KBinds K fd ps ks g gV
def tCallK0 (sp : Sp) (gV : List V → List V → List V) (tk : TA) : TE := fun σ H Q => tk σ H fun zs H2 => sp (gV [] zs) H2 Q E0
theorem pe_clK0 {g : List Value → List Value → List Value} {gV : List V → List V → List V} (C : Cal X.prog X.w X.K X.mg X.base x st k ps sp) (kb : KB x st 0 ps ks g gV) (hr : Room n X.A) (hkw : PK X kws tk) (hkn : k ≤ n := by decide) (hg : Gl X x := by rfl) (hdb : (x == ("__debug__" : Str)) = false := by decide)
    (hall : (backToKw pos (keywordEach kws X.env)).all (·.1.isSome) = true := by rfl) (hks : (backToKw pos (keywordEach kws X.env)).filterMap (·.1) = ks := by rfl)
    (hpl : ((backTo pos (starEach [] X.env)).any (·.1) || (backToKw pos (keywordEach kws X.env)).any (·.1.isNone)) = false := by rfl) : PE X (.Call (.Name x p) [] kws pos) (tCallK0 sp gV tk) := by
  obtain ⟨f, fd, F, hm, hF, hb⟩ := C.ex
  refine ⟨fun pins s σ H Q I h => ?_⟩
  refine wpAny_Call_Name_kw (ld_glob I hg hm ?_ hdb)
  refine PySem.W.callWith_KW0 (h₀ := X.base) I.ok.mod.kin hF.kp hall (thn (hkw.run pos pins s σ H _ I h) fun ws s2 ⟨zs, H2, I2, rz, q2⟩ => ⟨I2.kIn, ?_⟩) hpl
  rw [hks]
  exact run_fnk (us := []) (vs := []) F (hr.mono hkn) (kb _ _ _ hF) pass0 I2 .nil rz q2
theorem pe_clK {g : List Value → List Value → List Value} {gV : List V → List V → List V} (C : Cal X.prog X.w X.K X.mg X.base x st k ps sp) (kb : KB x st 0 ps ks g gV) (hr : Room n X.A) (ha : PA X (e :: es) t) (hkw : PK X kws tk) (hkn : k ≤ n := by decide) (hg : Gl X x := by rfl)
    (hall : (backToKw pos (keywordEach kws X.env)).all (·.1.isSome) = true := by rfl) (hks : (backToKw pos (keywordEach kws X.env)).filterMap (·.1) = ks := by rfl)
    (hdb : (x == ("__debug__" : Str)) = false := by decide) (he : starEach (e :: es) X.env = (false, eval e X.env) :: starEach es X.env := by rfl)
    (hpl : ((backTo pos (starEach (e :: es) X.env)).any (·.1) || (backToKw pos (keywordEach kws X.env)).any (·.1.isNone)) = false := by rfl) : PE X (.Call (.Name x p) (e :: es) kws pos) (tCallK sp gV E0 t tk) := by
  obtain ⟨f, fd, F, hm, hF, hb⟩ := C.ex
  exact pe_callK F (hr.mono hkn) hg hm hF.kp (kb _ _ _ hF) pass0 ha hkw hall hks hdb he hpl
end
/-- two named values, in their sequence, or turned -/
def sw2 {α : Type} (turn : Bool) : List α → List α → List α
  | [], [a, b] => if turn then [b, a] else [a, b]
  | _, _ => []
theorem sw2_rel {turn : Bool} {vs zs : List V} {us ws : List Value} (r : Vals vs us) (rz : Vals zs ws) : Vals (sw2 turn vs zs) (sw2 turn us ws) := by
  cases r with
  | cons => exact .nil
  | nil =>
    cases rz with
    | nil => exact .nil
    | cons h1 r1 =>
      cases r1 with
      | nil => exact .nil
      | cons h2 r2 =>
        cases r2 with
        | cons => exact .nil
        | nil => cases turn with
          | true => exact .cons h2 (.cons h1 .nil)
          | false => exact .cons h1 (.cons h2 .nil)
theorem kb2 {x : Str} {st : Stmt} {ps ks : List Str} (turn : Bool) (hp : ps.length = 2)
    (h : ∀ (kV doc pm : Value) (an : Option Addr) (cdv ct a b : Value), bindArgs (PySem.W.fnOf x x (defArgs st) (defBody st) (defScope st) .none kV doc pm an cdv ct) ⟨[], ks.zip [a, b]⟩ = pure (ps.zip (sw2 turn [] [a, b]))) : KB x st 0 ps ks (sw2 turn) (sw2 turn) := by
  intro K f fd F
  obtain ⟨oc, od, kV, doc, pm, an, cdv, ct, osl, rfl, lk, hcd⟩ := F.ex
  refine ⟨fun s us ws _ hl => ?_, fun r rz => sw2_rel r rz⟩
  rw [hp] at hl
  match us, ws, hl with
  | [], [a, b], _ => exact .of_eq (h kV doc pm an cdv ct a b)
  | [], [], hl => exact absurd hl (by simp [sw2])
  | [], [_], hl => exact absurd hl (by simp [sw2])
  | [], _ :: _ :: _ :: _, hl => exact absurd hl (by simp [sw2])
  | _ :: _, ws, hl => exact absurd hl (by simp [sw2])

/-! ### isinstance with a built-in class -/
def rIsiB (K : PySem.W.Frag) : List V → Hp → VK → Prop := fun vs H Q => ∃ (x : V) (n t : String) (b : Bool), vs = [x, .ty n] ∧ TyX K H x (.type t) ∧ kitB t n = some b ∧ Q (.bl b) H
theorem cr_isi {X : Cx} : CallR X (.builtin "isinstance") (rIsiB X.K) := by
  intro pins s σ H vs us Q I r h
  obtain ⟨x, n, t, b, rfl, ty, hk, q⟩ := h
  exact call_isi pins s σ H _ us Q I r ⟨x, .ty n, .type t, .type n, b, rfl, .ty n, ty, kit_ty hk, q⟩
theorem k_str_str : kitB "str" "str" = some true := by decide +kernel
theorem k_bool_bool : kitB "bool" "bool" = some true := by decide +kernel
theorem k_int_int : kitB "int" "int" = some true := by decide +kernel
theorem k_int_bool : kitB "int" "bool" = some false := by decide +kernel
theorem k_bool_int : kitB "bool" "int" = some true := by decide +kernel
theorem k_list_list : kitB "list" "list" = some true := by decide +kernel
theorem k_tuple_tuple : kitB "tuple" "tuple" = some true := by decide +kernel
theorem k_str_bool : kitB "str" "bool" = some false := by decide +kernel

/-! ### sorted(xs, key=len) of texts -/
noncomputable def sortLen (xs : List Tx) : List Tx := xs.mergeSort (PySem.W.dataLe false fun a => PyData.int (a.length : Int))
def rSortLen (K : PySem.W.Frag) : List V → Hp → VK → Prop := fun vs H Q => ∃ (p : Addr) (xs : List Tx), vs = [.ref p] ∧ SqL K H p (xs.map T) ∧ (∀ a ∈ xs, a.length ≤ 16777216) ∧ ∀ q, H q = none → Q (.ref q) (upd H q (.lst ((sortLen xs).map T)))
def tSortLen (K : PySem.W.Frag) (t : TA) : TE := fun σ H Q => t σ H fun vs H1 => rSortLen K vs H1 Q
abbrev IsT (v : Value) (a : Tx) : Prop := ∃ t, v = .str (SX.S a) t
theorem each_of_vals : ∀ {xs : List Tx} {us : List Value}, Vals (xs.map T) us → PySem.W.EachIs IsT us xs
  | [], [], _ => .nil
  | a :: xs, u :: us, .cons h r => .cons h (each_of_vals r)
theorem vals_of_each : ∀ {xs : List Tx} {us : List Value}, PySem.W.EachIs IsT us xs → Vals (xs.map T) us
  | [], [], _ => .nil
  | a :: xs, u :: us, .cons h r => .cons h (vals_of_each r)
theorem pe_sortLen {X : Cx} {p p2 kp pos : Pos} {e : Expr} {t : TA} (hu : X.A.units + 64 < cLine) (hm : X.mg "sorted" = none) (hm2 : X.mg "len" = none) (ha : PA X [e] t) (hg : Gl X "sorted" := by rfl) (hg2 : Gl X "len" := by rfl)
    (he : backTo pos (starEach [e] X.env) = (false, eval e X.env) :: backTo pos (starEach [] X.env) := by rfl) (hpl : (backTo pos (starEach [e] X.env)).any (·.1) = false := by rfl) :
    PE X (.Call (.Name "sorted" p) [e] [⟨some "key", .Name "len" p2, kp⟩] pos) (tSortLen X.K t) := by
  refine ⟨fun pins s σ H Q I h => ?_⟩
  refine wpAny_Call_Name_kw (ld_blt I hg hm boot_sorted ?_)
  refine PyProof.Rows.callWith_kw (thn (ha.run pos pins s σ H _ I h) fun us s1 ⟨vs, H1, I1, r1, q1⟩ => ?_) he hpl
  show wpAny _ _ (evalAll ((do let v ← eval (.Name "len" p2) X.env; standAt pos; pure v) :: [])) _ _ s1
  refine wpAny_evalAll_cons (wpAny_bind (ld_blt I1 hg2 hm2 PySem.boot_len (wpAny_bind (wpAny_standAt (wpAny_pure ?_)))))
  refine wpAny_evalAll_nil ?_
  obtain ⟨q, xs, rfl, hs, hb, k⟩ := q1
  obtain rfl := Vals.ref1 r1
  obtain ⟨its, rv, hl, hz⟩ := I1.list hs
  show wpAny _ _ (call (.builtin "sorted") [.ref q] [(Str.ofString "key", .builtin "len")]) _ _ s1
  rw [List.length_map] at hz
  refine PySem.W.sorted_key_data (R := IsT) (bs := xs) (b := false) (fun a => PyData.int (a.length : Int)) hl.isList (each_of_vals rv) ?_ ?_ hz ?_ (PyProof.Rows.ksk_s1 _ _) (fun _ => PyProof.Rows.ksk_l1 _ _) (fun x => PyProof.Rows.ksk_t4 "len" x) ?_ ?_
  · intro d hd d' hd'
    obtain ⟨a, _, rfl⟩ := List.mem_map.mp hd
    obtain ⟨b, _, rfl⟩ := List.mem_map.mp hd'
    rfl
  · refine .inr fun d hd => ?_
    obtain ⟨a, _, rfl⟩ := List.mem_map.mp hd
    exact ⟨fun z => (nomatch z), fun _ z => (nomatch z)⟩
  · intro a _
    show X.A.units + 2 + _ < cLine
    have : (PyData.int (a.length : Int)).depth ≤ 1 := by simp [PyData.depth]
    omega
  · rintro v a ⟨t, rfl⟩ hm h tk hk
    have hla := hb a hm
    refine PyProof.Rows.len_str ?_ ?_
    · rw [S_length]
      omega
    · rw [S_length]
      exact ⟨h, _, rfl, fun _ _ z => z, .int _ _⟩
  · intro out c h' tk hk hn ho hlen eo
    have fr : H1 (s1.heap.objs.size + 1) = none := I1.hok.fresh (Nat.le_succ _)
    refine ⟨.ref _, upd H1 (s1.heap.objs.size + 1) (.lst ((sortLen xs).map T)), I1.laid (t' := tk) hk (Nat.le_succ _) ⟨?_, out, c, vals_of_each eo, ho⟩, rfl, k _ fr⟩
    rw [List.length_map]
    unfold sortLen
    rw [List.length_mergeSort]
    exact hz
theorem sortLen_pair (a b : Tx) : sortLen [a, b] = if b.length < a.length then [b, a] else [a, b] := by
  have e := PySem.W.dataLe_int (fun a : Tx => (a.length : Int))
  unfold sortLen
  rw [e]
  by_cases h : b.length < a.length
  · rw [if_pos h]
    simp [List.mergeSort, List.MergeSort.Internal.splitInTwo, List.merge, show ¬ a.length ≤ b.length by omega]
  · rw [if_neg h]
    simp [List.mergeSort, List.MergeSort.Internal.splitInTwo, List.merge, show a.length ≤ b.length by omega]
end Wc
set_option Elab.async false
set_option linter.all false
set_option maxRecDepth 100000
set_option maxHeartbeats 2000000
/-! what the new readings evaluate to (over HandS.Evl) -/
namespace Wc
open PySem PySem.Spec PyProof.Rows L2 Evl
section
variable {K : PySem.W.Frag} {σ : L2.St} {H H' : Hp} {ta tb te : TE} {t : TT} {x y z v : V}
theorem rv_addT {a b : Tx} (h : a.length + b.length ≤ 16777216) : RV rAddT (T a) (T b) H (T (a ++ b)) := fun H1 _ _ q => ⟨a, b, rfl, rfl, h, q H1 (Ex.refl H1)⟩
theorem rv_mulT {a : Tx} {n : Int} (h0 : -1000000000 ≤ n) (h1 : n ≤ 1000000000) (h : a.length * n.toNat ≤ 16777216) : RV rMulT (T a) (.int n) H (T (repT n.toNat a)) := fun H1 _ _ q => ⟨a, n, rfl, rfl, h0, h1, h, q H1 (Ex.refl H1)⟩
theorem rv_eqT {a b : Tx} : RV rEqT (T a) (T b) H (.bl (decide (a = b))) := fun H1 _ _ q => ⟨a, b, rfl, rfl, q H1 (Ex.refl H1)⟩
theorem rv_neT {a b : Tx} : RV rNeT (T a) (T b) H (.bl (!decide (a = b))) := fun H1 _ _ q => ⟨a, b, rfl, rfl, q H1 (Ex.refl H1)⟩
theorem rv_ltT {a b : Tx} : RV rLtT (T a) (T b) H (.bl (decide (a < b))) := fun H1 _ _ q => ⟨a, b, rfl, rfl, q H1 (Ex.refl H1)⟩
theorem rv_inT {c : Nat} {b : Tx} : RV rInT (T [c]) (T b) H (.bl (decide (c ∈ b))) := fun H1 _ _ q => ⟨c, b, rfl, rfl, q H1 (Ex.refl H1)⟩
theorem rv_eqB {a b : Bool} {g : Bool → Bool → Bool} : RV (rB0 g) (.bl a) (.bl b) H (.bl (g a b)) := fun H1 _ _ q => ⟨a, b, rfl, rfl, q H1 (Ex.refl H1)⟩
theorem rv_ixT {a : Tx} {i : Int} {c : Nat} (hl : a.length ≤ 16777216) (h : atI a i = some c) : RV rIxT (T a) (.int i) H (T [c]) := fun H1 _ _ q => ⟨a, i, c, rfl, rfl, hl, h, q H1 (Ex.refl H1)⟩
theorem rv_isN : RV (fun x y H Q => y = .non ∧ Q (.bl (decide (x = .non))) H) x .non H (.bl (decide (x = .non))) := fun H1 _ _ q => ⟨rfl, q H1 (Ex.refl H1)⟩
theorem rv_notN : RV (fun x y H Q => y = .non ∧ Q (.bl (!decide (x = .non))) H) x .non H (.bl (!decide (x = .non))) := fun H1 _ _ q => ⟨rfl, q H1 (Ex.refl H1)⟩
theorem rc_lenT {a : Tx} (h : a.length ≤ 16777216) : RC rLenT [T a] H (.int (a.length : Int)) := fun H1 _ _ q => ⟨a, rfl, h, q H1 (Ex.refl H1)⟩
theorem rc_isi {n t : String} {b : Bool} (ty : ∀ H1, Ex H H1 → TyX K H1 x (.type t)) (h : kitB t n = some b) : RC (rIsiB K) [x, .ty n] H (.bl b) := fun H1 e _ q => ⟨x, n, t, b, rfl, ty H1 e, h, q H1 (Ex.refl H1)⟩
theorem rc_int {i : Int} : RC (fun xs H Q => (∃ i, xs = [.int i] ∧ Q (.int i) H) ∨ ∃ k, xs = [.bl k] ∧ Q (.int (if k then 1 else 0)) H) [.int i] H (.int i) := fun H1 _ _ q => .inl ⟨i, rfl, q H1 (Ex.refl H1)⟩
theorem rc_gcd {a b : Int} : RC rGcd [.int a, .int b] H (.int ((Nat.gcd a.natAbs b.natAbs : Nat) : Int)) := fun H1 _ _ q => ⟨a, b, rfl, q H1 (Ex.refl H1)⟩
/-- a reading that is given by another one -/
theorem ev_slT {a : Tx} {tl th : TO} {lo hi : Option Int} (h : Ev te σ H (T a)) (h1 : EvO tl σ H lo) (h2 : EvO th σ H hi) (hl : a.length ≤ 16777216) : Ev (tSl rSlT te tl th) σ H (T (cutT a lo hi)) := fun H1 e _ q =>
  h H1 e _ fun H2 e2 => h1 H2 (e.trans e2) _ fun H3 e3 => h2 H3 ((e.trans e2).trans e3) _ fun H4 e4 => ⟨a, rfl, hl, q H4 ((e2.trans e3).trans e4)⟩
/-- a method of a text -/
def RM (r : V → List V → Hp → VK → Prop) (x : V) (vs : List V) (H : Hp) (z : V) : Prop := ∀ H1, Ex H H1 → ∀ Q : VK, (∀ H2, Ex H1 H2 → Q z H2) → r x vs H1 Q
theorem ev_bmT {r : V → List V → Hp → VK → Prop} {tq : TA} {a : Tx} {vs : List V} (h : Ev te σ H (T a)) (ha : EvA tq σ H vs) (hr : RM r (T a) vs H z) : Ev (tBM K "str" r te tq) σ H z := fun H1 e Q q =>
  h H1 e _ fun H2 e2 => ⟨rfl, ha H2 (e.trans e2) _ fun H3 e3 => hr H3 ((e.trans e2).trans e3) Q fun H4 e4 => q H4 ((e2.trans e3).trans e4)⟩
theorem ev_bmTL {r : V → List V → Hp → VK → Prop} {a : Tx} {xs : List V} (h : Ev te σ H (T a)) (ha : EvL tb σ H xs) (hr : ∀ p H1, H1 p = some (.lst xs) → Ex H H1 → RM r (T a) [.ref p] H1 z) : Ev (tBM K "str" r te (tCons tb tNil)) σ H z := fun H1 e Q q =>
  h H1 e _ fun H2 e2 => ⟨rfl, ha H2 (e.trans e2) _ fun p H3 _ e3 hp => hr p H3 hp ((e.trans e2).trans e3) H3 (Ex.refl H3) Q fun H4 e4 => q H4 ((e2.trans e3).trans e4)⟩
/-- a call of a built-in on one new list -/
theorem ev_cbL {r : List V → Hp → VK → Prop} {xs : List V} (h : EvL te σ H xs) (hr : ∀ p H1, H1 p = some (.lst xs) → Ex H H1 → RC r [.ref p] H1 z) : Ev (tCB r (tCons te tNil)) σ H z := fun H1 e Q q =>
  h H1 e _ fun p H2 _ e2 hp => hr p H2 hp (e.trans e2) H2 (Ex.refl H2) Q fun H3 e3 => q H3 (e2.trans e3)
theorem rc_all {p : Addr} {bs : List Bool} (h : SqL K H p (bs.map V.bl)) : RC (rAll K) [.ref p] H (.bl (bs.all id)) := fun H1 e _ q => ⟨p, bs, rfl, ex_l e h, q H1 (Ex.refl H1)⟩
theorem rc_any {p : Addr} {bs : List Bool} (h : SqL K H p (bs.map V.bl)) : RC (rAny K) [.ref p] H (.bl (bs.any id)) := fun H1 e _ q => ⟨p, bs, rfl, ex_l e h, q H1 (Ex.refl H1)⟩
theorem rc_sum {p : Addr} {ns : List Int} (h : SqL K H p (ns.map V.int)) : RC (rSum K) [.ref p] H (.int ns.sum) := fun H1 e _ q => ⟨p, ns, rfl, ex_l e h, q H1 (Ex.refl H1)⟩
theorem rm_join {p : Addr} {ys : List Tx} (h : SqL K H p (ys.map T) ∨ SqT K H p (ys.map T)) (hl : (ys.map List.length).sum ≤ 16777216) : RM (rJoinT K) (T []) [.ref p] H (T ys.flatten) := fun H1 e _ q =>
  ⟨[], p, ys, rfl, rfl, h.imp (ex_l e) (ex_t e), by simpa using hl, by rw [joinL_nil]; exact q H1 (Ex.refl H1)⟩

/-! ### heaps: all but some stand -/
def Exc (B : Addr → Prop) (H H' : Hp) : Prop := ∀ b o, ¬ B b → H b = some o → H' b = some o
theorem Exc.refl {B : Addr → Prop} (H : Hp) : Exc B H H := fun _ _ _ h => h
theorem Exc.trans {B : Addr → Prop} {H H1 H2 : Hp} (a : Exc B H H1) (b : Exc B H1 H2) : Exc B H H2 := fun x o n h => b x o n (a x o n h)
theorem Exc.of {B : Addr → Prop} {H H1 : Hp} (a : Ex H H1) : Exc B H H1 := fun x o _ h => a x o h
theorem Exc.ex {H H1 : Hp} (a : Exc (fun _ => False) H H1) : Ex H H1 := fun x o h => a x o (fun z => z) h
theorem Exc.then {B : Addr → Prop} {H H1 H2 : Hp} (a : Exc B H H1) (b : Ex H1 H2) : Exc B H H2 := a.trans (.of b)
theorem Exc.mono {B B' : Addr → Prop} {H H1 : Hp} (a : Exc B H H1) (h : ∀ b, B b → B' b) : Exc B' H H1 := fun x o n e => a x o (fun z => n (h x z)) e
theorem Exc.upd {B : Addr → Prop} {H H1 : Hp} {p : Addr} {o : HO} (a : Exc B H H1) (h : B p ∨ H p = none) : Exc B H (upd H1 p o) := fun x u n e => by
  have hx : x ≠ p := by
    rintro rfl
    rcases h with h | h
    · exact n h
    · rw [h] at e; cases e
  rw [upd_ne hx]
  exact a x u n e
theorem Exc.l {B : Addr → Prop} {K : PySem.W.Frag} {H H1 : Hp} {p : Addr} {xs : List V} (a : Exc B H H1) (n : ¬ B p) (h : SqL K H p xs) : SqL K H1 p xs := by
  rcases h with (h | ⟨o, h⟩) | h
  · exact .inl (.inl (a _ _ n h))
  · exact .inl (.inr ⟨o, a _ _ n h⟩)
  · exact .inr h
theorem Exc.tp {B : Addr → Prop} {K : PySem.W.Frag} {H H1 : Hp} {p : Addr} {xs : List V} (a : Exc B H H1) (n : ¬ B p) (h : SqT K H p xs) : SqT K H1 p xs := by
  rcases h with (h | ⟨o, h⟩) | h
  · exact .inl (.inl (a _ _ n h))
  · exact .inl (.inr ⟨o, a _ _ n h⟩)
  · exact .inr h
theorem Exc.fresh {B : Addr → Prop} {H H1 : Hp} {p : Addr} (a : Exc B H H1) (n : ¬ B p) (h : H1 p = none) : H p = none := by
  cases e : H p with
  | none => rfl
  | some o => rw [a _ _ n e] at h; cases h

/-! ### what is walked: the values, one by one -/
/-- wi gives n values; the i-th is such that P i of it and the heap holds; own: what must stand meanwhile -/
def Src (wi : TI) (σ : L2.St) (H : Hp) (n : Nat) (own : Addr → Prop) (P : Nat → V → Hp → Prop) : Prop :=
  ∀ H1, Ex H H1 → ∀ R : It → Hp → Prop, (∀ J H2 S, Ex H1 H2 → Walk J n S (fun i Ha v Hb => Ex Ha Hb ∧ P i v Hb) → (∀ (B : Addr → Prop) Ha, (∀ b, B b → H b ≠ none ∧ ¬ own b) → Exc B H2 Ha → S Ha) → R J H2) → wi σ H1 R
theorem src_list {a : Addr} {xs : List V} {tl : TE} (h : Ev tl σ H (.ref a)) (hs : SqL K H a xs) : Src (iList K tl) σ H xs.length (fun b => b = a) (fun i v _ => xs[i]? = some v) := fun H1 e R q =>
  h H1 e _ fun H2 e2 => ⟨a, rfl, ⟨xs, ex_l (e.trans e2) hs⟩, q _ H2 _ e2 (walk_list.mono (fun _ z => z) fun i Ha v Hb _ _ hy => by
    obtain ⟨rfl, hy⟩ := hy
    exact ⟨Ex.refl _, hy⟩) fun B Ha hB ea => ea.l (fun z => (hB a z).2 rfl) (ex_l (e.trans e2) hs)⟩
theorem src_listM {α : Type} {f : α → V} {a : Addr} {xs : List α} {tl : TE} (h : Ev tl σ H (.ref a)) (hs : SqL K H a (xs.map f)) : Src (iList K tl) σ H xs.length (fun b => b = a) (fun i v _ => (xs.map f)[i]? = some v) := by
  have h1 := src_list h hs
  rw [List.length_map] at h1
  exact h1
/-- over a new list -/
theorem src_newL {xs : List V} {tl : TE} (h : EvL tl σ H xs) : Src (iList K tl) σ H xs.length (fun _ => False) (fun i v _ => xs[i]? = some v) := fun H1 e R q =>
  h H1 e _ fun a H2 ha e2 h2 => ⟨a, rfl, ⟨xs, sq_of h2⟩, q _ H2 _ e2 (walk_list.mono (fun _ z => z) fun i Ha v Hb _ _ hy => by
    obtain ⟨rfl, hy⟩ := hy
    exact ⟨Ex.refl _, hy⟩) fun B Ha hB ea => ea.l (fun z => (hB a z).1 (fresh_back e ha)) (sq_of h2)⟩
theorem src_newLM {α : Type} {f : α → V} {xs : List α} {tl : TE} (h : EvL tl σ H (xs.map f)) : Src (iList K tl) σ H xs.length (fun _ => False) (fun i v _ => (xs.map f)[i]? = some v) := by
  have h1 := src_newL (K := K) h
  rw [List.length_map] at h1
  exact h1
theorem src_tup {a : Addr} {xs : List V} {tl : TE} (h : Ev tl σ H (.ref a)) (hs : SqT K H a xs) : Src (iTup K tl) σ H xs.length (fun b => b = a) (fun i v _ => xs[i]? = some v) := fun H1 e R q =>
  h H1 e _ fun H2 e2 => ⟨a, rfl, ⟨xs, ex_t (e.trans e2) hs⟩, q _ H2 _ e2 (walk_tup.mono (fun _ z => z) fun i Ha v Hb _ _ hy => by
    obtain ⟨rfl, hy⟩ := hy
    exact ⟨Ex.refl _, hy⟩) fun B Ha hB ea => ea.tp (fun z => (hB a z).2 rfl) (ex_t (e.trans e2) hs)⟩
theorem src_tupM {α : Type} {f : α → V} {a : Addr} {xs : List α} {tl : TE} (h : Ev tl σ H (.ref a)) (hs : SqT K H a (xs.map f)) : Src (iTup K tl) σ H xs.length (fun b => b = a) (fun i v _ => (xs.map f)[i]? = some v) := by
  have h1 := src_tup h hs
  rw [List.length_map] at h1
  exact h1
theorem src_str {a : Tx} {tl : TE} (h : Ev tl σ H (T a)) : Src (iStr tl) σ H a.length (fun _ => False) (fun i v _ => (a.map fun c => T [c])[i]? = some v) := fun H1 e R q =>
  h H1 e _ fun H2 e2 => ⟨_, rfl, q _ H2 (fun _ => True) e2 (by
    have w := (walk_str (z := SX.S a)).mono (fun _ z => z) (Y' := fun i Ha v Hb => Ex Ha Hb ∧ (a.map fun c => T [c])[i]? = some v) (fun i Ha v Hb _ _ hy => by
      obtain ⟨rfl, c, hc, rfl⟩ := hy
      refine ⟨Ex.refl _, ?_⟩
      have hc' : a[i]? = some c := by
        have : (a.toArray)[i]? = some c := hc
        simpa using this
      rw [List.getElem?_map, hc']
      rfl)
    have e3 : (SX.S a).cps.size = a.length := S_length a
    rw [e3] at w
    exact w) fun _ _ _ _ => True.intro⟩
theorem src_range1 {tq : TA} {n : Nat} (h : EvA tq σ H [.int (n : Int)]) (hn : n ≤ 1000000000) : Src (iRng1 tq) σ H n (fun _ => False) (fun i v _ => v = .int (i : Int)) := fun H1 e R q =>
  h H1 e _ fun H2 e2 => ⟨_, rfl, by omega, by omega, by
    have w := (walk_range (lo := 0) (n := n)).mono (fun _ z => z) (Y' := fun i Ha v Hb => Ex Ha Hb ∧ v = .int (i : Int)) (fun i Ha v Hb _ _ hy => by
      obtain ⟨rfl, rfl⟩ := hy
      exact ⟨Ex.refl _, by show V.int (0 + (i : Int)) = V.int (i : Int); rw [Int.zero_add]⟩)
    exact q _ H2 _ e2 w fun _ _ _ _ => True.intro⟩
theorem src_range2 {tq : TA} {lo hi : Int} {n : Nat} (h : EvA tq σ H [.int lo, .int hi]) (h0 : -1000000000 ≤ lo) (h1 : lo ≤ 1000000000) (h2 : -1000000000 ≤ hi) (h3 : hi ≤ 1000000000) (hn : n = (hi - lo).toNat) : Src (iRng2 tq) σ H n (fun _ => False) (fun i v _ => v = .int (lo + (i : Int))) := fun H1 e R q =>
  h H1 e _ fun H2 e2 => ⟨lo, hi, rfl, ⟨by omega, by omega, by omega, by omega⟩, by
    subst hn
    have w := (walk_range (lo := lo) (n := (hi - lo).toNat)).mono (fun _ z => z) (Y' := fun i Ha v Hb => Ex Ha Hb ∧ v = .int (lo + (i : Int))) (fun i Ha v Hb _ _ hy => by
      obtain ⟨rfl, rfl⟩ := hy
      exact ⟨Ex.refl _, rfl⟩)
    exact q _ H2 _ e2 w fun _ _ _ _ => True.intro⟩
theorem src_enum {a : Addr} {xs : List V} {tl : TE} (h : Ev tl σ H (.ref a)) (hs : SqL K H a xs) : Src (iEnum K (tCons tl tNil)) σ H xs.length (fun b => b = a) (fun i v Hb => ∃ p x, v = .ref p ∧ xs[i]? = some x ∧ Hb p = some (.tup [.int (i : Nat), x])) := fun H1 e R q =>
  h H1 e _ fun H2 e2 => ⟨a, xs, rfl, ex_l (e.trans e2) hs, q _ H2 _ e2 (walk_enum.mono (fun _ z => z) fun i Ha v Hb _ _ hy => by
    obtain ⟨p, y, x, rfl, hn, rfl, h1, h2⟩ := hy
    refine ⟨Ex.new hn, p, x, rfl, h2, ?_⟩
    rw [← Option.some.inj h1]
    exact upd_same) fun B Ha hB ea => ea.l (fun z => (hB a z).2 rfl) (ex_l (e.trans e2) hs)⟩
theorem src_zip {a b : Addr} {xs ys : List V} {n : Nat} {tl tr : TE} (h : Ev tl σ H (.ref a)) (h2 : Ev tr σ H (.ref b)) (hs : SqL K H a xs) (hs2 : SqL K H b ys) (hn : n = min xs.length ys.length) :
    Src (iZip K (tCons tl (tCons tr tNil))) σ H n (fun c => c = a ∨ c = b) (fun i v Hb => ∃ p x y, v = .ref p ∧ xs[i]? = some x ∧ ys[i]? = some y ∧ Hb p = some (.tup [x, y])) := fun H1 e R q =>
  h H1 e _ fun H2 e2 => h2 H2 (e.trans e2) _ fun H3 e3 => ⟨a, b, xs, ys, rfl, ex_l ((e.trans e2).trans e3) hs, ex_l ((e.trans e2).trans e3) hs2, q _ H3 _ (e2.trans e3) ((walk_zip hn).mono (fun _ z => z) fun i Ha v Hb _ _ hy => by
    obtain ⟨p, x, y, rfl, hf, rfl, h1, h2⟩ := hy
    exact ⟨Ex.new hf, p, x, y, rfl, h1, h2, upd_same⟩) fun B Ha hB ea => ⟨ea.l (fun z => (hB a z).2 (.inl rfl)) (ex_l ((e.trans e2).trans e3) hs), ea.l (fun z => (hB b z).2 (.inr rfl)) (ex_l ((e.trans e2).trans e3) hs2)⟩⟩
theorem src_as {wi : TI} {n : Nat} {own : Addr → Prop} {P P' : Nat → V → Hp → Prop} (h : Src wi σ H n own P) (hp : ∀ i v H', i < n → P i v H' → P' i v H') : Src wi σ H n own P' := fun H1 e R q => h H1 e R fun J H2 S e2 w hS => q J H2 S e2 ⟨w.goes, w.stops, fun i Ha v Hb hi hg hy => ⟨(w.yields i Ha v Hb hi hg hy).1, hp i v Hb hi (w.yields i Ha v Hb hi hg hy).2⟩⟩ hS
theorem src_range1L {tq : TA} {n : Nat} (h : EvA tq σ H [.int (n : Int)]) (hn : n ≤ 1000000000) : Src (iRng1 tq) σ H (List.range n).length (fun _ => False) (fun i v _ => ((List.range n).map fun (i : Nat) => V.int (i : Int))[i]? = some v) := by
  have h1 := src_as (P' := fun i v _ => ((List.range n).map fun (i : Nat) => V.int (i : Int))[i]? = some v) (src_range1 h hn) fun i v _ hi hp => by
    subst hp
    show ((List.range n).map fun (i : Nat) => V.int (i : Int))[i]? = _
    rw [List.getElem?_map, List.getElem?_range hi]
    rfl
  have e : (List.range n).length = n := List.length_range
  rw [e]
  exact h1
theorem src_range2L {tq : TA} {lo hi : Int} {n : Nat} (h : EvA tq σ H [.int lo, .int hi]) (h0 : -1000000000 ≤ lo) (h1 : lo ≤ 1000000000) (h2 : -1000000000 ≤ hi) (h3 : hi ≤ 1000000000) (hn : n = (hi - lo).toNat) : Src (iRng2 tq) σ H (List.range n).length (fun _ => False) (fun i v _ => ((List.range n).map fun (i : Nat) => V.int (lo + (i : Int)))[i]? = some v) := by
  have h1 := src_as (P' := fun i v _ => ((List.range n).map fun (i : Nat) => V.int (lo + (i : Int)))[i]? = some v) (src_range2 h h0 h1 h2 h3 hn) fun i v _ hi hp => by
    subst hp
    show ((List.range n).map fun (i : Nat) => V.int (lo + (i : Int)))[i]? = _
    rw [List.getElem?_map, List.getElem?_range hi]
    rfl
  have e : (List.range n).length = n := List.length_range
  rw [e]
  exact h1

/-! ### comprehensions over such -/
/-- the target a name -/
theorem el_lcW {wi : TI} {j : Nat} {vs : List Nat} {n : Nat} {own : Addr → Prop} {P : Nat → V → Hp → Prop} (f : Nat → Bool) (v : Nat → V) (hs : Src wi σ H n own P) (hn : n ≤ 40000) (hw : ∀ x, wipe ((wipe σ vs).set j (some x)) vs = wipe σ vs)
    (ht : ∀ (i : Nat) (x : V) H1, Ex H H1 → i < n → P i x H1 → EvT t ((wipe σ vs).set j (some x)) H1 (f i)) (he : ∀ (i : Nat) (x : V) H1, Ex H H1 → i < n → P i x H1 → f i = true → Ev te ((wipe σ vs).set j (some x)) H1 (v i)) :
    EvL (tLc wi (gName j) t te vs) σ H (given n f v) := fun H0 e Q q => hs H0 e _ fun J H1 S e1 w hS => fun Dl hD =>
  lc_it w (Qd := fun H3 => Q (.ref Dl) H3) (Cw H1 f v Dl) ⟨hD, Ex.new hD, upd_same⟩ (fun i Hi _ p => hS (fun _ => False) Hi (fun _ z => z.elim) (.of p.2.1)) (fun i x Hi Hj hi p hy => by
    obtain ⟨ey, hP⟩ := hy
    have p' : Cw H1 f v Dl i Hj := ⟨p.1, p.2.1.trans ey, ey _ _ p.2.2⟩
    have eAll : Ex H Hj := (e.trans e1).trans p'.2.1
    refine ⟨hw x, ?_⟩
    have p2 : Cw H1 f v Dl i Hj := p'
    obtain ⟨p1, p3, p4⟩ := p2
    refine ht i x Hj eAll hi hP Hj (Ex.refl _) _ fun H3 e3 => ?_
    cases hf : f i with
    | true =>
      show te _ H3 fun y H4 => ∃ acc, H4 Dl = some (.lst acc) ∧ acc.length < sizeLine ∧ Cw H1 f v Dl (i + 1) (upd H4 Dl (.lst (acc ++ [y])))
      refine he i x Hj eAll hi hP hf H3 e3 _ fun H4 e4 => ⟨given i f v, e4 Dl _ (e3 Dl _ p4), sz_lt (by have := given_len i f v; omega), p1, Ex.mut ((p3.trans e3).trans e4) p1, ?_⟩
      rw [given_yes hf]
      exact upd_same
    | false =>
      show Cw H1 f v Dl (i + 1) H3
      refine ⟨p1, p3.trans e3, ?_⟩
      rw [given_no hf]
      exact e3 Dl _ p4) (fun H3 p => q Dl H3 (fresh_back e1 p.1) (e1.trans p.2.1) p.2.2)
theorem given_map {α : Type} (xs : List α) (p : α → Bool) (g : α → V) (f : Nat → Bool) (v : Nat → V) (hf : ∀ i a, xs[i]? = some a → f i = p a) (hv : ∀ i a, xs[i]? = some a → v i = g a) : given xs.length f v = (xs.filter p).map g := by
  have key : ∀ n, n ≤ xs.length → given n f v = ((xs.take n).filter p).map g := fun n => by
    induction n with
    | zero => intro _; rfl
    | succ n ih =>
      intro hn
      have ha : xs[n]? = some xs[n] := List.getElem?_eq_getElem (by omega)
      rw [List.take_add_one, ha, List.filter_append, List.map_append, ← ih (by omega)]
      cases hp : p xs[n] with
      | true =>
        rw [given_yes ((hf n _ ha).trans hp), hv n _ ha]
        simp [hp]
      | false =>
        rw [given_no ((hf n _ ha).trans hp)]
        simp [hp]
  have := key xs.length (Nat.le_refl _)
  rw [List.take_length] at this
  exact this
/-- over values that stand for xs, one by one; the target a name -/
theorem el_lcX {α : Type} {wi : TI} {j : Nat} {vs : List Nat} {n : Nat} {own : Addr → Prop} {P : Nat → V → Hp → Prop} {g : α → V} {p : α → Bool} (xs : List α) (R : α → V → Hp → Prop) (hs : Src wi σ H n own P) (hn : n ≤ 40000) (hw : ∀ x, wipe ((wipe σ vs).set j (some x)) vs = wipe σ vs)
    (hx : xs.length = n) (hP : ∀ i x H1, P i x H1 → ∃ a, xs[i]? = some a ∧ R a x H1)
    (ht : ∀ (a : α) (x : V) H1, Ex H H1 → a ∈ xs → R a x H1 → EvT t ((wipe σ vs).set j (some x)) H1 (p a)) (he : ∀ (a : α) (x : V) H1, Ex H H1 → a ∈ xs → R a x H1 → p a = true → Ev te ((wipe σ vs).set j (some x)) H1 (g a)) :
    EvL (tLc wi (gName j) t te vs) σ H ((xs.filter p).map g) := by
  subst hx
  have h0 := el_lcW (te := te) (t := t) (fun i => match xs[i]? with | some a => p a | none => false) (fun i => match xs[i]? with | some a => g a | none => .non) hs hn hw
    (fun i x H1 e hi hp => by
      obtain ⟨a, ha, hr⟩ := hP i x H1 hp
      simp only [ha]
      exact ht a x H1 e (List.mem_of_getElem? ha) hr)
    (fun i x H1 e hi hp hf => by
      obtain ⟨a, ha, hr⟩ := hP i x H1 hp
      simp only [ha] at hf ⊢
      exact he a x H1 e (List.mem_of_getElem? ha) hr hf)
  rw [given_map xs p g _ _ (fun i a ha => by simp only [ha]) (fun i a ha => by simp only [ha])] at h0
  exact h0
theorem et_yes : EvT tYes σ H true := fun H1 _ _ q => q H1 (Ex.refl H1)
theorem at_map {α : Type} {xs : List α} {f : α → V} {i : Nat} {x : V} (h : (xs.map f)[i]? = some x) : ∃ a, xs[i]? = some a ∧ x = f a := by
  rw [List.getElem?_map] at h
  cases e : xs[i]? with
  | none => rw [e] at h; cases h
  | some a => rw [e] at h; exact ⟨a, rfl, (Option.some.inj h).symm⟩
/-- over a list of values f a; no test -/
theorem el_lcM {α : Type} {wi : TI} {j : Nat} {vs : List Nat} {own : Addr → Prop} {f g : α → V} (xs : List α) (hs : Src wi σ H xs.length own (fun i v _ => (xs.map f)[i]? = some v)) (hn : xs.length ≤ 40000) (hw : ∀ x, wipe ((wipe σ vs).set j (some x)) vs = wipe σ vs)
    (he : ∀ (a : α) H1, Ex H H1 → a ∈ xs → Ev te ((wipe σ vs).set j (some (f a))) H1 (g a)) : EvL (tLc wi (gName j) tYes te vs) σ H (xs.map g) := by
  have h := el_lcX (te := te) (t := tYes) (p := fun _ => true) (g := g) xs (fun a x _ => x = f a) hs hn hw rfl (fun i x _ hp => at_map hp) (fun _ _ _ _ _ _ => et_yes) (fun a x H1 e hm hr _ => by rw [hr]; exact he a H1 e hm)
  rw [List.filter_eq_self.mpr (fun _ _ => rfl)] at h
  exact h
/-- .. with a test -/
theorem el_lcF {α : Type} {wi : TI} {j : Nat} {vs : List Nat} {own : Addr → Prop} {f g : α → V} {p : α → Bool} (xs : List α) (hs : Src wi σ H xs.length own (fun i v _ => (xs.map f)[i]? = some v)) (hn : xs.length ≤ 40000) (hw : ∀ x, wipe ((wipe σ vs).set j (some x)) vs = wipe σ vs)
    (ht : ∀ (a : α) H1, Ex H H1 → a ∈ xs → EvT t ((wipe σ vs).set j (some (f a))) H1 (p a)) (he : ∀ (a : α) H1, Ex H H1 → a ∈ xs → p a = true → Ev te ((wipe σ vs).set j (some (f a))) H1 (g a)) : EvL (tLc wi (gName j) t te vs) σ H ((xs.filter p).map g) :=
  el_lcX (te := te) (t := t) xs (fun a x _ => x = f a) hs hn hw rfl (fun i x _ hp => at_map hp) (fun a x H1 e hm hr => by rw [hr]; exact ht a H1 e hm) (fun a x H1 e hm hr hf => by rw [hr]; exact he a H1 e hm hf)

/-! ### for loops over such; B: what the turns may change; the word speaks of the heap Hs at the loop's start -/
variable {D : Ends} {tu tz : TS}
theorem s_forW {wi : TI} {g : TG} {n : Nat} {own : Addr → Prop} {P : Nat → V → Hp → Prop} (B : Addr → Prop) (hs : Src wi σ H n own P) (hB : ∀ b, B b → H b ≠ none ∧ ¬ own b) (Pv : Hp → Nat → L2.St → Hp → Prop)
    (h0 : ∀ Hs, Ex H Hs → Pv Hs 0 σ Hs) (hE : ∀ Hs i σ' H', Pv Hs i σ' H' → Exc B Hs H') (hst : ∀ Hs i σ' Ha Hb, Pv Hs i σ' Ha → Ex Ha Hb → Pv Hs i σ' Hb)
    (hb : ∀ Hs i x σ' H', Ex H Hs → i < n → Pv Hs i σ' H' → P i x H' → g x σ' H' fun σ2 H2 => tu { D with nx := Pv Hs (i + 1), ct := Pv Hs (i + 1), bk := D.nx } σ2 H2) (hd : ∀ Hs σ' H', Ex H Hs → Pv Hs n σ' H' → D.nx σ' H') : tFor wi g tu D σ H :=
  hs H (Ex.refl H) _ fun J Hs S e w hS => for_it w (Pv Hs) (h0 Hs e) (fun i σ' H' _ p => hS B H' hB (hE Hs i σ' H' p)) (fun i x σ' Ha Hb hi p hy => hb Hs i x σ' Hb e hi (hst Hs i σ' Ha Hb p hy.1) hy.2) (fun σ' H' p => hd Hs σ' H' e p)
theorem q_forW {wi : TI} {g : TG} {n : Nat} {own : Addr → Prop} {P : Nat → V → Hp → Prop} (B : Addr → Prop) (hs : Src wi σ H n own P) (hB : ∀ b, B b → H b ≠ none ∧ ¬ own b) (Pv : Hp → Nat → L2.St → Hp → Prop)
    (h0 : ∀ Hs, Ex H Hs → Pv Hs 0 σ Hs) (hE : ∀ Hs i σ' H', Pv Hs i σ' H' → Exc B Hs H') (hst : ∀ Hs i σ' Ha Hb, Pv Hs i σ' Ha → Ex Ha Hb → Pv Hs i σ' Hb)
    (hb : ∀ Hs i x σ' H', Ex H Hs → i < n → Pv Hs i σ' H' → P i x H' → g x σ' H' fun σ2 H2 => tu { D with nx := Pv Hs (i + 1), ct := Pv Hs (i + 1), bk := tz D } σ2 H2) (hd : ∀ Hs σ' H', Ex H Hs → Pv Hs n σ' H' → tz D σ' H') : tSeq (tFor wi g tu) tz D σ H :=
  s_forW (D := { D with nx := tz D }) B hs hB Pv h0 hE hst hb hd
end
end Wc
set_option Elab.async false
set_option linter.all false
set_option maxRecDepth 100000
set_option maxHeartbeats 2000000
/-! loops that search, calls of promises -/
namespace Wc
open PySem PySem.Spec PyProof.Rows L2 Evl
section
variable {K : PySem.W.Frag} {σ : L2.St} {H H' : Hp} {ta tb te : TE} {t : TT} {x y z v : V} {D : Ends} {tu tr tz : TS}
theorem set_self {σ : L2.St} {j : Nat} (hj : j < σ.length) : ∃ y, σ = σ.set j y := ⟨σ[j], by simp⟩
/-- for x in ..: if t: return .. -/
theorem q_search {wi : TI} {j : Nat} {n : Nat} {own : Addr → Prop} {P : Nat → V → Hp → Prop} (hs : Src wi σ H n own P) (hj : j < σ.length) (f : Nat → Bool)
    (ht : ∀ i x H1, Ex H H1 → i < n → P i x H1 → (∀ k, k < i → f k = false) → EvT t (σ.set j (some x)) H1 (f i))
    (hr : ∀ i x H1 H2, Ex H H1 → i < n → P i x H1 → Ex H1 H2 → (∀ k, k < i → f k = false) → f i = true → ∀ D' : Ends, D'.rt = D.rt → tr D' (σ.set j (some x)) H2)
    (hd : ∀ y H1, Ex H H1 → (∀ i, i < n → f i = false) → tz D (σ.set j y) H1) : tSeq (tFor wi (gName j) (tIfS t tr tNext)) tz D σ H := by
  refine q_forW (fun _ => False) hs (fun _ z => z.elim) (fun Hs i σ' H' => (∃ y, σ' = σ.set j y) ∧ Ex Hs H' ∧ ∀ k, k < i → f k = false) ?_ ?_ ?_ ?_ ?_
  · intro Hs e
    exact ⟨set_self hj, Ex.refl _, fun k hk => absurd hk (Nat.not_lt_zero _)⟩
  · intro Hs i σ' H' p
    exact .of p.2.1
  · intro Hs i σ' Ha Hb p e
    exact ⟨p.1, p.2.1.trans e, p.2.2⟩
  · rintro Hs i x σ' H' e hi ⟨⟨y, rfl⟩, e2, hk⟩ hP
    have eA : Ex H H' := e.trans e2
    show tIfS t tr tNext _ ((σ.set j y).set j (some x)) H'
    rw [List.set_set]
    refine s_when (ht i x H' eA hi hP hk) (fun hb H1 e1 => ?_) (fun hb H1 e1 => ?_)
    · exact hr i x H' H1 eA hi hP e1 hk hb _ rfl
    · exact ⟨⟨_, rfl⟩, e2.trans e1, fun k hk' => by
        rcases Nat.lt_succ_iff_lt_or_eq.mp hk' with h | h
        · exact hk k h
        · rw [h]; exact hb⟩
  · rintro Hs σ' H' e ⟨⟨y, rfl⟩, e2, hk⟩
    exact hd y H' (e.trans e2) hk
theorem rc_allM {α : Type} {p : Addr} {xs : List α} {f : α → Bool} (h : SqL K H p (xs.map fun a => V.bl (f a))) : RC (rAll K) [.ref p] H (.bl (xs.all f)) := by
  have h2 : SqL K H p ((xs.map f).map V.bl) := by
    rw [List.map_map]
    exact h
  have e := rc_all h2
  rw [List.all_map] at e
  exact e
theorem rc_anyM {α : Type} {p : Addr} {xs : List α} {f : α → Bool} (h : SqL K H p (xs.map fun a => V.bl (f a))) : RC (rAny K) [.ref p] H (.bl (xs.any f)) := by
  have h2 : SqL K H p ((xs.map f).map V.bl) := by
    rw [List.map_map]
    exact h
  have e := rc_any h2
  rw [List.any_map] at e
  exact e
theorem rc_sumM {α : Type} {p : Addr} {xs : List α} {f : α → Int} (h : SqL K H p (xs.map fun a => V.int (f a))) : RC (rSum K) [.ref p] H (.int (xs.map f).sum) := by
  have h2 : SqL K H p ((xs.map f).map V.int) := by
    rw [List.map_map]
    exact h
  exact rc_sum h2
theorem divW {i j : Int} (h : 0 < j) (h1 : j ≤ 1000000000) : CDivW i j := wide_div (b := 31) h (by omega) (by decide) (by decide)
theorem et_andI {u : TT} {a b : Bool} (h1 : EvT t σ H a) (h2 : a = true → EvT u σ H b) : EvT (tAnd t u) σ H (a && b) := et_and h1 h2
/-- and: what stands behind is asked only where the first holds -/
theorem et_andG {u : TT} {a : Bool} {b : Bool} (h1 : EvT t σ H a) (h2 : a = true → EvT u σ H b) (h3 : a = false → b = false) : EvT (tAnd t u) σ H b := by
  have h := et_and h1 h2
  cases a with
  | true => exact h
  | false =>
    rw [h3 rfl] at h ⊢
    exact h
/-- a slice of a new list -/
theorem el_slN {xs : List V} {tl th : TO} {lo hi : Option Int} (h : EvL te σ H xs) (h1 : EvO tl σ H lo) (h2 : EvO th σ H hi) : EvL (tSl (rSlL K) te tl th) σ H (cutV xs lo hi) := fun H1 e _ q =>
  h H1 e _ fun a H2 ha e2 hx => h1 H2 (e.trans e2) _ fun H3 e3 => h2 H3 ((e.trans e2).trans e3) _ fun H4 e4 =>
    ⟨a, xs, rfl, ex_l (e3.trans e4) (sq_of hx), fun p hp => q p _ (fresh_back ((e2.trans e3).trans e4) hp) (((e2.trans e3).trans e4).trans (Ex.new hp)) upd_same⟩
theorem cutV_to (xs : List V) (n : Nat) : cutV xs none (some (n : Int)) = xs.take n := by
  unfold cutV
  rw [HT.sIx_none, HT.sIx_nat, List.drop_zero, Nat.sub_zero]
  by_cases h : n ≤ xs.length
  · rw [Nat.min_eq_left h]
  · rw [Nat.min_eq_right (by omega), List.take_of_length_le (Nat.le_refl _), List.take_of_length_le (by omega)]
theorem cutV_from (xs : List V) (n : Nat) : cutV xs (some (n : Int)) none = xs.drop n := by
  unfold cutV
  rw [HT.sIx_none, HT.sIx_nat]
  by_cases h : n ≤ xs.length
  · rw [Nat.min_eq_left h]
    exact List.take_of_length_le (by rw [List.length_drop]; exact Nat.le_refl _)
  · rw [Nat.min_eq_right (by omega), List.drop_eq_nil_of_le (Nat.le_refl _), List.drop_eq_nil_of_le (by omega), List.take_nil]
/-- xs.extend(ys), ys a new list -/
theorem s_ext {l : Addr} {xs ys : List V} (hl : H l = some (.lst xs)) (ha : Ev ta σ H (.ref l)) (h : EvL te σ H ys) (hz : xs.length + ys.length ≤ 1000000) (k : ∀ H1, Ex H H1 → D.nx σ (upd H1 l (.lst (xs ++ ys)))) :
    tDrop (tBM K "list" rExtend ta (tCons te tNil)) D σ H := ha H (Ex.refl H) _ fun H1 e1 =>
  ⟨Or.inl ⟨rfl, xs, sq_of (e1 l _ hl)⟩, h H1 e1 _ fun p H2 hp e2 h2 => ⟨l, p, xs, ys, rfl, rfl, e2 l _ (e1 l _ hl), h2, Nat.le_trans hz (by decide), k H2 (e1.trans e2)⟩⟩
/-- return f(..), x = f(..), whatever f hands back -/
theorem s_retC {sp : Sp} {dvs vs : List V} {E : XK} {tq : TA} (h : EvA tq σ H vs) (k : ∀ H1, Ex H H1 → sp (vs ++ dvs) H1 D.rt E) : tRet (tCall sp dvs E tq) D σ H := h H (Ex.refl H) _ fun H1 e1 => k H1 e1
theorem q_asgC {i : Nat} {sp : Sp} {dvs vs : List V} {E : XK} {tq : TA} (h : EvA tq σ H vs) (k : ∀ H1, Ex H H1 → sp (vs ++ dvs) H1 (fun v H2 => tz D (σ.set i (some v)) H2) E) : tSeq (tAsg (tCall sp dvs E tq) (gName i)) tz D σ H := h H (Ex.refl H) _ fun H1 e1 => k H1 e1
/-- a promise that hands back a value | a new list | a new tuple, all else kept -/
def RetU (xs : List V) (H : Hp) (Q : VK) : Prop := ∀ p H2, H p = none → Ex H H2 → H2 p = some (.tup xs) → Q (.ref p) H2
theorem RetV.mono {v : V} {H H1 : Hp} {Q : VK} (k : RetV v H Q) (e : Ex H H1) : RetV v H1 Q := fun H2 e2 => k H2 (e.trans e2)
theorem RetL.mono {xs : List V} {H H1 : Hp} {Q : VK} (k : RetL xs H Q) (e : Ex H H1) : RetL xs H1 Q := fun p H2 hp e2 h2 => k p H2 (fresh_back e hp) (e.trans e2) h2
theorem RetU.mono {xs : List V} {H H1 : Hp} {Q : VK} (k : RetU xs H Q) (e : Ex H H1) : RetU xs H1 Q := fun p H2 hp e2 h2 => k p H2 (fresh_back e hp) (e.trans e2) h2
theorem RetV.is {v w : V} {H : Hp} {Q : VK} (k : RetV v H Q) (e : v = w) : RetV w H Q := e ▸ k
end
end Wc
set_option Elab.async false
set_option linter.all false
set_option maxRecDepth 100000
set_option maxHeartbeats 2000000
/-! the feed of draws: a list of three ints at fa; how often it has been stirred -/
namespace Wc
open PySem PySem.Spec PyProof.Rows L2 Evl
def capF : Nat := 1000000000000000000
/-- a feed that has been stirred n times at most -/
def Fd (fa : Addr) (n : Nat) (H : Hp) : Prop := ∃ (a b c : Int) (e : Nat), H fa = some (.lst [.int a, .int b, .int c]) ∧ 0 ≤ a ∧ 1 ≤ e ∧ e ≤ 2000000 ∧ a.natAbs < 2 ^ e ∧ 0 ≤ b ∧ b < 10 ^ 40 ∧ 0 ≤ c ∧ c ≤ (n : Int)
theorem Fd.mono {fa : Addr} {n m : Nat} {H : Hp} (h : Fd fa n H) (hm : n ≤ m) : Fd fa m H := by
  obtain ⟨a, b, c, e, h1, h2, h3, h4, h5, h6, h7, h8, h9⟩ := h
  exact ⟨a, b, c, e, h1, h2, h3, h4, h5, h6, h7, h8, by omega⟩
/-- so many draws may be made -/
def GF (fa : Addr) (B : Nat) (H : Hp) : Prop := ∃ n, n + B ≤ capF ∧ Fd fa n H
/-- at most m draws behind: all else stands -/
structure Rf (fa : Addr) (m : Nat) (H H' : Hp) : Prop where
  keep : Exc (fun c => c = fa) H H'
  feed : ∀ n, n + m ≤ capF → Fd fa n H → Fd fa (n + m) H'
section
variable {K : PySem.W.Frag} {fa p : Addr} {m m' B : Nat} {H H1 H2 : Hp} {o : HO} {xs : List V}
theorem Fd.is (h : Fd fa m H) : H fa ≠ none := by
  obtain ⟨a, b, c, e, h1, _⟩ := h
  rw [h1]
  exact fun z => nomatch z
theorem GF.is (h : GF fa B H) : H fa ≠ none := by
  obtain ⟨n, _, h⟩ := h
  exact h.is
theorem GF.new (h : GF fa B H) (hp : H p = none) : p ≠ fa := fun z => h.is (z ▸ hp)
theorem GF.ofTup (h : GF fa B H) (hp : H p = Option.some (HO.tup xs)) : p ≠ fa := by
  rintro rfl
  obtain ⟨n, _, a, b, c, e, h1, _⟩ := h
  rw [hp] at h1
  cases h1
theorem Rf.refl (H : Hp) : Rf fa 0 H H := ⟨Exc.refl _, fun _ _ h => h⟩
theorem Rf.of_ex (e : Ex H H1) : Rf fa 0 H H1 := ⟨.of e, fun n _ h => by
  obtain ⟨a, b, c, e', h1, h2⟩ := h
  exact ⟨a, b, c, e', e _ _ h1, h2⟩⟩
theorem Rf.trans (a : Rf fa m H H1) (b : Rf fa m' H1 H2) : Rf fa (m + m') H H2 := ⟨a.keep.trans b.keep, fun n hn h => by
  have h1 := b.feed (n + m) (by omega) (a.feed n (by omega) h)
  rw [← Nat.add_assoc]
  exact h1⟩
theorem Rf.mono (a : Rf fa m H H1) (h : m ≤ m') : Rf fa m' H H1 := ⟨a.keep, fun n hn hf => (a.feed n (by omega) hf).mono (by omega)⟩
theorem Rf.then (a : Rf fa m H H1) (e : Ex H1 H2) : Rf fa m H H2 := (a.trans (.of_ex e)).mono (Nat.le_refl _)
theorem Rf.pre (e : Ex H H1) (a : Rf fa m H1 H2) : Rf fa m H H2 := ((Rf.of_ex e).trans a).mono (by omega)
theorem Rf.upd (a : Rf fa m H H1) (h : H p = none) (hf : H fa ≠ none) : Rf fa m H (upd H1 p o) := by
  have hne : fa ≠ p := fun z => hf (z ▸ h)
  refine ⟨a.keep.upd (.inr h), fun n hn hF => ?_⟩
  obtain ⟨x, b, c, e', h1, h2⟩ := a.feed n hn hF
  exact ⟨x, b, c, e', by rw [upd_ne hne]; exact h1, h2⟩
theorem GF.go (g : GF fa B H) (a : Rf fa m H H1) (h : m + m' ≤ B) : GF fa m' H1 := by
  obtain ⟨n, hn, hf⟩ := g
  exact ⟨n + m, by omega, a.feed n (by omega) hf⟩
theorem GF.mono (g : GF fa B H) (h : m ≤ B) : GF fa m H := by
  obtain ⟨n, hn, hf⟩ := g
  exact ⟨n, by omega, hf⟩
theorem GF.ex (g : GF fa B H) (e : Ex H H1) : GF fa B H1 := g.go (Rf.of_ex e) (by omega)
theorem Rf.at_ (a : Rf fa m H H1) (h : H p = some o) (hp : p ≠ fa) : H1 p = some o := a.keep _ _ hp h
theorem Rf.l (a : Rf fa m H H1) (hp : p ≠ fa) (h : SqL K H p xs) : SqL K H1 p xs := a.keep.l hp h
theorem Rf.t (a : Rf fa m H H1) (hp : p ≠ fa) (h : SqT K H p xs) : SqT K H1 p xs := a.keep.tp hp h
theorem Rf.free (a : Rf fa m H H1) (g : H fa ≠ none) (h : H1 p = none) (g1 : H1 fa ≠ none) : H p = none := by
  refine a.keep.fresh ?_ h
  rintro rfl
  exact g1 h
end
/-! ### draw -/
def sp_draw : Sp := fun vs H Q _ => ∃ (fa : Addr) (many : Int), vs = [.ref fa, .int many] ∧ GF fa 1 H ∧ 0 < many ∧ many ≤ 10 ^ 61 ∧ ∀ (d : Nat) H', (d : Int) < many → Rf fa 1 H H' → Q (.int (d : Int)) H'
/-- one of a text's signs, of a list's or a tuple's items -/
def sp_one (K : PySem.W.Frag) : Sp := fun vs H Q _ => ∃ (fa : Addr), GF fa 1 H ∧
  ((∃ (s : Tx), vs = [.ref fa, T s] ∧ s ≠ [] ∧ s.length ≤ 16777216 ∧ ∀ c H', c ∈ s → Rf fa 1 H H' → Q (T [c]) H') ∨
   (∃ (p : Addr) (xs : List V), vs = [.ref fa, .ref p] ∧ (SqL K H p xs ∨ SqT K H p xs) ∧ p ≠ fa ∧ xs ≠ [] ∧ xs.length ≤ 16777216 ∧ ∀ v H', v ∈ xs → Rf fa 1 H H' → Q v H'))
/-- a text of at most so many signs of some -/
def sp_text : Sp := fun vs H Q _ => ∃ (fa : Addr) (s : Tx) (most : Nat), vs = [.ref fa, T s, .int (most : Int)] ∧ GF fa (most + 1) H ∧ most ≤ 30000 ∧ s ≠ [] ∧ s.length ≤ 16777216 ∧ ∀ (t : Tx) H', t.length ≤ most → (∀ c ∈ t, c ∈ s) → Rf fa (most + 1) H H' → Q (T t) H'
/-! ### things and draws in a comprehension; the element a value that is good -/
section
variable {K : PySem.W.Frag} {fa : Addr} {σ : L2.St} {H : Hp} {te : TE}
theorem lcD {wi : TI} {j : Nat} {vs : List Nat} {n : Nat} {own : Addr → Prop} {P : Nat → V → Hp → Prop} {Q : VK} (good : V → Prop) (c : Nat) (hf : H fa ≠ none) (hs : Src wi σ H n own P) (ho : ¬ own fa) (hn : n ≤ 40000) (hw : ∀ x, wipe ((wipe σ vs).set j (some x)) vs = wipe σ vs)
    (he : ∀ (i : Nat) (x : V) H1, i < n → P i x H1 → Rf fa (i * c) H H1 → ∀ Q' : VK, (∀ y H2, good y → Rf fa c H1 H2 → Q' y H2) → te ((wipe σ vs).set j (some x)) H1 Q')
    (k : ∀ p H2 acc, H p = none → Rf fa (n * c) H H2 → H2 p = some (.lst acc) → acc.length = n → (∀ v ∈ acc, good v) → Q (.ref p) H2) : tLc wi (gName j) tYes te vs σ H Q :=
  hs H (Ex.refl H) _ fun J H1 S e1 w hS => fun Dl hD => by
    have hDH : H Dl = none := fresh_back e1 hD
    have hne : Dl ≠ fa := fun z => hf (z ▸ hDH)
    have hf1 : H1 fa ≠ none := by
      cases hq : H fa with
      | none => exact absurd hq hf
      | some o => rw [e1 _ _ hq]; exact fun z => nomatch z
    refine lc_it w (Qd := fun H3 => Q (.ref Dl) H3) (fun i Hi => Rf fa (i * c) H1 Hi ∧ ∃ acc, Hi Dl = some (.lst acc) ∧ acc.length = i ∧ ∀ v ∈ acc, good v) ?_ (fun i Hi hi p => hS (fun b => b = fa) Hi (by rintro b rfl; exact ⟨hf, ho⟩) p.1.keep) ?_ ?_
    · refine ⟨?_, [], upd_same, rfl, fun v hv => nomatch hv⟩
      exact ((Rf.refl H1).upd hD hf1).mono (Nat.zero_le _)
    · rintro i x Ha Hb hi ⟨R, acc, h1, h2, h3⟩ ⟨ey, hP⟩
      refine ⟨hw x, ?_⟩
      show te ((wipe σ vs).set j (some x)) Hb fun y H4 => _
      have Rb : Rf fa (i * c) H1 Hb := R.then ey
      refine he i x Hb hi hP (Rf.pre e1 Rb) _ fun y H4 hy R4 => ?_
      have h4 : H4 Dl = some (.lst acc) := R4.at_ (ey _ _ h1) hne
      refine ⟨acc, h4, sz_lt (by omega), ?_, acc ++ [y], upd_same, by rw [List.length_append, h2]; rfl, fun v hv => ?_⟩
      · have := (Rb.trans R4).upd (p := Dl) (o := .lst (acc ++ [y])) hD hf1
        exact this.mono (by rw [Nat.succ_mul]; exact Nat.le_refl _)
      · rcases List.mem_append.mp hv with hv | hv
        · exact h3 v hv
        · rw [List.mem_singleton.mp hv]
          exact hy
    · rintro H3 ⟨R, acc, h1, h2, h3⟩
      exact k Dl H3 acc hDH (Rf.pre e1 R) h1 h2 h3
end
theorem ix_any {X : Cx} : IxR X (fun x y H Q => (L2.rIxL X.K x y H Q ∨ L2.rIxT X.K x y H Q) ∨ Wc.rIxT x y H Q) := (ix_list.or ix_tup).or ix_T
theorem cr_lenAny {X : Cx} : CallR X (.builtin "len") (fun xs H Q => rLenT xs H Q ∨ (∃ p ys, xs = [.ref p] ∧ (SqL X.K H p ys ∨ SqT X.K H p ys) ∧ Q (.int ys.length) H)) := CallR.or cr_lenT call_len_seq
theorem atI_mem {α : Type} {xs : List α} {d : Nat} (h : d < xs.length) : ∃ v, atI xs (d : Int) = some v ∧ v ∈ xs := ⟨xs[d], atI_nat (List.getElem?_eq_getElem h), List.getElem_mem h⟩
/-- a list of texts -/
theorem texts_of {acc : List V} {g : Tx → Prop} (h : ∀ v ∈ acc, ∃ t, v = T t ∧ g t) : ∃ ts : List Tx, acc = ts.map T ∧ ∀ t ∈ ts, g t := by
  induction acc with
  | nil => exact ⟨[], rfl, fun _ h => nomatch h⟩
  | cons v acc ih =>
    obtain ⟨t, rfl, ht⟩ := h v List.mem_cons_self
    obtain ⟨ts, rfl, hts⟩ := ih fun v hv => h v (List.mem_cons_of_mem _ hv)
    exact ⟨t :: ts, rfl, fun x hx => by
      rcases List.mem_cons.mp hx with rfl | hx
      · exact ht
      · exact hts x hx⟩
end Wc
set_option Elab.async false
set_option linter.all false
set_option maxRecDepth 100000
set_option maxHeartbeats 2000000
/-! data at any depth: texts, ints, lists, tuples -/
namespace Wc
open PySem PySem.Spec PyProof.Rows L2 Evl
/-- a text of low signs -/
def LowT (a : Tx) : Prop := ∀ c ∈ a, c < 1000
abbrev dT (a : Tx) : PyData := .str (SX.S a)
theorem lay_T {a : Tx} (h : LowT a) : (dT a).canLay0 = true := by
  show (SX.S a).cps.all (· < 0x110000) = true
  rw [← Array.all_toList, List.all_eq_true]
  intro c hc
  have := h c hc
  exact decide_eq_true (by omega)
theorem lay_all {α : Type} {g : α → PyData} : ∀ {xs : List α}, (∀ x ∈ xs, (g x).canLay0 = true) → PyData.canLayAll0 (xs.map g) = true
  | [], _ => rfl
  | x :: xs, h => by
    show ((g x).canLay0 && PyData.canLayAll0 (xs.map g)) = true
    rw [h x List.mem_cons_self, lay_all fun y hy => h y (List.mem_cons_of_mem _ hy)]
    rfl
theorem lay_list {α : Type} {g : α → PyData} {xs : List α} (h : ∀ x ∈ xs, (g x).canLay0 = true) : (PyData.list (xs.map g)).canLay0 = true := by
  show PyData.canLayAll0 _ = true
  exact lay_all h
theorem depth_all {α : Type} {g : α → PyData} {m : Nat} : ∀ {xs : List α}, (∀ x ∈ xs, (g x).depth ≤ m) → PyData.depthAll (xs.map g) ≤ m
  | [], _ => Nat.zero_le _
  | x :: xs, h => Nat.max_le.mpr ⟨h x List.mem_cons_self, depth_all fun y hy => h y (List.mem_cons_of_mem _ hy)⟩
theorem shaped_of {d : PyData} (h : d.canLay0 = true) (hd : d.depth ≤ 64) : SeqAt.shaped d = true := by
  unfold SeqAt.shaped
  rw [h, decide_eq_true hd]
  rfl
theorem shaped_list {α : Type} {g : α → PyData} {xs : List α} {m : Nat} (h : ∀ x ∈ xs, (g x).canLay0 = true) (hd : ∀ x ∈ xs, (g x).depth ≤ m) (hm : m + 1 ≤ 64) : SeqAt.shaped (.list (xs.map g)) = true :=
  shaped_of (lay_list h) (by
    show PyData.depthAll _ + 1 ≤ 64
    have := depth_all hd
    omega)
theorem dp_all {α : Type} {K : PySem.W.Frag} {H : Hp} {f : α → V} {g : α → PyData} : ∀ {xs : List α}, (∀ x ∈ xs, Dp K H (f x) (g x)) → DpAll K H (xs.map f) (xs.map g)
  | [], _ => .nil
  | x :: xs, h => .cons (h x List.mem_cons_self) (dp_all fun y hy => h y (List.mem_cons_of_mem _ hy))
theorem dp_list {α : Type} {K : PySem.W.Frag} {H : Hp} {f : α → V} {g : α → PyData} {xs : List α} {p : Addr} (hp : SqL K H p (xs.map f)) (h : ∀ x ∈ xs, Dp K H (f x) (g x)) : Dp K H (.ref p) (.list (xs.map g)) := .lst hp (dp_all h)
theorem eqv_list {α : Type} [DecidableEq α] {g : α → PyData} (h : ∀ x y, PyData.eqv (g x) (g y) = decide (x = y)) : ∀ (xs ys : List α), PyData.eqv (.list (xs.map g)) (.list (ys.map g)) = decide (xs = ys) := by
  intro xs ys
  show PyData.eqvAll _ _ = _
  induction xs generalizing ys with
  | nil => cases ys with
    | nil => rfl
    | cons y ys => rfl
  | cons x xs ih => cases ys with
    | nil => rfl
    | cons y ys =>
      show (PyData.eqv (g x) (g y) && PyData.eqvAll _ _) = _
      rw [h, ih]
      by_cases e : x = y
      · by_cases e2 : xs = ys
        · simp [e, e2]
        · simp [e, e2]
      · simp [e]
theorem eqv_T (a b : Tx) : PyData.eqv (dT a) (dT b) = decide (a = b) := by
  show (SX.S a == SX.S b) = _
  exact SX.S_beq_eq
theorem eqv_int (a b : Int) : PyData.eqv (.int a) (.int b) = decide (a = b) := by
  show (a == b) = _
  by_cases h : a = b
  · simp [h]
  · simp [h]
section
variable {K : PySem.W.Frag} {H : Hp} {x y : V} {d e : PyData}
theorem rv_eqD {b : Bool} (h : ∀ H1, Ex H H1 → Dp K H1 x d) (h2 : ∀ H1, Ex H H1 → Dp K H1 y e) (s1 : SeqAt.shaped d = true) (s2 : SeqAt.shaped e = true) (hb : PyData.eqv d e = b) : RV (rEqD K) x y H (.bl b) := fun H1 e1 _ q => ⟨d, e, h H1 e1, h2 H1 e1, s1, s2, by rw [hb]; exact q H1 (Ex.refl H1)⟩
theorem rv_neD {b : Bool} (h : ∀ H1, Ex H H1 → Dp K H1 x d) (h2 : ∀ H1, Ex H H1 → Dp K H1 y e) (s1 : SeqAt.shaped d = true) (s2 : SeqAt.shaped e = true) (hb : PyData.eqv d e = b) : RV (rNeD K) x y H (.bl (!b)) := fun H1 e1 _ q => ⟨d, e, h H1 e1, h2 H1 e1, s1, s2, by rw [hb]; exact q H1 (Ex.refl H1)⟩
mutual
theorem Dp.ex {H1 : Hp} (e : Ex H H1) : ∀ {v : V} {d : PyData}, Dp K H v d → Dp K H1 v d
  | _, _, .non => .non
  | _, _, .bl b => .bl b
  | _, _, .int i => .int i
  | _, _, .str x => .str x
  | _, _, .lst h a => .lst (ex_l e h) (DpAll.ex e a)
  | _, _, .tup h a => .tup (ex_t e h) (DpAll.ex e a)
theorem DpAll.ex {H1 : Hp} (e : Ex H H1) : ∀ {vs : List V} {ds : List PyData}, DpAll K H vs ds → DpAll K H1 vs ds
  | _, _, .nil => .nil
  | _, _, .cons h a => .cons (Dp.ex e h) (DpAll.ex e a)
end
end
/-- values that are ints or texts, none a truth -/
inductive FlatV : V → PyData → Prop
  | int (i : Int) : FlatV (.int i) (.int i)
  | str {a : Tx} (h : LowT a) : FlatV (T a) (dT a)
/-- a list of such -/
def sp_list_same (K : PySem.W.Frag) : Sp := fun vs H Q _ => ∃ (p q : Addr) (xs : List V), vs = [.ref p, .ref q] ∧ H p = some (.lst xs) ∧ SqL K H q xs ∧ (∀ v ∈ xs, ∃ d, FlatV v d) ∧ xs.length ≤ 30000 ∧ RetV (.bl true) H Q
theorem flat_data {K : PySem.W.Frag} {H : Hp} {xs : List V} (h : ∀ v ∈ xs, ∃ d, FlatV v d) : ∃ ds : List PyData, DpAll K H xs ds ∧ PyData.canLayAll0 ds = true ∧ PyData.depthAll ds ≤ 0 := by
  induction xs with
  | nil => exact ⟨[], .nil, rfl, Nat.le_refl _⟩
  | cons v xs ih =>
    obtain ⟨ds, h1, h2, h3⟩ := ih fun v hv => h v (List.mem_cons_of_mem _ hv)
    obtain ⟨d, hd⟩ := h v List.mem_cons_self
    cases hd with
    | int i => exact ⟨.int i :: ds, .cons (.int i) h1, by show (true && PyData.canLayAll0 ds) = true; rw [h2]; rfl, Nat.max_le.mpr ⟨Nat.le_refl _, h3⟩⟩
    | str ha => exact ⟨_ :: ds, .cons (.str _) h1, by show ((dT _).canLay0 && PyData.canLayAll0 ds) = true; rw [h2, lay_T ha]; rfl, Nat.max_le.mpr ⟨Nat.le_refl _, h3⟩⟩
end Wc
set_option Elab.async false
set_option linter.all false
set_option maxRecDepth 100000
set_option maxHeartbeats 2000000
/-! the rules that name the written part: with the part K given -/
namespace Wc
open PySem PySem.Spec PyProof.Rows L2 Evl
def rLenAny (K : PySem.W.Frag) : List V → Hp → VK → Prop := fun xs H Q => rLenT xs H Q ∨ (∃ p ys, xs = [.ref p] ∧ (SqL K H p ys ∨ SqT K H p ys) ∧ Q (.int ys.length) H)
def rIxAny (K : PySem.W.Frag) : R2 := fun x y H Q => (L2.rIxL K x y H Q ∨ L2.rIxT K x y H Q) ∨ Wc.rIxT x y H Q
def rTupS (K : PySem.W.Frag) : List V → Hp → VK → Prop := fun xs H Q => ∃ p ys, xs = [.ref p] ∧ ((SqL K H p ys ∧ ∀ l, H l = none → Q (.ref l) (upd H l (.tup ys))) ∨ (SqT K H p ys ∧ Q (.ref p) H))
section
variable {X : Cx} (K : PySem.W.Frag)
theorem kcr {f : Value} {r : PySem.W.Frag → List V → Hp → VK → Prop} (h : CallR X f (r X.K)) (hK : X.K = K := by rfl) : CallR X f (r K) := hK ▸ h
theorem kop {f : Value → Value → Sem Value} {r : PySem.W.Frag → R2} (h : OpR X f (r X.K)) (hK : X.K = K := by rfl) : OpR X f (r K) := hK ▸ h
theorem kix {r : PySem.W.Frag → R2} (h : IxR X (r X.K)) (hK : X.K = K := by rfl) : IxR X (r K) := hK ▸ h
theorem ksl {r : PySem.W.Frag → V → Option Int → Option Int → Hp → VK → Prop} (h : SlR X (r X.K)) (hK : X.K = K := by rfl) : SlR X (r K) := hK ▸ h
theorem kmt {id : String} {r : PySem.W.Frag → V → List V → Hp → VK → Prop} (h : MtR X id (r X.K)) (hK : X.K = K := by rfl) : MtR X id (r K) := hK ▸ h
theorem kbm {e : Expr} {T : String} {r : V → List V → Hp → VK → Prop} {to : TE} {t : TA} (h : PE X e (tBM X.K T r to t)) (hK : X.K = K := by rfl) : PE X e (tBM K T r to t) := hK ▸ h
theorem kbm0 {e : Expr} {T : String} {r : V → List V → Hp → VK → Prop} {to : TE} (h : PE X e (tBM0 X.K T r to)) (hK : X.K = K := by rfl) : PE X e (tBM0 K T r to) := hK ▸ h
theorem kil {tg it : Expr} {tl : TE} (h : PI X tg it (iList X.K tl)) (hK : X.K = K := by rfl) : PI X tg it (iList K tl) := hK ▸ h
theorem kit {tg it : Expr} {tl : TE} (h : PI X tg it (iTup X.K tl)) (hK : X.K = K := by rfl) : PI X tg it (iTup K tl) := hK ▸ h
theorem kie {tg it : Expr} {ta : TA} (h : PI X tg it (iEnum X.K ta)) (hK : X.K = K := by rfl) : PI X tg it (iEnum K ta) := hK ▸ h
theorem kiz {tg it : Expr} {ta : TA} (h : PI X tg it (iZip X.K ta)) (hK : X.K = K := by rfl) : PI X tg it (iZip K ta) := hK ▸ h
theorem kgt {tg : Expr} {n : Nat} {t : TGs} (h : PG X tg (gTup X.K n t)) (hK : X.K = K := by rfl) : PG X tg (gTup K n t) := hK ▸ h
theorem kgl {tg : Expr} {n : Nat} {t : TGs} (h : PG X tg (gLst X.K n t)) (hK : X.K = K := by rfl) : PG X tg (gLst K n t) := hK ▸ h
theorem kso {e : Expr} {t : TA} (h : PE X e (tSortLen X.K t)) (hK : X.K = K := by rfl) : PE X e (tSortLen K t) := hK ▸ h
end
end Wc
set_option Elab.async false
set_option linter.all false
set_option maxRecDepth 100000
set_option maxHeartbeats 2000000
/-! draws by their promises -/
namespace Wc
open PySem PySem.Spec PyProof.Rows L2 Evl
section
variable {K : PySem.W.Frag} {σ : L2.St} {H : Hp} {te tm : TE} {fa : Addr} {i : Nat} {Q : VK} {B : Nat}
theorem wp_draw {many : Int} (h0 : σ[i]? = some (some (.ref fa))) (h : Ev te σ H (.int many)) (G : GF fa B H) (h1 : 0 < many) (h2 : many ≤ 10 ^ 61) (k : ∀ (d : Nat) H', (d : Int) < many → Rf fa 1 H H' → Q (.int (d : Int)) H') (hB : 1 ≤ B := by omega) : tCall sp_draw [] E0 (tCons (tVar i) (tCons te tNil)) σ H Q :=
  ⟨.ref fa, h0, h H (Ex.refl _) _ fun H1 e1 => ⟨fa, many, rfl, (G.ex e1).mono hB, h1, h2, fun d H' hd R => k d H' hd (.pre e1 R)⟩⟩
theorem wp_oneT {s : Tx} (h0 : σ[i]? = some (some (.ref fa))) (h : Ev te σ H (T s)) (G : GF fa B H) (hs : s ≠ []) (hl : s.length ≤ 16777216) (k : ∀ c H', c ∈ s → Rf fa 1 H H' → Q (T [c]) H') (hB : 1 ≤ B := by omega) : tCall (sp_one K) [] E0 (tCons (tVar i) (tCons te tNil)) σ H Q :=
  ⟨.ref fa, h0, h H (Ex.refl _) _ fun H1 e1 => ⟨fa, (G.ex e1).mono hB, .inl ⟨s, rfl, hs, hl, fun c H' hc R => k c H' hc (.pre e1 R)⟩⟩⟩
/-- of a new list -/
theorem wp_oneL {vs : List V} (h0 : σ[i]? = some (some (.ref fa))) (h : EvL te σ H vs) (G : GF fa B H) (hs : vs ≠ []) (hl : vs.length ≤ 16777216) (k : ∀ v H', v ∈ vs → Rf fa 1 H H' → Q v H') (hB : 1 ≤ B := by omega) : tCall (sp_one K) [] E0 (tCons (tVar i) (tCons te tNil)) σ H Q :=
  ⟨.ref fa, h0, h H (Ex.refl _) _ fun p H1 hp e1 h1 => ⟨fa, (G.ex e1).mono hB, .inr ⟨p, vs, rfl, .inl (sq_of h1), G.new hp, hs, hl, fun v H' hv R => k v H' hv (.pre e1 R)⟩⟩⟩
/-- of a list or tuple that stands -/
theorem wp_oneS {p : Addr} {xs : List V} (h0 : σ[i]? = some (some (.ref fa))) (h : Ev te σ H (.ref p)) (hS : SqL K H p xs ∨ SqT K H p xs) (hp : p ≠ fa) (G : GF fa B H) (hs : xs ≠ []) (hl : xs.length ≤ 16777216) (k : ∀ v H', v ∈ xs → Rf fa 1 H H' → Q v H') (hB : 1 ≤ B := by omega) : tCall (sp_one K) [] E0 (tCons (tVar i) (tCons te tNil)) σ H Q :=
  ⟨.ref fa, h0, h H (Ex.refl _) _ fun H1 e1 => ⟨fa, (G.ex e1).mono hB, .inr ⟨p, xs, rfl, hS.imp (ex_l e1) (ex_t e1), hp, hs, hl, fun v H' hv R => k v H' hv (.pre e1 R)⟩⟩⟩
theorem wp_text {s : Tx} {most : Nat} (h0 : σ[i]? = some (some (.ref fa))) (h : Ev te σ H (T s)) (hm : Ev tm σ H (.int (most : Int))) (G : GF fa B H) (hm1 : most ≤ 30000) (hs : s ≠ []) (hl : s.length ≤ 16777216) (k : ∀ (t : Tx) H', t.length ≤ most → (∀ c ∈ t, c ∈ s) → Rf fa (most + 1) H H' → Q (T t) H') (hB : most + 1 ≤ B := by omega) :
    tCall sp_text [] E0 (tCons (tVar i) (tCons te (tCons tm tNil))) σ H Q :=
  ⟨.ref fa, h0, h H (Ex.refl _) _ fun H1 e1 => hm H1 e1 _ fun H2 e2 => ⟨fa, s, most, rfl, (G.ex (e1.trans e2)).mono hB, hm1, hs, hl, fun t H' h1 h2 R => k t H' h1 h2 (.pre (e1.trans e2) R)⟩⟩
end
/-- a feed out of a cell of the script -/
def sp_feed (K : PySem.W.Frag) : Sp := fun vs H Q _ => ∃ (a : Addr) (ns : List Int) (k e : Nat), vs = [.ref a, .int (k : Int)] ∧ SqL K H a (ns.map V.int) ∧ k ≤ 1000 ∧ 1 ≤ e ∧ e ≤ 1100000 ∧ (∀ z ∈ ns, z.natAbs < 2 ^ e) ∧
  ∀ fa H', H fa = none → Ex H H' → Fd fa 0 H' → Q (.ref fa) H'
theorem pow_add_small {x c : Int} {e : Nat} (hx : x.natAbs < 2 ^ e) (hc : c.natAbs ≤ 2 ^ 70) : (x + c).natAbs < 2 ^ (e + 72) := by
  have h1 : (x + c).natAbs ≤ x.natAbs + c.natAbs := Int.natAbs_add_le _ _
  have h2 : 1 ≤ 2 ^ e := Nat.pow_pos (by decide)
  have h3 : (2 : Nat) ^ (e + 72) = 2 ^ e * (4 * 2 ^ 70) := by rw [Nat.pow_add]
  have hA : 1 ≤ (2 : Nat) ^ 70 := Nat.pow_pos (by decide)
  rw [h3]
  generalize (2 : Nat) ^ e = E at hx h2 ⊢
  generalize (2 : Nat) ^ 70 = A at hc hA ⊢
  have h5 : E ≤ E * A := Nat.le_mul_of_pos_right _ hA
  have h6 : A ≤ E * A := Nat.le_mul_of_pos_left _ h2
  rw [Nat.mul_left_comm]
  omega
end Wc
set_option Elab.async false
set_option linter.all false
set_option maxRecDepth 100000
set_option maxHeartbeats 2000000
/-! readings that draw: what is told of the value alone -/
namespace Wc
open PySem PySem.Spec PyProof.Rows L2 Evl
/-- te draws m times at most and gives a value that is good -/
def Dw (fa : Addr) (σ : L2.St) (m : Nat) (te : TE) (g : V → Prop) : Prop := ∀ H, GF fa m H → ∀ Q : VK, (∀ v H', g v → Rf fa m H H' → Q v H') → te σ H Q
def GdT (ok : Nat → Prop) (lo n : Nat) (v : V) : Prop := ∃ s : Tx, v = T s ∧ lo ≤ s.length ∧ s.length ≤ n ∧ ∀ c ∈ s, ok c
def GdI (lo hi : Int) (v : V) : Prop := ∃ i : Int, v = .int i ∧ lo ≤ i ∧ i ≤ hi
section
variable {K : PySem.W.Frag} {σ : L2.St} {ta tb te : TE} {fa : Addr} {m m1 m2 : Nat} {g g1 g2 : V → Prop} {ok : Nat → Prop}
theorem dw_mono {m' : Nat} (h : Dw fa σ m te g) (hm : m ≤ m') : Dw fa σ m' te g := fun H G Q q => h H (G.mono hm) Q fun v H' hg R => q v H' hg (R.mono hm)
theorem dw_as {g' : V → Prop} (h : Dw fa σ m te g) (hg : ∀ v, g v → g' v) : Dw fa σ m te g' := fun H G Q q => h H G Q fun v H' hv R => q v H' (hg v hv) R
theorem dw_var {i : Nat} {v : V} (h : σ[i]? = some (some v)) (hg : g v) : Dw fa σ 0 (tVar i) g := fun H G Q q => ⟨v, h, q v H hg (Rf.refl H)⟩
theorem dw_c {v : V} (hg : g v) : Dw fa σ 0 (tC v) g := fun H G Q q => q v H hg (Rf.refl H)
theorem dw_op {r : R2} (h1 : Dw fa σ m1 ta g1) (h2 : Dw fa σ m2 tb g2) (hr : ∀ x y, g1 x → g2 y → ∃ z, g z ∧ ∀ H (Q : VK), Q z H → r x y H Q) : Dw fa σ (m1 + m2) (tOp r ta tb) g := fun H G Q q =>
  h1 H (G.mono (by omega)) _ fun x H1 hx R1 => h2 H1 (G.go R1 (by omega)) _ fun y H2 hy R2 => by
    obtain ⟨z, hz, hk⟩ := hr x y hx hy
    exact hk H2 Q (q z H2 hz (R1.trans R2))
theorem dI_var {i : Nat} {x lo hi : Int} (h : σ[i]? = some (some (.int x))) (h1 : lo ≤ x) (h2 : x ≤ hi) : Dw fa σ 0 (tVar i) (GdI lo hi) := dw_var h ⟨x, rfl, h1, h2⟩
theorem dI_c {x : Int} : Dw fa σ 0 (tC (.int x)) (GdI x x) := dw_c ⟨x, rfl, Int.le_refl _, Int.le_refl _⟩
theorem dT_var {i : Nat} {s : Tx} {lo n : Nat} (h : σ[i]? = some (some (T s))) (h1 : lo ≤ s.length) (h2 : s.length ≤ n) (h3 : ∀ c ∈ s, ok c) : Dw fa σ 0 (tVar i) (GdT ok lo n) := dw_var h ⟨s, rfl, h1, h2, h3⟩
theorem dT_c {s : Tx} (h3 : ∀ c ∈ s, ok c) : Dw fa σ 0 (tC (T s)) (GdT ok s.length s.length) := dw_c ⟨s, rfl, Nat.le_refl _, Nat.le_refl _, h3⟩
theorem dI_add {a b c d : Int} (h1 : Dw fa σ m1 ta (GdI a b)) (h2 : Dw fa σ m2 tb (GdI c d)) : Dw fa σ (m1 + m2) (tOp (rI0 fun i j => .int (i + j)) ta tb) (GdI (a + c) (b + d)) := dw_op h1 h2 fun x y ⟨i, hi, h3, h4⟩ ⟨j, hj, h5, h6⟩ => ⟨.int (i + j), ⟨i + j, rfl, by omega, by omega⟩, fun H Q q => ⟨i, j, hi, hj, q⟩⟩
theorem dT_add {a b c d : Nat} (h1 : Dw fa σ m1 ta (GdT ok a b)) (h2 : Dw fa σ m2 tb (GdT ok c d)) (hb : b + d ≤ 16777216 := by omega) : Dw fa σ (m1 + m2) (tOp rAddT ta tb) (GdT ok (a + c) (b + d)) := dw_op h1 h2 fun x y ⟨s, hs, h3, h4, h5⟩ ⟨t, ht, h6, h7, h8⟩ => ⟨T (s ++ t), ⟨s ++ t, rfl, by rw [List.length_append]; omega, by rw [List.length_append]; omega, fun c hc => by
  rcases List.mem_append.mp hc with hc | hc
  · exact h5 c hc
  · exact h8 c hc⟩, fun H Q q => ⟨s, t, hs, ht, by omega, q⟩⟩
theorem repT_mem {n : Nat} {a : Tx} {c : Nat} (h : c ∈ repT n a) : c ∈ a := by
  unfold repT at h
  obtain ⟨l, hl, hc⟩ := List.mem_flatten.mp h
  rw [List.eq_of_mem_replicate hl] at hc
  exact hc
theorem dT_mul {a b c d : Nat} (h1 : Dw fa σ m1 ta (GdT ok a b)) (h2 : Dw fa σ m2 tb (GdI (c : Int) (d : Int))) (hb : b * d ≤ 16777216 := by omega) (hd : d ≤ 1000000000 := by omega) : Dw fa σ (m1 + m2) (tOp rMulT ta tb) (GdT ok (c * a) (d * b)) := dw_op h1 h2 fun x y ⟨s, hs, h3, h4, h5⟩ ⟨j, hj, h6, h7⟩ => ⟨T (repT j.toNat s), ⟨repT j.toNat s, rfl, by
    rw [repT_len]
    exact Nat.mul_le_mul (by omega) h3, by
    rw [repT_len]
    exact Nat.mul_le_mul (by omega) h4, fun c hc => h5 c (repT_mem hc)⟩, fun H Q q => ⟨s, j, hs, hj, by omega, by omega, Nat.le_trans (Nat.mul_le_mul h4 (show j.toNat ≤ d by omega)) hb, q⟩⟩
theorem dI_len {a b : Nat} (h1 : Dw fa σ m te (GdT ok a b)) (hb : b ≤ 16777216 := by omega) : Dw fa σ m (tCB rLenT (tCons te tNil)) (GdI a b) := fun H G Q q => h1 H G _ fun v H1 ⟨s, hs, h3, h4, h5⟩ R => ⟨s, by rw [hs], by omega, q _ H1 ⟨_, rfl, by omega, by omega⟩ R⟩
/-- the ends of a slice -/
def Dwo (fa : Addr) (σ : L2.St) (m : Nat) (to : TO) : Prop := ∀ H, GF fa m H → ∀ Q : Option Int → Hp → Prop, (∀ v H', Rf fa m H H' → Q v H') → to σ H Q
theorem do_none : Dwo fa σ 0 tNoPart := fun H G Q q => q none H (Rf.refl H)
theorem do_some {a b : Int} (h : Dw fa σ m te (GdI a b)) : Dwo fa σ m (tPart te) := fun H G Q q => h H G _ fun v H1 ⟨i, hi, _, _⟩ R => ⟨i, hi, q (some i) H1 R⟩
theorem dT_sl {a b m3 : Nat} {tl th : TO} (h : Dw fa σ m1 te (GdT ok a b)) (h1 : Dwo fa σ m2 tl) (h2 : Dwo fa σ m3 th) (hb : b ≤ 16777216 := by omega) : Dw fa σ (m1 + (m2 + m3)) (tSl rSlT te tl th) (GdT ok 0 b) := fun H G Q q =>
  h H (G.mono (by omega)) _ fun v H1 ⟨s, hs, h3, h4, h5⟩ R1 => h1 H1 (G.go R1 (by omega)) _ fun l H2 R2 => h2 H2 (G.go (R1.trans R2) (by omega)) _ fun u H3 R3 =>
    ⟨s, hs, by omega, q _ H3 ⟨cutT s l u, rfl, Nat.zero_le _, Nat.le_trans (cutT_len s l u) h4, fun c hc => h5 c (cutT_mem hc)⟩ ((R1.trans (R2.trans R3)).mono (by omega))⟩
theorem dI_draw {i : Nat} {lo hi : Int} (h0 : σ[i]? = some (some (.ref fa))) (h : Dw fa σ m te (GdI lo hi)) (h1 : 0 < lo := by omega) (h2 : hi ≤ 10 ^ 61 := by decide) : Dw fa σ (m + 1) (tCall sp_draw [] E0 (tCons (tVar i) (tCons te tNil))) (GdI 0 (hi - 1)) := fun H G Q q =>
  ⟨.ref fa, h0, h H (G.mono (by omega)) _ fun v H1 ⟨j, hj, h3, h4⟩ R => ⟨fa, j, by rw [hj]; rfl, G.go R (Nat.le_refl _), by omega, by omega, fun d H' hd R2 => q _ H' ⟨(d : Int), rfl, by omega, by omega⟩ (R.trans R2)⟩⟩
theorem dT_one {i : Nat} {lo n : Nat} (h0 : σ[i]? = some (some (.ref fa))) (h : Dw fa σ m te (GdT ok lo n)) (h1 : 0 < lo := by omega) (h2 : n ≤ 16777216 := by omega) : Dw fa σ (m + 1) (tCall (sp_one K) [] E0 (tCons (tVar i) (tCons te tNil))) (GdT ok 1 1) := fun H G Q q =>
  ⟨.ref fa, h0, h H (G.mono (by omega)) _ fun v H1 ⟨s, hs, h3, h4, h5⟩ R => ⟨fa, G.go R (Nat.le_refl _), .inl ⟨s, by rw [hs]; rfl, fun z => by rw [z] at h3; simp at h3; omega, by omega, fun c H' hc R2 => q _ H' ⟨[c], rfl, Nat.le_refl _, Nat.le_refl _, fun d hd => by rw [List.mem_singleton.mp hd]; exact h5 c hc⟩ (R.trans R2)⟩⟩⟩
/-- of a list that is displayed -/
theorem dw_oneL {i : Nat} {vs : List V} (h0 : σ[i]? = some (some (.ref fa))) (h : ∀ H, EvL te σ H vs) (hg : ∀ v ∈ vs, g v) (hs : vs ≠ []) (hl : vs.length ≤ 16777216) : Dw fa σ 1 (tCall (sp_one K) [] E0 (tCons (tVar i) (tCons te tNil))) g := fun H G Q q => wp_oneL h0 (h H) G hs hl fun v H' hv R => q v H' (hg v hv) R
theorem dT_text {i : Nat} {a b c : Nat} {tm : TE} (h0 : σ[i]? = some (some (.ref fa))) (h : Dw fa σ m1 te (GdT ok a b)) (hm : Dw fa σ m2 tm (GdI 0 (c : Int))) (h1 : 0 < a := by omega) (h2 : b ≤ 16777216 := by omega) (h3 : c ≤ 30000 := by omega) : Dw fa σ (m1 + m2 + (c + 1)) (tCall sp_text [] E0 (tCons (tVar i) (tCons te (tCons tm tNil)))) (GdT ok 0 c) := fun H G Q q =>
  ⟨.ref fa, h0, h H (G.mono (by omega)) _ fun v H1 ⟨s, hs, h4, h5, h6⟩ R1 => hm H1 (G.go R1 (by omega)) _ fun y H2 ⟨j, hj, h7, h8⟩ R2 => by
    obtain ⟨n, rfl⟩ := Int.eq_ofNat_of_zero_le h7
    exact ⟨fa, s, n, by rw [hs, hj]; rfl, (G.go (R1.trans R2) (m' := n + 1) (by omega)), by omega, fun z => by rw [z] at h4; simp at h4; omega, by omega, fun t H' ht hc R3 => q _ H' ⟨t, rfl, Nat.zero_le _, by omega, fun c hc' => h6 c (hc c hc')⟩ (((R1.trans R2).trans R3).mono (by omega))⟩⟩
/-- a statement that draws -/
theorem q_dw {i : Nat} {D : Ends} {tz : TS} {H : Hp} {B : Nat} (h : Dw fa σ m te g) (G : GF fa B H) (k : ∀ v H1, g v → Rf fa m H H1 → tz D (σ.set i (some v)) H1) (hm : m ≤ B := by omega) : tSeq (tAsg te (gName i)) tz D σ H := h H (G.mono hm) _ fun v H1 hv R => k v H1 hv R
/-- a displayed pair, returned -/
theorem s_pair {D : Ends} {H : Hp} {B : Nat} (h1 : Dw fa σ m1 ta g1) (h2 : Dw fa σ m2 tb g2) (G : GF fa B H) (k : ∀ x y p H1, g1 x → g2 y → H p = none → Rf fa (m1 + m2) H H1 → H1 p = some (.lst [x, y]) → D.rt (.ref p) H1) (hm : m1 + m2 ≤ B := by omega) : tRet (tLst (tCons ta (tCons tb tNil))) D σ H :=
  h1 H (G.mono (by omega)) _ fun x H1 hx R1 => h2 H1 (G.go R1 (by omega)) _ fun y H2 hy R2 => ⟨by show 2 ≤ sizeLine; decide, fun p np => by
    have R := R1.trans R2
    have G2 : GF fa 0 H2 := G.go R (by omega)
    exact k x y p _ hx hy (R.free G.is np G2.is) (R.upd (R.free G.is np G2.is) G.is) upd_same⟩
/-- a test -/
theorem s_dif {D : Ends} {H : Hp} {tt ts : TS} {tu : TT} (h : ∀ Q : Bool → Hp → Prop, (∀ b H1, Rf fa m H H1 → Q b H1) → tu σ H Q) (k : ∀ b H1, Rf fa m H H1 → if b = true then tt D σ H1 else ts D σ H1) : tIfS tu tt ts D σ H := h _ k
theorem dw_test {H : Hp} {B : Nat} {a b c d : Int} {f : Int → Int → Bool} (h1 : Dw fa σ m1 ta (GdI a b)) (h2 : Dw fa σ m2 tb (GdI c d)) (G : GF fa B H) (Q : Bool → Hp → Prop) (k : ∀ b H1, Rf fa (m1 + m2) H H1 → Q b H1) (hm : m1 + m2 ≤ B := by omega) : tTest (tOp (rI0 fun i j => .bl (f i j)) ta tb) σ H Q :=
  h1 H (G.mono (by omega)) _ fun x H1 ⟨i, hi, _, _⟩ R1 => h2 H1 (G.go R1 (by omega)) _ fun y H2 ⟨j, hj, _, _⟩ R2 => ⟨i, j, hi, hj, f i j, rfl, k _ H2 (R1.trans R2)⟩
/-- a displayed pair -/
theorem wp_pair {H : Hp} {Q : VK} {B : Nat} (h1 : Dw fa σ m1 ta g1) (h2 : Dw fa σ m2 tb g2) (G : GF fa B H) (k : ∀ x y p H1, g1 x → g2 y → H p = none → Rf fa (m1 + m2) H H1 → H1 p = some (.lst [x, y]) → Q (.ref p) H1) (hm : m1 + m2 ≤ B := by omega) : tLst (tCons ta (tCons tb tNil)) σ H Q := s_pair (D := { nx := fun _ _ => False, bk := fun _ _ => False, ct := fun _ _ => False, rt := Q }) h1 h2 G k hm
/-- a loop of so many turns as are drawn -/
theorem q_forD {D : Ends} {tz tu : TS} {gg : TG} {H : Hp} {B : Nat} {a b : Int} (h : Dw fa σ m te (GdI a b)) (G : GF fa B H) (k : ∀ n H1, a ≤ n → n ≤ b → Rf fa m H H1 → tSeq (tFor (iRng1 fun _ H' Q' => Q' [.int n] H') gg tu) tz D σ H1) (hm : m ≤ B := by omega) : tSeq (tFor (iRng1 (tCons te tNil)) gg tu) tz D σ H := h H (G.mono hm) _ fun v H1 ⟨n, hn, h1, h2⟩ R => by
  subst hn
  exact k n H1 h1 h2 R
theorem s_retIf {D : Ends} {H : Hp} {b : Bool} {tu : TT} (h : EvT tu σ H b) (h1 : b = true → ∀ H1, Ex H H1 → tRet ta D σ H1) (h2 : b = false → ∀ H1, Ex H H1 → tRet tb D σ H1) : tRet (tIf tu ta tb) D σ H := h H (Ex.refl H) _ fun H1 e1 => by
  cases b with
  | true => exact h1 rfl H1 e1
  | false => exact h2 rfl H1 e1
theorem s_retIfD {D : Ends} {H : Hp} {B : Nat} {tc td : TE} {a b c d : Int} {f : Int → Int → Bool} (h : Dw fa σ m1 tc (GdI a b)) (h' : Dw fa σ m2 td (GdI c d)) (G : GF fa B H) (h1 : ∀ H1, Rf fa (m1 + m2) H H1 → tRet ta D σ H1) (h2 : ∀ H1, Rf fa (m1 + m2) H H1 → tRet tb D σ H1) (hm : m1 + m2 ≤ B := by omega) : tRet (tIf (tTest (tOp (rI0 fun i j => .bl (f i j)) tc td)) ta tb) D σ H := dw_test h h' G _ (fun b H1 R => by
  cases b with
  | true => exact h1 H1 R
  | false => exact h2 H1 R) hm
/-- a fresh list is written at -/
theorem Rf.exc {H H1 H2 : Hp} {p : Addr} (a : Rf fa m H H1) (h : Exc (fun c => c = p) H1 H2) (hp : H p = none) (hne : p ≠ fa) : Rf fa m H H2 := ⟨fun c o hc hs => h c o (fun z => by rw [z, hp] at hs; cases hs) (a.keep c o hc hs), fun n hn hF => by
  obtain ⟨x, b, c, e', h1, h2⟩ := a.feed n hn hF
  exact ⟨x, b, c, e', h _ _ (Ne.symm hne) h1, h2⟩⟩
theorem atI_back2 {α : Type} (xs : List α) (a b : α) : atI (xs ++ [a] ++ [b]) (-2) = some a := by
  have hl : (xs ++ [a] ++ [b]).length = xs.length + 2 := by simp
  have e : ixN (xs ++ [a] ++ [b]).length (-2) = some xs.length := by
    unfold ixN
    rw [if_neg (by decide), hl, if_pos (by omega)]
    congr 1
    omega
  unfold atI
  rw [e]
  simp
/-- [.., .., ..][i], returned -/
theorem s_ix3 {D : Ends} {H : Hp} {t1 t2 t3 tw : TE} (h : t1 σ H fun v1 H1 => t2 σ H1 fun v2 H2 => t3 σ H2 fun v3 H3 => [v1, v2, v3].length ≤ sizeLine ∧ ∀ p, H3 p = none → tw σ (upd H3 p (.lst [v1, v2, v3])) fun i H4 => L2.rIxL K (.ref p) i H4 D.rt) : tRet (tOp (L2.rIxL K) (tLst (tCons t1 (tCons t2 (tCons t3 tNil)))) tw) D σ H := h
end
end Wc
set_option Elab.async false
set_option linter.all false
set_option maxRecDepth 100000
set_option maxHeartbeats 4000000
/-! sets of texts: filled out of a list, sorted -/
namespace Wt
open PySem PySem.Spec PyProof.Rows L2
/-- the text that a value is -/
def txOf : Value → Str
  | .str k _ => k
  | _ => Str.empty
/-- an entry whose value is a text -/
def Ent (P : Program) (w : World) (e : Int × Value) : Prop := ∃ (k : Str) (u : Tok), e.2 = .str k u ∧ e.1 = (PySem.strKind P w).hash k
def ek (e : Int × Value) : Str := txOf e.2
/-- entries and table hold just the texts l -/
structure Pay (P : Program) (w : World) (es : Array (Int × Value)) (t : SetTable) (l : List Str) : Prop where
  ents : ∀ e ∈ es.toList, Ent P w e
  keys : (es.toList.map ek).Perm l
  nd : l.Nodup
  few : es.size < scanBound
  fit : t.fits es.size = true
  ris : Ris t.place.toList
  led : w.params.followText "set-order" = true ∨ t.led = true
def SetX (P : Program) (w : World) (h : Heap) (a : Addr) (l : List Str) : Prop := ∃ o es ep t, h.get? a = some o ∧ o.ExactSet ∧ o.data = .set es ep t ∧ Pay P w es t l
section
variable {P : Program} {w : World} {h h' : Heap} {a : Addr} {l : List Str} {es es1 : Array (Int × Value)} {t t1 : SetTable}
theorem SetX.at (R : SetX P w h a l) (k : ∀ o, h.get? a = some o → h'.get? a = some o) : SetX P w h' a l := by
  obtain ⟨o, es, ep, t, ho, r⟩ := R
  exact ⟨o, es, ep, t, k o ho, r⟩
theorem ent_is {e : Int × Value} (g : Ent P w e) (k : Str) : (PySem.strKind P w).is k e.2 = true ↔ ek e = k := by
  obtain ⟨k0, u, h1, _⟩ := g
  unfold ek
  rw [h1]
  show (Value.isStrOf k (.str k0 u) = true) ↔ k0 = k
  simp [Value.isStrOf]
theorem Pay.size (p : Pay P w es t l) : es.size = l.length := by
  have := p.keys.length_eq
  rw [List.length_map, Array.length_toList] at this
  exact this
theorem Pay.elems (p : Pay P w es t l) : ElemsOf (PySem.strKind P w) es.toList := fun e he => by
  obtain ⟨k, u, h1, h2⟩ := p.ents e he
  exact ⟨⟨k, by rw [h1]; exact PySem.strKind_is P w k u, h2⟩, by rw [h1]; rfl⟩
theorem Pay.mem (p : Pay P w es t l) (k : Str) : k ∈ l ↔ ∃ e ∈ es.toList, (PySem.strKind P w).is k e.2 = true := by
  rw [← p.keys.mem_iff, List.mem_map]
  exact ⟨fun ⟨e, he, q⟩ => ⟨e, he, (ent_is (p.ents e he) k).mpr q⟩, fun ⟨e, he, q⟩ => ⟨e, he, (ent_is (p.ents e he) k).mp q⟩⟩
/-- laid anew -/
theorem Pay.anew (p : Pay P w es t l) (pm : es1.toList.Perm es.toList) (hf : t1.fits es1.size = true) (hr : Ris t1.place.toList) (hl : t1.led = t.led) : Pay P w es1 t1 l where
  ents := fun e he => p.ents e (pm.mem_iff.mp he)
  keys := (pm.map ek).trans p.keys
  nd := p.nd
  few := by
    have := pm.length_eq
    rw [Array.length_toList, Array.length_toList] at this
    rw [this]
    exact p.few
  fit := hf
  ris := hr
  led := p.led.imp id fun z => hl.trans z
/-- one more -/
theorem Pay.more {k : Str} {u : Tok} (p : Pay P w es t l) (hk : k ∉ l) (room : l.length + 1 < scanBound) (pm : es1.toList.Perm (es.push ((PySem.strKind P w).hash k, .str k u)).toList) (hf : t1.fits es1.size = true) (hr : Ris t1.place.toList) (hl : t1.led = t.led) : Pay P w es1 t1 (k :: l) := by
  rw [Array.toList_push] at pm
  have pc := pm.trans (List.perm_append_singleton _ _)
  have pk : (es1.toList.map ek).Perm (k :: es.toList.map ek) := pc.map ek
  refine ⟨fun e he => ?_, pk.trans (p.keys.cons k), List.nodup_cons.mpr ⟨hk, p.nd⟩, ?_, hf, hr, p.led.imp id fun z => hl.trans z⟩
  · rcases List.mem_cons.mp (pc.mem_iff.mp he) with z | z
    · rw [z]
      exact ⟨k, u, rfl, rfl⟩
    · exact p.ents e z
  · have := pc.length_eq
    rw [List.length_cons, Array.length_toList, Array.length_toList, p.size] at this
    rw [this]
    exact room
end
section
variable {P : Program} {w : World} {A : Around} {E : Value → Shared → Prop} {s : Shared} {a : Addr} {l : List Str}
/-- behind the table's own step -/
theorem add_end {g : Bool → Sem Unit} (hg : ∀ (b : Bool) (s1 : Shared) (Q' : Unit → Shared → Prop), Q' () s1 → wpAny (model P w) A (g b) Q' E s1) {o : Obj} {es es1 : Array (Int × Value)} {ep : Nat} {t t2 : SetTable} {l2 : List Str}
    (ho : s.heap.get? a = some o) (hex : o.ExactSet) (hd : o.data = .set es ep t) (p : Pay P w es1 t2 l2) {dm : Bool} {R : Option Bool → Shared → Prop} (hR : ∀ h', Heap.SameBut a s.heap h' → SetX P w h' a l2 → R (some true) { s with heap := h' }) :
    wpAny (model P w) A (do
        storeSet a es1 t2
        if (!dm && t2.tooFull) = true then do
            g (relayAll t2 es1 (SetTable.grown es1.size)).2.2
            storeSet a (relayAll t2 es1 (SetTable.grown es1.size)).1 (relayAll t2 es1 (SetTable.grown es1.size)).2.1
            pure (some true)
          else pure (some true)) R E s := by
  have hz := fits_of_scanBound p.few
  refine wpAny_bind (wpAny_storeSet_of ho hd ?_ hz)
  have at1 := store_at (es' := es1) (t' := t2) ho hd
  have same1 := Heap.SameBut.update s.heap a (Obj.putSet es1 t2)
  by_cases c : (!dm && t2.tooFull) = true
  · rw [if_pos c]
    have p2 := p.anew (relayAll_perm t2 es1 (SetTable.grown es1.size)) (relayAll_fits t2 es1 _) (relayAll_ris t2 es1 _) (relayAll_led t2 es1 _)
    generalize relayAll t2 es1 (SetTable.grown es1.size) = Z at p2 ⊢
    refine wpAny_bind (hg _ _ _ ?_)
    refine wpAny_bind (wpAny_storeSet_of at1 rfl ?_ (fits_of_scanBound p2.few))
    exact wpAny_pure (hR _ (same1.trans (Heap.SameBut.update _ a _)) ⟨_, Z.1, _, Z.2.1, store_at (es' := Z.1) (t' := Z.2.1) at1 rfl, hex, rfl, p2⟩)
  · rw [if_neg c]
    exact wpAny_pure (hR _ same1 ⟨_, es1, _, t2, at1, hex, rfl, p⟩)
theorem add_text {k : Str} {u : Tok} {Q : Bool → Shared → Prop} (R : SetX P w s.heap a l) (room : l.length + 1 < scanBound)
    (hQ : ∀ h' b, Heap.SameBut a s.heap h' → SetX P w h' a (if k ∈ l then l else k :: l) → Q b { s with heap := h' }) : wpAny (model P w) A (setAddHashed a (.str k u) ((PySem.strKind P w).hash k)) Q E s := by
  obtain ⟨o, es, ep, t, ho, hex, hd, p⟩ := id R
  have is1 : (PySem.strKind P w).is k (.str k u) = true := PySem.strKind_is P w k u
  unfold setAddHashed setAddHashedIn
  refine wpAny_holding (wpAny_bind (wpAny_setState_of ho hd p.fit ?_))
  dsimp only
  rw [byScan_of (x := Value.str k u) rfl p.few p.elems, if_pos rfl]
  unfold setAddByScan
  refine wpAny_bind (wpAny_bind (wpAny_rule (wpAny_bind (wpAny_setScan_of is1 ho hd p.fit p.elems ?_))))
  cases hfi : List.findIdx? (fun e => (PySem.strKind P w).is k e.2) es.toList with
  | some j =>
    obtain ⟨hj, pj, _⟩ := List.findIdx?_eq_some_iff_getElem.mp hfi
    have hin : k ∈ l := (p.mem k).mpr ⟨es.toList[j], List.getElem_mem hj, pj⟩
    dsimp only
    refine wpAny_pure (wpAny_pure ?_)
    have q := hQ s.heap false (Heap.SameBut.refl a s.heap)
    rw [if_pos hin] at q
    exact q R
  | none =>
    have hno : k ∉ l := fun z => by
      obtain ⟨e, he, q⟩ := (p.mem k).mp z
      have c := List.findIdx?_eq_none_iff.mp hfi e he
      rw [q] at c
      cases c
    dsimp only
    have p1 := p.more (u := u) hno room (layNew_perm t es _ _) (layNew_fits t es _ _) (layNew_ris t es _ _ p.ris) (layNew_led t es _ _)
    generalize layNew t es ((PySem.strKind P w).hash k) (.str k u) = Z at p1 ⊢
    obtain ⟨es1, t1, dm, gave⟩ := Z
    dsimp only at p1 ⊢
    have both : ∀ (g : Bool) {s1 : Shared} {Q' : Unit → Shared → Prop}, Q' () s1 → wpAny (model P w) A (match g with | true => rule "set.scan.the-table-gave-way" | false => pure ()) Q' E s1 := fun g s1 Q' q => by
      cases g
      · exact wpAny_pure q
      · exact wpAny_rule q
    have fin : ∀ h', Heap.SameBut a s.heap h' → SetX P w h' a (k :: l) → Q true { s with heap := h' } := fun h' sb r => hQ h' true sb (by rw [if_neg hno]; exact r)
    refine wpAny_bind (both _ ?_)
    by_cases hp : t1.plain = true
    · rw [if_pos hp]
      refine wpAny_bind ?_
      rw [hashByValue_scannable 8 (x := Value.str k u) rfl]
      refine wpAny_pure ?_
      have p2 : Pay P w es1 { t1 with plain := false } (k :: l) := ⟨p1.ents, p1.keys, p1.nd, p1.few, SetTable.fits_plain_off p1.fit, p1.ris, p1.led⟩
      refine add_end (l2 := k :: l) ?_ ho hex hd (by split <;> first | exact p1 | exact p2) fun h' sb r => wpAny_pure (fin h' sb r)
      exact fun b s1 Q' q => by cases b <;> first | exact wpAny_pure q | exact wpAny_rule q
    · rw [if_neg hp]
      refine wpAny_bind (wpAny_pure ?_)
      refine add_end (l2 := k :: l) ?_ ho hex hd (by rw [if_pos rfl]; exact p1) fun h' sb r => wpAny_pure (fin h' sb r)
      exact fun b s1 Q' q => by cases b <;> first | exact wpAny_pure q | exact wpAny_rule q
/-- the set as set() makes it -/
abbrev so (w : World) : Obj := { cls := .type "set", dict := none, data := .set #[] 0 (.fresh 0 0 (!w.params.followText "set-order")) }
theorem SetX.new {h : Heap} (ho : h.get? a = some (so w)) : SetX P w h a [] := ⟨_, #[], 0, _, ho, ⟨rfl, rfl, rfl⟩, rfl, fun e he => by simp at he, List.Perm.refl _, List.nodup_nil, by decide, by rfl, List.Pairwise.nil, by
  show _ ∨ (!w.params.followText "set-order") = true
  cases w.params.followText "set-order" <;> simp⟩
/-- what is met among the first ones -/
structure Met (xs : List Str) (i : Nat) (l : List Str) : Prop where
  nd : l.Nodup
  mem : ∀ x, x ∈ l ↔ x ∈ xs.take i
  len : l.length ≤ i
theorem Met.next {xs l : List Str} {i : Nat} {x : Str} (m : Met xs i l) (h : xs[i]? = some x) : Met xs (i + 1) (if x ∈ l then l else x :: l) := by
  have e : xs.take (i + 1) = xs.take i ++ [x] := by rw [List.take_add_one, h]; rfl
  by_cases hx : x ∈ l
  · rw [if_pos hx]
    refine ⟨m.nd, fun y => ?_, Nat.le_succ_of_le m.len⟩
    rw [e, List.mem_append, m.mem y]
    exact ⟨.inl, fun z => z.elim id fun z => by rw [List.mem_singleton.mp z]; exact (m.mem x).mp hx⟩
  · rw [if_neg hx]
    refine ⟨List.nodup_cons.mpr ⟨hx, m.nd⟩, fun y => ?_, Nat.succ_le_succ m.len⟩
    rw [e, List.mem_append, List.mem_cons, List.mem_singleton, m.mem y]
    exact Or.comm
theorem fill_texts {I S : Addr} {fp wr : List Addr} {G : Array GenState → Array GenState → Prop} {n : Nat} {Pv : Nat → Value → Prop} {St : Nat → Shared → Prop} {R : Result → Shared → Prop} {xs : List Str}
    (W : WalksS P w A.in1 I fp wr G n Pv St) (hS : S ∉ fp) (hn : xs.length = n) (hb : n + 1 < scanBound) (hv : ∀ i v, Pv i v → ∃ x u, xs[i]? = some x ∧ v = .str x u) :
    ∀ (d i : Nat) (s : Shared) (l : List Str), n = i + d → St i s → Met xs i l → SetX P w s.heap S l → (∀ s2 l2, Moved (S :: wr) G s s2 → Met xs n l2 → SetX P w s2.heap S l2 → R (.ok (.ret .none)) s2) →
      codeAny (model P w) A (.builtin "set.update.loop" ⟨[.ref S, .ref I], []⟩) R s := by
  have hw : S ∉ wr := fun z => hS (W.sub _ z)
  have wide : ∀ b ∈ wr, b ∈ S :: wr := fun b z => List.mem_cons_of_mem _ z
  intro d
  induction d with
  | zero =>
    intro i s l hd st m X hR
    obtain rfl : i = n := by omega
    refine codeAny_builtin F.entry_set_update_loop (by
      rw [Around.under_plainId F.plain_set_update_loop _]
      exact wpAny_bind (W.done s _ _ st fun s2 mv => wpAny_pure (hR s2 l (mv.mono wide) m (X.at fun o e => mv.heap S o hw e))))
  | succ d ih =>
    intro i s l hd st m X hR
    refine codeAny_builtin F.entry_set_update_loop (by
      rw [Around.under_plainId F.plain_set_update_loop _]
      refine wpAny_bind (W.item i s _ _ (by omega) st fun v s2 hP st2 mv => ?_)
      obtain ⟨x, u, hx, rfl⟩ := hv i v hP
      have X2 : SetX P w s2.heap S l := X.at fun o e => mv.heap S o hw e
      have hl := m.len
      refine wpAny_bind (m := holding [Value.str x u] (setAdd S (.str x u))) (wpAny_holding ?_)
      unfold setAdd
      refine wpAny_holding (wpAny_bind ((PySem.strKind P w).pyHash (k := x) (PySem.strKind_is _ _ _ _) ?_))
      refine add_text (s := { s2 with toks := s2.toks + 1 }) X2 (by omega) fun h' b sb X3 => wpAny_pure ⟨plainId_quiet F.plain_set_update_loop _, ?_⟩
      refine ih (i + 1) _ _ (by omega) (W.frame _ s2 _ _ st2 (Nat.le_succ _) fun c hc o e => ?_) (m.next hx) X3 fun s3 l3 mv3 m3 X4 => hR s3 l3 (Moved.trans W.gtrans ((mv.mono wide).then_heap (Nat.le_succ _) fun c o hc e => ?_) mv3) m3 X4
      · rw [sb.2 c fun z => hS (z ▸ hc)]
        exact e
      · rw [sb.2 c fun z => hc (z ▸ List.mem_cons_self)]
        exact e)
set_option maxHeartbeats 3200000 in
theorem call_set_texts {src : Addr} {its : Array Value} {xs : List Str} {Q : Value → Shared → Prop} (noH : A.handled = none) (isl : s.heap.IsList src its) (hit : StrsAre its.toList xs) (room : xs.length + 1 < scanBound)
    (fin : ∀ (h2 : Heap) (tk : Nat) (l : List Str), Met xs xs.length l → SetX P w h2 s.heap.objs.size l → (∀ b o, s.heap.get? b = some o → h2.get? b = some o) → Q (.ref s.heap.objs.size) { s with heap := h2, toks := tk }) :
    wpAny (model P w) A (call (.type "set") [.ref src]) Q E s := by
  have lx : xs.length = its.size := by rw [← Array.length_toList, hit.len_eq]
  obtain ⟨c, tl, q0⟩ := PySem.F.called_set.mro
  have q1 := PySem.F.called_set.made; have q2 := PySem.F.called_set.sub
  refine wpAny_call (codeAny_of_tree (wpAny_pure ⟨Code.quiet_builtin _ (by decide +kernel), codeAny_builtin PySem.F.entry_type_call ?_⟩))
  rw [Around.under_plain (weight_type_call_type "set" [.ref src] []) rfl]
  have q3 := PySem.F.called_set.notType; have q4 := PySem.F.called_set.canCreate
  have q5 := PySem.F.typeCall_set_1 (.ref src)
  repeat (any_goals (first | assumption | wp_step))
  refine codeAny_mono (code_set_led1 (.ref src) (E := E) (Q₁ := fun ob t1 => ob = .ref s.heap.objs.size ∧ t1 = { s with heap := s.heap.push (so w) }) ⟨rfl, rfl⟩) fun r t1 hr => ?_
  match r, hr with
  | .error e, hr => exact hr
  | .ok (.ret ob), hr =>
    obtain ⟨rfl, rfl⟩ := hr
    have atS : (s.heap.push (so w)).get? s.heap.objs.size = some (so w) := Heap.get?_push_size _ rfl
    have tyS : Shared.TypeIs { s with heap := s.heap.push (so w) } (.ref s.heap.objs.size) "set" := ⟨_, atS, rfl⟩
    have q6 := PySem.F.called_set.init.lookup
    have q7 := PySem.F.called_set.init.bind (.ref s.heap.objs.size)
    repeat (any_goals (first | assumption | wp_step))
    refine codeAny_mono (codeAny_call_builtin (R := wants (fun r t2 => r = .none ∧ ∃ h2 tk l, t2 = { s with heap := h2, toks := tk } ∧ Met xs xs.length l ∧ SetX P w h2 s.heap.objs.size l ∧ ∀ b o, s.heap.get? b = some o → h2.get? b = some o) E) PySem.F.called_set.init.plain PySem.F.entry_set_init (check_set_init_1 tyS ?_)) fun r2 t2 hr2 => ?_
    · obtain ⟨ol, atl, cl, nl, dl⟩ := isl
      obtain ⟨ocls, odict, odata, oslots⟩ := ol
      simp only at cl dl
      subst cl; subst dl
      have lt := Heap.lt_size atl
      have isl2 : (s.heap.push (so w)).IsList src its := ⟨_, Heap.get?_push_of_some _ atl, rfl, nl, rfl⟩
      have q8 := PySem.F.sub_list_set; have q9 := PySem.F.sub_list_frozenset
      have q10 : (Value.type "list" == Value.type "dict") = false := by decide
      have atl2 : (s.heap.push (so w)).get? src = some { cls := .type "list", dict := odict, data := .seq its nl, slots := oslots } := Heap.get?_push_of_some _ atl
      unfold Builtin.«set.__init__» noKeywords Builtin.Frozenset.updateFrom
      generalize hI : pyIter = iter
      wp_walk
      subst hI
      refine wpAny_pyIter_list isl2 (wpAny_bind (wpAny_runValue ?_))
      have no3 : A.in1.in1.in1.handled = none := by simp [noH]
      have zI : (s.heap.push (so w)).objs.size = s.heap.objs.size + 1 := Heap.size_push ..
      have ne1 : src ≠ (s.heap.push (so w)).objs.size := by rw [zI]; exact Nat.ne_of_lt (Nat.lt_succ_of_lt lt)
      have out1 : s.heap.objs.size ∉ [(s.heap.push (so w)).objs.size, src] := by
        rw [zI]
        intro z
        rcases List.mem_cons.mp z with z | z
        · exact absurd z (Nat.ne_of_lt (Nat.lt_succ_self _))
        · exact absurd (List.mem_singleton.mp z) (Nat.ne_of_gt lt)
      refine fill_texts (P := P) (xs := xs) ((Walks.list no3 _ src ne1 its).toS) out1 lx (by rw [← lx]; exact room) (fun i v hv => ?_) its.size 0 _ [] (by omega) ⟨⟨_, Heap.get?_push_size _ rfl, rfl, rfl⟩, isl2.push _⟩ ⟨List.nodup_nil, fun x => by simp, Nat.le_refl _⟩ (SetX.new (Heap.get?_push_of_some _ atS)) fun s2 l2 mv m2 X2 => ?_
      · obtain ⟨y, u, h1, h2⟩ := hit.item i v (by rw [Array.getElem?_toList]; exact hv)
        exact ⟨y, u, h2, h1⟩
      · obtain ⟨h2, g2, d2, tk2, os2⟩ := s2
        obtain rfl : g2 = s.gens := mv.gens
        obtain rfl : d2 = s.drawn := mv.drawn
        obtain rfl : os2 = s.os := mv.os
        rw [← lx] at m2
        show wpAny _ _ (Bind.bind (pure _) _) _ _ _
        refine wpAny_pure (wpAny_pure ⟨rfl, h2, tk2, l2, rfl, m2, X2, fun b o e => ?_⟩)
        have hb := Heap.lt_size e
        refine mv.heap b o (fun z => ?_) (Heap.get?_push_of_some _ (Heap.get?_push_of_some _ e))
        rw [zI] at z
        rcases List.mem_cons.mp z with z | z
        · exact absurd z (Nat.ne_of_lt hb)
        · exact absurd (List.mem_singleton.mp z) (Nat.ne_of_lt (Nat.lt_succ_of_lt hb))
    · match r2, hr2 with
      | .error e, hr2 => exact hr2
      | .ok (.ret v2), hr2 =>
        obtain ⟨rfl, h2, tk, l, rfl, m, X, k⟩ := hr2
        repeat (any_goals (first | assumption | wp_step))
        exact fin _ _ _ m X k
end
end Wt
set_option Elab.async false
set_option linter.all false
set_option maxRecDepth 100000
set_option maxHeartbeats 4000000
/-! sorted(texts), set(texts), sorted(set) as rules -/
namespace Wt
open PySem PySem.Spec PyProof.Rows L2 Wc
/-- texts in the sequence of their signs -/
def sortT (xs : List Tx) : List Tx := xs.mergeSort (fun a b => decide (a ≤ b))
theorem sortT_perm (xs : List Tx) : (sortT xs).Perm xs := List.mergeSort_perm _ _
theorem sortT_len (xs : List Tx) : (sortT xs).length = xs.length := List.length_mergeSort _
theorem sortT_mem {xs : List Tx} {t : Tx} : t ∈ sortT xs ↔ t ∈ xs := (sortT_perm xs).mem_iff
theorem sortT_pw (xs : List Tx) : (sortT xs).Pairwise (· ≤ ·) := by
  have h := List.pairwise_mergeSort (le := fun a b : Tx => decide (a ≤ b)) (fun a b c h1 h2 => decide_eq_true (List.le_trans (of_decide_eq_true h1) (of_decide_eq_true h2))) (fun a b => by
    rcases List.le_total a b with h | h
    · simp [h]
    · simp [h]) xs
  exact h.imp fun z => of_decide_eq_true z
theorem enc_le : (PySem.W.dataLe false fun b : Tx => PyData.str (SX.S b)) = fun a b => decide (a ≤ b) := by
  rw [PySem.W.dataLe_str]
theorem alike_tx (xs : List Tx) : PySem.W.AllAlike (xs.map fun b => PyData.str (SX.S b)) := by
  intro d hd d' hd'
  obtain ⟨a, _, rfl⟩ := List.mem_map.mp hd
  obtain ⟨b, _, rfl⟩ := List.mem_map.mp hd'
  rfl
theorem sortable_tx (xs : List Tx) : PySem.W.Sortable (xs.map fun b => PyData.str (SX.S b)) := by
  refine .inr fun d hd => ?_
  obtain ⟨a, _, rfl⟩ := List.mem_map.mp hd
  exact ⟨fun z => (nomatch z), fun _ z => (nomatch z)⟩
theorem reads_tx {h : Heap} {vs : List Value} {xs : List Tx} (e : PySem.W.EachIs IsT vs xs) : PySem.W.EachIs (fun v b => ∃ as, Reads h v (PyData.str (SX.S b)) as) vs xs := e.mono fun v b ⟨t, hv⟩ => ⟨[], by rw [hv]; exact .str _ _⟩
theorem reads_out {h : Heap} {a : Addr} {vs : List Value} {xs : List Tx} (e : PySem.W.EachIs IsT vs xs) : PySem.W.EachIs (fun v b => ∃ as, Reads h v (PyData.str (SX.S b)) as ∧ a ∉ as) vs xs := e.mono fun v b ⟨t, hv⟩ => ⟨[], by rw [hv]; exact .str _ _, fun z => nomatch z⟩
theorem strs_of_each : ∀ {vs : List Value} {xs : List Tx}, PySem.W.EachIs IsT vs xs → StrsAre vs (xs.map SX.S)
  | _, _, .nil => .nil
  | _, _, .cons ⟨t, rfl⟩ r => .cons _ t (strs_of_each r)
section
variable {X : Cx}
def rSortTx (K : PySem.W.Frag) : List V → Hp → VK → Prop := fun vs H Q => ∃ (p : Addr) (xs : List Tx), vs = [.ref p] ∧ SqL K H p (xs.map T) ∧ ∀ q, H q = none → Q (.ref q) (upd H q (.lst ((sortT xs).map T)))
theorem cr_sortTx (hu : X.A.units + 64 < cLine) : CallR X (.builtin "sorted") (rSortTx X.K) := by
  intro pins s σ H vs us Q I r h
  obtain ⟨p, xs, rfl, hp, q⟩ := h
  rw [Vals.ref1 r]
  obtain ⟨its, rv, pl, hz⟩ := I.list hp
  rw [List.length_map] at hz
  have ev := each_of_vals rv
  refine PySem.W.sorted_data (R := IsT) (enc := fun b : Tx => PyData.str (SX.S b)) pl.isList ev (reads_tx ev) (alike_tx xs) (sortable_tx xs) hz (fun b _ => ?_) fun out hlen eo => ?_
  · show X.A.units + 2 + _ < cLine
    have : (PyData.str (SX.S b)).depth ≤ 1 := by simp [PyData.depth]
    omega
  · rw [enc_le] at eo
    obtain ⟨c, hc⟩ := sortedAll_at s.heap its out.toArray
    have hn : H (s.heap.objs.size + 1) = none := I.hok.fresh (Nat.le_succ _)
    refine ⟨.ref _, upd H (s.heap.objs.size + 1) (.lst ((sortT xs).map T)), I.laid (t' := s.toks) (fun b u e => sortedAll_old e) (Nat.le_succ _) ⟨?_, out, c, vals_of_each eo, hc⟩, rfl, q _ hn⟩
    rw [List.length_map, sortT_len]
    exact hz
/-- the set of these texts -/
def SetXO (P : Program) (w : World) (a : Addr) (l : List Str) : HO := .ext fun h => SetX P w h a l
theorem setXO_new {w : World} {P : Program} {H : Hp} {h : Heap} {a : Addr} {l : List Str} (R : SetX P w h a l) : ObjOk P w H h a (SetXO P w a l) := by
  have ⟨o, _, _, _, ho, _⟩ := R
  exact ⟨R, ⟨o, ho⟩, fun h1 h2 p k => SetX.at p k⟩
/-- the texts without repetition -/
structure Uniq (xs ys : List Tx) : Prop where
  nd : ys.Nodup
  mem : ∀ x, x ∈ ys ↔ x ∈ xs
def rSetTx (K : PySem.W.Frag) (P : Program) (w : World) : List V → Hp → VK → Prop := fun vs H Q => ∃ (p : Addr) (xs : List Tx), vs = [.ref p] ∧ SqL K H p (xs.map T) ∧ xs.length ≤ 4000 ∧ ∀ q ys, Uniq xs ys → ys.length ≤ xs.length → H q = none → Q (.ref q) (upd H q (SetXO P w q (ys.map SX.S)))
theorem tx_back (l : List Str) : l = (l.map fun x => x.cps.toList).map SX.S := by
  rw [List.map_map]
  conv => lhs; rw [← List.map_id l]
  apply List.map_congr_left
  intro x _
  rfl
theorem S_inj {a b : Tx} (h : SX.S a = SX.S b) : a = b := by
  have := congrArg (fun x : Str => x.cps.toList) h
  simpa using this
theorem uniq_of {xs : List Tx} {l : List Str} (m : Met (xs.map SX.S) (xs.map SX.S).length l) : ∃ ys, l = ys.map SX.S ∧ Uniq xs ys ∧ ys.length ≤ xs.length := by
  refine ⟨_, tx_back l, ⟨?_, fun x => ?_⟩, ?_⟩
  · have nd := m.nd
    rw [tx_back l] at nd
    exact List.Pairwise.of_map SX.S (fun a b hne e => hne (congrArg SX.S e)) nd
  · have h := m.mem (SX.S x)
    rw [List.take_length] at h
    constructor
    · intro hx
      obtain ⟨y, hy, rfl⟩ := List.mem_map.mp hx
      obtain ⟨z, hz, e⟩ := List.mem_map.mp (h.mp hy)
      rw [← S_inj e]
      exact hz
    · intro hx
      have h2 := h.mpr (List.mem_map.mpr ⟨x, hx, rfl⟩)
      exact List.mem_map.mpr ⟨_, h2, rfl⟩
  · rw [List.length_map]
    have := m.len
    rw [List.length_map] at this
    exact this
theorem cr_setTx (hc : X.calm = true) : CallR X (.type "set") (rSetTx X.K X.prog X.w) := by
  intro pins s σ H vs us Q I r h
  obtain ⟨p, xs, rfl, hp, hl, q⟩ := h
  rw [Vals.ref1 r]
  obtain ⟨its, rv, pl, hz⟩ := I.list hp
  refine call_set_texts (P := X.prog) (xs := xs.map SX.S) (I.ok.hd hc) pl.isList (by simpa using strs_of_each (each_of_vals rv)) (by rw [List.length_map]; unfold scanBound; omega) fun h2 tk l m R k => ?_
  obtain ⟨ys, rfl, u, hly⟩ := uniq_of m
  have hn : H s.heap.objs.size = none := I.hok.fresh (Nat.le_refl _)
  exact ⟨.ref _, upd H s.heap.objs.size (SetXO X.prog X.w s.heap.objs.size (ys.map SX.S)), I.laid (t' := tk) k (Nat.le_refl _) (setXO_new R), rfl, q _ ys u hly hn⟩
def rSortSet (P : Program) (w : World) : List V → Hp → VK → Prop := fun vs H Q => ∃ (a : Addr) (ys : List Tx), vs = [.ref a] ∧ H a = some (SetXO P w a (ys.map SX.S)) ∧ ∀ zs q, zs.Perm ys → H q = none → Q (.ref q) (upd H q (.lst ((sortT zs).map T)))
theorem ents_texts {P : Program} {w : World} : ∀ {l : List (Int × Value)}, (∀ e ∈ l, Ent P w e) → PySem.W.EachIs IsT (l.map (·.2)) (l.map fun e => (ek e).cps.toList)
  | [], _ => .nil
  | e :: l, h => .cons (by
      obtain ⟨k, u, h1, _⟩ := h e List.mem_cons_self
      refine ⟨u, ?_⟩
      show e.2 = .str (SX.S (ek e).cps.toList) u
      unfold ek
      rw [h1]
      rfl) (ents_texts fun x hx => h x (List.mem_cons_of_mem _ hx))
theorem each_perm {vs ws : List Value} {xs : List Tx} (e : PySem.W.EachIs IsT ws xs) (p : vs.Perm ws) : ∃ zs, zs.Perm xs ∧ PySem.W.EachIs IsT vs zs := by
  have key : ∀ {us : List Value} {zs : List Tx}, PySem.W.EachIs IsT us zs → zs = us.map (fun v => (txOf v).cps.toList) := by
    intro us zs h
    induction h with
    | nil => rfl
    | cons h1 _ ih =>
      obtain ⟨t, rfl⟩ := h1
      rw [List.map_cons, ← ih]
      rfl
  have all : ∀ {us : List Value} {zs : List Tx}, PySem.W.EachIs IsT us zs → ∀ v ∈ us, ∃ k t, v = Value.str k t := by
    intro us zs h
    induction h with
    | nil => intro v hv; cases hv
    | cons h1 _ ih =>
      intro v hv
      obtain ⟨t, rfl⟩ := h1
      rcases List.mem_cons.mp hv with rfl | hv
      · exact ⟨_, t, rfl⟩
      · exact ih v hv
  have hv : ∀ v ∈ vs, ∃ k t, v = Value.str k t := fun v h => all e v (p.mem_iff.mp h)
  refine ⟨vs.map fun v => (txOf v).cps.toList, ?_, ?_⟩
  · rw [key e]
    exact p.map _
  · clear p
    induction vs with
    | nil => exact .nil
    | cons v vs ih =>
      refine .cons ?_ (ih fun x hx => hv x (List.mem_cons_of_mem _ hx))
      obtain ⟨k, t, rfl⟩ := hv v List.mem_cons_self
      exact ⟨t, rfl⟩
theorem cr_sortSet (hc : X.calm = true) (hu : X.A.units + 64 < cLine) : CallR X (.builtin "sorted") (rSortSet X.prog X.w) := by
  intro pins s σ H vs us Q I r h
  obtain ⟨a, ys, rfl, ha, q⟩ := h
  rw [Vals.ref1 r]
  obtain ⟨o, es, ep, t, ho, hex, hd, py⟩ := (I.hok a _ ha).1
  refine Calls.call_function_entry kind_sorted plain_sorted entry_sorted (args_sorted1 _) ?_
  unfold Builtin.«sorted»
  refine wpAny_bind (m := checkCount "sorted" 1 1 _) (wpAny_pure (wpAny_bind (collect_set (A := X.A.in1) (I.ok.hd hc) ⟨o, ho, hex.1, hd⟩ py.fit py.few py.ris py.led fun s1 ws k1 sz g1 o1 pm => ?_)))
  obtain ⟨zs, pz, ez⟩ := each_perm (ents_texts py.ents) pm
  have few := py.few
  have lw : ws.length = es.size := by rw [pm.length_eq, List.length_map, Array.length_toList]
  have small : ws.length ≤ sizeLine := by
    rw [lw]
    exact fits_of_scanBound few
  refine wpAny_bind (wpAny_newList ?_ small)
  have atL : (s1.heap.push (seqObj "list" ws.toArray 0)).get? s1.heap.objs.size = some (seqObj "list" ws.toArray 0) := Heap.get?_push_size _ rfl
  refine wpAny_bind (wpAny_holding (PySem.W.list_sort_data (s := { s1 with heap := s1.heap.push (seqObj "list" ws.toArray 0) }) (R := IsT) (enc := fun b : Tx => PyData.str (SX.S b)) atL ez (reads_out ez) (alike_tx zs) (sortable_tx zs) (by rw [← ez.length]; exact small) (fun b _ => ?_) fun out hlen eo => ?_))
  · show X.A.in1.units + 1 + _ < cLine
    have h1 : X.A.in1.units ≤ X.A.units + 8 := by
      show X.A.units + _ ≤ _
      first | omega | exact Nat.add_le_add_left (by decide) _
    have : (PyData.str (SX.S b)).depth ≤ 1 := by simp [PyData.depth]
    omega
  · rw [enc_le] at eo
    obtain ⟨c, hc2⟩ := sortedHeap_at (vs := ws) (out := out.toArray) atL
    have pzy : zs.Perm ys := by
      refine pz.trans ?_
      have h1 := py.keys.map (fun x : Str => x.cps.toList)
      rw [List.map_map, List.map_map] at h1
      exact h1.trans (by rw [show ((fun x : Str => x.cps.toList) ∘ SX.S) = (fun x : Tx => x) from by funext x; simp, List.map_id'])
    have kk : ∀ b u, s.heap.get? b = some u → (sortedHeap (s1.heap.push (seqObj "list" ws.toArray 0)) s1.heap.objs.size ws out.toArray).get? b = some u := fun b u e => by
      have lt := Heap.lt_size (k1 b u e)
      rw [sortedHeap_old (Nat.ne_of_lt lt) (by rw [size_push']; exact Nat.lt_succ_of_lt lt)]
      exact Heap.get?_push_of_some _ (k1 b u e)
    have hn : H s1.heap.objs.size = none := I.hok.fresh sz
    have J := I.call (ch := []) (g' := s1.gens) (d' := s1.drawn) (t' := s1.toks) (Un.laid kk sz hn) (I.hok.laid kk sz (o := .lst ((sortT zs).map T)) ⟨by rw [List.length_map, sortT_len, ← ez.length]; exact small, out, c, vals_of_each eo, hc2⟩) (by rw [g1]; exact I.bare) (fun _ z => nomatch z)
    refine wpAny_pure ⟨_, rfl, .ref s1.heap.objs.size, _, ?_, rfl, q zs _ pzy hn⟩
    have e : ({ s1 with heap := sortedHeap (s1.heap.push (seqObj "list" ws.toArray 0)) s1.heap.objs.size ws out.toArray } : Shared) = { s with heap := sortedHeap (s1.heap.push (seqObj "list" ws.toArray 0)) s1.heap.objs.size ws out.toArray, gens := s1.gens, drawn := s1.drawn, toks := s1.toks } := by
      cases s1
      cases s
      cases o1
      rfl
    rw [e]
    exact J
end
end Wt
set_option Elab.async false
set_option linter.all false
set_option maxRecDepth 100000
set_option maxHeartbeats 2000000
/-! text[::-1]; rules with the part given; lists put behind one another -/
namespace Wt
open PySem PySem.Spec PyProof.Rows L2 Evl Wc
theorem rev_range (a : Tx) : (List.range a.length).map (fun k => a.getD (a.length - 1 - k) 0) = a.reverse := by
  apply List.ext_getElem
  · simp
  · intro i h1 h2
    have hl : i < a.length := by simpa using h1
    rw [List.getElem_map, List.getElem_range, List.getElem_reverse, List.getD_eq_getElem?_getD, List.getElem?_eq_getElem (by omega)]
    rfl
theorem made_rev (a : Tx) (t u : Tok) : sliceMade (SX.S a) t none none (some ((-1 : Int), u)) = .str (SX.S a.reverse) := by
  unfold sliceMade slicePicked
  rw [if_neg (by
    rw [show ((((some ((-1 : Int), u)).map (·.1)).getD 1 == 1)) = false from rfl]
    simp)]
  show Made.str ⟨((Builtin.Str.strSliceIndices none none (-1) (SX.S a).length).filterMap ((SX.S a).cps[·]?)).toArray⟩ = _
  rw [picked_rev, filterMap_get, List.map_map]
  · have e : (SX.S a).length = a.length := S_length a
    rw [e]
    congr 1
    show (⟨((List.range a.length).map fun k => (SX.S a).cps.getD (a.length - 1 - k) 0).toArray⟩ : Str) = SX.S a.reverse
    rw [← rev_range]
    congr 2
    apply List.map_congr_left
    intro k hk
    show a.toArray.getD _ 0 = _
    simp [Array.getD, List.getD_eq_getElem?_getD]
    split
    · rename_i h
      rw [List.getElem?_eq_getElem h]
      rfl
    · rename_i h
      rw [List.getElem?_eq_none (by omega)]
      rfl
  · intro i hi
    obtain ⟨k, hk, rfl⟩ := List.mem_map.mp hi
    have := List.mem_range.mp hk
    show _ < (SX.S a).length
    omega
def tRevT (te : TE) : TE := fun σ H Q => te σ H fun x H1 => ∃ a : Tx, x = T a ∧ a.length ≤ 16777216 ∧ Q (T a.reverse) H1
section
variable {X : Cx}
theorem pe_revT {e : Expr} {te : TE} {k : Nat} {p1 p2 p3 pos : Pos} (he : PE X e te) : PE X (.Subscript e (.Slice none none (some (.UnaryOp .USub (.Constant (.int 1) k p1) p2)) p3) pos) (tRevT te) := by
  refine ⟨fun pins s σ H Q I h => Subscript_ (thn (he.run pins s σ H _ I h) fun v s1 ⟨x, H1, I1, r1, q1⟩ => ?_)⟩
  obtain ⟨a, ex, hz, q⟩ := q1
  subst ex
  obtain ⟨t, rfl⟩ := r1
  have neg : PO X (some (.UnaryOp .USub (.Constant (.int 1) k p1) p2)) (tPart (tUn (rU fun i => .int (-i)) (tC (.int 1)))) := po_some (pe_un un_neg pe_int)
  refine wpAny_Slice (thn (po_none.run pins s1 σ H1 (fun o G => o = none ∧ G = H1) I1 ⟨rfl, rfl⟩) fun vl s2 ⟨l, H2, I2, pl, el, e2⟩ => ?_)
  subst el e2
  refine thn (po_none.run pins s2 σ H2 (fun o G => o = none ∧ G = H2) I2 ⟨rfl, rfl⟩) fun vu s3 ⟨u, H3, I3, pu, eu, e3⟩ => ?_
  subst eu e3
  refine thn (neg.run pins s3 σ H3 (fun o G => o = some (-1) ∧ G = H3) I3 ⟨1, rfl, -1, rfl, rfl, rfl⟩) fun vs s4 ⟨o, H4, I4, ps, eo, e4⟩ => ?_
  subst eo e4
  obtain ⟨l', rfl, hl⟩ := IsPart.raw pl
  obtain ⟨u', rfl, hu⟩ := IsPart.raw pu
  obtain ⟨st, rfl, hst⟩ := IsPart.raw ps
  cases l' with
  | some z => cases hl
  | none => cases u' with
    | some z => cases hu
    | none => cases st with
      | none => cases hst
      | some z =>
        obtain ⟨n, w⟩ := z
        have hn : n = -1 := Option.some.inj hst
        subst hn
        have I5 : Inv X pins σ H4 { s4 with heap := s4.heap.push { cls := .type "slice", data := .fields #[partValue none, partValue none, partValue (some (-1, w))] } } := I4.kept (t' := s4.toks) fun b ob q => Heap.get?_push_of_some _ q
        refine tail_any (T := "str") (ops := [.str (SX.S a) t, .ref s4.heap.objs.size]) (typeIs_str _ _ _) (PySem.F.slot_str_getitem.lookup) ?_ (by with_unfolding_all rfl)
        refine wpAny_getItem_str_slice (l := none) (u := none) (st := some (-1, w)) ⟨_, Heap.get?_push_size _ rfl, rfl, rfl⟩ rfl ?_
        rw [made_rev]
        refine ⟨?_, .str _, _, I5.tok _, ⟨_, rfl⟩, q⟩
        rw [S_length, List.length_reverse]
        exact Nat.le_trans hz (by decide)
end
section
variable {X : Cx} (P : Program) (w : World) (K : PySem.W.Frag)
def rSortX (K : PySem.W.Frag) (P : Program) (w : World) : List V → Hp → VK → Prop := fun vs H Q => rSortTx K vs H Q ∨ rSortSet P w vs H Q
theorem kset (hc : X.calm = true := by rfl) (hK : X.K = K := by rfl) (hP : X.prog = P := by rfl) (hw : X.w = w := by rfl) : CallR X (.type "set") (rSetTx K P w) := by
  subst hK hP hw
  exact cr_setTx hc
theorem ksorted (hu : X.A.units + 64 < cLine) (hc : X.calm = true := by rfl) (hK : X.K = K := by rfl) (hP : X.prog = P := by rfl) (hw : X.w = w := by rfl) : CallR X (.builtin "sorted") (rSortX K P w) := by
  subst hK hP hw
  exact CallR.or (cr_sortTx hu) (cr_sortSet hc hu)
theorem krev {e : Expr} {te : TE} (h : PE X e (tRevL X.K te)) (hK : X.K = K := by rfl) : PE X e (tRevL K te) := hK ▸ h
end
section
variable {K : PySem.W.Frag} {P : Program} {w : World} {σ : L2.St} {H : Hp} {te : TE}
theorem ev_revT {a : Tx} (h : Ev te σ H (T a)) (hl : a.length ≤ 16777216) : Ev (tRevT te) σ H (T a.reverse) := fun H1 e _ q => h H1 e _ fun H2 e2 => ⟨a, rfl, hl, q H2 e2⟩
theorem el_revL {p : Addr} {xs : List V} (h : Ev te σ H (.ref p)) (hp : SqL K H p xs) : EvL (tRevL K te) σ H xs.reverse := fun H1 e _ q => h H1 e _ fun H2 e2 => ⟨p, xs, rfl, ex_l (e.trans e2) hp, fun r hr => q r _ (fresh_back e2 hr) (e2.trans (Ex.new hr)) upd_same⟩
theorem el_revN {xs : List V} (h : EvL te σ H xs) : EvL (tRevL K te) σ H xs.reverse := fun H1 e _ q => h H1 e _ fun p H2 hp e2 h2 => ⟨p, xs, rfl, sq_of h2, fun r hr => q r _ (fresh_back e2 hr) (e2.trans (Ex.new hr)) upd_same⟩
/-- sorted(set(..)), of a new list of texts -/
theorem el_sortSet {xs : List Tx} (h : EvL te σ H (xs.map T)) (hl : xs.length ≤ 4000) (Q : VK) (k : ∀ p ys H1, Uniq xs ys → ys.length ≤ xs.length → H p = none → Ex H H1 → H1 p = some (.lst ((sortT ys).map T)) → Q (.ref p) H1) :
    tCB (rSortX K P w) (tCons (tCB (rSetTx K P w) (tCons te tNil)) tNil) σ H Q := h H (Ex.refl _) _ fun p H1 hp e1 h1 => ⟨p, xs, rfl, sq_of h1, hl, fun q ys u hly hq => .inr ⟨q, ys, rfl, upd_same, fun zs r pz hr => by
  have hr1 : H1 r = none := fresh_back (Ex.new hq) hr
  exact k r zs _ ⟨pz.nodup_iff.mpr u.nd, fun x => (pz.mem_iff).trans (u.mem x)⟩ (by rw [pz.length_eq]; exact hly) (fresh_back e1 hr1) ((e1.trans (Ex.new hq)).trans (Ex.new hr)) upd_same⟩⟩
/-- sorted(..) of a standing list of texts -/
theorem el_sorted {p : Addr} {xs : List Tx} (h : Ev te σ H (.ref p)) (hp : SqL K H p (xs.map T)) : EvL (tCB (rSortX K P w) (tCons te tNil)) σ H ((sortT xs).map T) := fun H1 e _ q => h H1 e _ fun H2 e2 => .inl ⟨p, xs, rfl, ex_l (e.trans e2) hp, fun r hr => q r _ (fresh_back e2 hr) (e2.trans (Ex.new hr)) upd_same⟩
end
end Wt
set_option Elab.async false
set_option linter.all false
set_option maxRecDepth 100000
set_option maxHeartbeats 2000000
/-! small things for lists and tests -/
namespace Wt
open PySem PySem.Spec PyProof.Rows L2 Evl Wc
section
variable {K : PySem.W.Frag} {σ : L2.St} {H : Hp} {ta tb tc te : TE} {x y z : V}
theorem ev_chain {r r' : R2} {b1 b2 : Bool} (ha : Ev ta σ H x) (hb : Ev tb σ H y) (h1 : RV r x y H (.bl b1)) (hc : Ev tc σ H z) (h2 : RV r' y z H (.bl b2)) : Ev (tChain r r' ta tb tc) σ H (.bl (b1 && b2)) := fun H1 e1 Q q =>
  ha H1 e1 _ fun H2 e2 => hb H2 (e1.trans e2) _ fun H3 e3 => h1 H3 ((e1.trans e2).trans e3) _ fun H4 e4 => ⟨b1, rfl, by
    have e14 := (e2.trans e3).trans e4
    cases b1 with
    | true =>
      show tc σ H4 _
      exact hc H4 (e1.trans e14) _ fun H5 e5 => h2 H5 ((e1.trans e14).trans e5) _ fun H6 e6 => q H6 ((e14.trans e5).trans e6)
    | false => exact q H4 e14⟩
theorem erase_perm {α : Type} {xs : List α} {d : Nat} (h : d < xs.length) : (xs[d] :: xs.eraseIdx d).Perm xs := by
  rw [List.eraseIdx_eq_take_drop_succ]
  have e : xs = xs.take d ++ xs[d] :: xs.drop (d + 1) := by
    rw [List.getElem_cons_drop, List.take_append_drop]
  conv => rhs; rw [e]
  exact List.perm_middle.symm
/-- the signs of a text's value -/
def unT : V → Tx
  | .str x => x.cps.toList
  | _ => []
theorem map_unT (xs : List Tx) : (xs.map T).map unT = xs := by
  rw [List.map_map]
  conv => rhs; rw [← List.map_id xs]
  rfl
theorem perm_texts {ys : List V} {xs : List Tx} (h : ys.Perm (xs.map T)) : ∃ zs : List Tx, ys = zs.map T ∧ zs.Perm xs := by
  obtain ⟨zs, rfl, _⟩ := texts_of (acc := ys) (g := fun _ => True) fun v hv => by
    obtain ⟨t, _, rfl⟩ := List.mem_map.mp (h.mem_iff.mp hv)
    exact ⟨t, rfl, trivial⟩
  have := h.map unT
  rw [map_unT, map_unT] at this
  exact ⟨zs, rfl, this⟩
theorem seqIx_nat {d n : Nat} (h : d < n) : seqIndex? (d : Int) n = some d := by
  have : ¬ (d : Int) < 0 := by omega
  unfold seqIndex?
  simp [this, h]
/-- lists put behind one another: both new | the first stands -/
theorem el_catNN {xs ys : List V} (ha : EvL ta σ H xs) (hb : EvL tb σ H ys) (hz : xs.length + ys.length ≤ 100000) : EvL (tOp rCat ta tb) σ H (xs ++ ys) := fun H1 e1 Q q =>
  ha H1 e1 _ fun p H2 hp e2 h2 => hb H2 (e1.trans e2) _ fun r H3 hr e3 h3 => ⟨p, r, xs, ys, rfl, rfl, e3 _ _ h2, h3, sz_of hz, fun n hn => q n _ (fresh_back (e2.trans e3) hn) ((e2.trans e3).trans (Ex.new hn)) upd_same⟩
theorem el_catVN {p : Addr} {xs ys : List V} (ha : Ev ta σ H (.ref p)) (hp : H p = some (.lst xs)) (hb : EvL tb σ H ys) (hz : xs.length + ys.length ≤ 100000) : EvL (tOp rCat ta tb) σ H (xs ++ ys) := fun H1 e1 Q q =>
  ha H1 e1 _ fun H2 e2 => hb H2 (e1.trans e2) _ fun r H3 hr e3 h3 => ⟨p, r, xs, ys, rfl, rfl, ((e1.trans e2).trans e3) _ _ hp, h3, sz_of hz, fun n hn => q n _ (fresh_back (e2.trans e3) hn) ((e2.trans e3).trans (Ex.new hn)) upd_same⟩
theorem ev_lenU {p : Addr} {xs : List V} (h : Ev ta σ H (.ref p)) (hp : SqT K H p xs) : Ev (tCB (rLenS K) (tCons ta tNil)) σ H (.int (xs.length : Int)) := fun H1 e Q q => h H1 e _ fun H2 e2 => ⟨p, xs, rfl, .inr (ex_t (e.trans e2) hp), q H2 e2⟩
end
end Wt
set_option Elab.async false
set_option linter.all false
set_option maxRecDepth 100000
set_option maxHeartbeats 2000000
/-! comprehensions of so many turns as are drawn -/
namespace Wt
open PySem PySem.Spec PyProof.Rows L2 Evl Wc
section
variable {K : PySem.W.Frag} {fa : Addr} {σ : L2.St} {H : Hp} {te te0 : TE}
theorem lcRD {j : Nat} {vs : List Nat} {lo N c m0 : Nat} (good : V → Prop) (hc : Dw fa σ m0 te0 (GdI (lo : Int) (N : Int))) (hN : N ≤ 1000) (G : GF fa (m0 + N * c) H) (hw : ∀ x, wipe ((wipe σ vs).set j (some x)) vs = wipe σ vs)
    (he : ∀ x n H1, Rf fa n H H1 → GF fa c H1 → ∀ Q' : VK, (∀ y H2, good y → Rf fa c H1 H2 → Q' y H2) → te ((wipe σ vs).set j (some x)) H1 Q') (Q : VK)
    (k : ∀ p H2 acc, H p = none → Rf fa (m0 + N * c) H H2 → H2 p = some (.lst acc) → lo ≤ acc.length → acc.length ≤ N → (∀ v ∈ acc, good v) → Q (.ref p) H2) : tLc (iRng1 (tCons te0 tNil)) (gName j) tYes te vs σ H Q :=
  hc H (G.mono (by omega)) _ fun v H1 ⟨n, hv, h0, h1⟩ R1 => by
    obtain ⟨n, rfl⟩ := Int.eq_ofNat_of_zero_le (show 0 ≤ n by omega)
    subst hv
    have hn : n ≤ N := by omega
    have hnc : n * c ≤ N * c := Nat.mul_le_mul_right c hn
    have G1 : GF fa (N * c) H1 := G.go R1 (by omega)
    have h : tLc (iRng1 fun _ H' Q' => Q' [.int (n : Int)] H') (gName j) tYes te vs σ H1 Q := by
      refine lcD good c G1.is (src_range1 (n := n) (fun H2 e2 Q2 q => q H2 (Ex.refl _)) (by omega)) (fun z => z) (by omega) hw (fun i x H2 hi _ R2 Q2 q2 => ?_) fun p H2 acc hp R2 h2 hl hg => k p H2 acc (R1.free G.is hp G1.is) ((R1.trans R2).mono (by omega)) h2 (by omega) (by omega) hg
      have hic : i * c + c ≤ N * c := by
        have := Nat.mul_le_mul_right c (show i + 1 ≤ N by omega)
        rw [Nat.succ_mul] at this
        exact this
      exact he x _ H2 (R1.trans R2) (G1.go R2 hic) Q2 q2
    exact h
/-- over a standing list of texts, with a test that draws; what is kept is of the list -/
theorem texts_GdT {acc : List V} {ok : Nat → Prop} {lo n : Nat} (h : ∀ v ∈ acc, GdT ok lo n v) : ∃ ws : List Tx, acc = ws.map T ∧ ∀ t ∈ ws, lo ≤ t.length ∧ t.length ≤ n ∧ ∀ c ∈ t, ok c := texts_of fun v hv => by
  obtain ⟨s, rfl, h1, h2, h3⟩ := h v hv
  exact ⟨s, rfl, h1, h2, h3⟩
theorem dI_sub {ta tb : TE} {m1 m2 : Nat} {a b c d : Int} (h1 : Dw fa σ m1 ta (GdI a b)) (h2 : Dw fa σ m2 tb (GdI c d)) : Dw fa σ (m1 + m2) (tOp (rI0 fun i j => .int (i - j)) ta tb) (GdI (a - d) (b - c)) := dw_op h1 h2 fun x y ⟨i, hi, h3, h4⟩ ⟨j, hj, h5, h6⟩ => ⟨.int (i - j), ⟨i - j, rfl, by omega, by omega⟩, fun H Q q => ⟨i, j, hi, hj, q⟩⟩
theorem dI_wk {m : Nat} {a b c d : Int} (h : Dw fa σ m te (GdI a b)) (h1 : c ≤ a := by omega) (h2 : b ≤ d := by omega) : Dw fa σ m te (GdI c d) := dw_as h fun v ⟨i, hi, h3, h4⟩ => ⟨i, hi, by omega, by omega⟩
theorem dT_wk {m : Nat} {ok : Nat → Prop} {a b c d : Nat} (h : Dw fa σ m te (GdT ok a b)) (h1 : c ≤ a := by omega) (h2 : b ≤ d := by omega) : Dw fa σ m te (GdT ok c d) := dw_as h fun v ⟨i, hi, h3, h4, h5⟩ => ⟨i, hi, by omega, by omega, h5⟩
/-- one of displayed numbers -/
theorem dI_oneL {i : Nat} {ns : List Int} {lo hi : Int} (h0 : σ[i]? = some (some (.ref fa))) (h : ∀ H, EvL te σ H (ns.map V.int)) (hg : ∀ n ∈ ns, lo ≤ n ∧ n ≤ hi) (hs : ns ≠ []) (hl : ns.length ≤ 1000) : Dw fa σ 1 (tCall (sp_one K) [] E0 (tCons (tVar i) (tCons te tNil))) (GdI lo hi) :=
  dw_oneL h0 h (fun v hv => by
    obtain ⟨n, hn, rfl⟩ := List.mem_map.mp hv
    exact ⟨n, rfl, (hg n hn).1, (hg n hn).2⟩) (fun z => hs (List.map_eq_nil_iff.mp z)) (by rw [List.length_map]; omega)
/-- a list comprehension over a list, at which draws are made: test and step -/
theorem lcDT {wi : TI} {tt : TT} {j : Nat} {vs : List Nat} {n : Nat} {own : Addr → Prop} {P : Nat → V → Hp → Prop} {Q : VK} (good : V → Prop) (c : Nat) (hf : H fa ≠ none) (hs : Src wi σ H n own P) (ho : ¬ own fa) (hn : n ≤ 40000) (hw : ∀ x, wipe ((wipe σ vs).set j (some x)) vs = wipe σ vs)
    (ht : ∀ (i : Nat) (x : V) H1, i < n → P i x H1 → Rf fa (i * c) H H1 → ∀ Q' : Bool → Hp → Prop, (∀ b H2, Rf fa c H1 H2 → Q' b H2) → tt ((wipe σ vs).set j (some x)) H1 Q')
    (he : ∀ (i : Nat) (x : V) H0 H1, i < n → P i x H0 → Rf fa c H0 H1 → ∀ Q' : VK, (∀ y H2, good y → Ex H1 H2 → Q' y H2) → te ((wipe σ vs).set j (some x)) H1 Q')
    (k : ∀ p H2 acc, H p = none → Rf fa (n * c) H H2 → H2 p = some (.lst acc) → acc.length ≤ n → (∀ v ∈ acc, good v) → Q (.ref p) H2) : tLc wi (gName j) tt te vs σ H Q :=
  hs H (Ex.refl H) _ fun J H1 S e1 w hS => fun Dl hD => by
    have hDH : H Dl = none := fresh_back e1 hD
    have hne : Dl ≠ fa := fun z => hf (z ▸ hDH)
    have hf1 : H1 fa ≠ none := by
      cases hq : H fa with
      | none => exact absurd hq hf
      | some o => rw [e1 _ _ hq]; exact fun z => nomatch z
    refine lc_it w (Qd := fun H3 => Q (.ref Dl) H3) (fun i Hi => Rf fa (i * c) H1 Hi ∧ ∃ acc, Hi Dl = some (.lst acc) ∧ acc.length ≤ i ∧ ∀ v ∈ acc, good v) ?_ (fun i Hi hi p => hS (fun b => b = fa) Hi (by rintro b rfl; exact ⟨hf, ho⟩) p.1.keep) ?_ ?_
    · exact ⟨((Rf.refl H1).upd hD hf1).mono (Nat.zero_le _), [], upd_same, Nat.le_refl _, fun v hv => nomatch hv⟩
    · rintro i x Ha Hb hi ⟨R, acc, h1, h2, h3⟩ ⟨ey, hP⟩
      refine ⟨hw x, ?_⟩
      have Rb : Rf fa (i * c) H1 Hb := R.then ey
      refine ht i x Hb hi hP (Rf.pre e1 Rb) _ fun b H3 R3 => ?_
      have h13 : H3 Dl = some (.lst acc) := R3.at_ (ey _ _ h1) hne
      have Rc : Rf fa ((i + 1) * c) H1 H3 := (Rb.trans R3).mono (by rw [Nat.succ_mul]; exact Nat.le_refl _)
      cases b with
      | true =>
        show te ((wipe σ vs).set j (some x)) H3 fun y H4 => _
        refine he i x Hb H3 hi hP R3 _ fun y H4 hy e4 => ⟨acc, e4 _ _ h13, sz_lt (by omega), (Rc.then e4).upd hD hf1, acc ++ [y], upd_same, by rw [List.length_append]; exact Nat.succ_le_succ h2, fun v hv => ?_⟩
        rcases List.mem_append.mp hv with hv | hv
        · exact h3 v hv
        · rw [List.mem_singleton.mp hv]
          exact hy
      | false => exact ⟨Rc, acc, h13, Nat.le_succ_of_le h2, h3⟩
    · rintro H3 ⟨R, acc, h1, h2, h3⟩
      exact k Dl H3 acc hDH (Rf.pre e1 R) h1 h2 h3
/-- the list is the value of a reading -/
theorem lc_of {te0 : TE} {g : TG} {tt : TT} {vs : List Nat} {Q : VK} (h : te0 σ H fun v H1 => tLc (iList K (fun _ H' Q' => Q' v H')) g tt te vs σ H1 Q) : tLc (iList K te0) g tt te vs σ H Q := h
end
end Wt
set_option Elab.async false
set_option linter.all false
set_option maxRecDepth 100000
set_option maxHeartbeats 2000000
/-! enumerate(t), t a tuple -/
namespace Wt
open PySem PySem.Spec PyProof.Rows L2 Evl Wc
theorem meets_enum1 {v : Value} {o : Obj} {Hh : Heap → Prop} (B : Begins v o Hh) :
    Meets (Builtin.«enumerate.__new__» ⟨[.type "enumerate", v], []⟩) (fun _ R s => Hh s.heap ∧ R (.ok (.ret (.ref (s.heap.push o).objs.size))) { s with heap := (s.heap.push o).push { cls := .type "enumerate", data := .fields #[.none, .bool false, .ref s.heap.objs.size, rawInt 0, .none, .none] } }) :=
  .of_wp fun P w A R s h => by
    obtain ⟨hp, g, d, tk, os⟩ := s
    obtain ⟨h1, h2⟩ := h
    have hsub := sub_enumerate
    have begin_ : ∀ {A' : Around} {E : Value → Shared → Prop} {Q : Value → Shared → Prop}, Q (.ref hp.objs.size) ⟨hp.push o, g, d, tk, os⟩ → wpAny (model P w) A' (pyIter v) Q E ⟨hp, g, d, tk, os⟩ := fun q => B.iter P w _ _ ⟨hp, g, d, tk, os⟩ _ h1 q
    wp_walk
    refine wpAny_stack_any fun st => wpAny_pure ?_
    split
    · rename_i c _ _ _ _ _
      cases (c == Value.type "enumerate")
      · wp_walk using begin_
        exact ⟨_, rfl, h2⟩
      · wp_walk using begin_
        exact ⟨_, rfl, h2⟩
    · wp_walk using begin_
      exact ⟨_, rfl, h2⟩
section
variable {P : Program} {w : World} {A : Around} {E : Value → Shared → Prop} {s : Shared}
theorem call_enum1 {v : Value} {o : Obj} {Hh : Heap → Prop} {Q : Value → Shared → Prop} (B : Begins v o Hh) (h1 : Hh s.heap)
    (h : ∀ h', IsEnum h' (s.heap.objs.size + 1) s.heap.objs.size 0 .none → h'.get? s.heap.objs.size = some o → (∀ b o, s.heap.get? b = some o → h'.get? b = some o) → Q (.ref (s.heap.objs.size + 1)) { s with heap := h' }) :
    wpAny (model P w) A (call (.type "enumerate") [v]) Q E s := by
  refine callType_new F.called_enumerate (by decide) (F.typeCall_enumerate_1 _) (F.newCall_enumerate_1 _) (fun obj => F.args_object_init_2 obj _) F.entry_enumerate_new (meets_enum1 B) ⟨h1, ?_⟩
  have z : (s.heap.push o).objs.size = s.heap.objs.size + 1 := Heap.size_push ..
  show _ ∧ _
  rw [z]
  have he : IsEnum ((s.heap.push o).push { cls := .type "enumerate", data := .fields #[.none, .bool false, .ref s.heap.objs.size, rawInt 0, .none, .none] }) (s.heap.objs.size + 1) s.heap.objs.size 0 .none := by
    rw [← z]
    exact Heap.get?_push_size (s.heap.push o) rfl
  exact ⟨⟨_, he, rfl⟩, h _ he (Heap.get?_push_of_some _ (Heap.get?_push_size _ B.free)) fun b u x => Heap.get?_push_of_some _ (Heap.get?_push_of_some _ x)⟩
end
/-- the tuple at a, each item in a new pair with its number -/
def ItEt (K : PySem.W.Frag) (a : Addr) : It :=
  ⟨fun i H => ∃ (xs : List V) (x : V), SqT K H a xs ∧ xs[i]? = some x, fun i H v H' => ∃ T x, v = .ref T ∧ H T = none ∧ H' = upd H T (.tup [.int (i : Nat), x]) ∧ ∀ xs, SqT K H a xs → xs[i]? = some x, fun i H => ∃ xs : List V, SqT K H a xs ∧ xs.length ≤ i⟩
theorem turn_enumT {P : Program} {w : World} {K : PySem.W.Frag} {elts : List Expr} {kk : Nat} {tpos : Pos} (a e it : Addr) (hne : e ≠ it) (ha1 : a ≠ it) (ha2 : a ≠ e) :
    Turn P w K (.Tuple elts kk tpos) (ItEt K a) [e, it] e (fun i h => (∃ old, IsEnum h e it ((i : Nat) : Int) old) ∧ h.IsTupleIter it a i) where
  mem := List.mem_cons_self
  obj := fun i h st b hb => by
    obtain ⟨⟨old, he⟩, o, ho, hc, hd⟩ := st
    rcases List.mem_cons.mp hb with z | z
    · rw [z]
      exact ⟨_, he, fun v q => nomatch q⟩
    · rw [List.mem_singleton.mp z]
      exact ⟨o, ho, fun v q => by rw [hd] at q; cases q⟩
  keep := fun i h h' st k => let ⟨⟨old, he⟩, hi⟩ := st; ⟨⟨old, k e List.mem_cons_self _ he⟩, hi.at fun o q => k it (by simp) o q⟩
  item := by
    intro X hP hw hK hc i pins s σ H E I hf st hg
    subst hP hw hK
    obtain ⟨⟨old, he⟩, hit⟩ := st
    obtain ⟨xs, x, hq, hx⟩ := hg
    obtain ⟨its, rv, p, hz⟩ := I.tuple hq
    obtain ⟨u, hu, ru⟩ := rv.get hx
    have le : e < s.heap.objs.size := Heap.lt_size he
    have li : it < s.heap.objs.size := by obtain ⟨_, q, _⟩ := hit; exact Heap.lt_size q
    have hlt : i < its.toArray.size := by
      rw [List.size_toArray]
      exact (List.getElem?_eq_some_iff.mp hu).1
    have D := Draws.tuple (prog := X.prog) (w := X.w) (A := X.A.in1) (I.ok.hd hc) it a ha1 its.toArray
    refine wpAny_pyNext_enum_itemD D he ⟨hit, p⟩ hlt hne (by simp [hne, ha2.symm]) fun y h' tk hP2 ho hst hT hsz hk => ?_
    have hyu : y = u := by
      have e1 : its.toArray[i]? = some u := by simpa using hu
      rw [e1] at hP2
      exact (Option.some.inj hP2).symm
    subst hyu
    refine ⟨_, rfl, wpAny_letOwnedTupleGo_enum (s := { s with heap := h', toks := tk + 1 }) ho fun h2 he2 sb => ?_⟩
    have hT2 : h2.get? s.heap.objs.size = some { cls := .type "tuple", data := .seq #[.int i tk, y] } := (sb.2 _ (Nat.ne_of_gt le)).trans hT
    have new : ObjOk X.prog X.w (upd H s.heap.objs.size (.tup [.int (i : Nat), x])) h2 s.heap.objs.size (.tup [.int (i : Nat), x]) := ⟨by show 2 ≤ sizeLine; decide, [.int i tk, y], .cons ⟨_, rfl⟩ (.cons ru .nil), ⟨_, hT2, rfl, _, rfl⟩⟩
    have I1 : Inv X pins σ (upd H s.heap.objs.size (.tup [.int (i : Nat), x])) { s with heap := h2, toks := tk + 1 } :=
      I.turnedNew (ch := [e, it]) (fun b ob hb q => (sb.2 b (fun z => hb (by simp [z]))).trans (hk b ob (fun z => hb (by simp [z])) (fun z => hb (by simp [z])) q)) hf (Nat.le_refl _) new
    refine ⟨.ref s.heap.objs.size, _, I1, rfl, ⟨_, x, rfl, I.hok.fresh (Nat.le_refl _), rfl, fun ys hy => by rw [I.tuple_inj hy hq]; exact hx⟩, ⟨⟨y, ?_⟩, hst.1.at fun o q => (sb.2 it (Ne.symm hne)).trans q⟩, fun b hb => ?_⟩
    · rw [show ((i + 1 : Nat) : Int) = (i : Int) + 1 by omega]
      exact he2
    · have lb : b < s.heap.objs.size := by
        rcases List.mem_cons.mp hb with z | z
        · rw [z]; exact le
        · rw [List.mem_singleton.mp z]; exact li
      rw [upd_ne (Nat.ne_of_lt lb)]
      exact (hf b hb).1
  done := by
    intro X hP hw hK hc i pins s σ H E I hf st hg
    subst hP hw hK
    obtain ⟨⟨old, he⟩, hit⟩ := st
    obtain ⟨xs, hq, hx⟩ := hg
    obtain ⟨its, rv, p, hz⟩ := I.tuple hq
    obtain ⟨f0, f1, f2, f3, f4, f5⟩ := hf it (by simp)
    have hl := rv.length
    have none_ : its.toArray[i]? = none := by simp; omega
    have D : Draws X.prog X.w X.A.in1 it [it, a] 0 (fun _ _ => False) (fun _ h => h.IsTupleIter it a i ∧ h.IsTuple a its.toArray) := ⟨fun _ _ st => let ⟨o, ho, _⟩ := st.1; ⟨o, ho⟩, fun _ _ _ st k => ⟨st.1.at fun o q => k it (by simp) o q, st.2.at fun o q => k a (by simp) o q⟩, fun _ _ _ _ z => absurd z (Nat.not_lt_zero _), fun s Q E st hE => wpAny_nextOf_tuple_end (I.ok.hd hc) st.1 st.2 none_ hE⟩
    exact wpAny_pyNext_enum_endD D he ⟨hit, p⟩ fun h' eb => ⟨rfl, I.turned (t' := s.toks) (fun b o hb q => eb b o hb q) f0 f1 f3 f4 f5⟩
  self := fun A i s Q E st h => let ⟨⟨_, he⟩, _⟩ := st; wpAny_pyIter_enum he h
def iEnumT (K : PySem.W.Frag) (ta : TA) : TI := fun σ H R => ta σ H fun vs H1 => ∃ a xs, vs = [.ref a] ∧ SqT K H1 a xs ∧ R (ItEt K a) H1
theorem pi_enumT {X : Cx} {e : Expr} {ta : TA} {p pos tpos : Pos} {elts : List Expr} {kk : Nat} (hg : Gl X "enumerate") (hm : X.mg "enumerate" = none) (ha : PA X [e] ta) (hs : starEach [e] X.env = [(false, eval e X.env)] := by rfl) : PI X (.Tuple elts kk tpos) (.Call (.Name "enumerate" p) [e] [] pos) (iEnumT X.K ta) := by
  refine ⟨fun pins s σ H R I h => Call_ (ld_blt I hg hm boot_enumerate (PyProof.Rows.callWith_type1 (thn (ha.run pos pins s σ H _ I h) fun us s1 ⟨vs, H1, I1, r1, q1⟩ => ?_) hs rfl))⟩
  obtain ⟨a, xs, ex, hq, q⟩ := q1
  subst ex
  obtain rfl := Vals.ref1 r1
  obtain ⟨its, rv, pt, hz⟩ := I1.tuple hq
  have la : a < s1.heap.objs.size := by obtain ⟨o, ho, _⟩ := pt; exact Heap.lt_size ho
  refine call_enum1 (begins_tuple a its.toArray) pt fun h' he hi hk => wpAny_pyIter_enum he ?_
  have I2 : Inv X pins σ H1 { s1 with heap := h' } := I1.kept (t' := s1.toks) hk
  refine ⟨s1.heap.objs.size + 1, [s1.heap.objs.size + 1, s1.heap.objs.size], _, _, H1, rfl, I2, turn_enumT a (s1.heap.objs.size + 1) s1.heap.objs.size (Nat.succ_ne_self _) (Nat.ne_of_lt la) (Nat.ne_of_lt (Nat.lt_succ_of_lt la)), ⟨⟨.none, he⟩, ⟨_, hi, rfl, rfl⟩⟩, fun b hb => ?_, q⟩
  have hle : s1.heap.objs.size ≤ b := by
    rcases List.mem_cons.mp hb with z | z
    · rw [z]; exact Nat.le_succ _
    · rw [List.mem_singleton.mp z]; exact Nat.le_refl _
  exact I1.fpOk hle (I1.hok.fresh hle)
section
variable {K : PySem.W.Frag} {σ : L2.St} {H : Hp}
theorem walk_enumT {a : Addr} {xs : List V} : Walk (ItEt K a) xs.length (fun H => SqT K H a xs) (YPair (fun i => some (.int (i : Nat))) (fun i => xs[i]?)) := by
  refine ⟨fun i _ hi q => ⟨xs, xs[i], q, by simp [hi]⟩, fun _ q => ⟨xs, q, Nat.le_refl _⟩, fun i H v H' _ q y => ?_⟩
  obtain ⟨t, x, y1, y2, y3, y4⟩ := y
  exact ⟨t, .int (i : Nat), x, y1, y2, y3, rfl, y4 xs q⟩
theorem src_enumT {a : Addr} {xs : List V} {tl : TE} (h : Ev tl σ H (.ref a)) (hs : SqT K H a xs) : Src (iEnumT K (tCons tl tNil)) σ H xs.length (fun b => b = a) (fun i v Hb => ∃ p x, v = .ref p ∧ xs[i]? = some x ∧ Hb p = some (.tup [.int (i : Nat), x])) := fun H1 e R q =>
  h H1 e _ fun H2 e2 => ⟨a, xs, rfl, ex_t (e.trans e2) hs, q _ H2 _ e2 (walk_enumT.mono (fun _ z => z) fun i Ha v Hb _ _ hy => by
    obtain ⟨p, y, x, rfl, hn, rfl, h1, h2⟩ := hy
    refine ⟨Ex.new hn, p, x, rfl, h2, ?_⟩
    rw [← Option.some.inj h1]
    exact upd_same) fun B Ha hB ea => ea.tp (fun z => (hB a z).2 rfl) (ex_t (e.trans e2) hs)⟩
theorem kiet {X : Cx} (K : PySem.W.Frag) {tg it : Expr} {ta : TA} (h : PI X tg it (iEnumT X.K ta)) (hK : X.K = K := by rfl) : PI X tg it (iEnumT K ta) := hK ▸ h
theorem kiza {X : Cx} (K : PySem.W.Frag) {tg it : Expr} {ta : TA} (h : PI X tg it (RZ.iZipA X.K ta)) (hK : X.K = K := by rfl) : PI X tg it (RZ.iZipA K ta) := hK ▸ h
theorem kfl {X : Cx} (K : PySem.W.Frag) {e : Expr} {ta : TE} {f : Str} (h : PE X e (tFld X.K ta f)) (hK : X.K = K := by rfl) : PE X e (tFld K ta f) := hK ▸ h
theorem walk_zipT {a b : Addr} {xs ys : List V} {n : Nat} (hn : n = min xs.length ys.length) : Walk (RZ.ItzT K a b) n (fun H => SqT K H a xs ∧ SqT K H b ys) (YPair (fun i => xs[i]?) (fun i => ys[i]?)) := by
  subst hn
  refine ⟨fun i _ hi q => ⟨xs, ys, xs[i]'(by omega), ys[i]'(by omega), q.1, q.2, by simp [show i < xs.length by omega], by simp [show i < ys.length by omega]⟩, fun _ q => ⟨xs, ys, q.1, q.2, by omega⟩, fun i H v H' _ q y => ?_⟩
  obtain ⟨t, x, z, y1, y2, y3, y4, y5⟩ := y
  exact ⟨t, x, z, y1, y2, y3, y4 xs q.1, y5 ys q.2⟩
theorem src_zipT {a : Addr} {xs ys : List V} {n : Nat} {tl tr : TE} (h : Ev tl σ H (.ref a)) (h2 : EvU tr σ H ys) (hs : SqT K H a xs) (hn : n = min xs.length ys.length) :
    Src (RZ.iZipA K (tCons tl (tCons tr tNil))) σ H n (fun c => c = a ∨ H c = none) (fun i v Hb => ∃ p x y, v = .ref p ∧ xs[i]? = some x ∧ ys[i]? = some y ∧ Hb p = some (.tup [x, y])) := fun H1 e R q =>
  h H1 e _ fun H2 e2 => h2 H2 (e.trans e2) _ fun b H3 hb e3 hb3 => ⟨a, b, xs, ys, rfl, .inr ⟨ex_t ((e.trans e2).trans e3) hs, st_of hb3, q _ H3 _ (e2.trans e3) ((walk_zipT hn).mono (fun _ z => z) fun i Ha v Hb _ _ hy => by
    obtain ⟨p, x, y, rfl, hf, rfl, h1, h2⟩ := hy
    exact ⟨Ex.new hf, p, x, y, rfl, h1, h2, upd_same⟩) fun B Ha hB ea => ⟨ea.tp (fun z => (hB a z).2 (.inl rfl)) (ex_t ((e.trans e2).trans e3) hs), ea.tp (fun z => (hB b z).2 (.inr (fresh_back (e.trans e2) hb))) (st_of hb3)⟩⟩⟩
end
end Wt
set_option Elab.async false
set_option linter.all false
set_option maxRecDepth 100000
set_option maxHeartbeats 2000000
namespace K16
open PySem PySem.Spec PyProof.Rows L2 Evl Wc
def topS (i : Nat) : Stmt := PySem.Challenge.pw_wordscut_k16_whole_cuts_of_rounds.main.body.getD i (.Pass ⟨0, 0, 0, 0⟩)
abbrev st_are_signs : Stmt := topS 10
abbrev st_is_text : Stmt := topS 11
abbrev st_need_some_text : Stmt := topS 12
abbrev st_is_word : Stmt := topS 13
abbrev st_is_ascending : Stmt := topS 14
abbrev st_is_lot_form : Stmt := topS 15
abbrev st_need_lot : Stmt := topS 16
abbrev st_need_round : Stmt := topS 21
abbrev st_round_cuts : Stmt := topS 22
abbrev st_count_round_cuts : Stmt := topS 23
abbrev st__law_feed : Stmt := topS 25
abbrev st__law_draw : Stmt := topS 26
abbrev st__law_one : Stmt := topS 27
abbrev st__law_mixed : Stmt := topS 28
abbrev st__law_text : Stmt := topS 29
abbrev st__law_kept : Stmt := topS 30
abbrev st__law_split : Stmt := topS 31
abbrev st__law_joined : Stmt := topS 32
abbrev st__law_made : Stmt := topS 33
abbrev st__law_code : Stmt := topS 34
abbrev st__law_lot : Stmt := topS 35
abbrev st__law_put : Stmt := topS 36
abbrev st__law_near_text : Stmt := topS 37
abbrev st__law_so : Stmt := topS 38
abbrev st__law_is : Stmt := topS 39
abbrev st__law_list : Stmt := topS 40
abbrev st__law_rooms : Stmt := topS 41
abbrev st__law_doors : Stmt := topS 42
abbrev st__law_ahead : Stmt := topS 43
abbrev st__law_round_text : Stmt := topS 44
abbrev st__law_number : Stmt := topS 45
abbrev st__law_fits : Stmt := topS 46
abbrev st__law_tried : Stmt := topS 47
abbrev st__law_told : Stmt := topS 48
abbrev st__law_same : Stmt := topS 49
abbrev st__law_right : Stmt := topS 50
abbrev st_law : Stmt := topS 51
abbrev st_Round_init : Stmt := inClass (topS 18) 0
abbrev st_Round_turned : Stmt := inClass (topS 18) 1
abbrev st_Round_counts_from : Stmt := inClass (topS 18) 2
abbrev st_Round_count_behind : Stmt := inClass (topS 18) 3
abbrev st_Round_number : Stmt := inClass (topS 18) 4
abbrev st_Round_cut_from : Stmt := inClass (topS 18) 5
abbrev st_Round_cuts : Stmt := inClass (topS 18) 6
/-- what the top has left of names that are no defs -/
structure Md (K : PySem.W.Frag) (mg : Str → Option Value) : Prop where
  n_ValueError : mg "ValueError" = none
  n_all : mg "all" = none
  n_bool : mg "bool" = none
  n_enumerate : mg "enumerate" = none
  n_int : mg "int" = none
  n_isinstance : mg "isinstance" = none
  n_len : mg "len" = none
  n_list : mg "list" = none
  n_max : mg "max" = none
  n_min : mg "min" = none
  n_range : mg "range" = none
  n_reversed : mg "reversed" = none
  n_set : mg "set" = none
  n_sorted : mg "sorted" = none
  n_str : mg "str" = none
  n_sum : mg "sum" = none
  n_tuple : mg "tuple" = none
  n_zip : mg "zip" = none
  c_SIGNS : ∃ t, mg "SIGNS" = some (.str (Str.ofString "abcd") t)
  c_MOST_SIGNS : ∃ t, mg "MOST_SIGNS" = some (.int 400 t)
  c_MOST_LETTERS : ∃ t, mg "MOST_LETTERS" = some (.int 12 t)
  c_MOST_WORDS : ∃ t, mg "MOST_WORDS" = some (.int 12 t)
  c_MOST_TOLD : ∃ t, mg "MOST_TOLD" = some (.int 300 t)
abbrev N_are_signs : List Str := ["thing", "most", "sign"]
theorem sc_are_signs : FnScope N_are_signs ["thing", "most"] (defScope st_are_signs) := ⟨rfl, rfl, rfl, by decide +kernel, rfl, by decide +kernel, by decide +kernel⟩
abbrev N_is_text : List Str := ["thing"]
theorem sc_is_text : FnScope N_is_text ["thing"] (defScope st_is_text) := ⟨rfl, rfl, rfl, by decide +kernel, rfl, by decide +kernel, by decide +kernel⟩
abbrev N_need_some_text : List Str := ["text"]
theorem sc_need_some_text : FnScope N_need_some_text ["text"] (defScope st_need_some_text) := ⟨rfl, rfl, rfl, by decide +kernel, rfl, by decide +kernel, by decide +kernel⟩
abbrev N_is_word : List Str := ["thing"]
theorem sc_is_word : FnScope N_is_word ["thing"] (defScope st_is_word) := ⟨rfl, rfl, rfl, by decide +kernel, rfl, by decide +kernel, by decide +kernel⟩
abbrev N_is_ascending : List Str := ["things", "one", "other"]
theorem sc_is_ascending : FnScope N_is_ascending ["things"] (defScope st_is_ascending) := ⟨rfl, rfl, rfl, by decide +kernel, rfl, by decide +kernel, by decide +kernel⟩
abbrev N_is_lot_form : List Str := ["thing", "word"]
theorem sc_is_lot_form : FnScope N_is_lot_form ["thing"] (defScope st_is_lot_form) := ⟨rfl, rfl, rfl, by decide +kernel, rfl, by decide +kernel, by decide +kernel⟩
abbrev N_need_lot : List Str := ["lot"]
theorem sc_need_lot : FnScope N_need_lot ["lot"] (defScope st_need_lot) := ⟨rfl, rfl, rfl, by decide +kernel, rfl, by decide +kernel, by decide +kernel⟩
abbrev N_need_round : List Str := ["lot", "text"]
theorem sc_need_round : FnScope N_need_round ["lot", "text"] (defScope st_need_round) := ⟨rfl, rfl, rfl, by decide +kernel, rfl, by decide +kernel, by decide +kernel⟩
abbrev N_round_cuts : List Str := ["lot", "text", "told"]
theorem sc_round_cuts : FnScope N_round_cuts ["lot", "text"] (defScope st_round_cuts) := ⟨rfl, rfl, rfl, by decide +kernel, rfl, by decide +kernel, by decide +kernel⟩
abbrev N_count_round_cuts : List Str := ["lot", "text"]
theorem sc_count_round_cuts : FnScope N_count_round_cuts ["lot", "text"] (defScope st_count_round_cuts) := ⟨rfl, rfl, rfl, by decide +kernel, rfl, by decide +kernel, by decide +kernel⟩
abbrev N__law_feed : List Str := ["script", "k", "cell"]
theorem sc__law_feed : FnScope N__law_feed ["script", "k"] (defScope st__law_feed) := ⟨rfl, rfl, rfl, by decide +kernel, rfl, by decide +kernel, by decide +kernel⟩
abbrev N__law_draw : List Str := ["feed", "many", "rest", "got", "stir"]
theorem sc__law_draw : FnScope N__law_draw ["feed", "many"] (defScope st__law_draw) := ⟨rfl, rfl, rfl, by decide +kernel, rfl, by decide +kernel, by decide +kernel⟩
abbrev N__law_one : List Str := ["feed", "things"]
theorem sc__law_one : FnScope N__law_one ["feed", "things"] (defScope st__law_one) := ⟨rfl, rfl, rfl, by decide +kernel, rfl, by decide +kernel, by decide +kernel⟩
abbrev N__law_mixed : List Str := ["feed", "things", "pool", "got", "turn"]
theorem sc__law_mixed : FnScope N__law_mixed ["feed", "things"] (defScope st__law_mixed) := ⟨rfl, rfl, rfl, by decide +kernel, rfl, by decide +kernel, by decide +kernel⟩
abbrev N__law_text : List Str := ["feed", "signs", "most", "turn"]
theorem sc__law_text : FnScope N__law_text ["feed", "signs", "most"] (defScope st__law_text) := ⟨rfl, rfl, rfl, by decide +kernel, rfl, by decide +kernel, by decide +kernel⟩
abbrev N__law_kept : List Str := ["feed", "words", "most", "good", "word", "some"]
theorem sc__law_kept : FnScope N__law_kept ["feed", "words", "most"] (defScope st__law_kept) := ⟨rfl, rfl, rfl, by decide +kernel, rfl, by decide +kernel, by decide +kernel⟩
abbrev N__law_split : List Str := ["feed", "signs", "turns", "words", "turn", "at", "sign"]
theorem sc__law_split : FnScope N__law_split ["feed", "signs", "turns"] (defScope st__law_split) := ⟨rfl, rfl, rfl, by decide +kernel, rfl, by decide +kernel, by decide +kernel⟩
abbrev N__law_joined : List Str := ["feed", "words", "turns", "turn", "one", "other", "way", "word"]
theorem sc__law_joined : FnScope N__law_joined ["feed", "words", "turns"] (defScope st__law_joined) := ⟨rfl, rfl, rfl, by decide +kernel, rfl, by decide +kernel, by decide +kernel⟩
abbrev N__law_made : List Str := ["feed", "code", "words", "made", "word", "sign"]
theorem sc__law_made : FnScope N__law_made ["feed", "code", "words"] (defScope st__law_made) := ⟨rfl, rfl, rfl, by decide +kernel, rfl, by decide +kernel, by decide +kernel⟩
abbrev N__law_code : List Str := ["feed", "some"]
theorem sc__law_code : FnScope N__law_code ["feed"] (defScope st__law_code) := ⟨rfl, rfl, rfl, by decide +kernel, rfl, by decide +kernel, by decide +kernel⟩
abbrev N__law_lot : List Str := ["feed", "most", "signs", "way", "long", "turn", "word", "root", "ends", "words", "place"]
theorem sc__law_lot : FnScope N__law_lot ["feed", "most"] (defScope st__law_lot) := ⟨rfl, rfl, rfl, by decide +kernel, rfl, by decide +kernel, by decide +kernel⟩
abbrev N__law_put : List Str := ["feed", "lot", "most", "turn"]
theorem sc__law_put : FnScope N__law_put ["feed", "lot", "most"] (defScope st__law_put) := ⟨rfl, rfl, rfl, by decide +kernel, rfl, by decide +kernel, by decide +kernel⟩
abbrev N__law_near_text : List Str := ["feed", "lot", "most", "text", "way", "at", "sign", "near"]
theorem sc__law_near_text : FnScope N__law_near_text ["feed", "lot", "most"] (defScope st__law_near_text) := ⟨rfl, rfl, rfl, by decide +kernel, rfl, by decide +kernel, by decide +kernel⟩
abbrev N__law_so : List Str := ["actual", "due"]
theorem sc__law_so : FnScope N__law_so ["actual", "due"] (defScope st__law_so) := ⟨rfl, rfl, rfl, by decide +kernel, rfl, by decide +kernel, by decide +kernel⟩
abbrev N__law_is : List Str := ["actual", "due"]
theorem sc__law_is : FnScope N__law_is ["actual", "due"] (defScope st__law_is) := ⟨rfl, rfl, rfl, by decide +kernel, rfl, by decide +kernel, by decide +kernel⟩
abbrev N__law_list : List Str := ["actual", "due", "part"]
theorem sc__law_list : FnScope N__law_list ["actual", "due"] (defScope st__law_list) := ⟨rfl, rfl, rfl, by decide +kernel, rfl, by decide +kernel, by decide +kernel⟩
abbrev N__law_rooms : List Str := ["lot", "found", "index", "word", "place"]
theorem sc__law_rooms : FnScope N__law_rooms ["lot"] (defScope st__law_rooms) := ⟨rfl, rfl, rfl, by decide +kernel, rfl, by decide +kernel, by decide +kernel⟩
abbrev N__law_doors : List Str := ["lot", "room", "sign", "found", "index", "place"]
theorem sc__law_doors : FnScope N__law_doors ["lot", "room", "sign"] (defScope st__law_doors) := ⟨rfl, rfl, rfl, by decide +kernel, rfl, by decide +kernel, by decide +kernel⟩
abbrev N__law_ahead : List Str := ["lot", "text", "ahead", "end", "word", "begin"]
theorem sc__law_ahead : FnScope N__law_ahead ["lot", "text"] (defScope st__law_ahead) := ⟨rfl, rfl, rfl, by decide +kernel, rfl, by decide +kernel, by decide +kernel⟩
abbrev N__law_round_text : List Str := ["feed", "lot", "text", "way", "at"]
theorem sc__law_round_text : FnScope N__law_round_text ["feed", "lot"] (defScope st__law_round_text) := ⟨rfl, rfl, rfl, by decide +kernel, rfl, by decide +kernel, by decide +kernel⟩
abbrev N__law_number : List Str := ["lot", "text", "found", "room", "here", "sign", "later", "one", "many", "to"]
theorem sc__law_number : FnScope N__law_number ["lot", "text"] (defScope st__law_number) := ⟨rfl, rfl, rfl, by decide +kernel, rfl, by decide +kernel, by decide +kernel⟩
abbrev N__law_fits : List Str := ["lot", "turned", "place", "whole", "fits", "spot", "word"]
theorem sc__law_fits : FnScope N__law_fits ["lot", "turned", "place"] (defScope st__law_fits) := ⟨rfl, rfl, rfl, by decide +kernel, rfl, by decide +kernel, by decide +kernel⟩
abbrev N__law_tried : List Str := ["lot", "text", "found", "place", "turned", "fits", "work", "turn", "cut", "spot", "index", "word"]
theorem sc__law_tried : FnScope N__law_tried ["lot", "text"] (defScope st__law_tried) := ⟨rfl, rfl, rfl, by decide +kernel, rfl, by decide +kernel, by decide +kernel⟩
abbrev N__law_told : List Str := ["lot", "text", "found", "error"]
theorem sc__law_told : FnScope N__law_told ["lot", "text"] (defScope st__law_told) := ⟨rfl, rfl, rfl, by decide +kernel, rfl, by decide +kernel, by decide +kernel⟩
abbrev N__law_same : List Str := ["actual", "due", "one", "other"]
theorem sc__law_same : FnScope N__law_same ["actual", "due"] (defScope st__law_same) := ⟨rfl, rfl, rfl, by decide +kernel, rfl, by decide +kernel, by decide +kernel⟩
abbrev N__law_right : List Str := ["feed", "lot", "text", "turn", "total", "at", "found", "due"]
theorem sc__law_right : FnScope N__law_right ["feed"] (defScope st__law_right) := ⟨rfl, rfl, rfl, by decide +kernel, rfl, by decide +kernel, by decide +kernel⟩
abbrev N_law : List Str := ["script", "k"]
theorem sc_law : FnScope N_law ["script"] (defScope st_law) := ⟨rfl, rfl, rfl, by decide +kernel, rfl, by decide +kernel, by decide +kernel⟩
abbrev N_Round_init : List Str := ["self", "lot", "text"]
theorem sc_Round_init : FnScope N_Round_init ["self", "lot", "text"] (defScope st_Round_init) := ⟨rfl, rfl, rfl, by decide +kernel, rfl, by decide +kernel, by decide +kernel⟩
abbrev N_Round_turned : List Str := ["self", "place"]
theorem sc_Round_turned : FnScope N_Round_turned ["self", "place"] (defScope st_Round_turned) := ⟨rfl, rfl, rfl, by decide +kernel, rfl, by decide +kernel, by decide +kernel⟩
abbrev N_Round_counts_from : List Str := ["self", "place", "whole", "text", "counts", "spot", "word"]
theorem sc_Round_counts_from : FnScope N_Round_counts_from ["self", "place"] (defScope st_Round_counts_from) := ⟨rfl, rfl, rfl, by decide +kernel, rfl, by decide +kernel, by decide +kernel⟩
abbrev N_Round_count_behind : List Str := ["self", "counts", "text", "spot", "word", "end"]
theorem sc_Round_count_behind : FnScope N_Round_count_behind ["self", "counts", "text", "spot", "word"] (defScope st_Round_count_behind) := ⟨rfl, rfl, rfl, by decide +kernel, rfl, by decide +kernel, by decide +kernel⟩
abbrev N_Round_number : List Str := ["self", "place"]
theorem sc_Round_number : FnScope N_Round_number ["self"] (defScope st_Round_number) := ⟨rfl, rfl, rfl, by decide +kernel, rfl, by decide +kernel, by decide +kernel⟩
abbrev N_Round_cut_from : List Str := ["self", "place", "counts", "number", "found", "spot", "text", "index", "word", "many"]
theorem sc_Round_cut_from : FnScope N_Round_cut_from ["self", "place", "counts", "number"] (defScope st_Round_cut_from) := ⟨rfl, rfl, rfl, by decide +kernel, rfl, by decide +kernel, by decide +kernel⟩
abbrev N_Round_cuts : List Str := ["self", "found", "place", "counts", "number"]
theorem sc_Round_cuts : FnScope N_Round_cuts ["self"] (defScope st_Round_cuts) := ⟨rfl, rfl, rfl, by decide +kernel, rfl, by decide +kernel, by decide +kernel⟩
end K16
set_option Elab.async false
set_option linter.all false
set_option maxRecDepth 100000
set_option maxHeartbeats 2000000
set_option exponentiation.threshold 5000
namespace K16
open PySem PySem.Spec PyProof.Rows L2 Evl Wc
section
variable {P : Program} {w : World} {K : PySem.W.Frag} {mg : Str → Option Value} {base : Heap}
theorem ok__law_draw {f : Addr} {fd : FuncData} (F : Fun K "_law_draw" "_law_draw" st__law_draw f fd) (M : Md K mg) : FnOk P w K mg base CX0 1 f fd ["feed", "many"] sp_draw := by
  have nd := sc__law_draw.nd
  refine F.ok sc__law_draw (fun vs H Q E h => ?_) (fun cdv A outer s H vs Q E hr h => ?_)
  · obtain ⟨_, _, rfl, _⟩ := h
    rfl
  · obtain ⟨fa, many, rfl, ⟨n0, hn0, a, b, c, e, hfa, ha0, he1, he2, hae, hb0, hb1, hc0, hc1⟩, hm0, hm1, k⟩ := h
    refine ⟨_, (pss_cons (ps_if (pt_cmpR op_gt (pe_ix (kix K (r := L2.rIxL) ix_list) (pv 0) pe_int (fun _ _ => rfl)) pe_int (nomark _))
  (pss_cons (ps_set (i := 2) nd rfl (Or.inl rfl) (pe_op op_fdivW (pe_ix (kix K (r := L2.rIxL) ix_list) (pv 0) pe_int (fun _ _ => rfl)) (pv 1)))
  (pss_cons (ps_set (i := 3) nd rfl (Or.inl rfl) (pe_op op_sub (pe_ix (kix K (r := L2.rIxL) ix_list) (pv 0) pe_int (fun _ _ => rfl)) (pe_op op_mulB (pv 2) (pv 1))))
  (pss_cons (ps_asg (pv 2) (pg_sub (pv 0) pe_int set_list))
  (pss_one (ps_ret (pv 3))))))
  pss_nil)
  (pss_cons (ps_asg (pe_op op_add (pe_ix (kix K (r := L2.rIxL) ix_list) (pv 0) pe_int (fun _ _ => rfl)) pe_int) (pg_sub (pv 0) pe_int set_list))
  (pss_cons (ps_set (i := 4) nd rfl (Or.inl rfl) (pe_op op_add (pe_ix (kix K (r := L2.rIxL) ix_list) (pv 0) pe_int (fun _ _ => rfl)) (pe_op op_mulB pe_int (pe_ix (kix K (r := L2.rIxL) ix_list) (pv 0) pe_int (fun _ _ => rfl)))))
  (pss_cons (ps_set (i := 4) nd rfl (Or.inl rfl) (pe_op op_modP (pe_callTy call_int1 (by rfl) M.n_int boot_int (pa_cons (pe_op op_add (pe_op op_mulB (pe_op op_mulB (pv 4) (pv 4)) (pv 4)) (pe_op op_mulB pe_int (pe_ix (kix K (r := L2.rIxL) ix_list) (pv 0) pe_int (fun _ _ => rfl)))) pa_nil)) (pe_op op_add (pe_op op_pow pe_int pe_int) pe_int)))
  (pss_cons (ps_set (i := 4) nd rfl (Or.inl rfl) (pe_op op_modP (pe_callTy call_int1 (by rfl) M.n_int boot_int (pa_cons (pe_op op_add (pe_op op_mulB (pv 4) (pv 4)) pe_int) pa_nil)) (pe_op op_add (pe_op op_pow pe_int pe_int) pe_int)))
  (pss_one (ps_ret (pe_op op_modP (pe_callTy call_int1 (by rfl) M.n_int boot_int (pa_cons (pe_op op_fdivW (pv 4) (pe_op op_pow pe_int pe_int)) pa_nil)) (pv 1))))))))), ?_⟩
    have hcap : (n0 : Int) + 1 ≤ 1000000000000000000 := by
      have : n0 + 1 ≤ 1000000000000000000 := hn0
      omega
    have hmany : many.natAbs < 2 ^ 300 := Nat.lt_of_le_of_lt (show many.natAbs ≤ 10 ^ 61 by omega) (by decide)
    have hdm : CDivW a many := wide_div (b := 300) hm0 hmany (by decide) (by decide)
    have ge0 : ∀ H1, Ex H H1 → Ev (tOp (L2.rIxL K) (tVar 0) (tC (.int 0))) (start N__law_draw [.ref fa, .int many]) H1 (.int a) := fun H1 e1 => ev_op (ev_var rfl) ev_c (rv_ixL (sq_of (e1 _ _ hfa)) rfl)
    refine q_when (et_test (ev_op (ge0 H (Ex.refl _)) ev_c rv_I0)) (fun h1 H1 e1 => ?_) (fun h1 H1 e1 => ?_)
    · have hap : 0 < a := of_decide_eq_true h1
      refine q_asg (ev_op (ev_op (ev_var rfl) ev_c (rv_ixL (sq_of (e1 _ _ hfa)) rfl)) (ev_var rfl) (rv_I hdm)) fun H2 e2 => ?_
      have hr0 : 0 ≤ a / many := Int.ediv_nonneg ha0 (by omega)
      have hr1 : a / many ≤ a := Int.ediv_le_self _ ha0
      have hrn : (a / many).natAbs < 2 ^ e := Nat.lt_of_le_of_lt (by omega) hae
      have hg : a - a / many * many = a % many := by
        rw [Int.emod_def, Int.mul_comm]
      have hg0 : 0 ≤ a % many := Int.emod_nonneg _ (by omega)
      have hg1 : a % many < many := Int.emod_lt_of_pos _ hm0
      refine q_asg (v := .int (((a % many).toNat : Nat) : Int)) (ev_is (ev_op (ev_op (ev_var rfl) ev_c (rv_ixL (sq_of (e2 _ _ (e1 _ _ hfa))) rfl)) (ev_op (ev_var rfl) (ev_var rfl) (rv_I (mulB hrn hmany (by omega) (by decide) (by omega)))) rv_I0) (by rw [hg]; congr 1; omega)) fun H3 e3 => ?_
      have hf3 := e3 _ _ (e2 _ _ (e1 _ _ hfa))
      refine q_setL (j := 0) hf3 (ev_var rfl) (ev_var rfl) ev_c (by show 0 < 3; decide) fun H4 e4 => ?_
      refine s_ret (ev_var rfl) fun H5 e5 => k (a % many).toNat H5 (by omega) ⟨?_, fun n hn hF => ?_⟩
      · exact Exc.then (Exc.upd (B := fun c => c = fa) (Exc.of (((e1.trans e2).trans e3).trans e4)) (.inl rfl)) e5
      · obtain ⟨a', b', c', e', g1, g2, g3, g4, g5, g6, g7, g8, g9⟩ := hF
        rw [hfa] at g1
        injection g1 with g1
        injection g1 with g1
        injection g1 with x1 g1
        injection g1 with x2 g1
        injection g1 with x3 g1
        injection x1 with x1
        injection x2 with x2
        injection x3 with x3
        subst x1 x2 x3
        exact ⟨a / many, b, c, e, e5 _ _ upd_same, hr0, he1, he2, hrn, hb0, hb1, hc0, by omega⟩
    · have ha : a = 0 := by
        have := of_decide_eq_false h1
        omega
      subst ha
      -- feed[2] = feed[2] + 1
      refine q_setL (j := 2) (e1 _ _ hfa) (ev_op (ev_op (ev_var rfl) ev_c (rv_ixL (sq_of (e1 _ _ hfa)) rfl)) ev_c rv_I0) (ev_var rfl) ev_c (by show 2 < 3; decide) fun H2 e2 => ?_
      have hf2 : (upd H2 fa (.lst ([V.int 0, V.int b, V.int c].set 2 (V.int (c + 1))))) fa = some (.lst [.int 0, .int b, .int (c + 1)]) := upd_same
      generalize hH3 : upd H2 fa (.lst ([V.int 0, V.int b, V.int c].set 2 (V.int (c + 1)))) = H3 at hf2 ⊢
      have g1 : ∀ H4, Ex H3 H4 → ∀ σ : L2.St, σ[0]? = some (some (.ref fa)) → Ev (tOp (L2.rIxL K) (tVar 0) (tC (.int 1))) σ H4 (.int b) := fun H4 e4 σ h0 => ev_op (ev_var h0) ev_c (rv_ixL (sq_of (e4 _ _ hf2)) rfl)
      have g2 : ∀ H4, Ex H3 H4 → ∀ σ : L2.St, σ[0]? = some (some (.ref fa)) → Ev (tOp (L2.rIxL K) (tVar 0) (tC (.int 2))) σ H4 (.int (c + 1)) := fun H4 e4 σ h0 => ev_op (ev_var h0) ev_c (rv_ixL (sq_of (e4 _ _ hf2)) rfl)
      have lit : ∀ {i : Int} {k : Nat}, 0 ≤ i → i ≤ k → k < 2 ^ 600 → i.natAbs < 2 ^ 600 := fun h1 h2 h3 => Nat.lt_of_le_of_lt (by omega) h3
      -- stir = feed[1] + 6700417 * feed[2]
      have hc9 : (c + 1).natAbs < 2 ^ 600 := lit (k := 1000000000000000000) (by omega) (by omega) (by decide)
      refine q_asg (ev_op (g1 _ (Ex.refl _) _ rfl) (ev_op ev_c (g2 _ (Ex.refl _) _ rfl) (rv_I (mulB (a := 600) (b := 600) (by decide) hc9 (by decide) (by decide) (by decide)))) rv_I0) fun H4 e4 => ?_
      have hs0 : 0 ≤ b + 6700417 * (c + 1) := by omega
      have hs1 : b + 6700417 * (c + 1) ≤ 10 ^ 41 := by omega
      generalize b + 6700417 * (c + 1) = x at hs0 hs1 ⊢
      have hx : x.natAbs < 2 ^ 600 := lit (k := 10 ^ 41) hs0 hs1 (by decide)
      have hxx : (x * x).natAbs < 2 ^ 1200 := wide_lt hx hx
      -- stir = int(stir * stir * stir + 15485863 * feed[2]) % (10 ** 43 + 57)
      refine q_asg (ev_op (ev_cb (ea_cons (ev_op (ev_op (ev_op (ev_var rfl) (ev_var rfl) (rv_I (mulB hx hx (by decide) (by decide) (by decide)))) (ev_var rfl) (rv_I (mulB hxx hx (by decide) (by decide) (by decide)))) (ev_op ev_c (g2 _ e4 _ rfl) (rv_I (mulB (a := 600) (b := 600) (by decide) hc9 (by decide) (by decide) (by decide)))) rv_I0) ea_nil) rc_int)
        (ev_op (ev_op ev_c ev_c (rv_I ⟨by decide, by decide, by decide⟩)) ev_c rv_I0) (rv_I (by decide))) fun H5 e5 => ?_
      have hy0 : 0 ≤ (x * x * x + 15485863 * (c + 1)) % ((10 : Int) ^ (43 : Int).toNat + 57) := Int.emod_nonneg _ (by decide)
      have hy1 : (x * x * x + 15485863 * (c + 1)) % ((10 : Int) ^ (43 : Int).toNat + 57) < (10 : Int) ^ 43 + 57 := Int.emod_lt_of_pos _ (by decide)
      generalize (x * x * x + 15485863 * (c + 1)) % ((10 : Int) ^ (43 : Int).toNat + 57) = y at hy0 hy1 ⊢
      have hy : y.natAbs < 2 ^ 600 := lit (k := 10 ^ 44) hy0 (by omega) (by decide)
      refine q_asg (ev_op (ev_cb (ea_cons (ev_op (ev_op (ev_var rfl) (ev_var rfl) (rv_I (mulB hy hy (by decide) (by decide) (by decide)))) ev_c rv_I0) ea_nil) rc_int) (ev_op (ev_op ev_c ev_c (rv_I ⟨by decide, by decide, by decide⟩)) ev_c rv_I0) (rv_I (by decide))) fun H6 e6 => ?_
      have hz0 : 0 ≤ (y * y + 32452843) % ((10 : Int) ^ (38 : Int).toNat + 133) := Int.emod_nonneg _ (by decide)
      generalize (y * y + 32452843) % ((10 : Int) ^ (38 : Int).toNat + 133) = z at hz0 ⊢
      have hq0 : 0 ≤ (z / (10 : Int) ^ (9 : Int).toNat) % many := Int.emod_nonneg _ (by omega)
      have hq1 : (z / (10 : Int) ^ (9 : Int).toNat) % many < many := Int.emod_lt_of_pos _ hm0
      refine s_ret (v := .int ((((z / (10 : Int) ^ (9 : Int).toNat) % many).toNat : Nat) : Int)) (ev_is (ev_op (ev_cb (ea_cons (ev_op (ev_var rfl) (ev_op ev_c ev_c (rv_I ⟨by decide, by decide, by decide⟩)) (rv_I (divW (by decide) (by decide)))) ea_nil) rc_int) (ev_var rfl) (rv_I hm0)) (by congr 1; omega)) fun H7 e7 => k _ H7 (by omega) ⟨?_, fun n hn hF => ?_⟩
      · have : Exc (fun c => c = fa) H H3 := by
          rw [← hH3]
          exact (Exc.of (e1.trans e2)).upd (.inl rfl)
        exact this.then (((e4.trans e5).trans e6).trans e7)
      · obtain ⟨a', b', c', e', g1, g2, g3, g4, g5, g6, g7, g8, g9⟩ := hF
        rw [hfa] at g1
        injection g1 with g1
        injection g1 with g1
        injection g1 with x1 g1
        injection g1 with x2 g1
        injection g1 with x3 g1
        injection x2 with x2
        injection x3 with x3
        subst x2 x3
        exact ⟨0, b, c + 1, 1, (((e4.trans e5).trans e6).trans e7) _ _ hf2, Int.le_refl _, Nat.le_refl _, by decide, by decide, hb0, hb1, by omega, by omega⟩
theorem ok__law_one {f : Addr} {fd : FuncData} (F : Fun K "_law_one" "_law_one" st__law_one f fd) (M : Md K mg) (C__law_draw : Cal P w K mg base "_law_draw" st__law_draw 1 ["feed", "many"] sp_draw) : FnOk P w K mg base CX0 2 f fd ["feed", "things"] (sp_one K) := by
  have nd := sc__law_one.nd
  refine F.ok sc__law_one (fun vs H Q E h => ?_) (fun cdv A outer s H vs Q E hr h => ?_)
  · obtain ⟨_, _, ⟨_, rfl, _⟩ | ⟨_, _, rfl, _⟩⟩ := h <;> rfl
  · obtain ⟨fa, G, h⟩ := h
    rcases h with ⟨s, rfl, hs, hl, k⟩ | ⟨p, xs, rfl, hS, hp, hx, hl, k⟩
    · refine ⟨_, (pss_one (ps_ret (pe_ix (kix K (r := rIxAny) ix_any) (pv 1) (pe_cl C__law_draw hr (pa_cons (pv 0) (pa_cons (pe_callB (kcr K (r := rLenAny) cr_lenAny) (by rfl) M.n_len boot_len (pa_cons (pv 1) pa_nil)) pa_nil))) (fun _ _ => rfl)))), ?_⟩
      have hpos : 0 < s.length := List.length_pos_iff.mpr hs
      refine ⟨T s, rfl, .ref fa, rfl, T s, rfl, .inl ⟨s, rfl, hl, fa, (s.length : Int), rfl, G, by omega, by omega, fun d H1 hd R => ?_⟩⟩
      obtain ⟨c, hc, hm⟩ := atI_mem (xs := s) (d := d) (by omega)
      exact .inr ⟨s, d, c, rfl, rfl, hl, hc, k c H1 hm R⟩
    · refine ⟨_, (pss_one (ps_ret (pe_ix (kix K (r := rIxAny) ix_any) (pv 1) (pe_cl C__law_draw hr (pa_cons (pv 0) (pa_cons (pe_callB (kcr K (r := rLenAny) cr_lenAny) (by rfl) M.n_len boot_len (pa_cons (pv 1) pa_nil)) pa_nil))) (fun _ _ => rfl)))), ?_⟩
      have hpos : 0 < xs.length := List.length_pos_iff.mpr hx
      refine ⟨.ref p, rfl, .ref fa, rfl, .ref p, rfl, .inr ⟨p, xs, rfl, hS, fa, (xs.length : Int), rfl, G, by omega, by omega, fun d H1 hd R => ?_⟩⟩
      obtain ⟨v, hv, hm⟩ := atI_mem (xs := xs) (d := d) (by omega)
      rcases hS with hS | hS
      · exact .inl (.inl ⟨p, xs, d, v, rfl, rfl, R.l hp hS, hv, k v H1 hm R⟩)
      · exact .inl (.inr ⟨p, xs, d, v, rfl, rfl, R.t hp hS, hv, k v H1 hm R⟩)
theorem sum_le {ts : List Tx} {m : Nat} (h : ∀ t ∈ ts, t.length ≤ m) : (ts.map List.length).sum ≤ ts.length * m := by
  induction ts with
  | nil => simp
  | cons t ts ih =>
    have h1 := h t List.mem_cons_self
    have h2 := ih fun x hx => h x (List.mem_cons_of_mem _ hx)
    simp only [List.map_cons, List.sum_cons, List.length_cons, Nat.succ_mul]
    omega
theorem flat_len {ts : List Tx} : ts.flatten.length = (ts.map List.length).sum := by
  simp [List.length_flatten]
theorem ok__law_text {f : Addr} {fd : FuncData} (F : Fun K "_law_text" "_law_text" st__law_text f fd) (M : Md K mg) (C__law_draw : Cal P w K mg base "_law_draw" st__law_draw 1 ["feed", "many"] sp_draw) (C__law_one : Cal P w K mg base "_law_one" st__law_one 2 ["feed", "things"] (sp_one K)) : FnOk P w K mg base CX0 3 f fd ["feed", "signs", "most"] sp_text := by
  have nd := sc__law_text.nd
  refine F.ok sc__law_text (fun vs H Q E h => ?_) (fun cdv A outer s H vs Q E hr h => ?_)
  · obtain ⟨_, _, _, rfl, _⟩ := h
    rfl
  · obtain ⟨fa, s, most, rfl, G, hm, hs, hl, k⟩ := h
    refine ⟨_, (pss_one (ps_ret (kbm K (pe_bm PySem.F.plainAttrs_str PySem.F.slot_str_join PySem.F.type_str_join (kmt K (r := rJoinT) mt_joinT) (pe_sT []) (pa_cons (pe_lc (own := [("turn", 3)]) rfl nd (pi_range1 (by rfl) M.n_range (pa_cons (pe_cl C__law_draw hr (pa_cons (pv 0) (pa_cons (pe_op op_add (pv 2) pe_int) pa_nil))) pa_nil)) (blkOk_by (N := N__law_text) (sc := defScope st__law_text) (by decide +kernel)) (fun _ _ _ _ _ => (pg_name (i := 3) nd rfl (Or.inl rfl))) (fun _ _ _ _ _ => pts_nil) (fun _ _ _ _ _ => (pe_cl C__law_one hr (pa_cons (pv 0) (pa_cons (pv 1) pa_nil))))) pa_nil))))), ?_⟩
    refine ⟨rfl, ?_⟩
    refine ⟨.ref fa, rfl, .int (most : Int), rfl, (most : Int), 1, rfl, rfl, fa, (most : Int) + 1, rfl, G.mono (by omega), by omega, by omega, fun d H1 hd R1 => ?_⟩
    have G1 : GF fa most H1 := G.go R1 (by omega)
    have hw : ∀ Q' : VK, (∀ p H2 acc, H1 p = none → Rf fa (d * 1) H1 H2 → H2 p = some (.lst acc) → acc.length = d → (∀ v ∈ acc, ∃ t, v = T t ∧ (t.length ≤ 1 ∧ ∀ c ∈ t, c ∈ s)) → Q' (.ref p) H2) →
        tLc (iRng1 (fun _ H Q => Q [.int (d : Int)] H)) (gName 3) tYes (tCall (sp_one K) [] E0 (tCons (tVar 0) (tCons (tVar 1) tNil))) [3] (start N__law_text [.ref fa, T s, .int (most : Int)]) H1 Q' := fun Q' k' => by
      refine lcD (fun v => ∃ t, v = T t ∧ (t.length ≤ 1 ∧ ∀ c ∈ t, c ∈ s)) 1 G1.is (src_range1 (n := d) (fun H2 e2 Q2 q => q H2 (Ex.refl _)) (by omega)) (fun z => z) (by omega) (fun _ => rfl) ?_ k'
      intro i x H2 hi _ R2 Q2 q
      refine ⟨.ref fa, rfl, T s, rfl, fa, G1.go R2 (by omega), .inl ⟨s, rfl, hs, hl, fun c H3 hc R3 => q _ _ ⟨[c], rfl, Nat.le_refl _, fun c' hc' => ?_⟩ R3⟩⟩
      rw [List.mem_singleton.mp hc']
      exact hc
    refine hw (fun x H2 => rJoinT K (T []) [x] H2 Q) fun p H2 acc hp R2 h2 hal hg => ?_
    obtain ⟨ts, rfl, hts⟩ := texts_of hg
    rw [List.length_map] at hal
    have hsum := sum_le fun t ht => (hts t ht).1
    refine ⟨[], p, ts, rfl, rfl, .inl (sq_of h2), by simp; omega, ?_⟩
    rw [joinL_nil]
    refine k ts.flatten H2 (by rw [flat_len]; omega) (fun c hc => ?_) ((R1.trans R2).mono (by omega))
    obtain ⟨t, ht, hct⟩ := List.mem_flatten.mp hc
    exact (hts t ht).2 c hct
end
end K16
set_option Elab.async false
set_option linter.all false
set_option maxRecDepth 100000
set_option maxHeartbeats 2000000
namespace K16
open PySem PySem.Spec PyProof.Rows L2 Evl Wc Wt
def abcd (c : Nat) : Prop := 97 ≤ c ∧ c ≤ 100
/-- texts of the signs, none longer than m -/
def Wd (m : Nat) (ws : List Tx) : Prop := ∀ t ∈ ws, t.length ≤ m ∧ ∀ c ∈ t, abcd c
structure IsLot (lot : List Tx) : Prop where
  ne : lot ≠ []
  few : lot.length ≤ 12
  wd : Wd 12 lot
  pos : ∀ t ∈ lot, t ≠ []
  asc : lot.Pairwise (· < ·)
theorem pw_lt {xs : List Tx} (h : xs.Pairwise (· ≤ ·)) (d : xs.Nodup) : xs.Pairwise (· < ·) := (h.and d).imp fun ⟨a, b⟩ => by
  rcases List.le_iff_lt_or_eq.mp a with z | z
  · exact z
  · exact absurd z b
section
variable {K : PySem.W.Frag} {fa : Addr} {m : Nat} {H H1 H2 : Hp}
def sp_mixed (K : PySem.W.Frag) : Sp := fun vs H Q _ => ∃ (fa p : Addr) (xs : List V), vs = [.ref fa, .ref p] ∧ SqL K H p xs ∧ p ≠ fa ∧ xs.length ≤ 1000 ∧ GF fa xs.length H ∧ ∀ q ys H', ys.Perm xs → H q = none → Rf fa xs.length H H' → H' q = some (.lst ys) → Q (.ref q) H'
def sp_kept (K : PySem.W.Frag) : Sp := fun vs H Q _ => ∃ (fa p : Addr) (ws : List Tx) (most : Nat), vs = [.ref fa, .ref p, .int (most : Int)] ∧ SqL K H p (ws.map T) ∧ p ≠ fa ∧ ws.length ≤ 1000 ∧ Wd 100000 ws ∧ 1 ≤ most ∧ most ≤ 12 ∧ GF fa 1000 H ∧
  ∀ q lot H', IsLot lot → lot.length ≤ most → H q = none → Rf fa 1000 H H' → H' q = some (.tup (lot.map T)) → Q (.ref q) H'
end
section
variable {P : Program} {w : World} {K : PySem.W.Frag} {mg : Str → Option Value} {base : Heap}
theorem ok__law_mixed {f : Addr} {fd : FuncData} (F : Fun K "_law_mixed" "_law_mixed" st__law_mixed f fd) (M : Md K mg) (C__law_draw : Cal P w K mg base "_law_draw" st__law_draw 1 ["feed", "many"] sp_draw) : FnOk P w K mg base CX0 2 f fd ["feed", "things"] (sp_mixed K) := by
  have nd := sc__law_mixed.nd
  refine F.ok sc__law_mixed (fun vs H Q E h => ?_) (fun cdv A outer s H vs Q E hr h => ?_)
  · obtain ⟨_, _, _, rfl, _⟩ := h
    rfl
  · obtain ⟨fa, p, xs, rfl, hp, hne, hl, G, k⟩ := h
    refine ⟨_, (pss_cons (ps_par (i := 2) (j := 3) rfl nd rfl rfl (by decide) rfl rfl (pa_cons (pe_callTy (kcr K (r := rListS) call_list_of) (by rfl) M.n_list boot_list (pa_cons (pv 1) pa_nil)) (pa_cons (pe_lst pa_nil) pa_nil)) (by rfl))
  (pss_cons (ps_for PassesOwn.never rfl (pi_range1 (by rfl) M.n_range (pa_cons (pe_callB (kcr K (r := rLenS) call_len_seq) (by rfl) M.n_len boot_len (pa_cons (pv 1) pa_nil)) pa_nil)) (pg_name (i := 4) nd rfl (Or.inl rfl))
  (pss_one (ps_expr (kbm K (pe_bm PySem.F.plainAttrs_list PySem.F.slot_list_append PySem.F.type_list_append mt_append (pv 3) (pa_cons (kbm K (pe_bm PySem.F.plainAttrs_list PySem.F.slot_list_pop PySem.F.type_list_pop mt_popAt (pv 2) (pa_cons (pe_cl C__law_draw hr (pa_cons (pv 0) (pa_cons (pe_callB (kcr K (r := rLenS) call_len_seq) (by rfl) M.n_len boot_len (pa_cons (pv 2) pa_nil)) pa_nil))) pa_nil))) pa_nil))))))
  (pss_one (ps_ret (pv 3))))), ?_⟩
    refine (el_list (ev_var rfl) hp : EvL _ (start N__law_mixed [.ref fa, .ref p]) H xs) H (Ex.refl _) _ fun pool H1 hpool e1 h1 => ⟨by decide, fun got hgot => ⟨_, _, rfl, ?_⟩⟩
    have npg : pool ≠ got := ne_of_none h1 hgot
    have ngot : H got = none := fresh_back e1 hgot
    have n1 : pool ≠ fa := G.new hpool
    have n2 : got ≠ fa := G.new ngot
    have e2 : Ex H (upd H1 got (.lst [])) := e1.trans (Ex.new hgot)
    have h1' : (upd H1 got (.lst [])) pool = some (.lst xs) := by rw [upd_ne npg]; exact h1
    have h2' : (upd H1 got (.lst [])) got = some (.lst []) := upd_same
    generalize upd H1 got (.lst []) = H2 at e2 h1' h2'
    show tSeq _ _ _ [some (.ref fa), some (.ref p), some (.ref pool), some (.ref got), none] H2
    refine q_forW (fun c => c = fa ∨ c = pool ∨ c = got) (src_range1 (n := xs.length) (ea_cons (ev_len (ev_var rfl) (ex_l e2 hp)) ea_nil) (by omega)) ?_
      (fun Hs i σ' H' => ∃ (ys zs : List V) (v : Option V), σ' = [some (.ref fa), some (.ref p), some (.ref pool), some (.ref got), v] ∧ Exc (fun c => c = fa ∨ c = pool ∨ c = got) Hs H' ∧ Rf fa i H H' ∧ H' pool = some (.lst ys) ∧ H' got = some (.lst zs) ∧ zs.length = i ∧ (zs ++ ys).Perm xs) ?_ ?_ ?_ ?_ ?_
    · rintro c (rfl | rfl | rfl)
      · exact ⟨(G.ex e2).is, fun z => z⟩
      · exact ⟨by rw [h1']; exact fun z => (nomatch z), fun z => z⟩
      · exact ⟨by rw [h2']; exact fun z => (nomatch z), fun z => z⟩
    · intro Hs e
      exact ⟨xs, [], none, rfl, Exc.refl _, Rf.of_ex (e2.trans e), e _ _ h1', e _ _ h2', rfl, List.Perm.refl _⟩
    · rintro Hs i σ' H' ⟨_, _, _, _, h, _⟩
      exact h
    · rintro Hs i σ' Ha Hb ⟨ys, zs, v, h0, h3, h4, h5, h6, h7⟩ e
      exact ⟨ys, zs, v, h0, h3.then e, h4.then e, e _ _ h5, e _ _ h6, h7⟩
    · rintro Hs i x σ' H' e hi ⟨ys, zs, v, rfl, h3, h4, h5, h6, h7, h8⟩ rfl
      have hly := h8.length_eq
      rw [List.length_append] at hly
      show tDrop _ _ [some (.ref fa), some (.ref p), some (.ref pool), some (.ref got), some (.int (i : Int))] H'
      refine ⟨.ref got, rfl, .inl ⟨rfl, zs, sq_of h6⟩, .ref pool, rfl, .inl ⟨rfl, ys, sq_of h5⟩, ?_⟩
      refine wp_draw (many := (ys.length : Int)) rfl (ev_len (ev_var rfl) (sq_of h5)) (G.go h4 (m' := 1) (by omega)) (by omega) (by omega) fun d H3 hd R3 => ?_
      have hd' : d < ys.length := by omega
      have h53 := R3.at_ h5 n1
      refine ⟨pool, ys, (d : Int), d, ys[d], rfl, rfl, h53, by omega, by omega, seqIx_nat hd', List.getElem?_eq_getElem hd', ?_⟩
      · have h63 := R3.at_ h6 n2
        refine ⟨got, zs, ys[d], rfl, rfl, by rw [upd_ne (Ne.symm npg)]; exact h63, sz_lt (by omega), ?_⟩
        have hpm : (ys[d] :: ys.eraseIdx d).Perm ys := erase_perm hd'
        refine ⟨ys.eraseIdx d, zs ++ [ys[d]], _, rfl, ?_, ?_, by rw [upd_ne npg, upd_same], upd_same, by simp [h7], ?_⟩
        · exact ((h3.trans (fun b o nb hb => R3.keep b o (fun z => nb (.inl z)) hb)).upd (.inl (.inr (.inl rfl)))).upd (.inl (.inr (.inr rfl)))
        · exact ((h4.trans R3).upd (fresh_back (Ex.refl H) hpool) G.is).upd ngot G.is
        · refine List.Perm.trans ?_ h8
          rw [List.append_assoc]
          exact List.Perm.append_left zs hpm
    · rintro Hs σ' H' e ⟨ys, zs, v, rfl, h3, h4, h5, h6, h7, h8⟩
      have hly := h8.length_eq
      rw [List.length_append] at hly
      have hy : ys = [] := List.length_eq_zero_iff.mp (by omega)
      subst hy
      rw [List.append_nil] at h8
      exact s_ret (ev_var rfl) fun H3 e3 => k got zs H3 h8 ngot (h4.then e3) (e3 _ _ h6)
theorem ok__law_kept {f : Addr} {fd : FuncData} (F : Fun K "_law_kept" "_law_kept" st__law_kept f fd) (M : Md K mg) (C__law_mixed : Cal P w K mg base "_law_mixed" st__law_mixed 2 ["feed", "things"] (sp_mixed K)) : FnOk P w K mg base CX0 3 f fd ["feed", "words", "most"] (sp_kept K) := by
  have nd := sc__law_kept.nd
  refine F.ok sc__law_kept (fun vs H Q E h => ?_) (fun cdv A outer s H vs Q E hr h => ?_)
  · obtain ⟨_, _, _, _, rfl, _⟩ := h
    rfl
  · obtain ⟨fa, p, ws, most, rfl, hp, hne, hl, hw, hm1, hm2, G, k⟩ := h
    refine ⟨_, (pss_cons (ps_set (i := 3) nd rfl (Or.inl rfl) (pe_callB (ksorted P w K hr.units) (by rfl) M.n_sorted boot_sorted (pa_cons (pe_callTy (kset P w K) (by rfl) M.n_set boot_set (pa_cons (pe_lc (own := [("word", 4)]) rfl nd (kil K (pi_list (pv 1))) (blkOk_by (N := N__law_kept) (sc := defScope st__law_kept) (by decide +kernel)) (fun _ _ _ _ _ => (pg_name (i := 4) nd rfl (Or.inl rfl))) (fun _ _ _ _ _ => (pts_one (pt_chain op_le op_le pe_int (pe_callB cr_lenT (by rfl) M.n_len boot_len (pa_cons (pv 4) pa_nil)) pe_int))) (fun _ _ _ _ _ => (pv 4))) pa_nil)) pa_nil)))
  (pss_cons (ps_set (i := 5) nd rfl (Or.inl rfl) (pe_ifExp (pt_cmpR op_gt (pe_callB (kcr K (r := rLenS) call_len_seq) (by rfl) M.n_len boot_len (pa_cons (pv 3) pa_nil)) (pv 2) (nomark _)) (pe_slice (ksl K (r := rSlL) sl_list) (pe_cl C__law_mixed hr (pa_cons (pv 0) (pa_cons (pv 3) pa_nil))) po_none (po_some (pv 2))) (pv 3)))
  (pss_one (ps_ret (pe_ifExp (pt_cmpR (kop K (r := rNeD) (op_neD hr.units)) (pv 5) (pe_lst pa_nil) (nomark _)) (pe_callTy (kcr K (r := rTupS) call_tuple_of) (by rfl) M.n_tuple boot_tuple (pa_cons (pe_callB (ksorted P w K hr.units) (by rfl) M.n_sorted boot_sorted (pa_cons (pv 5) pa_nil)) pa_nil)) (pe_tup (pa_cons (pe_sT [97, 98]) pa_nil))))))), ?_⟩
    -- good
    have hlc : EvL (tLc (iList K (tVar 1)) (gName 4) (tTest (tChain (rI0 fun i j => .bl (decide (i ≤ j))) (rI0 fun i j => .bl (decide (i ≤ j))) (tC (.int 1)) (tCB rLenT (tCons (tVar 4) tNil)) (tC (.int 12)))) (tVar 4) [4]) (start N__law_kept [.ref fa, .ref p, .int (most : Int)]) H ((ws.filter fun t => decide (1 ≤ (t.length : Int)) && decide ((t.length : Int) ≤ 12)).map T) := by
      refine el_lcF (j := 4) (vs := [4]) (f := T) (g := T) ws (src_listM (ev_var rfl) hp) (by omega) (fun _ => rfl) (fun t H1 e1 ht => ?_) (fun t H1 e1 ht _ => ev_var rfl)
      have := (hw t ht).1
      exact et_test (ev_chain ev_c (ev_cb (ea_cons (ev_var rfl) ea_nil) (rc_lenT (by omega))) rv_I0 ev_c rv_I0)
    have hfl := List.length_filter_le (fun t : Tx => decide (1 ≤ (t.length : Int)) && decide ((t.length : Int) ≤ 12)) ws
    refine el_sortSet hlc (by omega) _ fun pg ys H1 u hly hpg e1 h1 => ?_
    have hys : ∀ t ∈ ys, 1 ≤ t.length ∧ t.length ≤ 12 ∧ ∀ c ∈ t, abcd c := fun t ht => by
      have h := (u.mem t).mp ht
      rw [List.mem_filter, Bool.and_eq_true, decide_eq_true_eq, decide_eq_true_eq] at h
      exact ⟨by omega, by omega, (hw t h.1).2⟩
    have hgl : (sortT ys).length = ys.length := sortT_len ys
    have hgd : (sortT ys).Nodup := (sortT_perm ys).nodup_iff.mpr u.nd
    have hgm : ∀ t ∈ sortT ys, 1 ≤ t.length ∧ t.length ≤ 12 ∧ ∀ c ∈ t, abcd c := fun t ht => hys t (sortT_mem.mp ht)
    generalize sortT ys = good at h1 hgl hgd hgm
    have hn1 : pg ≠ fa := G.new hpg
    show tSeq _ _ _ [some (.ref fa), some (.ref p), some (.int (most : Int)), some (.ref pg), none, none] H1
    -- behind some
    have rest : ∀ (ps : Addr) (some_ : List Tx) H2, Rf fa 1000 H H2 → H2 ps = some (.lst (some_.map T)) → some_.Nodup → some_.length ≤ most → (∀ t ∈ some_, 1 ≤ t.length ∧ t.length ≤ 12 ∧ ∀ c ∈ t, abcd c) → tRet (tIf (tTest (tOp (rNeD K) (tVar 5) (tLst tNil))) (tCB (rTupS K) (tCons (tCB (rSortX K P w) (tCons (tVar 5) tNil)) tNil)) (tTup (tCons (tC (T [97, 98])) tNil))) { nx := fun _ H' => Q .non H', rt := Q } [some (.ref fa), some (.ref p), some (.int (most : Int)), some (.ref pg), none, some (.ref ps)] H2 := fun ps sm H2 R2 h2 hd hlen hg => by
      have G2 : GF fa 0 H2 := G.go R2 (by omega)
      have hdp : ∀ H3, Ex H2 H3 → Dp K H3 (.ref ps) (.list (sm.map dT)) := fun H3 e3 => dp_list (sq_of (e3 _ _ h2)) fun x _ => .str _
      have hlay : (PyData.list (sm.map dT)).canLay0 = true := lay_list fun x hx => lay_T fun c hc => by
        have := ((hg x hx).2.2 c hc).2
        omega
      have heq : PyData.eqv (.list (sm.map dT)) (.list []) = decide (sm = []) := by
        cases sm <;> rfl
      refine s_retIf (b := !decide (sm = [])) (et_test (fun H3 e3 Q3 q3 => (ev_var rfl : Ev (tVar 5) [some (.ref fa), some (.ref p), some (.int (most : Int)), some (.ref pg), none, some (.ref ps)] H2 (.ref ps)) H3 e3 _ fun H4 e4 => (el_lst ea_nil (by decide) : EvL (tLst tNil) [some (.ref fa), some (.ref p), some (.int (most : Int)), some (.ref pg), none, some (.ref ps)] H4 []) H4 (Ex.refl _) _ fun pe H5 hpe e5 h5 => ⟨_, .list [], (hdp H5 ((e3.trans e4).trans e5)), .lst (sq_of h5) .nil, shaped_of hlay (by
        show PyData.depthAll (sm.map dT) + 1 ≤ 64
        have := depth_all (g := dT) (m := 0) (xs := sm) fun x _ => Nat.le_refl _
        omega), by decide, by rw [heq]; exact q3 H5 (e4.trans e5)⟩)) (fun hb H3 e3 => ?_) (fun hb H3 e3 => ?_)
      · have hnn : sm ≠ [] := by simpa using hb
        refine (el_sorted (ev_var rfl) (sq_of (e3 _ _ h2)) : EvL (tCB (rSortX K P w) (tCons (tVar 5) tNil)) [some (.ref fa), some (.ref p), some (.int (most : Int)), some (.ref pg), none, some (.ref ps)] H3 ((sortT sm).map T)) H3 (Ex.refl _) _ fun pq H4 hpq e4 h4 => ⟨pq, _, rfl, .inl ⟨sq_of h4, fun l hl => ?_⟩⟩
        have RR := (R2.then e3).then e4
        refine k l (sortT sm) _ ⟨fun z => hnn ?_, by rw [sortT_len]; omega, fun t ht => ⟨(hg t (sortT_mem.mp ht)).2.1, (hg t (sortT_mem.mp ht)).2.2⟩, fun t ht z => ?_, pw_lt (sortT_pw sm) ((sortT_perm sm).nodup_iff.mpr hd)⟩ (by rw [sortT_len]; exact hlen) (RR.free G.is hl ((G2.ex e3).ex e4).is) (RR.then (Ex.new hl)) upd_same
        · have := sortT_len sm
          rw [z] at this
          exact List.length_eq_zero_iff.mp this.symm
        · have := (hg t (sortT_mem.mp ht)).1
          rw [z] at this
          simp at this
      · refine ⟨by decide, fun l hl => ?_⟩
        have RR := R2.then e3
        refine k l [[97, 98]] _ ⟨by simp, by simp, fun t ht => ?_, fun t ht z => ?_, by simp⟩ hm1 (RR.free G.is hl (G2.ex e3).is) (RR.then (Ex.new hl)) upd_same
        · simp at ht
          subst ht
          exact ⟨by decide, fun c hc => by simp at hc; unfold abcd; omega⟩
        · simp at ht
          rw [z] at ht
          cases ht
    -- some
    have hL : EvT (tTest (tOp (rI0 fun i j => .bl (decide (i > j))) (tCB (rLenS K) (tCons (tVar 3) tNil)) (tVar 2))) [some (.ref fa), some (.ref p), some (.int (most : Int)), some (.ref pg), none, none] H1 (decide ((((good.map T).length : Nat) : Int) > (most : Int))) := et_test (ev_op (ev_len (ev_var rfl) (sq_of h1)) (ev_var rfl) rv_I0)
    refine hL H1 (Ex.refl _) _ fun H2 e2 => ?_
    have e12 : Ex H H2 := e1.trans e2
    have hgl2 : good.length ≤ 1000 := by omega
    by_cases hb : (((good.map T).length : Nat) : Int) > (most : Int)
    · rw [decide_eq_true hb, if_pos rfl]
      refine ⟨.ref fa, rfl, .ref pg, rfl, fa, pg, good.map T, rfl, sq_of (e2 _ _ h1), hn1, by rw [List.length_map]; exact hgl2, (G.ex e12).mono (by rw [List.length_map]; exact hgl2), fun q xs H3 pm hq R3 h3 => ?_⟩
      obtain ⟨zs, rfl, pz⟩ := perm_texts pm
      have R3' : Rf fa 1000 H H3 := (Rf.pre e12 R3).mono (by rw [List.length_map]; exact hgl2)
      have hgz : ∀ t ∈ zs, 1 ≤ t.length ∧ t.length ≤ 12 ∧ ∀ c ∈ t, abcd c := fun t ht => hgm t (pz.mem_iff.mp ht)
      refine ⟨.int (most : Int), rfl, (most : Int), rfl, q, zs.map T, rfl, sq_of h3, fun r hr => ?_⟩
      rw [cutV_to, ← List.map_take]
      exact rest r (zs.take most) _ (R3'.then (Ex.new hr)) upd_same ((pz.nodup_iff.mpr hgd).sublist (List.take_sublist _ _)) (by rw [List.length_take]; omega) fun t ht => hgz t (List.mem_of_mem_take ht)
    · rw [decide_eq_false hb, if_neg Bool.false_ne_true]
      rw [List.length_map] at hb
      exact ⟨.ref pg, rfl, rest pg good H2 ((Rf.of_ex e12).mono (Nat.zero_le _)) (e2 _ _ h1) hgd (by omega) hgm⟩
end
end K16
set_option Elab.async false
set_option linter.all false
set_option maxRecDepth 100000
set_option maxHeartbeats 4000000
/-! walks along rooms; ways round are cuts of rounds -/
namespace K16
open Wc
/-! sums -/
def Sm {α : Type} (l : List α) (f : α → Nat) : Nat := (l.map f).sum
section
variable {α β : Type} {l m : List α} {f g : α → Nat}
theorem Sm_nil : Sm ([] : List α) f = 0 := rfl
theorem Sm_cons {a : α} : Sm (a :: l) f = f a + Sm l f := by unfold Sm; rw [List.map_cons, List.sum_cons]
theorem Sm_app : Sm (l ++ m) f = Sm l f + Sm m f := by unfold Sm; rw [List.map_append, List.sum_append]
theorem Sm_congr (h : ∀ a ∈ l, f a = g a) : Sm l f = Sm l g := by unfold Sm; rw [List.map_congr_left h]
theorem Sm_zero (h : ∀ a ∈ l, f a = 0) : Sm l f = 0 := by
  induction l with
  | nil => rfl
  | cons a l ih => rw [Sm_cons, h a List.mem_cons_self, ih fun b hb => h b (List.mem_cons_of_mem _ hb)]
theorem Sm_add : Sm l (fun a => f a + g a) = Sm l f + Sm l g := by
  induction l with
  | nil => rfl
  | cons a l ih => rw [Sm_cons, Sm_cons, Sm_cons, ih]; omega
theorem Sm_mul (c : Nat) : Sm l (fun a => c * f a) = c * Sm l f := by
  induction l with
  | nil => rw [Sm_nil, Sm_nil, Nat.mul_zero]
  | cons a l ih => rw [Sm_cons, Sm_cons, ih, Nat.mul_add]
theorem Sm_mulr (c : Nat) : Sm l (fun a => f a * c) = Sm l f * c := by
  induction l with
  | nil => rw [Sm_nil, Sm_nil, Nat.zero_mul]
  | cons a l ih => rw [Sm_cons, Sm_cons, ih, Nat.add_mul]
theorem Sm_comm {k : List β} {f : α → β → Nat} : Sm l (fun a => Sm k (f a)) = Sm k fun b => Sm l fun a => f a b := by
  induction l with
  | nil => rw [Sm_nil, Sm_zero fun b _ => Sm_nil]
  | cons a l ih =>
    rw [Sm_cons, ih, ← Sm_add]
    exact Sm_congr fun b _ => by rw [Sm_cons]
theorem Sm_map {k : List β} {h : β → α} : Sm (k.map h) f = Sm k fun b => f (h b) := by unfold Sm; rw [List.map_map]; rfl
theorem Sm_flat {k : List β} {h : β → List α} : Sm (k.flatMap h) f = Sm k fun b => Sm (h b) f := by
  induction k with
  | nil => rfl
  | cons b k ih => rw [List.flatMap_cons, Sm_app, ih, Sm_cons]
theorem Sm_one [DecidableEq α] (hn : l.Nodup) {x : α} (hx : x ∈ l) : Sm l (fun a => if a = x then f a else 0) = f x := by
  induction l with
  | nil => cases hx
  | cons a l ih =>
    rw [List.nodup_cons] at hn
    rw [Sm_cons]
    by_cases h : a = x
    · subst h
      rw [if_pos rfl, Sm_zero fun b hb => if_neg fun z => hn.1 (by rw [← z]; exact hb), Nat.add_zero]
    · rw [if_neg h, Nat.zero_add]
      rcases List.mem_cons.mp hx with z | z
      · exact absurd z.symm h
      · exact ih hn.2 z
theorem Sm_if {p : α → Bool} : Sm (l.filter p) f = Sm l fun a => if p a = true then f a else 0 := by
  induction l with
  | nil => rfl
  | cons a l ih =>
    rw [List.filter_cons, Sm_cons]
    by_cases h : p a = true
    · rw [if_pos h, if_pos h, Sm_cons, ih]
    · rw [if_neg h, if_neg h, ih, Nat.zero_add]
end
/-! rooms, doors -/
abbrev Rm := Option (Nat × Nat)
def wd (lot : List Tx) (i : Nat) : Tx := lot.getD i []
def nxt (lot : List Tx) (i q : Nat) : Rm := if q + 1 = (wd lot i).length then none else some (i, q + 1)
def doors (lot : List Tx) : Rm → Nat → List Rm
  | none, c => ((List.range lot.length).filter fun i => decide ((wd lot i)[0]? = some c)).map fun i => nxt lot i 0
  | some (i, q), c => if (wd lot i)[q]? = some c then [nxt lot i q] else []
def rooms (lot : List Tx) : List Rm := none :: (List.range lot.length).flatMap fun i => (List.range' 1 ((wd lot i).length - 1)).map fun q => some (i, q)
/-- a room of the lot -/
def IsRm (lot : List Tx) : Rm → Prop
  | none => True
  | some (i, q) => i < lot.length ∧ 1 ≤ q ∧ q < (wd lot i).length
theorem mem_rooms {lot : List Tx} {r : Rm} : r ∈ rooms lot ↔ IsRm lot r := by
  unfold rooms
  cases r with
  | none => exact ⟨fun _ => trivial, fun _ => List.mem_cons_self⟩
  | some r =>
    obtain ⟨i, q⟩ := r
    constructor
    · intro h
      rcases List.mem_cons.mp h with z | z
      · cases z
      · obtain ⟨j, hj, h⟩ := List.mem_flatMap.mp z
        obtain ⟨q', hq, e⟩ := List.mem_map.mp h
        cases e
        rw [List.mem_range'_1] at hq
        exact ⟨List.mem_range.mp hj, by omega, by omega⟩
    · rintro ⟨h1, h2, h3⟩
      refine List.mem_cons_of_mem _ (List.mem_flatMap.mpr ⟨i, List.mem_range.mpr h1, List.mem_map.mpr ⟨q, ?_, rfl⟩⟩)
      rw [List.mem_range'_1]
      omega
theorem nodup_rooms (lot : List Tx) : (rooms lot).Nodup := by
  unfold rooms
  refine List.nodup_cons.mpr ⟨fun h => ?_, ?_⟩
  · obtain ⟨j, hj, h⟩ := List.mem_flatMap.mp h
    obtain ⟨q', hq, e⟩ := List.mem_map.mp h
    cases e
  · unfold List.Nodup
    rw [List.pairwise_flatMap]
    refine ⟨fun i _ => ?_, ?_⟩
    · exact List.pairwise_map.mpr (List.Pairwise.imp (fun {a b} h z => by cases z; omega) List.pairwise_lt_range')
    · refine List.pairwise_lt_range.imp fun {i j} h x hx y hy z => ?_
      obtain ⟨_, _, rfl⟩ := List.mem_map.mp hx
      obtain ⟨_, _, e⟩ := List.mem_map.mp hy
      rw [← e] at z
      cases z
      omega
theorem nxt_is {lot : List Tx} {i q : Nat} (hi : i < lot.length) (hq : q < (wd lot i).length) : IsRm lot (nxt lot i q) := by
  unfold nxt
  split
  · trivial
  · exact ⟨hi, by omega, by omega⟩
theorem doors_is {lot : List Tx} {r : Rm} (h : IsRm lot r) {c : Nat} : ∀ u ∈ doors lot r c, IsRm lot u := fun u hu => by
  cases r with
  | none =>
    obtain ⟨i, hi, rfl⟩ := List.mem_map.mp hu
    obtain ⟨h1, h2⟩ := List.mem_filter.mp hi
    have h2 := of_decide_eq_true h2
    exact nxt_is (List.mem_range.mp h1) (List.getElem?_eq_some_iff.mp h2).1
  | some r =>
    obtain ⟨i, q⟩ := r
    have hu : u ∈ if (wd lot i)[q]? = some c then [nxt lot i q] else [] := hu
    split at hu
    · rw [List.mem_singleton.mp hu]
      exact nxt_is h.1 h.2.2
    · cases hu
/-- how many ways along a text -/
def W (lot : List Tx) : Rm → Rm → Tx → Nat
  | r, s, [] => if r = s then 1 else 0
  | r, s, c :: t => Sm (doors lot r c) fun u => W lot u s t
theorem W_nil (lot : List Tx) (r s : Rm) : W lot r s [] = if r = s then 1 else 0 := by unfold W; rfl
theorem W_cons (lot : List Tx) (r s : Rm) (c : Nat) (t : Tx) : W lot r s (c :: t) = Sm (doors lot r c) fun u => W lot u s t := by rw [W]
theorem W_app {lot : List Tx} {s : Rm} : ∀ (u v : Tx) {r : Rm}, IsRm lot r → W lot r s (u ++ v) = Sm (rooms lot) fun m => W lot r m u * W lot m s v
  | [], v, r, h => by
    rw [List.nil_append, ← Sm_one (f := fun m => W lot m s v) (nodup_rooms lot) (mem_rooms.mpr h)]
    refine Sm_congr fun m _ => ?_
    rw [W_nil]
    by_cases e : m = r
    · rw [if_pos e, if_pos e.symm, Nat.one_mul]
    · rw [if_neg e, if_neg (fun z => e z.symm), Nat.zero_mul]
  | c :: u, v, r, h => by
    rw [List.cons_append, W_cons, Sm_congr fun x hx => W_app u v (doors_is h x hx), Sm_comm]
    refine Sm_congr fun m _ => ?_
    rw [Sm_mulr, W_cons]
/-- ways from a room back to it, all rooms -/
def N (lot : List Tx) (t : Tx) : Nat := Sm (rooms lot) fun r => W lot r r t
theorem N_turn (lot : List Tx) (u v : Tx) : N lot (u ++ v) = N lot (v ++ u) := by
  have h : ∀ a b : Tx, N lot (a ++ b) = Sm (rooms lot) fun r => Sm (rooms lot) fun m => W lot r m a * W lot m r b := fun a b => Sm_congr fun r hr => W_app a b (mem_rooms.mp hr)
  rw [h, h, Sm_comm]
  exact Sm_congr fun r _ => Sm_congr fun m _ => Nat.mul_comm _ _
/-! within a word there is one way on -/
theorem W_word {lot : List Tx} {s : Rm} {i : Nat} : ∀ (t : Tx) (q : Nat), q < (wd lot i).length → W lot (some (i, q)) s t = if (wd lot i).length - q ≤ t.length then (if t.take ((wd lot i).length - q) = (wd lot i).drop q then W lot none s (t.drop ((wd lot i).length - q)) else 0) else (if t = ((wd lot i).drop q).take t.length ∧ s = some (i, q + t.length) then 1 else 0)
  | [], q, hq => by
    rw [if_neg (by show ¬ _ ≤ 0; omega), W_nil]
    by_cases h : some (i, q) = s
    · rw [if_pos h, if_pos ⟨by simp, h.symm⟩]
    · rw [if_neg h, if_neg fun z => h z.2.symm]
  | c :: t, q, hq => by
    have hd : (wd lot i).drop q = (wd lot i)[q] :: (wd lot i).drop (q + 1) := List.drop_eq_getElem_cons hq
    have hp : (wd lot i).length - q = ((wd lot i).length - (q + 1)) + 1 := by omega
    rw [W_cons]
    unfold doors
    dsimp only
    by_cases hc : (wd lot i)[q]? = some c
    · have hc' : (wd lot i)[q] = c := by
        rw [List.getElem?_eq_getElem hq] at hc
        exact Option.some.inj hc
      rw [if_pos hc, Sm_cons, Sm_nil, Nat.add_zero, hd, hp, List.length_cons]
      unfold nxt
      by_cases hl : q + 1 = (wd lot i).length
      · rw [if_pos hl, show (wd lot i).length - (q + 1) = 0 by omega, if_pos (by omega), if_pos (by
          rw [List.drop_eq_nil_of_le (by omega)]
          show [c] = _
          rw [hc'])]
        rfl
      · rw [if_neg hl, W_word t (q + 1) (by omega)]
        by_cases h1 : (wd lot i).length - (q + 1) ≤ t.length
        · rw [if_pos h1, if_pos (show (wd lot i).length - (q + 1) + 1 ≤ t.length + 1 by omega)]
          rw [List.take_succ_cons, List.drop_succ_cons]
          by_cases h2 : t.take ((wd lot i).length - (q + 1)) = (wd lot i).drop (q + 1)
          · rw [if_pos h2]
            symm
            split
            · rfl
            · rename_i h3
              exact absurd (by rw [h2, hc']) h3
          · rw [if_neg h2]
            symm
            split
            · rename_i h3
              exact absurd (List.cons.inj h3).2 h2
            · rfl
        · rw [if_neg h1, if_neg (show ¬ (wd lot i).length - (q + 1) + 1 ≤ t.length + 1 by omega)]
          have e : q + 1 + t.length = q + (t.length + 1) := by omega
          rw [e]
          by_cases h2 : t = ((wd lot i).drop (q + 1)).take t.length ∧ s = some (i, q + (t.length + 1))
          · rw [if_pos h2, if_pos ⟨by
              rw [List.take_succ_cons, ← h2.1, hc'], h2.2⟩]
          · rw [if_neg h2, if_neg fun z => h2 ⟨by
              have := z.1
              rw [List.take_succ_cons] at this
              exact (List.cons.inj this).2, z.2⟩]
    · have hne : (wd lot i)[q] ≠ c := fun z => hc (by rw [List.getElem?_eq_getElem hq, z])
      rw [if_neg hc, Sm_nil, hd, hp, List.length_cons]
      split
      · rw [if_neg]
        intro z
        rw [List.take_succ_cons] at z
        exact hne (List.cons.inj z).1.symm
      · rw [if_neg]
        intro z
        have := z.1
        rw [List.take_succ_cons] at this
        exact hne (List.cons.inj this).1.symm
/-! from the gap to the gap: cuts -/
/-- the word i stands at place -/
def stB (lot : List Tx) (u : Tx) (s i : Nat) : Bool := decide (s + (wd lot i).length ≤ u.length ∧ (u.drop s).take (wd lot i).length = wd lot i)
/-- how many cuts -/
def cn (lot : List Tx) : Nat → Tx → Nat
  | 0, u => if u = [] then 1 else 0
  | d + 1, u => if u = [] then 1 else Sm (List.range lot.length) fun i => if stB lot u 0 i = true then cn lot d (u.drop (wd lot i).length) else 0
def Cn (lot : List Tx) (u : Tx) : Nat := cn lot u.length u
theorem cn_fuel {lot : List Tx} (hL : ∀ i, i < lot.length → wd lot i ≠ []) : ∀ d d' u, u.length ≤ d → u.length ≤ d' → cn lot d u = cn lot d' u := fun d => by
  induction d with
  | zero =>
    intro d' u h1 h2
    have : u = [] := List.length_eq_zero_iff.mp (by omega)
    subst this
    cases d' <;> rfl
  | succ d ih =>
    intro d' u h1 h2
    by_cases hu : u = []
    · subst hu
      cases d' <;> rfl
    · cases d' with
      | zero => exact absurd (List.length_eq_zero_iff.mp (by omega)) hu
      | succ d' =>
        rw [cn, cn, if_neg hu, if_neg hu]
        refine Sm_congr fun i hi => ?_
        split
        · have := List.length_pos_iff.mpr (hL i (List.mem_range.mp hi))
          exact ih d' _ (by rw [List.length_drop]; omega) (by rw [List.length_drop]; omega)
        · rfl
theorem Cn_nil (lot : List Tx) : Cn lot [] = 1 := rfl
theorem Cn_step {lot : List Tx} (hL : ∀ i, i < lot.length → wd lot i ≠ []) {u : Tx} (hu : u ≠ []) : Cn lot u = Sm (List.range lot.length) fun i => if stB lot u 0 i = true then Cn lot (u.drop (wd lot i).length) else 0 := by
  have hp := List.length_pos_iff.mpr hu
  obtain ⟨d, hd⟩ : ∃ d, u.length = d + 1 := ⟨u.length - 1, by omega⟩
  unfold Cn
  rw [hd, cn, if_neg hu]
  refine Sm_congr fun i hi => ?_
  split
  · have := List.length_pos_iff.mpr (hL i (List.mem_range.mp hi))
    exact cn_fuel hL _ _ _ (by rw [List.length_drop]; omega) (Nat.le_refl _)
  · rfl
theorem W_gap {lot : List Tx} (hL : ∀ i, i < lot.length → wd lot i ≠ []) : ∀ (n : Nat) (u : Tx), u.length ≤ n → W lot none none u = Cn lot u := fun n => by
  induction n with
  | zero =>
    intro u hu
    have : u = [] := List.length_eq_zero_iff.mp (by omega)
    subst this
    rfl
  | succ n ih =>
    intro u hu
    cases u with
    | nil => rfl
    | cons c t =>
      rw [List.length_cons] at hu
      rw [Cn_step hL (List.cons_ne_nil _ _), W_cons]
      unfold doors
      rw [Sm_map, Sm_if]
      refine Sm_congr fun i hi => ?_
      have hpos := List.length_pos_iff.mpr (hL i (List.mem_range.mp hi))
      have hd : wd lot i = (wd lot i)[0] :: (wd lot i).drop 1 := by
        have := List.drop_eq_getElem_cons hpos
        rwa [List.drop_zero] at this
      by_cases hc : (wd lot i)[0]? = some c
      · have hc' : (wd lot i)[0] = c := by
          rw [List.getElem?_eq_getElem hpos] at hc
          exact Option.some.inj hc
        rw [if_pos (decide_eq_true hc)]
        have key : W lot (nxt lot i 0) none t = if (wd lot i).length ≤ t.length + 1 ∧ t.take ((wd lot i).length - 1) = (wd lot i).drop 1 then W lot none none (t.drop ((wd lot i).length - 1)) else 0 := by
          unfold nxt
          by_cases h1 : 0 + 1 = (wd lot i).length
          · rw [if_pos h1, if_pos ⟨by omega, by rw [List.drop_eq_nil_of_le (by omega), show (wd lot i).length - 1 = 0 by omega, List.take_zero]⟩, show (wd lot i).length - 1 = 0 by omega, List.drop_zero]
          · rw [if_neg h1, W_word t 1 (by omega)]
            by_cases h2 : (wd lot i).length - 1 ≤ t.length
            · rw [if_pos h2]
              by_cases h3 : t.take ((wd lot i).length - 1) = (wd lot i).drop 1
              · rw [if_pos h3, if_pos ⟨by omega, h3⟩]
              · rw [if_neg h3, if_neg fun z => h3 z.2]
            · rw [if_neg h2, if_neg (fun z => by cases z.2), if_neg fun z => by omega]
        rw [key]
        have hst : (stB lot (c :: t) 0 i = true) ↔ ((wd lot i).length ≤ t.length + 1 ∧ t.take ((wd lot i).length - 1) = (wd lot i).drop 1) := by
          unfold stB
          rw [decide_eq_true_eq, List.drop_zero, List.length_cons, Nat.zero_add]
          refine and_congr_right fun _ => ?_
          obtain ⟨k, hk⟩ : ∃ k, (wd lot i).length = k + 1 := ⟨(wd lot i).length - 1, by omega⟩
          rw [hk, List.take_succ_cons, Nat.add_sub_cancel]
          constructor
          · intro z
            rw [hd] at z
            exact (List.cons.inj z).2
          · intro z
            rw [z]
            conv => rhs; rw [hd, hc']
        by_cases hs : stB lot (c :: t) 0 i = true
        · rw [if_pos hs, if_pos (hst.mp hs), ih _ (by rw [List.length_drop]; omega)]
          obtain ⟨k, hk⟩ : ∃ k, (wd lot i).length = k + 1 := ⟨(wd lot i).length - 1, by omega⟩
          rw [hk, List.drop_succ_cons, Nat.add_sub_cancel]
        · rw [if_neg hs, if_neg fun z => hs (hst.mpr z)]
      · rw [if_neg (fun z => hc (of_decide_eq_true z)), if_neg]
        intro z
        unfold stB at z
        have z := (of_decide_eq_true z).2
        rw [List.drop_zero] at z
        refine hc ?_
        rw [← z, List.getElem?_take_of_lt hpos]
        rfl
end K16
set_option Elab.async false
set_option linter.all false
set_option maxRecDepth 100000
set_option maxHeartbeats 4000000
namespace K16
open Wc
/-! the last word's beginning -/
def prv (i q : Nat) : Rm := if q = 1 then none else some (i, q - 1)
theorem W_one {lot : List Tx} {m : Rm} (hm : IsRm lot m) {i q c : Nat} (hi : i < lot.length) (h1 : 1 ≤ q) (h2 : q < (wd lot i).length) : W lot m (some (i, q)) [c] = if m = prv i q ∧ (wd lot i)[q - 1]? = some c then 1 else 0 := by
  rw [W_cons]
  cases m with
  | none =>
    unfold doors prv
    rw [Sm_map, Sm_if]
    by_cases hq : q = 1
    · subst hq
      rw [if_pos rfl]
      have hs : ∀ j ∈ List.range lot.length, (if decide ((wd lot j)[0]? = some c) = true then W lot (nxt lot j 0) (some (i, 1)) [] else 0) = if j = i then (if (wd lot i)[0]? = some c then 1 else 0) else 0 := fun j _ => by
        rw [W_nil]
        by_cases hj : j = i
        · subst hj
          rw [if_pos rfl]
          unfold nxt
          rw [if_neg (show ¬ 0 + 1 = (wd lot j).length by omega), if_pos rfl]
          by_cases hc : (wd lot j)[0]? = some c
          · rw [if_pos (decide_eq_true hc), if_pos hc]
          · rw [if_neg (fun z => hc (of_decide_eq_true z)), if_neg hc]
        · rw [if_neg hj]
          have : ¬ nxt lot j 0 = some (i, 1) := by
            unfold nxt
            split
            · exact fun z => by cases z
            · exact fun z => hj (by cases z; rfl)
          rw [if_neg this]
          split <;> rfl
      rw [Sm_congr hs, Sm_one (f := fun j => if (wd lot i)[0]? = some c then 1 else 0) List.nodup_range (List.mem_range.mpr hi)]
      by_cases hc : (wd lot i)[0]? = some c
      · rw [if_pos hc, if_pos ⟨rfl, hc⟩]
      · rw [if_neg hc, if_neg fun z => hc z.2]
    · rw [if_neg hq, if_neg (fun z => by cases z.1)]
      refine Sm_zero fun j _ => ?_
      rw [W_nil]
      have : ¬ nxt lot j 0 = some (i, q) := by
        unfold nxt
        split
        · exact fun z => by cases z
        · exact fun z => hq (by cases z; rfl)
      rw [if_neg this]
      split <;> rfl
  | some r =>
    obtain ⟨j, p⟩ := r
    obtain ⟨g1, g2, g3⟩ := hm
    show Sm (if (wd lot j)[p]? = some c then [nxt lot j p] else []) _ = _
    by_cases he : j = i ∧ p + 1 = q
    · obtain ⟨rfl, rfl⟩ := he
      have hp : (some (j, p) : Rm) = prv j (p + 1) := by
        unfold prv
        rw [if_neg (by omega)]
        rfl
      by_cases hc : (wd lot j)[p]? = some c
      · rw [if_pos hc, Sm_cons, Sm_nil, W_nil]
        unfold nxt
        rw [if_neg (show ¬ p + 1 = (wd lot j).length by omega), if_pos rfl, if_pos ⟨hp, hc⟩]
      · rw [if_neg hc, Sm_nil, if_neg fun z => hc z.2]
    · have hn : ¬ ((some (j, p) : Rm) = prv i q ∧ (wd lot i)[q - 1]? = some c) := fun z => he (by
        have z := z.1
        unfold prv at z
        split at z
        · cases z
        · cases z
          exact ⟨rfl, by omega⟩)
      rw [if_neg hn]
      split
      · rw [Sm_cons, Sm_nil, W_nil]
        have : ¬ nxt lot j p = some (i, q) := by
          unfold nxt
          split
          · exact fun z => by cases z
          · exact fun z => he (by cases z; exact ⟨rfl, rfl⟩)
        rw [if_neg this]
      · rfl
theorem prv_is {lot : List Tx} {i q : Nat} (hi : i < lot.length) (h1 : 1 ≤ q) (h2 : q < (wd lot i).length) : IsRm lot (prv i q) := by
  unfold prv
  split
  · trivial
  · exact ⟨hi, by omega, by omega⟩
theorem W_snoc {lot : List Tx} {r : Rm} (hr : IsRm lot r) {i q c : Nat} (hi : i < lot.length) (h1 : 1 ≤ q) (h2 : q < (wd lot i).length) (u : Tx) : W lot r (some (i, q)) (u ++ [c]) = if (wd lot i)[q - 1]? = some c then W lot r (prv i q) u else 0 := by
  rw [W_app u [c] hr]
  have h : ∀ m ∈ rooms lot, W lot r m u * W lot m (some (i, q)) [c] = if m = prv i q then (if (wd lot i)[q - 1]? = some c then W lot r m u else 0) else 0 := fun m hm => by
    rw [W_one (mem_rooms.mp hm) hi h1 h2]
    by_cases h3 : m = prv i q
    · by_cases h4 : (wd lot i)[q - 1]? = some c
      · rw [if_pos ⟨h3, h4⟩, if_pos h3, if_pos h4, Nat.mul_one]
      · rw [if_neg (fun z => h4 z.2), if_pos h3, if_neg h4, Nat.mul_zero]
    · rw [if_neg (fun z => h3 z.1), if_neg h3, Nat.mul_zero]
  rw [Sm_congr h, Sm_one (f := fun m => if (wd lot i)[q - 1]? = some c then W lot r m u else 0) (nodup_rooms lot) (mem_rooms.mpr (prv_is hi h1 h2))]
theorem W_last {lot : List Tx} {r : Rm} (hr : IsRm lot r) (hg : r = none) {i : Nat} (hi : i < lot.length) : ∀ (q : Nat) (u : Tx), 1 ≤ q → q < (wd lot i).length → W lot r (some (i, q)) u = if q ≤ u.length ∧ u.drop (u.length - q) = (wd lot i).take q then W lot r none (u.take (u.length - q)) else 0 := fun q => by
  induction q with
  | zero => intro u h; omega
  | succ q ih =>
    intro u h1 h2
    rcases List.eq_nil_or_concat u with rfl | ⟨u, c, rfl⟩
    · rw [W_nil, hg, if_neg (fun z => by cases z), if_neg (fun z => by simp at z)]
    · rw [List.concat_eq_append, W_snoc hr hi h1 h2, Nat.add_sub_cancel, List.length_append, List.length_singleton]
      have hd : (u ++ [c]).drop (u.length + 1 - (q + 1)) = u.drop (u.length - q) ++ [c] := by
        rw [show u.length + 1 - (q + 1) = u.length - q by omega, List.drop_append_of_le_length (by omega)]
      have ht : (u ++ [c]).take (u.length + 1 - (q + 1)) = u.take (u.length - q) := by
        rw [show u.length + 1 - (q + 1) = u.length - q by omega, List.take_append_of_le_length (by omega)]
      have hw : (wd lot i).take (q + 1) = (wd lot i).take q ++ [(wd lot i)[q]] := (List.take_append_getElem (by omega)).symm
      have hq : (wd lot i)[q]? = some (wd lot i)[q] := List.getElem?_eq_getElem (by omega)
      rw [hd, ht, hw, hq]
      by_cases hc : (wd lot i)[q] = c
      · rw [if_pos (by rw [hc])]
        unfold prv
        by_cases h0 : q = 0
        · subst h0
          rw [if_pos rfl, if_pos ⟨by omega, by rw [Nat.sub_zero, List.drop_length, List.take_zero, hc]⟩, Nat.sub_zero, List.take_length]
        · rw [if_neg (by omega), Nat.add_sub_cancel, ih u (by omega) (by omega)]
          by_cases h3 : q ≤ u.length ∧ u.drop (u.length - q) = (wd lot i).take q
          · rw [if_pos h3, if_pos ⟨by omega, by rw [h3.2, hc]⟩]
          · rw [if_neg h3, if_neg fun z => h3 ⟨by omega, (List.append_inj' (t₁ := [c]) (t₂ := [(wd lot i)[q]]) z.2 rfl).1⟩]
      · rw [if_neg (fun z => hc (Option.some.inj z)), if_neg]
        intro z
        have := (List.append_inj' z.2 rfl).2
        exact hc (List.cons.inj this).1.symm
/-! round texts -/
def tn (t : Tx) (p : Nat) : Tx := t.drop p ++ t.take p
theorem tn_len (t : Tx) (p : Nat) : (tn t p).length = t.length := by
  unfold tn
  rw [List.length_append, List.length_drop, List.length_take]
  omega
/-- cuts from p on whose last word is i -/
def Tm (lot : List Tx) (t : Tx) (i p : Nat) : Nat := if stB lot (tn t p) (t.length - (wd lot i).length) i = true then Cn lot ((tn t p).take (t.length - (wd lot i).length)) else 0
theorem W_round {lot : List Tx} (hL : ∀ i, i < lot.length → wd lot i ≠ []) {t : Tx} (ht : t ≠ []) {i q : Nat} (hr : IsRm lot (some (i, q))) : W lot (some (i, q)) (some (i, q)) t = Tm lot t i ((wd lot i).length - q) := by
  obtain ⟨hi, h1, h2⟩ := hr
  have hn := List.length_pos_iff.mpr ht
  rw [W_word t q h2]
  unfold Tm
  by_cases hp : (wd lot i).length - q ≤ t.length
  · rw [if_pos hp]
    have hdl : (t.drop ((wd lot i).length - q)).length = t.length - ((wd lot i).length - q) := List.length_drop
    by_cases hb : t.take ((wd lot i).length - q) = (wd lot i).drop q
    · rw [if_pos hb, W_last (r := none) trivial rfl hi q _ h1 h2, hdl]
      by_cases hL2 : (wd lot i).length ≤ t.length
      · have e1 : t.length - ((wd lot i).length - q) - q = t.length - (wd lot i).length := by omega
        have hst : (stB lot (tn t ((wd lot i).length - q)) (t.length - (wd lot i).length) i = true) ↔ (t.drop ((wd lot i).length - q)).drop (t.length - (wd lot i).length) = (wd lot i).take q := by
          unfold stB
          rw [decide_eq_true_eq, tn_len]
          have e2 : (tn t ((wd lot i).length - q)).drop (t.length - (wd lot i).length) = (t.drop ((wd lot i).length - q)).drop (t.length - (wd lot i).length) ++ (wd lot i).drop q := by
            unfold tn
            rw [List.drop_append_of_le_length (by rw [hdl]; omega), hb]
          have e3 : ((t.drop ((wd lot i).length - q)).drop (t.length - (wd lot i).length)).length = q := by
            rw [List.length_drop, hdl]
            omega
          rw [e2, List.take_of_length_le (by rw [List.length_append, e3, List.length_drop]; omega)]
          constructor
          · rintro ⟨_, z⟩
            have z2 : (t.drop ((wd lot i).length - q)).drop (t.length - (wd lot i).length) ++ (wd lot i).drop q = (wd lot i).take q ++ (wd lot i).drop q := by rw [z, List.take_append_drop]
            exact List.append_cancel_right z2
          · intro z
            exact ⟨by omega, by rw [z, List.take_append_drop]⟩
        rw [e1]
        by_cases hs : stB lot (tn t ((wd lot i).length - q)) (t.length - (wd lot i).length) i = true
        · rw [if_pos hs, if_pos ⟨by omega, hst.mp hs⟩, W_gap hL _ _ (Nat.le_refl _)]
          congr 1
          unfold tn
          rw [List.take_append_of_le_length (by rw [hdl]; omega)]
        · rw [if_neg hs, if_neg fun z => hs (hst.mpr z.2)]
      · rw [if_neg (fun z => by omega), if_neg]
        intro z
        unfold stB at z
        have := (of_decide_eq_true z).1
        rw [tn_len] at this
        omega
    · rw [if_neg hb, if_neg]
      intro z
      unfold stB at z
      obtain ⟨z1, z2⟩ := of_decide_eq_true z
      rw [tn_len] at z1
      refine hb ?_
      have e2 : (tn t ((wd lot i).length - q)).drop (t.length - (wd lot i).length) = (t.drop ((wd lot i).length - q)).drop (t.length - (wd lot i).length) ++ t.take ((wd lot i).length - q) := by
        unfold tn
        rw [List.drop_append_of_le_length (by rw [hdl]; omega)]
      have e3 : ((t.drop ((wd lot i).length - q)).drop (t.length - (wd lot i).length)).length = q := by
        rw [List.length_drop, hdl]
        omega
      rw [e2, List.take_of_length_le (by rw [List.length_append, e3, List.length_take]; omega)] at z2
      have h5 := List.drop_left' (l₂ := t.take ((wd lot i).length - q)) e3
      rw [z2] at h5
      exact h5.symm
  · rw [if_neg hp, if_neg (fun z => by have h9 := (Prod.mk.inj (Option.some.inj z.2)).2; omega), if_neg]
    intro z
    unfold stB at z
    have := (of_decide_eq_true z).1
    rw [tn_len] at this
    omega
theorem Sm_rev (f : Nat → Nat) : ∀ m, Sm (List.range' 1 m) (fun q => f (m + 1 - q)) = Sm (List.range' 1 m) f := fun m => by
  have h : ∀ (m a : Nat), Sm (List.range' 1 m) (fun q => f (a + (m + 1 - q))) = Sm (List.range' (a + 1) m) f := fun m => by
    induction m with
    | zero => intro a; rfl
    | succ m ih =>
      intro a
      rw [List.range'_1_concat (n := m), Sm_app, Sm_cons, Sm_nil, List.range'_succ, Sm_cons]
      have := ih (a + 1)
      rw [← this]
      have e : Sm (List.range' 1 m) (fun q => f (a + (m + 1 + 1 - q))) = Sm (List.range' 1 m) fun q => f (a + 1 + (m + 1 - q)) := Sm_congr fun q hq => by
        rw [List.mem_range'_1] at hq
        congr 1
        omega
      rw [e]
      have e2 : a + (m + 1 + 1 - (1 + m)) = a + 1 := by omega
      rw [e2]
      omega
  have := h m 0
  rw [Nat.zero_add] at this
  rw [← this]
  exact Sm_congr fun q _ => by rw [Nat.zero_add]
theorem Tm_long {lot : List Tx} {t : Tx} {i p : Nat} (h : t.length < (wd lot i).length) : Tm lot t i p = 0 := by
  unfold Tm
  rw [if_neg]
  intro z
  unfold stB at z
  have := (of_decide_eq_true z).1
  rw [tn_len] at this
  omega
theorem Sm_cut (f : Nat → Nat) {L n : Nat} (h : L ≤ n) : Sm (List.range' 1 (L - 1)) f = Sm (List.range' 1 (n - 1)) fun p => if p < L then f p else 0 := by
  have hh : ∀ k, Sm (List.range' 1 (L - 1)) f = Sm (List.range' 1 (L - 1 + k)) fun p => if p < L then f p else 0 := fun k => by
    induction k with
    | zero =>
      refine Sm_congr fun p hp => ?_
      rw [List.mem_range'_1] at hp
      rw [if_pos (by omega)]
    | succ k ih =>
      rw [← Nat.add_assoc, List.range'_1_concat, Sm_app, Sm_cons, Sm_nil, ← ih]
      by_cases h0 : L = 0
      · subst h0
        rw [if_neg (by omega)]
        rfl
      · rw [if_neg (by omega)]
        rfl
  by_cases h0 : L = 0
  · subst h0
    symm
    exact Sm_zero fun p _ => if_neg (by omega)
  · have := hh (n - L)
    rw [show L - 1 + (n - L) = n - 1 by omega] at this
    exact this
/-- ways round, by the places where the first word begins -/
theorem N_is {lot : List Tx} (hL : ∀ i, i < lot.length → wd lot i ≠ []) {t : Tx} (ht : t ≠ []) : N lot t = Cn lot t + Sm (List.range' 1 (t.length - 1)) fun p => Sm (List.range lot.length) fun i => if p < (wd lot i).length then Tm lot t i p else 0 := by
  unfold N rooms
  rw [Sm_cons, W_gap hL _ _ (Nat.le_refl _), Sm_flat, Sm_comm (f := fun p i => if p < (wd lot i).length then Tm lot t i p else 0)]
  congr 1
  refine Sm_congr fun i hi => ?_
  have hi := List.mem_range.mp hi
  rw [Sm_map]
  have e : Sm (List.range' 1 ((wd lot i).length - 1)) (fun q => W lot (some (i, q)) (some (i, q)) t) = Sm (List.range' 1 ((wd lot i).length - 1)) fun q => Tm lot t i ((wd lot i).length - 1 + 1 - q) := Sm_congr fun q hq => by
    rw [List.mem_range'_1] at hq
    rw [W_round hL ht ⟨hi, by omega, by omega⟩]
    congr 1
    omega
  rw [e, Sm_rev (fun p => Tm lot t i p)]
  by_cases hl : (wd lot i).length ≤ t.length
  · exact Sm_cut _ hl
  · rw [Sm_zero fun p _ => Tm_long (by omega), Sm_zero fun p _ => by rw [Tm_long (by omega)]; split <;> rfl]
end K16
set_option Elab.async false
set_option linter.all false
set_option maxRecDepth 100000
set_option maxHeartbeats 4000000
namespace K16
open Wc
/-! cuts of u from a spot on, words beginning where ok says so alone -/
def wAt (lot : List Tx) (u : Tx) (s : Nat) : List Nat := (List.range lot.length).filter (stB lot u s)
def cutsG (lot : List Tx) (u : Tx) (ok : Nat → Bool) : Nat → Nat → List (List Nat)
  | 0, s => if s = u.length then [[]] else []
  | d + 1, s => if s = u.length then [[]] else if ok s = true then (wAt lot u s).flatMap fun i => (cutsG lot u ok d (s + (wd lot i).length)).map (i :: ·) else []
def cG (lot : List Tx) (u : Tx) (ok : Nat → Bool) (s : Nat) : List (List Nat) := cutsG lot u ok (u.length - s) s
def gN (lot : List Tx) (u : Tx) (ok : Nat → Bool) (s : Nat) : Nat := (cG lot u ok s).length
theorem flat_same {α β : Type} {l : List α} {f g : α → List β} (h : ∀ a ∈ l, f a = g a) : l.flatMap f = l.flatMap g := by
  rw [List.flatMap_def, List.flatMap_def, List.map_congr_left h]
theorem stB_is {lot : List Tx} {u : Tx} {s i : Nat} (h : stB lot u s i = true) : s + (wd lot i).length ≤ u.length ∧ (u.drop s).take (wd lot i).length = wd lot i := by
  unfold stB at h
  exact of_decide_eq_true h
theorem wAt_is {lot : List Tx} {u : Tx} {s i : Nat} (h : i ∈ wAt lot u s) : i < lot.length ∧ stB lot u s i = true := by
  obtain ⟨h1, h2⟩ := List.mem_filter.mp h
  exact ⟨List.mem_range.mp h1, h2⟩
section
variable {lot : List Tx} (hL : ∀ i, i < lot.length → wd lot i ≠ []) {u : Tx} {ok : Nat → Bool}
include hL
theorem cutsG_fuel : ∀ d d' s, s ≤ u.length → u.length - s ≤ d → u.length - s ≤ d' → cutsG lot u ok d s = cutsG lot u ok d' s := fun d => by
  induction d with
  | zero =>
    intro d' s hs h1 h2
    have : s = u.length := by omega
    cases d' with
    | zero => rfl
    | succ d' => rw [cutsG, cutsG, if_pos this, if_pos this]
  | succ d ih =>
    intro d' s hs h1 h2
    by_cases h : s = u.length
    · cases d' with
      | zero => rw [cutsG, cutsG, if_pos h, if_pos h]
      | succ d' => rw [cutsG, cutsG, if_pos h, if_pos h]
    · cases d' with
      | zero => omega
      | succ d' =>
        rw [cutsG, cutsG, if_neg h, if_neg h]
        split
        · refine flat_same fun i hi => ?_
          obtain ⟨h3, h4⟩ := wAt_is hi
          have := List.length_pos_iff.mpr (hL i h3)
          have := (stB_is h4).1
          rw [ih d' (s + (wd lot i).length) (by omega) (by omega) (by omega)]
        · rfl
theorem cG_step {s : Nat} (hs : s < u.length) : cG lot u ok s = if ok s = true then (wAt lot u s).flatMap fun i => (cG lot u ok (s + (wd lot i).length)).map (i :: ·) else [] := by
  obtain ⟨d, hd⟩ : ∃ d, u.length - s = d + 1 := ⟨u.length - s - 1, by omega⟩
  unfold cG
  rw [hd, cutsG, if_neg (by omega)]
  split
  · refine flat_same fun i hi => ?_
    obtain ⟨h3, h4⟩ := wAt_is hi
    have := List.length_pos_iff.mpr (hL i h3)
    have := (stB_is h4).1
    rw [cutsG_fuel hL d (u.length - (s + (wd lot i).length)) _ (by omega) (by omega) (by omega)]
  · rfl
omit hL in
theorem cG_end : cG lot u ok u.length = [[]] := by
  unfold cG
  rw [Nat.sub_self, cutsG, if_pos rfl]
omit hL in
theorem gN_end : gN lot u ok u.length = 1 := by
  unfold gN
  rw [cG_end]
  rfl
theorem gN_step {s : Nat} (hs : s < u.length) : gN lot u ok s = if ok s = true then Sm (List.range lot.length) fun i => if stB lot u s i = true then gN lot u ok (s + (wd lot i).length) else 0 else 0 := by
  unfold gN
  rw [cG_step hL hs]
  split
  · rw [List.length_flatMap]
    show Sm (wAt lot u s) (fun i => ((cG lot u ok (s + (wd lot i).length)).map (i :: ·)).length) = _
    unfold wAt
    rw [Sm_if]
    exact Sm_congr fun i _ => by rw [List.length_map]
  · rfl
/-- all beginnings: all cuts -/
theorem gN_all (hok : ∀ s, s < u.length → ok s = true) : ∀ d s, s + d = u.length → gN lot u ok s = Cn lot (u.drop s) := fun d => by
  induction d using Nat.strongRecOn with
  | ind d ih =>
    intro s hs
    by_cases h0 : d = 0
    · subst h0
      have : s = u.length := by omega
      subst this
      rw [gN_end, List.drop_length, Cn_nil]
    · have hl : (u.drop s).length = d := by rw [List.length_drop]; omega
      rw [gN_step hL (by omega), if_pos (hok s (by omega)), Cn_step hL (fun z => by rw [z] at hl; simp at hl; omega)]
      refine Sm_congr fun i hi => ?_
      have hst : stB lot u s i = stB lot (u.drop s) 0 i := by
        unfold stB
        refine decide_eq_decide.mpr ?_
        rw [List.drop_zero, hl]
        exact and_congr_left fun _ => by omega
      rw [← hst]
      split
      · rename_i h1
        have h2 := (stB_is h1).1
        have h3 := List.length_pos_iff.mpr (hL i (List.mem_range.mp hi))
        rw [ih (d - (wd lot i).length) (by omega) (s + (wd lot i).length) (by omega), List.drop_drop]
      · rfl
/-- the cuts from s on whose last word is i -/
def Ai (lot : List Tx) (u : Tx) (p s i : Nat) : Nat := if p < (wd lot i).length ∧ s ≤ u.length - (wd lot i).length ∧ stB lot u (u.length - (wd lot i).length) i = true then Cn lot ((u.drop s).take (u.length - (wd lot i).length - s)) else 0
theorem Ai_step {p s i : Nat} (hi : i < lot.length) (hs : s < u.length - p) : Ai lot u p s i = (if u.length = s + (wd lot i).length ∧ stB lot u s i = true then 1 else 0) + Sm (List.range lot.length) fun j => if stB lot u s j = true then Ai lot u p (s + (wd lot j).length) i else 0 := by
  have hpos := List.length_pos_iff.mpr (hL i hi)
  by_cases hA : p < (wd lot i).length ∧ s ≤ u.length - (wd lot i).length ∧ stB lot u (u.length - (wd lot i).length) i = true
  · obtain ⟨h1, h2, h3⟩ := hA
    have h4 := (stB_is h3).1
    unfold Ai
    rw [if_pos ⟨h1, h2, h3⟩]
    by_cases he : u.length = s + (wd lot i).length
    · have e0 : u.length - (wd lot i).length = s := by omega
      rw [e0] at h3 ⊢
      rw [Nat.sub_self, List.take_zero, Cn_nil, if_pos ⟨he, h3⟩, Sm_zero]
      intro j hj
      have hpj := List.length_pos_iff.mpr (hL j (List.mem_range.mp hj))
      split
      · rw [if_neg (fun z => by omega)]
      · rfl
    · rw [if_neg (fun z => he z.1), Nat.zero_add]
      have hvl : ((u.drop s).take (u.length - (wd lot i).length - s)).length = u.length - (wd lot i).length - s := by
        rw [List.length_take, List.length_drop]
        omega
      rw [Cn_step hL (fun z => by rw [z] at hvl; simp at hvl; omega)]
      refine Sm_congr fun j hj => ?_
      have hpj := List.length_pos_iff.mpr (hL j (List.mem_range.mp hj))
      by_cases hst : stB lot u s j = true
      · obtain ⟨g1, g2⟩ := stB_is hst
        rw [if_pos hst]
        by_cases hle : s + (wd lot j).length ≤ u.length - (wd lot i).length
        · have hv : stB lot ((u.drop s).take (u.length - (wd lot i).length - s)) 0 j = true := by
            unfold stB
            refine decide_eq_true ⟨by rw [hvl]; omega, ?_⟩
            rw [List.drop_zero, List.take_take, Nat.min_eq_left (by omega)]
            exact g2
          rw [if_pos hv, if_pos ⟨h1, hle, h3⟩]
          congr 1
          rw [List.drop_take, List.drop_drop]
          congr 1
          omega
        · have hv : ¬ stB lot ((u.drop s).take (u.length - (wd lot i).length - s)) 0 j = true := fun z => by
            have := (stB_is z).1
            rw [hvl] at this
            omega
          rw [if_neg hv, if_neg (fun z => hle z.2.1)]
      · rw [if_neg hst, if_neg]
        intro z
        obtain ⟨z1, z2⟩ := stB_is z
        rw [hvl] at z1
        rw [List.drop_zero, List.take_take, Nat.min_eq_left (by omega)] at z2
        refine hst ?_
        unfold stB
        exact decide_eq_true ⟨by omega, z2⟩
  · have hz : ∀ e, s ≤ e → Ai lot u p e i = 0 := fun e he => by
      unfold Ai
      rw [if_neg fun z => hA ⟨z.1, by omega, z.2.2⟩]
    rw [hz s (Nat.le_refl _), if_neg, Nat.zero_add, Sm_zero]
    · intro j _
      rw [hz _ (by omega)]
      split <;> rfl
    · rintro ⟨z1, z2⟩
      exact hA ⟨by omega, by omega, by rw [show u.length - (wd lot i).length = s by omega]; exact z2⟩
/-- from a place behind 0 on -/
theorem gN_round {p : Nat} (hok : ∀ s, ok s = decide (s = 0 ∨ p + s < u.length)) : ∀ d s, s + d = u.length → s < u.length - p → gN lot u ok s = Sm (List.range lot.length) fun i => Ai lot u p s i := fun d => by
  induction d using Nat.strongRecOn with
  | ind d ih =>
    intro s hs hlt
    have h1 : Sm (List.range lot.length) (fun i => Ai lot u p s i) = Sm (List.range lot.length) fun j => if stB lot u s j = true then ((if u.length = s + (wd lot j).length then 1 else 0) + Sm (List.range lot.length) fun i => Ai lot u p (s + (wd lot j).length) i) else 0 := by
      rw [Sm_congr fun i hi => Ai_step hL (List.mem_range.mp hi) hlt, Sm_add, Sm_comm, ← Sm_add]
      refine Sm_congr fun j _ => ?_
      by_cases h : stB lot u s j = true
      · rw [if_pos h, Sm_congr fun i _ => if_pos h]
        congr 1
        by_cases h2 : u.length = s + (wd lot j).length
        · rw [if_pos ⟨h2, h⟩, if_pos h2]
        · rw [if_neg (fun z => h2 z.1), if_neg h2]
      · rw [if_neg h, if_neg (fun z => h z.2), Sm_zero fun i _ => if_neg h]
    rw [h1, gN_step hL (by omega), hok, if_pos (decide_eq_true (by omega))]
    refine Sm_congr fun j hj => ?_
    have hpj := List.length_pos_iff.mpr (hL j (List.mem_range.mp hj))
    by_cases h : stB lot u s j = true
    · rw [if_pos h, if_pos h]
      have hle := (stB_is h).1
      by_cases he : u.length = s + (wd lot j).length
      · rw [if_pos he, ← he, gN_end, Sm_zero]
        intro i hi
        have hpi := List.length_pos_iff.mpr (hL i (List.mem_range.mp hi))
        unfold Ai
        rw [if_neg (fun z => by omega)]
      · rw [if_neg he, Nat.zero_add]
        by_cases h3 : s + (wd lot j).length < u.length - p
        · exact ih (d - (wd lot j).length) (by omega) (s + (wd lot j).length) (by omega) h3
        · rw [gN_step hL (by omega), hok, if_neg (fun z => by have := of_decide_eq_true z; omega), Sm_zero]
          intro i hi
          unfold Ai
          rw [if_neg (fun z => by omega)]
    · rw [if_neg h, if_neg h]
end
/-! the cuts of a round -/
def okR (n p : Nat) : Nat → Bool := fun s => decide (s = 0 ∨ p + s < n)
/-- the cuts from a place on -/
def Rd (lot : List Tx) (t : Tx) (p : Nat) : List (List Nat) := cG lot (tn t p) (okR t.length p) 0
theorem Rd_count {lot : List Tx} (hL : ∀ i, i < lot.length → wd lot i ≠ []) {t : Tx} (ht : t ≠ []) : Sm (List.range t.length) (fun p => (Rd lot t p).length) = N lot t := by
  have hn := List.length_pos_iff.mpr ht
  rw [N_is hL ht]
  have hr : List.range t.length = 0 :: List.range' 1 (t.length - 1) := by
    rw [List.range_eq_range', show t.length = (t.length - 1) + 1 by omega, List.range'_succ]
    simp
  rw [hr, Sm_cons]
  congr 1
  · have e : tn t 0 = t := by
      unfold tn
      rw [List.drop_zero, List.take_zero, List.append_nil]
    have := gN_all hL (u := tn t 0) (ok := okR t.length 0) (fun s hs => by
      rw [tn_len] at hs
      exact decide_eq_true (by omega)) t.length 0 (by rw [tn_len]; omega)
    rw [List.drop_zero] at this
    show gN lot (tn t 0) (okR t.length 0) 0 = _
    rw [this, e]
  · refine Sm_congr fun p hp => ?_
    rw [List.mem_range'_1] at hp
    have := gN_round hL (u := tn t p) (ok := okR t.length p) (p := p) (fun s => by rw [tn_len]; rfl) t.length 0 (by rw [tn_len]; omega) (by rw [tn_len]; omega)
    show gN lot (tn t p) (okR t.length p) 0 = _
    rw [this]
    refine Sm_congr fun i hi => ?_
    unfold Ai Tm
    rw [tn_len, List.drop_zero, Nat.sub_zero]
    by_cases h1 : p < (wd lot i).length
    · rw [if_pos h1]
      by_cases h2 : stB lot (tn t p) (t.length - (wd lot i).length) i = true
      · rw [if_pos ⟨h1, Nat.zero_le _, h2⟩, if_pos h2]
      · rw [if_neg (fun z => h2 z.2.2), if_neg h2]
    · rw [if_neg (fun z => h1 z.1), if_neg h1]
/-- by the last word -/
theorem Cn_last {lot : List Tx} (hL : ∀ i, i < lot.length → wd lot i ≠ []) {u : Tx} (hu : u ≠ []) : Cn lot u = Sm (List.range lot.length) fun i => if stB lot u (u.length - (wd lot i).length) i = true then Cn lot (u.take (u.length - (wd lot i).length)) else 0 := by
  have hn := List.length_pos_iff.mpr hu
  have h1 := gN_all hL (u := u) (ok := fun s => decide (s = 0 ∨ 0 + s < u.length)) (fun s hs => decide_eq_true (by omega)) u.length 0 (by omega)
  rw [List.drop_zero] at h1
  rw [← h1, gN_round hL (p := 0) (fun s => rfl) u.length 0 (by omega) (by omega)]
  refine Sm_congr fun i hi => ?_
  have hpi := List.length_pos_iff.mpr (hL i (List.mem_range.mp hi))
  unfold Ai
  rw [List.drop_zero, Nat.sub_zero]
  by_cases h : stB lot u (u.length - (wd lot i).length) i = true
  · rw [if_pos ⟨hpi, Nat.zero_le _, h⟩, if_pos h]
  · rw [if_neg (fun z => h z.2.2), if_neg h]
theorem N_tn {lot : List Tx} (t : Tx) (p : Nat) : N lot (tn t p) = N lot t := by
  unfold tn
  rw [N_turn, List.take_append_drop]
theorem Cn_le {lot : List Tx} (hL : ∀ i, i < lot.length → wd lot i ≠ []) {t : Tx} (ht : t ≠ []) : Cn lot t ≤ N lot t := by
  rw [N_is hL ht]
  exact Nat.le_add_right _ _
end K16
set_option Elab.async false
set_option linter.all false
set_option maxRecDepth 100000
set_option maxHeartbeats 4000000
/-! sets of numbers out of a list, sorted -/
namespace Wt
open PySem PySem.Spec PyProof.Rows L2 Evl Wc
section
variable {P : Program} {w : World} {A : Around} {E : Value → Shared → Prop} {s : Shared}
set_option maxHeartbeats 3200000 in
theorem call_set_ints {src : Addr} {its : Array Value} {xs : List Int} {Q : Value → Shared → Prop} (noH : A.handled = none) (isl : s.heap.IsList src its) (hit : IntsAre its.toList xs) (room : xs.length + 1 < scanBound)
    (fin : ∀ (h2 : Heap) (tk c : Nat), SetR w h2 s.heap.objs.size (fun j => decide (j ∈ xs)) c → c ≤ xs.length → (∀ b o, s.heap.get? b = some o → h2.get? b = some o) → Q (.ref s.heap.objs.size) { s with heap := h2, toks := tk }) :
    wpAny (model P w) A (call (.type "set") [.ref src]) Q E s := by
  have lx : xs.length = its.size := by rw [← Array.length_toList, IntsAre.length hit]
  obtain ⟨c, tl, q0⟩ := PySem.F.called_set.mro
  have q1 := PySem.F.called_set.made; have q2 := PySem.F.called_set.sub
  refine wpAny_call (codeAny_of_tree (wpAny_pure ⟨Code.quiet_builtin _ (by decide +kernel), codeAny_builtin PySem.F.entry_type_call ?_⟩))
  rw [Around.under_plain (weight_type_call_type "set" [.ref src] []) rfl]
  have q3 := PySem.F.called_set.notType; have q4 := PySem.F.called_set.canCreate
  have q5 := PySem.F.typeCall_set_1 (.ref src)
  repeat (any_goals (first | assumption | wp_step))
  refine codeAny_mono (code_set_led1 (.ref src) (E := E) (Q₁ := fun ob t1 => ob = .ref s.heap.objs.size ∧ t1 = { s with heap := s.heap.push (so w) }) ⟨rfl, rfl⟩) fun r t1 hr => ?_
  match r, hr with
  | .error e, hr => exact hr
  | .ok (.ret ob), hr =>
    obtain ⟨rfl, rfl⟩ := hr
    have atS : (s.heap.push (so w)).get? s.heap.objs.size = some (so w) := Heap.get?_push_size _ rfl
    have tyS : Shared.TypeIs { s with heap := s.heap.push (so w) } (.ref s.heap.objs.size) "set" := ⟨_, atS, rfl⟩
    have q6 := PySem.F.called_set.init.lookup
    have q7 := PySem.F.called_set.init.bind (.ref s.heap.objs.size)
    repeat (any_goals (first | assumption | wp_step))
    refine codeAny_mono (codeAny_call_builtin (R := wants (fun r t2 => r = .none ∧ ∃ h2 tk c, t2 = { s with heap := h2, toks := tk } ∧ SetR w h2 s.heap.objs.size (fun j => decide (j ∈ xs)) c ∧ c ≤ xs.length ∧ ∀ b o, s.heap.get? b = some o → h2.get? b = some o) E) PySem.F.called_set.init.plain PySem.F.entry_set_init (check_set_init_1 tyS ?_)) fun r2 t2 hr2 => ?_
    · obtain ⟨ol, atl, cl, nl, dl⟩ := isl
      obtain ⟨ocls, odict, odata, oslots⟩ := ol
      simp only at cl dl
      subst cl; subst dl
      have lt := Heap.lt_size atl
      have isl2 : (s.heap.push (so w)).IsList src its := ⟨_, Heap.get?_push_of_some _ atl, rfl, nl, rfl⟩
      have q8 := PySem.F.sub_list_set; have q9 := PySem.F.sub_list_frozenset
      have q10 : (Value.type "list" == Value.type "dict") = false := by decide
      have atl2 : (s.heap.push (so w)).get? src = some { cls := .type "list", dict := odict, data := .seq its nl, slots := oslots } := Heap.get?_push_of_some _ atl
      unfold Builtin.«set.__init__» noKeywords Builtin.Frozenset.updateFrom
      generalize hI : pyIter = iter
      wp_walk
      subst hI
      refine wpAny_pyIter_list isl2 (wpAny_bind (wpAny_runValue ?_))
      have no3 : A.in1.in1.in1.handled = none := by simp [noH]
      have zI : (s.heap.push (so w)).objs.size = s.heap.objs.size + 1 := Heap.size_push ..
      have ne1 : src ≠ (s.heap.push (so w)).objs.size := by rw [zI]; exact Nat.ne_of_lt (Nat.lt_succ_of_lt lt)
      have out1 : s.heap.objs.size ∉ [(s.heap.push (so w)).objs.size, src] := by
        rw [zI]
        intro z
        rcases List.mem_cons.mp z with z | z
        · exact absurd z (Nat.ne_of_lt (Nat.lt_succ_self _))
        · exact absurd (List.mem_singleton.mp z) (Nat.ne_of_gt lt)
      refine set_update_ints (P := P) ((Walks.list no3 _ src ne1 its).toS) s.heap.objs.size out1 xs lx.symm room (fun i v hv => ?_) its.size 0 _ (Nat.sub_zero _) (Nat.zero_le _) ⟨⟨_, Heap.get?_push_size _ rfl, rfl, rfl⟩, isl2.push _⟩ ⟨0, Nat.le_refl _, setR_new_at (ns := xs) (Heap.get?_push_of_some _ atS)⟩ fun s2 l2 mv hc2 X2 => ?_
      · have hv2 : its.toList[i]? = some v := by rw [Array.getElem?_toList]; exact hv
        obtain ⟨t, e⟩ := IntsAre.int_at hit i v hv2
        have hi : i < xs.length := by
          have := (List.getElem?_eq_some_iff.mp hv2).1
          rw [Array.length_toList] at this
          omega
        exact ⟨xs[i], t, List.getElem?_eq_getElem hi, by rw [e, List.getD_eq_getElem?_getD, List.getElem?_eq_getElem hi]; rfl⟩
      · obtain ⟨h2, g2, d2, tk2, os2⟩ := s2
        obtain rfl : g2 = s.gens := mv.gens
        obtain rfl : d2 = s.drawn := mv.drawn
        obtain rfl : os2 = s.os := mv.os
        show wpAny _ _ (Bind.bind (pure _) _) _ _ _
        refine wpAny_pure (wpAny_pure ⟨rfl, h2, tk2, l2, rfl, X2, by omega, fun b o e => ?_⟩)
        have hb := Heap.lt_size e
        refine mv.heap b o (fun z => ?_) (Heap.get?_push_of_some _ (Heap.get?_push_of_some _ e))
        rw [zI] at z
        rcases List.mem_cons.mp z with z | z
        · exact absurd z (Nat.ne_of_lt hb)
        · exact absurd (List.mem_singleton.mp z) (Nat.ne_of_lt (Nat.lt_succ_of_lt hb))
    · match r2, hr2 with
      | .error e, hr2 => exact hr2
      | .ok (.ret v2), hr2 =>
        obtain ⟨rfl, h2, tk, l, rfl, X, m, k⟩ := hr2
        repeat (any_goals (first | assumption | wp_step))
        exact fin _ _ _ X m k
end
section
variable {X : Cx}
def rSetI (K : PySem.W.Frag) (w : World) : List V → Hp → VK → Prop := fun vs H Q => ∃ (p : Addr) (ns : List Int), vs = [.ref p] ∧ SqL K H p (ns.map V.int) ∧ ns.length ≤ 60 ∧ ∀ q c, c ≤ ns.length → H q = none → Q (.ref q) (upd H q (SetO w q (fun j => decide (j ∈ ns)) c))
theorem cr_setI (hc : X.calm = true) : CallR X (.type "set") (rSetI X.K X.w) := by
  intro pins s σ H vs us Q I r h
  obtain ⟨p, ns, rfl, hp, hl, q⟩ := h
  rw [Vals.ref1 r]
  obtain ⟨its, rv, pl, hz⟩ := I.list hp
  refine call_set_ints (P := X.prog) (xs := ns) (I.ok.hd hc) pl.isList (ints_of_vals rv) (by unfold scanBound; omega) fun h2 tk c R m k => ?_
  have hn : H s.heap.objs.size = none := I.hok.fresh (Nat.le_refl _)
  exact ⟨.ref _, upd H s.heap.objs.size (SetO X.w s.heap.objs.size (fun j => decide (j ∈ ns)) c), I.laid (t' := tk) k (Nat.le_refl _) (setO_new R), rfl, q _ c m hn⟩
theorem ksetI {K : PySem.W.Frag} {w : World} (hc : X.calm = true := by rfl) (hK : X.K = K := by rfl) (hw : X.w = w := by rfl) : CallR X (.type "set") (rSetI K w) := by
  subst hK hw
  exact cr_setI hc
theorem ksortI {w : World} (hc : X.calm = true := by rfl) (hw : X.w = w := by rfl) : CallR X (.builtin "sorted") (rSortedSet w) := by
  subst hw
  exact cr_sortedSet hc
end
/-- sorted(set(..)) of the numbers of a standing list -/
theorem sortIntsAt {K : PySem.W.Frag} {w : World} {p : Addr} {ns : List Int} {H : Hp} {Q : VK} (hp : H p = some (.lst (ns.map V.int))) (hl : ns.length ≤ 60) (k : ∀ (r : Addr) (zs : List Int) (H3 : Hp), zs.Pairwise (· < ·) → (∀ z, z ∈ zs ↔ z ∈ ns) → H r = none → Ex H H3 → H3 r = some (.lst (zs.map V.int)) → Q (.ref r) H3) : rSetI K w [.ref p] H fun s H2 => rSortedSet w [s] H2 Q :=
  ⟨p, ns, rfl, Evl.sq_of hp, hl, fun q c hc hq => ⟨q, _, c, rfl, upd_same, by omega, fun zs r ha hm hz hr => k r zs _ ha (fun z => (hm z).trans decide_eq_true_iff) (fresh_back (Ex.new hq) hr) ((Ex.new hq).trans (Ex.new hr)) upd_same⟩⟩
end Wt
set_option Elab.async false
set_option linter.all false
set_option maxRecDepth 100000
set_option maxHeartbeats 2000000
/-! comprehensions with any target -/
namespace Wt
open PySem PySem.Spec PyProof.Rows L2 Evl Wc
section
variable {K : PySem.W.Frag} {σ : L2.St} {H : Hp} {te : TE} {t : TT}
theorem el_lcG {α : Type} {wi : TI} {g : TG} {vs : List Nat} {n : Nat} {own : Addr → Prop} {P : Nat → V → Hp → Prop} {gv : α → V} {p : α → Bool} (xs : List α) (st : α → L2.St) (R : α → V → Hp → Prop) (hs : Src wi σ H n own P) (hn : n ≤ 40000) (hx : xs.length = n)
    (hP : ∀ i x H1, P i x H1 → ∃ a, xs[i]? = some a ∧ R a x H1) (hg : ∀ a x H1 (Q' : L2.St → Hp → Prop), R a x H1 → Q' (st a) H1 → g x (wipe σ vs) H1 Q') (hw : ∀ a, wipe (st a) vs = wipe σ vs)
    (ht : ∀ a H1, Ex H H1 → a ∈ xs → EvT t (st a) H1 (p a)) (he : ∀ a H1, Ex H H1 → a ∈ xs → p a = true → Ev te (st a) H1 (gv a)) : EvL (tLc wi g t te vs) σ H ((xs.filter p).map gv) := fun H0 e Q q => by
  have hgm := given_map xs p gv (fun i => match xs[i]? with | some a => p a | none => false) (fun i => match xs[i]? with | some a => gv a | none => .non) (fun i a ha => by simp only [ha]) (fun i a ha => by simp only [ha])
  rw [hx] at hgm
  generalize hf : (fun (i : Nat) => match xs[i]? with | some a => p a | none => false) = f at hgm
  generalize hv : (fun (i : Nat) => match xs[i]? with | some a => gv a | none => V.non) = v at hgm
  exact hs H0 e _ fun J H1 S e1 w hS => fun Dl hD =>
    lc_it w (Qd := fun H3 => Q (.ref Dl) H3) (Cw H1 f v Dl) ⟨hD, Ex.new hD, upd_same⟩ (fun i Hi _ c => hS (fun _ => False) Hi (fun _ z => z.elim) (.of c.2.1)) (fun i x Hi Hj hi c hy => by
      obtain ⟨ey, hPi⟩ := hy
      obtain ⟨a, ha, hr⟩ := hP i x Hj hPi
      have hm : a ∈ xs := List.mem_of_getElem? ha
      have fa : f i = p a := by rw [← hf]; simp only [ha]
      have va : v i = gv a := by rw [← hv]; simp only [ha]
      have c' : Cw H1 f v Dl i Hj := ⟨c.1, c.2.1.trans ey, ey _ _ c.2.2⟩
      have eAll : Ex H Hj := (e.trans e1).trans c'.2.1
      obtain ⟨c1, c2, c3⟩ := c'
      refine hg a x Hj _ hr ⟨hw a, ht a Hj eAll hm Hj (Ex.refl _) _ fun H3 e3 => ?_⟩
      cases hp : p a with
      | true =>
        show te (st a) H3 fun y H4 => ∃ acc, H4 Dl = some (.lst acc) ∧ acc.length < sizeLine ∧ Cw H1 f v Dl (i + 1) (upd H4 Dl (.lst (acc ++ [y])))
        refine he a Hj eAll hm hp H3 e3 _ fun H4 e4 => ⟨given i f v, e4 Dl _ (e3 Dl _ c3), sz_lt (by have := given_len i f v; omega), c1, Ex.mut ((c2.trans e3).trans e4) c1, ?_⟩
        rw [given_yes (fa.trans hp), va]
        exact upd_same
      | false =>
        show Cw H1 f v Dl (i + 1) H3
        refine ⟨c1, c2.trans e3, ?_⟩
        rw [given_no (fa.trans hp)]
        exact e3 Dl _ c3) (fun H3 c => by
      refine q Dl H3 (fresh_back e1 c.1) (e1.trans c.2.1) ?_
      rw [← hgm]
      exact c.2.2)
theorem rc_allT {α : Type} {q : Addr} {xs : List α} (h : SqL K H q (xs.map fun _ => V.bl true)) : RC (rAll K) [.ref q] H (.bl true) := by
  have e := rc_allM (f := fun _ : α => true) h
  rw [show (xs.all fun _ => true) = true by simp] at e
  exact e
/-- t[1:] -/
theorem el_dropU {p : Addr} {xs : List V} (h : Ev te σ H (.ref p)) (hp : SqT K H p xs) (hn : 0 < xs.length) : EvU (tSl (rSlA K) te (tPart (tC (.int 1))) tNoPart) σ H (xs.drop 1) := fun H1 e Q q => h H1 e _ fun H2 e2 => ⟨1, rfl, p, xs, rfl, ex_t (e.trans e2) hp, fun z => by
    have := z.1
    rw [show (1 : Int) = ((1 : Nat) : Int) from rfl, HT.sIx_nat] at this
    omega, fun _ r hr => by
    have := q r _ (fresh_back e2 hr) (e2.trans (Ex.new (o := .tup (cutV xs (some ((1 : Nat) : Int)) none)) hr)) (by rw [upd_same, cutV_from])
    exact this⟩
end
end Wt
set_option Elab.async false
set_option linter.all false
set_option maxRecDepth 100000
set_option maxHeartbeats 2000000
/-! objects of an own class; ranges downwards; repeated lists -/
namespace Wt
open PySem PySem.Spec PyProof.Rows L2 Evl Wc
/-- the class at C, as it is made by a call -/
structure Mak (P : Program) (w : World) (K : PySem.W.Frag) (mg : Str → Option Value) (base : Heap) (k : Nat) (C : Addr) (x : Str) (sp : Sp) : Prop where
  ex : ∃ (f : Addr) (fd : FuncData) (ps : List Str), Mk K C f ∧ FnOk P w K mg base CX0 k f fd ps sp ∧ Binds K fd ps [] ∧ mg x = some (.ref C)
theorem pe_mkM {X : Cx} {k n : Nat} {C : Addr} {x : Str} {sp : Sp} {p pos : Pos} {e : Expr} {es : List Expr} {t : TA} (c : Mak X.prog X.w X.K X.mg X.base k C x sp) (hr : Room n X.A) (ha : PA X (e :: es) t) (hk : k + 1 ≤ n := by decide) (hg : Gl X x := by rfl)
    (hdb : (x == ("__debug__" : Str)) = false := by decide) (he : starEach (e :: es) X.env = (false, eval e X.env) :: starEach es X.env := by rfl) (hpl : (backTo pos (starEach es X.env)).any (·.1) = false := by rfl) : PE X (.Call (.Name x p) (e :: es) [] pos) (tMake C sp [] E0 t) := by
  obtain ⟨f, fd, ps, M, F, b, hm⟩ := c.ex
  exact pe_make M F (hr.mono hk) hg hm b .nil pass0 ha hdb he hpl
section
variable {K : PySem.W.Frag} {σ : L2.St} {H : Hp} {te ta tb : TE} {C x dx : Addr} {fs : List (Str × V)} {f : Str} {v : V}
theorem ev_fld (h : Ev te σ H (.ref x)) (hx : H x = some (.ins C dx fs)) (c : Cls K C) (n : NoAttr K C f) (l : fs.lookup f = some v) : Ev (tFld K te f) σ H v := fun H1 e Q q => h H1 e _ fun H2 e2 => ⟨x, C, dx, fs, v, rfl, (e.trans e2) _ _ hx, c, n, l, q H2 e2⟩
/-- a field is stored -/
theorem q_fld {D : Ends} {tz : TS} (h : Ev te σ H v) (hx : σ[0]? = some (some (.ref x))) (hH : H x = some (.ins C dx fs)) (c : Cls K C) (n : NoAttr K C f) (hl : fs.length < 1000) (k : ∀ H1, Ex H H1 → tz D σ (upd H1 x (.ins C dx (putF f v fs)))) : tSeq (sFld K (tVar 0) te f) tz D σ H :=
  h H (Ex.refl _) _ fun H1 e1 => ⟨_, hx, x, C, dx, fs, rfl, e1 _ _ hH, c, n, hl, k H1 e1⟩
theorem q_fldL {D : Ends} {tz : TS} {xs : List V} (h : EvL te σ H xs) (hx : σ[0]? = some (some (.ref x))) (hH : H x = some (.ins C dx fs)) (c : Cls K C) (n : NoAttr K C f) (hl : fs.length < 1000) (k : ∀ p H1, H p = none → Ex H H1 → H1 p = some (.lst xs) → tz D σ (upd H1 x (.ins C dx (putF f (.ref p) fs)))) : tSeq (sFld K (tVar 0) te f) tz D σ H :=
  h H (Ex.refl _) _ fun p H1 hp e1 h1 => ⟨_, hx, x, C, dx, fs, rfl, e1 _ _ hH, c, n, hl, k p H1 hp e1 h1⟩
theorem el_rep {xs : List V} {n : Nat} (h : EvL ta σ H xs) (h2 : Ev tb σ H (.int (n : Int))) (hz : xs.length * n ≤ 100000) (hn : n ≤ 1000000) : EvL (tOp rRep ta tb) σ H (List.replicate n xs).flatten := fun H1 e Q q => h H1 e _ fun p H2 hp e2 hp2 => h2 H2 (e.trans e2) _ fun H3 e3 => ⟨p, (n : Int), xs, rfl, rfl, e3 _ _ hp2, by omega, by omega, sz_of hz, fun r hr => by
  have := q r _ (fresh_back (e2.trans e3) hr) ((e2.trans e3).trans (Ex.new (o := .lst (List.replicate (n : Int).toNat xs).flatten) hr)) upd_same
  exact this⟩
theorem rep_one (n : Nat) (v : V) : (List.replicate n [v]).flatten = List.replicate n v := by
  induction n with
  | zero => rfl
  | succ n ih => rw [List.replicate_succ, List.flatten_cons, ih, List.replicate_succ]; rfl
theorem el_catNV {p : Addr} {xs ys : List V} (ha : EvL ta σ H xs) (hb : Ev tb σ H (.ref p)) (hp : H p = some (.lst ys)) (hz : xs.length + ys.length ≤ 100000) : EvL (tOp rCat ta tb) σ H (xs ++ ys) := fun H1 e1 Q q =>
  ha H1 e1 _ fun r H2 hr e2 h2 => hb H2 (e1.trans e2) _ fun H3 e3 => ⟨r, p, xs, ys, rfl, rfl, e3 _ _ h2, ((e1.trans e2).trans e3) _ _ hp, sz_of hz, fun n hn => q n _ (fresh_back (e2.trans e3) hn) ((e2.trans e3).trans (Ex.new hn)) upd_same⟩
/-- n - 1, n - 2, .. 0 -/
theorem src_down {tq : TA} {n : Nat} (h : EvA tq σ H [.int ((n : Int) - 1), .int (-1), .int (-1)]) (hn : n ≤ 1000000000) : Src (iRng3 tq) σ H n (fun _ => False) (fun i v _ => v = .int ((n : Int) - 1 - (i : Int))) := fun H1 e R q =>
  h H1 e _ fun H2 e2 => ⟨_, _, _, n, rfl, by
    have := RgC.neg (i := (n : Int) - 1) (j := -1) (by omega) (by omega) (by decide) (by decide)
    have e : ((n : Int) - 1 - -1).toNat = n := by omega
    rw [e] at this
    exact this, by
    have w := (walk_rangeC (lo := (n : Int) - 1) (c := -1) (n := n)).mono (fun _ z => z) (Y' := fun i Ha v Hb => Ex Ha Hb ∧ v = .int ((n : Int) - 1 - (i : Int))) (fun i Ha v Hb _ _ hy => by
      obtain ⟨rfl, rfl⟩ := hy
      exact ⟨Ex.refl _, by show V.int ((n : Int) - 1 + ((i : Nat) : Int) * -1) = _; congr 1; omega⟩)
    exact q _ H2 _ e2 w fun _ _ _ _ => True.intro⟩
end
/-- xs[k], by values -/
def rGetN (K : PySem.W.Frag) : V → V → Hp → VK → Prop := fun o i H Q => ∃ (p : Addr) (xs : List V) (k : Nat) (z : V), o = .ref p ∧ i = .int (k : Int) ∧ SqL K H p xs ∧ xs[k]? = some z ∧ Q z H
theorem get_listN {X : Cx} : PGet X (rGetN X.K) := by
  intro pins s σ H o i ov iv Q I ro ri h
  obtain ⟨p, xs, k, z, rfl, rfl, hp, hz, q⟩ := h
  cases ro
  obtain ⟨t, rfl⟩ := ri
  obtain ⟨its, rv, pl, hs⟩ := I.list hp
  obtain ⟨u, hu, ru⟩ := rv.get hz
  have hk := (List.getElem?_eq_some_iff.mp hz).1
  have h63 : ((k : Int) < 2 ^ 63) := by
    have : sizeLine < 2 ^ 63 := by decide
    omega
  exact wpAny_getItem_list pl.isList (by omega) h63 (x := u) (by simpa using hu) ⟨z, H, I, ru, q⟩
theorem kget {X : Cx} (K : PySem.W.Frag) (hK : X.K = K := by rfl) : PGet X (rGetN K) := hK ▸ get_listN
end Wt
set_option Elab.async false
set_option linter.all false
set_option maxRecDepth 100000
set_option maxHeartbeats 2000000
namespace Wt
open PySem PySem.Spec PyProof.Rows L2 Evl Wc
/-! ### (number, text) < (number, text) -/
def rLtIT (K : PySem.W.Frag) : R2 := fun x y H Q => ∃ (a b : Addr) (m n : Int) (s t : Tx), x = .ref a ∧ y = .ref b ∧ SqT K H a [.int m, T s] ∧ SqT K H b [.int n, T t] ∧ Q (.bl (decide (m < n ∨ (m = n ∧ s < t)))) H
theorem op_ltIT {X : Cx} (hu0 : X.A.units + 64 < cLine) : OpR X (compareOp .Lt) (rLtIT X.K) := by
  intro pins s σ H x y v u Q I rx ry h
  have hu : X.A.units < cLine := Nat.lt_of_le_of_lt (Nat.le_add_right _ _) hu0
  obtain ⟨a, b, m, n, c, d, rfl, rfl, ha, hb, q⟩ := h
  cases rx
  cases ry
  obtain ⟨its, r1, p1, _⟩ := I.tuple ha
  obtain ⟨its2, r2, p2, _⟩ := I.tuple hb
  cases r1 with
  | cons rm r1 =>
  cases r1 with
  | cons rc r1 =>
  cases r1
  cases r2 with
  | cons rn r2 =>
  cases r2 with
  | cons rd r2 =>
  cases r2
  obtain ⟨_, rfl⟩ := rm
  obtain ⟨_, rfl⟩ := rc
  obtain ⟨_, rfl⟩ := rn
  obtain ⟨_, rfl⟩ := rd
  have R := Ob.RcOp.tuples_lt (A := X.A) (s := s) (e := fun j => if j = 0 then decide (m = n) else decide (c = d)) (r := fun j => if j = 0 then decide (m < n) else decide (c < d)) p1 p2 hu (fun j h1 h2 => by
    have h1' : j < 2 := h1
    have hj : j = 0 ∨ j = 1 := by omega
    rcases hj with rfl | rfl
    · have z : (m == n) = decide (m = n) := by
        by_cases q : m = n
        · rw [decide_eq_true q]; exact beq_iff_eq.mpr q
        · rw [decide_eq_false q]; exact beq_eq_false_iff_ne.mpr q
      show SeqAt.EqAt X.A.in1 s _ _ (decide (m = n))
      rw [← z]
      exact SeqAt.EqAt.int_int _ _ _ _
    · have z : (SX.S c == SX.S d) = decide (c = d) := by
        by_cases q : c = d
        · rw [decide_eq_true q, q]; exact beq_iff_eq.mpr rfl
        · rw [decide_eq_false q]; exact beq_eq_false_iff_ne.mpr fun e => q (congrArg (fun z : Str => z.cps.toList) e)
      show SeqAt.EqAt X.A.in1 s _ _ (decide (c = d))
      rw [← z]
      exact SeqAt.EqAt.str_str _ _ _ _) (fun j h1 h2 _ => by
    have h1' : j < 2 := h1
    have hj : j = 0 ∨ j = 1 := by omega
    rcases hj with rfl | rfl
    · exact Ob.RcOp.lt_int _ _ _ _
    · exact fun prog w E Q h => lt_str h)
  have e : Ob.lexAt (fun j => if j = 0 then decide (m = n) else decide (c = d)) (fun j => if j = 0 then decide (m < n) else decide (c < d)) (decide (2 < 2)) 0 2 = decide (m < n ∨ (m = n ∧ c < d)) := by
    simp only [Ob.lexAt]
    by_cases h1 : m = n
    · subst h1
      by_cases h2 : c = d
      · subst h2
        simp [List.lt_irrefl]
      · simp [h2]
    · simp [h1]
  have z : wpAny (model X.prog X.w) X.A (compareOp .Lt (.ref a) (.ref b)) (EP X pins σ Q) X.xe s := R X.prog X.w X.xe (EP X pins σ Q) ⟨.bl _, H, I, rfl, by
    show Q (.bl (Ob.lexAt _ _ (decide (2 < 2)) 0 2)) H
    rw [e]
    exact q⟩
  exact z
end Wt
set_option Elab.async false
set_option linter.all false
set_option maxRecDepth 100000
set_option maxHeartbeats 2000000
/-! zip(a, b) of two texts -/
namespace Wt
open PySem PySem.Spec PyProof.Rows L2 Evl Wc
def ItzS (a b : Tx) : It :=
  ⟨fun i _ => i < min a.length b.length, fun i H v H' => ∃ t c d, v = .ref t ∧ H t = none ∧ H' = upd H t (.tup [T [c], T [d]]) ∧ a[i]? = some c ∧ b[i]? = some d, fun i _ => i = min a.length b.length⟩
theorem sgn {a : Tx} {i : Nat} {v : Value} (h : ∃ c u, (SX.S a).cps[i]? = some c ∧ v = .str ⟨#[c]⟩ u) : ∃ c, a[i]? = some c ∧ RelV (T [c]) v := by
  obtain ⟨c, u, h1, rfl⟩ := h
  exact ⟨c, by simpa [SX.S] using h1, u, rfl⟩
theorem turn_zipS {P : Program} {w : World} {K : PySem.W.Frag} {elts : List Expr} {kk : Nat} {tpos : Pos} {a b : Tx} {ta tb : Tok} {z TI TO i1 i2 : Addr} (D : ZipSep2 z TI TO i1 i2 [i1] [i2]) :
    Turn P w K (.Tuple elts kk tpos) (ItzS a b) [z, TI, TO, i1, i2] z (fun i h => IsZip h z TI TO .none ∧ IsTupOf2 h TI (.ref i1) (.ref i2) ∧ (∃ x y, IsTupOf2 h TO x y) ∧ h.IsStrIter i1 (strIterType (SX.S a)) (SX.S a) ta i ∧ h.IsStrIter i2 (strIterType (SX.S b)) (SX.S b) tb i) where
  mem := by simp
  obj := fun i h st c hc => by
    obtain ⟨hz, hTI, ⟨x, y, hTO⟩, ⟨o1, e1, _, d1⟩, ⟨o2, e2, _, d2⟩⟩ := st
    have e' : c = z ∨ c = TI ∨ c = TO ∨ c = i1 ∨ c = i2 := by simpa using hc
    rcases e' with q | q | q | q | q
    · rw [q]; exact ⟨_, hz, fun v q => nomatch q⟩
    · rw [q]; exact ⟨_, hTI, fun v q => nomatch q⟩
    · rw [q]; exact ⟨_, hTO, fun v q => nomatch q⟩
    · rw [q]; exact ⟨o1, e1, fun v q => by rw [d1] at q; cases q⟩
    · rw [q]; exact ⟨o2, e2, fun v q => by rw [d2] at q; cases q⟩
  keep := fun i h h' st k => by
    obtain ⟨hz, hTI, ⟨x, y, hTO⟩, ⟨o1, e1, f1⟩, ⟨o2, e2, f2⟩⟩ := st
    exact ⟨k z (by simp) _ hz, k TI (by simp) _ hTI, ⟨x, y, k TO (by simp) _ hTO⟩, ⟨o1, k i1 (by simp) _ e1, f1⟩, ⟨o2, k i2 (by simp) _ e2, f2⟩⟩
  item := by
    intro X hP hw hK hc i pins s σ H E I hf st hg
    subst hP hw hK
    obtain ⟨hz, hTI, ⟨x0, y0, hTO⟩, h1, h2⟩ := st
    have hlt : i < min a.length b.length := hg
    have D1 := Draws.text (prog := X.prog) (w := X.w) (A := X.A.in1) (I.ok.hd hc) i1 (SX.S a) ta
    have D2 := Draws.text (prog := X.prog) (w := X.w) (A := X.A.in1) (I.ok.hd hc) i2 (SX.S b) tb
    have s1 : (SX.S a).cps.size = a.length := by simp [SX.S]
    have s2 : (SX.S b).cps.size = b.length := by simp [SX.S]
    have hzl : z < s.heap.objs.size := Heap.lt_size hz
    refine wpAny_pyNext_zipD2_item D D1 D2 hz hTI hTO h1 h2 (by omega) (by omega) fun u u2 h' tk p1 p2 z' TO' h1' h2' hT hsz hk => ?_
    obtain ⟨c, hcx, ru⟩ := sgn p1
    obtain ⟨d, hdy, ru2⟩ := sgn p2
    refine ⟨_, rfl, wpAny_letOwnedTupleGo_zip (s := { s with heap := h', toks := tk }) z' fun h'' z'' sb => ?_⟩
    have hT2 : h''.get? s.heap.objs.size = some { cls := .type "tuple", data := .seq #[u, u2] } := (sb.2 _ (Nat.ne_of_gt hzl)).trans hT
    have new : ObjOk X.prog X.w (upd H s.heap.objs.size (.tup [T [c], T [d]])) h'' s.heap.objs.size (.tup [T [c], T [d]]) :=
      ⟨by show 2 ≤ sizeLine; decide, [u, u2], .cons ru (.cons ru2 .nil), ⟨_, hT2, rfl, _, rfl⟩⟩
    have I1 : Inv X pins σ (upd H s.heap.objs.size (.tup [T [c], T [d]])) { s with heap := h'', toks := tk } :=
      I.turnedNew (ch := [z, TI, TO, i1, i2]) (fun c o hb q => (sb.2 c (fun q' => hb (by simp [q']))).trans (hk c o (fun q' => hb (by simp [q'])) (fun q' => hb (by simp [q'])) (fun q' => hb (by simp [q'])) (fun q' => hb (by simp [q'])) q)) hf (Nat.le_refl _) new
    refine ⟨.ref s.heap.objs.size, _, I1, rfl, ⟨_, c, d, rfl, I.hok.fresh (Nat.le_refl _), rfl, hcx, hdy⟩, ⟨z'', ?_, ⟨u, u2, ?_⟩, ?_, ?_⟩, fun c hcm => ?_⟩
    · exact (sb.2 _ D.TIz).trans (hk _ _ D.TIz D.TITO D.TIi1 D.TIi2 hTI)
    · exact (sb.2 _ D.TOz).trans TO'
    · obtain ⟨o1, e1, f1⟩ := h1'
      exact ⟨o1, (sb.2 _ (Ne.symm D.zi1)).trans e1, f1⟩
    · obtain ⟨o2, e2, f2⟩ := h2'
      exact ⟨o2, (sb.2 _ (Ne.symm D.zi2)).trans e2, f2⟩
    · have hlt : c < s.heap.objs.size := by
        have e' : c = z ∨ c = TI ∨ c = TO ∨ c = i1 ∨ c = i2 := by simpa using hcm
        rcases e' with q | q | q | q | q
        · rw [q]; exact hzl
        · rw [q]; exact Heap.lt_size hTI
        · rw [q]; exact Heap.lt_size hTO
        · rw [q]; obtain ⟨_, e1, _⟩ := h1; exact Heap.lt_size e1
        · rw [q]; obtain ⟨_, e2, _⟩ := h2; exact Heap.lt_size e2
      rw [upd_ne (Nat.ne_of_lt hlt)]
      exact (hf c hcm).1
  done := by
    intro X hP hw hK hc i pins s σ H E I hf st hg
    subst hP hw hK
    obtain ⟨hz, hTI, ⟨x0, y0, hTO⟩, h1, h2⟩ := st
    have hend : i = min a.length b.length := hg
    have D1 := Draws.text (prog := X.prog) (w := X.w) (A := X.A.in1) (I.ok.hd hc) i1 (SX.S a) ta
    have D2 := Draws.text (prog := X.prog) (w := X.w) (A := X.A.in1) (I.ok.hd hc) i2 (SX.S b) tb
    have s1 : (SX.S a).cps.size = a.length := by simp [SX.S]
    have s2 : (SX.S b).cps.size = b.length := by simp [SX.S]
    exact wpAny_pyNext_zipD2_end D D1 D2 hz hTI hTO h1 h2 (by omega) (by omega) (by omega) fun h' tk hk => ⟨rfl, I.turnedL (t' := tk) (ch := [z, TI, TO, i1, i2]) (fun c o hb q =>
      hk c o (fun q' => hb (by simp [q'])) (fun q' => hb (by simp [q'])) (fun q' => hb (by simp [q'])) (fun q' => hb (by simp [q'])) q) hf⟩
  self := fun A i s Q E st h => wpAny_pyIter_zip st.1 h
def iZipS (ta : TA) : TI := fun σ H R => ta σ H fun vs H1 => ∃ a b : Tx, vs = [T a, T b] ∧ R (ItzS a b) H1
theorem pi_zipS {X : Cx} {e e2 : Expr} {ta : TA} {p pos tpos : Pos} {elts : List Expr} {kk : Nat} (hg : Gl X "zip") (hm : X.mg "zip" = none) (ha : PA X [e, e2] ta)
    (hs : starEach [e, e2] X.env = (false, eval e X.env) :: starEach [e2] X.env := by rfl) (hpl : (backTo pos (starEach [e2] X.env)).any (·.1) = false := by rfl) :
    PI X (.Tuple elts kk tpos) (.Call (.Name "zip" p) [e, e2] [] pos) (iZipS ta) := by
  refine ⟨fun pins s σ H R I h => ?_⟩
  refine Call_ (ld_blt I hg hm PyProof.Rows.boot_zip (PyProof.Rows.callWith_type1 (thn (ha.run pos pins s σ H _ I h) fun us s1 ⟨vs, H1, I1, r1, q1⟩ => ?_) hs hpl))
  obtain ⟨a, b, ex, q⟩ := q1
  subst ex
  cases r1 with
  | cons r rr =>
    cases rr with
    | cons r' rr =>
      cases rr
      obtain ⟨ta, rfl⟩ := r
      obtain ⟨tb, rfl⟩ := r'
      have fresh5 : ∀ c, c ∈ [s1.heap.objs.size + 4, s1.heap.objs.size + 2, s1.heap.objs.size + 3, s1.heap.objs.size, s1.heap.objs.size + 1] → FpOk X pins H1 c := fun c hcm => by
        have e' : c = s1.heap.objs.size + 4 ∨ c = s1.heap.objs.size + 2 ∨ c = s1.heap.objs.size + 3 ∨ c = s1.heap.objs.size ∨ c = s1.heap.objs.size + 1 := by simpa using hcm
        have hle : s1.heap.objs.size ≤ c := by
          rcases e' with z | z | z | z | z
          · rw [z]; exact Nat.le_add_right _ _
          · rw [z]; exact Nat.le_add_right _ _
          · rw [z]; exact Nat.le_add_right _ _
          · rw [z]; exact Nat.le_refl _
          · rw [z]; exact Nat.le_add_right _ _
        exact I1.fpOk hle (I1.hok.fresh hle)
      refine zip_begins2 (begins_text (SX.S a) ta) (begins_text (SX.S b) tb) trivial trivial fun h' hz hTI hTO h1 h2 hsz hk => wpAny_pyIter_zip hz ?_
      have I2 : Inv X pins σ H1 { s1 with heap := h' } := I1.kept (t' := s1.toks) hk
      exact ⟨s1.heap.objs.size + 4, [s1.heap.objs.size + 4, s1.heap.objs.size + 2, s1.heap.objs.size + 3, s1.heap.objs.size, s1.heap.objs.size + 1], _, _, H1, rfl, I2, turn_zipS (ta := ta) (tb := tb) (zip_sep2 (fun b hb => by cases hb) (fun b hb => by cases hb)), ⟨hz, hTI, ⟨_, _, hTO⟩, ⟨_, h1, rfl, rfl⟩, ⟨_, h2, rfl, rfl⟩⟩, fresh5, q⟩
section
variable {K : PySem.W.Frag} {σ : L2.St} {H : Hp}
theorem walk_zipS {a b : Tx} : Walk (ItzS a b) (min a.length b.length) (fun _ => True) (YPair (fun i => (a[i]?).map fun c => T [c]) (fun i => (b[i]?).map fun c => T [c])) := by
  refine ⟨fun i _ hi _ => hi, fun _ _ => rfl, fun i H v H' _ _ y => ?_⟩
  obtain ⟨t, c, d, y1, y2, y3, y4, y5⟩ := y
  exact ⟨t, _, _, y1, y2, y3, by show (a[i]?).map _ = _; rw [y4]; rfl, by show (b[i]?).map _ = _; rw [y5]; rfl⟩
theorem src_zipS {a b : Tx} {tl tr : TE} (h : Ev tl σ H (T a)) (h2 : Ev tr σ H (T b)) : Src (iZipS (tCons tl (tCons tr tNil))) σ H (min a.length b.length) (fun _ => False) (fun i v Hb => ∃ p c d, v = .ref p ∧ a[i]? = some c ∧ b[i]? = some d ∧ Hb p = some (.tup [T [c], T [d]])) := fun H1 e R q =>
  h H1 e _ fun H2 e2 => h2 H2 (e.trans e2) _ fun H3 e3 => ⟨a, b, rfl, q _ H3 _ (e2.trans e3) (walk_zipS.mono (fun _ z => z) fun i Ha v Hb _ _ hy => by
    obtain ⟨p, x, y, rfl, hn, rfl, h1, h2⟩ := hy
    have h1 : (a[i]?).map (fun c => T [c]) = some x := h1
    have h2 : (b[i]?).map (fun c => T [c]) = some y := h2
    cases ha : a[i]? with
    | none => rw [ha] at h1; cases h1
    | some c =>
      cases hb : b[i]? with
      | none => rw [hb] at h2; cases h2
      | some d =>
        rw [ha] at h1
        rw [hb] at h2
        cases h1
        cases h2
        exact ⟨Ex.new hn, p, c, d, rfl, by first | rfl | exact ha, by first | rfl | exact hb, upd_same⟩) fun B Ha hB ea => trivial⟩
end
end Wt
set_option Elab.async false
set_option linter.all false
set_option maxRecDepth 100000
set_option maxHeartbeats 2000000
/-! defs that are called while no repr runs: their promises, their calls, repr itself, and a law's end by them -/
namespace Wg
open PySem PySem.Spec PyProof.Rows L2 Evl Wc
/-- a promise for calls around which no repr runs -/
structure FnOkG (P : Program) (w : World) (K : PySem.W.Frag) (mg : Str → Option Value) (base : Heap) (k : Nat) (f : Addr) (fd : FuncData) (ps : List Str) (sp : Sp) : Prop where
  len : ∀ vs H Q E, sp vs H Q E → vs.length = ps.length
  run : ∀ (A : Around) (outer : List Env) (s : Shared) (H : Hp) (args : Args) (us : List Value) (vs : List V) (Q : VK) (E : XK), Room k A → A.guards = some [] →
    Env0 P w K mg base A outer s H → BindsTo s fd args (ps.zip us) → Vals vs us → sp vs H Q E → codeAny (model P w) A (.call (.ref f) args) (CR CX0 outer P w H s Q E) s
section
variable {P : Program} {w : World} {K : PySem.W.Frag} {mg : Str → Option Value} {base : Heap} {k : Nat} {f : Addr} {fd : FuncData} {ps : List Str} {sp : Sp}
theorem FnOkG.of (F : FnOk P w K mg base CX0 k f fd ps sp) : FnOkG P w K mg base k f fd ps sp := ⟨F.len, fun A outer s H args us vs Q E hr _ => F.run A outer s H args us vs Q E hr⟩
/-- what ends a body ends the call -/
theorem ends_call {X : Cx} {s s' : Shared} {H : Hp} {Q : VK} {fl : Flow} {outer : List Env} (hp : X.prog = P) (hw : X.w = w)
    (fin : ∀ {σ' : L2.St} {H' : Hp} {v : V} {u : Value}, Inv X [] σ' H' s' → RelV v u → Q v H' → CE outer P w H s Q u s')
    (h : SP X [] { nx := fun _ H' => Q .non H', rt := Q } fl s') : match fl with
      | .ret u => CE outer P w H s Q u s'
      | .next => CE outer P w H s Q .none s'
      | _ => False := by
  cases fl with
  | next => obtain ⟨σ', H', J, q⟩ := h; exact fin (v := V.non) J rfl q
  | ret u => obtain ⟨v, σ', H', J, rv, q⟩ := h; exact fin J rv q
  | brk => obtain ⟨_, _, _, q⟩ := h; exact q.elim
  | cont => obtain ⟨_, _, _, q⟩ := h; exact q.elim
theorem Fun.okG {x qual : Str} {st : Stmt} {N : List Str} (F : Fun K x qual st f fd) (S : FnScope N ps (defScope st)) (len : ∀ vs H Q E, sp vs H Q E → vs.length = ps.length)
    (hbody : ∀ (cdv : Value) (A : Around) (outer : List Env) (s : Shared) (H : Hp) (vs : List V) (Q : VK) (E : XK), Room k (A.deeper (envOfC qual (defScope st) s.heap.objs.size f cdv)) → A.guards = some [] → sp vs H Q E →
      ∃ t, PSs (cxOf CX0 P w K mg base N qual (defScope st) f cdv A outer s H E).nox (defBody st) t ∧ t { nx := fun _ H' => Q .non H', rt := Q } (start N vs) H) : FnOkG P w K mg base (k + 1) f fd ps sp := by
  obtain ⟨oc, od, kV, doc, pm, an, cdv, ct, osl, rfl, lk, hcd⟩ := F.ex
  refine ⟨len, fun A outer s H args us vs Q E hr hgd e0 hb r hsp => ?_⟩
  have stay : ∀ b o, base.get? b = some o → s.heap.get? b = some o := fun b o e => (e0.bs b o e).1
  have KX := e0.mod.kin.keeps stay
  refine codeAny_call_function hr.depth (KX _ _ lk) rfl S.co S.gen rfl (PySem.W.codeRec_of KX hcd) (hb _ _ _ _ (wpAny_newFunctionEnv_cells S.kind (fun y hy => ?_) fun env he s1 new => ?_))
  · obtain ⟨n, v⟩ := y
    rcases S.par n (List.of_mem_zip hy).1 with q | q
    · exact .inl q
    · exact .inr ⟨q, PySem.W.cellsFrom_some _ _ _ (.inl q)⟩
  · subst he
    obtain ⟨t, ht, hq⟩ := hbody cdv A outer s H vs Q E (hr.deeper _) hgd hsp
    have I := inv_start (CX := CX0) (E := E) S hr.hd e0 (len _ _ _ _ hsp) r new
    refine ⟨(e0.mod.nolimit.keeps stay).keeps new.toInCall.keep, codeAny_func (wpAny_mono (ht.nox.run [] s1 (start N vs) H _ I hq) (fun fl s' hs => ?_) fun e s' hs => hs)⟩
    have done := ends_call (outer := outer) (s := s) (H := H) rfl rfl (fun J rv q => ⟨_, _, J.os, J.bare, J.base, J.hok, rv, q⟩) hs
    cases fl <;> first
      | exact done
      | exact False.elim done
end
/-- a def that may be called by its name while no repr runs -/
structure CalG (P : Program) (w : World) (K : PySem.W.Frag) (mg : Str → Option Value) (base : Heap) (x : Str) (st : Stmt) (k : Nat) (ps : List Str) (sp : Sp) : Prop where
  ex : ∃ f fd, FnOkG P w K mg base k f fd ps sp ∧ mg x = some (.ref f) ∧ Fun K x x st f fd ∧ Binds K fd ps []
section
variable {X : Cx} {x : Str} {st : Stmt} {k n : Nat} {ps : List Str} {sp : Sp} {p pos : Pos} {e : Expr} {es : List Expr} {t : TA}
theorem pe_clG (C : CalG X.prog X.w X.K X.mg X.base x st k ps sp) (hr : Room n X.A) (hgd : X.A.guards = some []) (ha : PA X (e :: es) t) (hkn : k ≤ n := by decide) (hg : Gl X x := by rfl) (hdb : (x == ("__debug__" : Str)) = false := by decide)
    (he : starEach (e :: es) X.env = (false, eval e X.env) :: starEach es X.env := by rfl) (hpl : (backTo pos (starEach es X.env)).any (·.1) = false := by rfl) : PE X (.Call (.Name x p) (e :: es) [] pos) (tCall sp [] E0 t) := by
  obtain ⟨f, fd, F, hm, hF, hb⟩ := C.ex
  refine ⟨fun pins s σ H Q I h => wpAny_Call_Name_kw (ld_glob I hg hm (PySem.W.callWith_K (h₀ := X.base) I.ok.mod.kin hF.kp (thn (ha.run pos pins s σ H _ I h) fun us s1 got => ?_) he hpl) hdb)⟩
  obtain ⟨vs, H1, I1, r, q⟩ := got
  rw [List.append_nil] at q
  refine ⟨I1.kIn, wpAny_call (codeAny_mono (F.run X.A X.stack s1 H1 ⟨us, []⟩ us vs Q E0 (hr.mono hkn) hgd I1.env0 ?_ r q) fun z s' hz => ?_)⟩
  · have := hb s1 us I1.kIn (by rw [List.append_nil, ← r.length]; exact F.len _ _ _ _ q)
    rwa [List.append_nil] at this
  · cases z with
    | error e => exact hz.elim
    | ok fl => cases fl with
      | ret u => exact I1.after hz
      | _ => exact hz.elim
/-- repr of a list or tuple of plain data -/
def rRepr (K : PySem.W.Frag) : List V → Hp → VK → Prop := fun xs H Q => ∃ (p : Addr) (d : PyData), xs = [.ref p] ∧ Dp K H (.ref p) d ∧ d.showable = true ∧ d.hasDict = false ∧ d.depth ≤ 50 ∧ d.shown.length ≤ sizeLine ∧ Q (T d.shown.cps.toList) H
theorem cr_repr (hgd : X.A.guards = some []) (hu : X.A.units + 64 < cLine) : CallR X (.builtin "repr") (rRepr X.K) := by
  intro pins s σ H xs us Q I r h
  obtain ⟨p, d, rfl, hd, h1, h2, h3, h4, q⟩ := h
  rw [Vals.ref1 r]
  obtain ⟨as, rd⟩ := Dp.reads I d _ _ hd rfl
  refine repr_of_reads' rd h1 (fun z => by rw [h2] at z; cases z) hgd (by omega) (fun b o e => e) (fun h' u tk hk => ?_) h4
  exact ⟨T d.shown.cps.toList, H, I.kept (t' := tk) hk, ⟨u, congrArg (fun z => Value.str z u) (SX.S_tl d.shown).symm⟩, q⟩
end
section
variable {P : Program} {w : World} {K : PySem.W.Frag} {mg mb : Str → Option Value} {k : Nat} {fa a : Addr} {fd : FuncData} {x : Str} {sp : Sp} {s₁ : Shared} {vs : List Value} {ns : List Int}
/-- the law's def at the heap behind the top, H telling of the script at most -/
theorem call_at (KX : K.In s₁.heap) (hns : s₁.heap.Ns mainGlobals mg) (hb : s₁.heap.Ns builtinsNs mb) (hbb : ∀ x : Str, x ≠ "__name__" → mb x = bootBuiltins x) (hlim : s₁.heap.NoLimit) (hg : s₁.gens = #[])
    (ha : s₁.heap.get? a = some { cls := .type "list", data := .seq vs.toArray }) (hr : Room k callerA) (F : ∀ base : Heap, K.In base → base.Ns mainGlobals mg → FnOkG P w K mg base k fa fd [x] sp) (hbind : ∀ (s : Shared) (u : Value), BindsTo s fd ⟨[u], []⟩ [(x, u)])
    (H : Hp) (hO : Only H) (hok : HOk P w H s₁.heap) (hA : ∀ b u, H b = some u → b = a ∧ K.lookup a = none) (hsp : sp [.ref a] H (fun v _ => v = .bl true) fun _ _ _ => False) :
    codeAny (model P w) callerA (.call (.ref fa) ⟨[.ref a], []⟩) (fun r s' => r = .ok (.ret (.bool true)) ∧ OldK s₁.heap s'.heap ∧ s'.os = s₁.os ∧ AllBare s'.gens) s₁ := by
  have free : ∀ {b : Addr}, (b = a → K.lookup a = none → False) → H b = none := fun {b} no => by
    cases q : H b with
    | none => rfl
    | some u => exact (no (hA b u q).1 (hA b u q).2).elim
  have dict : ∀ {b : Addr} {m : Str → Option Value}, s₁.heap.Ns b m → (hidT s₁.heap H).Ns b m := fun {b m} got => by
    obtain ⟨o, es, ep, e, d, r⟩ := got
    refine ⟨o, es, ep, hidT_get e (free fun z _ => ?_), d, r⟩
    subst z
    rw [ha] at e
    cases e
    cases d
  have own : K.In (hidT s₁.heap H) := fun b o e => hidT_get (KX b o e) (free fun z q => by subst z; rw [q] at e; cases e)
  have mod : Mod K mg (hidT s₁.heap H) := by
    obtain ⟨mc, l1, l2⟩ := hlim
    exact ⟨own, dict hns, ⟨mb, dict hb, hbb⟩, ⟨mc, dict l1, l2⟩⟩
  have none_in : ∀ {b : Addr}, b ∉ ([] : List Addr) := fun {b} z => nomatch z
  have e0 : Env0 P w K mg (hidT s₁.heap H) callerA [] s₁ H := ⟨rfl, mod, fun b o e => of_hidT e, Nat.le_of_eq (hidT_size _ _), trivial, fun b hb => (none_in hb).elim, hok, .of_eq hg⟩
  refine codeAny_mono ((F _ own (dict hns)).run callerA [] s₁ H ⟨[.ref a], []⟩ [.ref a] [.ref a] _ _ hr rfl e0 (hbind s₁ (.ref a)) (.cons rfl .nil) hsp) fun r s' h => ?_
  match r, h with
  | .ok (.ret u), ⟨v, H', os, bare, un, hok', rel, q⟩ =>
    have q' : v = .bl true := q
    subst q'
    have rel' : u = Value.bool true := rel
    subst rel'
    refine ⟨rfl, OldK.of_keep fun b o e => ?_, os, bare⟩
    rcases hO b with z | ⟨ob, xs, z⟩
    · exact un.keep b o e z none_in none_in
    · have e1 := (hok b _ z).1
      rw [e] at e1
      cases e1
      exact (hok' b _ (un.frzs b _ _ z)).1
theorem law_callG (KX : K.In s₁.heap) (hns : s₁.heap.Ns mainGlobals mg) (hb : s₁.heap.Ns builtinsNs mb) (hbb : ∀ x : Str, x ≠ "__name__" → mb x = bootBuiltins x) (hlim : s₁.heap.NoLimit) (hg : s₁.gens = #[])
    (ha : s₁.heap.get? a = some { cls := .type "list", data := .seq vs.toArray }) (hi : IntsAre vs ns) (hl : ns.length ≤ sizeLine) (hr : Room k callerA) (F : ∀ base : Heap, K.In base → base.Ns mainGlobals mg → FnOkG P w K mg base k fa fd [x] sp) (hbind : ∀ (s : Shared) (u : Value), BindsTo s fd ⟨[u], []⟩ [(x, u)])
    (hsp : ∀ H : Hp, Only H → SqL K H a (ns.map V.int) → sp [.ref a] H (fun v _ => v = .bl true) fun _ _ _ => False) :
    codeAny (model P w) callerA (.call (.ref fa) ⟨[.ref a], []⟩) (fun r s' => r = .ok (.ret (.bool true)) ∧ OldK s₁.heap s'.heap ∧ s'.os = s₁.os ∧ AllBare s'.gens) s₁ := by
  have rv := vals_ints hi
  have go := call_at (x := x) (sp := sp) KX hns hb hbb hlim hg ha hr F hbind
  cases hk : K.lookup a with
  | some o =>
    have e := KX a o hk
    rw [ha] at e
    cases e
    exact go (fun _ => none) (fun _ => .inl rfl) (fun b u z => nomatch (show (none : Option HO) = some u from z)) (fun b u z => nomatch (show (none : Option HO) = some u from z)) (hsp _ (fun _ => .inl rfl) (.inr ⟨_, vs.toArray, _, hk, rfl, rfl, rfl, by rw [List.size_toArray, hi.length]; exact hl, by simpa using rv⟩))
  | none =>
    obtain ⟨H, hH1, hH2⟩ : ∃ H : Hp, H a = some (.frz { cls := .type "list", data := .seq vs.toArray } (.lst (ns.map V.int))) ∧ ∀ b, b ≠ a → H b = none := ⟨fun b => if b = a then some (.frz { cls := .type "list", data := .seq vs.toArray } (.lst (ns.map V.int))) else none, if_pos rfl, fun b hb => if_neg hb⟩
    have only : Only H := fun b => by
      by_cases h : b = a
      · subst h; exact .inr ⟨_, _, hH1⟩
      · exact .inl (hH2 b h)
    refine go H only (fun b u z => ?_) (fun b u z => ?_) (hsp H only (.inl (.inr ⟨_, hH1⟩)))
    · by_cases h : b = a
      · subst h
        rw [hH1] at z
        cases z
        exact ⟨ha, by rw [List.length_map]; exact hl, vs, _, rv, ha⟩
      · rw [hH2 b h] at z
        cases z
    · by_cases h : b = a
      · exact ⟨h, hk⟩
      · rw [hH2 b h] at z
        cases z
end
theorem walk_ofG {l : PySem.W.OpenLaw} {n k : Nat} {q : Program} {loose : List Str} {XP : (Str → Option Value) → Heap → Prop} {YP : World → Heap → Prop} {d : DefRec} {K : Params → PySem.W.Frag} {sp : World → Sp} {x : Str}
    (hn : l.most = some n) (hn2 : n ≤ sizeLine) (hdf : d.params.defaults = []) (hr : Room k callerA) (hY : ∀ (w : World) (h : Heap), YP w h → (K w.params).In h)
    (F : ∀ (w : World) (mg : Str → Option Value) (fa : Addr) (h : Heap), (K w.params).In h → h.Ns mainGlobals mg → mg d.name = some (.ref fa) →
      ∃ fd : FuncData, (∀ (s : Shared) (u : Value), BindsTo s fd ⟨[u], []⟩ [(x, u)]) ∧ ∀ base : Heap, (K w.params).In base → base.Ns mainGlobals mg → FnOkG l.prog w (K w.params) mg base k fa fd [x] (sp w))
    (hsp : ∀ (w : World) (H : Hp) (a : Addr) (ns : List Int), ns.length ≤ n → (∀ z ∈ ns, Builtin.Int.intBits z ≤ 1048576) → Only H → SqL (K w.params) H a (ns.map V.int) → sp w [.ref a] H (fun v _ => v = .bl true) fun _ _ _ => False) :
    PySem.W.WalkO q loose XP YP l.row.toRowW d [] (fun f vs => PySem.call f vs) :=
  Att.attach_callB hn hdf fun w s₀ s₁ mg mb fa o pm cd doc a vs ns G Y _ _ _ hmg hobj hints hlen hbits hg => by
    obtain ⟨fd, hb, hF⟩ := F w mg fa _ (hY w _ Y) G.T.g hmg
    exact law_callG (hY w _ Y) G.T.g G.T.b G.T.builtins G.T.nolimit hg hobj hints (Nat.le_trans hlen hn2) hr hF hb fun H hO hS => hsp w H a ns hlen hbits hO hS
end Wg
set_option Elab.async false
set_option linter.all false
set_option maxRecDepth 100000
set_option maxHeartbeats 2000000
/-! a loop over a list or a tuple -/
namespace Wg
open PySem PySem.Spec PyProof.Rows L2 Evl Wc
theorem pi_or {X : Cx} {tg it : Expr} {w1 w2 : TI} (h1 : PI X tg it w1) (h2 : PI X tg it w2) : PI X tg it (fun σ H R => w1 σ H R ∨ w2 σ H R) := ⟨fun pins s σ H R I h => h.elim (h1.run pins s σ H R I) (h2.run pins s σ H R I)⟩
def iSeq (K : PySem.W.Frag) (tl : TE) : TI := fun σ H R => iList K tl σ H R ∨ iTup K tl σ H R
theorem pi_seq {X : Cx} {K : PySem.W.Frag} {tg l : Expr} {tl : TE} (hl : PE X l tl) (hK : X.K = K := by rfl) : PI X tg l (iSeq K tl) := hK ▸ pi_or (pi_list hl) (pi_tup hl)
section
variable {w1 w2 : TI} {σ : L2.St} {H : Hp} {n : Nat} {own : Addr → Prop} {P : Nat → V → Hp → Prop}
theorem src_orL (h : Src w1 σ H n own P) : Src (fun σ H R => w1 σ H R ∨ w2 σ H R) σ H n own P := fun H1 e R q => .inl (h H1 e R q)
theorem src_orR (h : Src w2 σ H n own P) : Src (fun σ H R => w1 σ H R ∨ w2 σ H R) σ H n own P := fun H1 e R q => .inr (h H1 e R q)
end
end Wg
set_option Elab.async false
set_option linter.all false
set_option maxRecDepth 100000
set_option maxHeartbeats 2000000
/-! comprehensions that make new objects, ranges backwards, smaller rules -/
namespace Wg
open PySem PySem.Spec PyProof.Rows L2 Evl Wc
section
variable {K : PySem.W.Frag} {σ : L2.St} {H : Hp} {te ta tb : TE}
theorem ex_of_exc {fa : Addr} {H H1 H2 : Hp} (e : Ex H H1) (hf : H fa = none) (x : Exc (fun c => c = fa) H1 H2) : Ex H H2 := fun c o hc => x c o (fun z => by rw [z, hf] at hc; cases hc) (e c o hc)
/-- new objects, one for each o i, in p -/
structure News (H H' : Hp) (o : Nat → HO) (ps : List Addr) : Prop where
  new : ∀ p ∈ ps, H p = none
  at_ : ∀ i p, ps[i]? = some p → H' p = some (o i)
  nd : ps.Nodup
theorem lcN {wi : TI} {j : Nat} {vs : List Nat} {n : Nat} {own : Addr → Prop} {P : Nat → V → Hp → Prop} {Q : VK} (o : Nat → HO) (hs : Src wi σ H n own P) (hn : n ≤ 40000) (hw : ∀ x, wipe ((wipe σ vs).set j (some x)) vs = wipe σ vs)
    (he : ∀ (i : Nat) (x : V) H1, i < n → P i x H1 → Ex H H1 → ∀ Q' : VK, (∀ p H2, H1 p = none → Ex H1 H2 → H2 p = some (o i) → Q' (.ref p) H2) → te ((wipe σ vs).set j (some x)) H1 Q')
    (k : ∀ q H2 ps, H q = none → Ex H H2 → H2 q = some (.lst (ps.map V.ref)) → ps.length = n → News H H2 o ps → q ∉ ps → Q (.ref q) H2) : tLc wi (gName j) tYes te vs σ H Q :=
  hs H (Ex.refl H) _ fun J H1 S e1 w hS => fun Dl hD => by
    have hDH : H Dl = none := fresh_back e1 hD
    refine lc_it w (Qd := fun H3 => Q (.ref Dl) H3) (fun i Hi => Ex H1 Hi ∧ ∃ ps : List Addr, Hi Dl = some (.lst (ps.map V.ref)) ∧ ps.length = i ∧ News H1 Hi o ps ∧ Dl ∉ ps) ?_ (fun i Hi hi p => hS (fun _ => False) Hi (fun b z => z.elim) (.of p.1)) ?_ ?_
    · exact ⟨Ex.new hD, [], upd_same, rfl, ⟨fun p hp => (nomatch hp), fun i p hp => (by rw [List.getElem?_nil] at hp; cases hp), List.Pairwise.nil⟩, fun hp => (nomatch hp)⟩
    · rintro i x Ha Hb hi ⟨R, ps, h1, h2, h3, h4⟩ ⟨ey, hP⟩
      refine ⟨hw x, ?_⟩
      show te ((wipe σ vs).set j (some x)) Hb fun y H4 => _
      refine he i x Hb hi hP (e1.trans (R.trans ey)) _ fun p H4 hp e4 hp4 => ?_
      have hDl4 : H4 Dl = some (.lst (ps.map V.ref)) := e4 _ _ (ey _ _ h1)
      have npD : p ≠ Dl := fun z => by rw [z, ey _ _ h1] at hp; cases hp
      refine ⟨ps.map V.ref, hDl4, sz_lt (by rw [List.length_map]; omega), Ex.mut ((R.trans ey).trans e4) hD, ps ++ [p], by rw [upd_same, List.map_append]; rfl, by rw [List.length_append, h2]; rfl, ⟨fun q hq => ?_, fun t q hq => ?_, ?_⟩, fun hq => ?_⟩
      · rcases List.mem_append.mp hq with hq | hq
        · exact h3.new q hq
        · rw [List.mem_singleton.mp hq]
          exact fresh_back (R.trans ey) hp
      · by_cases ht : t < ps.length
        · rw [List.getElem?_append_left ht] at hq
          have hne : q ≠ Dl := fun z => h4 (z ▸ List.mem_of_getElem? hq)
          rw [upd_ne hne]
          exact e4 _ _ (ey _ _ (h3.at_ t q hq))
        · rw [List.getElem?_append_right (by omega)] at hq
          have ht0 : t - ps.length = 0 := by
            by_cases z : t - ps.length = 0
            · exact z
            · rw [List.getElem?_eq_none (by simp; omega)] at hq
              cases hq
          rw [ht0] at hq
          cases hq
          rw [upd_ne npD, hp4]
          congr 2
          omega
      · refine List.nodup_append.mpr ⟨h3.nd, List.pairwise_singleton _ _, fun a ha b hb => ?_⟩
        rw [List.mem_singleton.mp hb]
        rintro rfl
        obtain ⟨t, ht⟩ := List.mem_iff_getElem?.mp ha
        have := ey _ _ (h3.at_ t _ ht)
        rw [hp] at this
        cases this
      · rcases List.mem_append.mp hq with hq | hq
        · exact h4 hq
        · exact npD (List.mem_singleton.mp hq).symm
    · rintro H3 ⟨R, ps, h1, h2, h3, h4⟩
      exact k Dl H3 ps hDH (e1.trans R) h1 h2 ⟨fun p hp => fresh_back e1 (h3.new p hp), h3.at_, h3.nd⟩ h4
/-- from the end of a range -/
theorem src_revR {n : Nat} (h : Ev te σ H (.int (n : Int))) (hn : n ≤ 1000000000) : Src (iRevR (tRg1 te)) σ H n (fun _ => False) (fun i v _ => v = .int ((n : Int) - 1 - (i : Int))) := fun H1 e R q =>
  h H1 e _ fun H2 e2 => ⟨(n : Int), rfl, by omega, by omega, by omega, by omega, by
    have e0 : ((n : Int) - 0).toNat = n := by omega
    rw [e0, show (0 : Int) + (n : Int) - 1 = (n : Int) - 1 by omega]
    have w := (walk_rangeC (lo := (n : Int) - 1) (c := -1) (n := n)).mono (fun _ z => z) (Y' := fun i Ha v Hb => Ex Ha Hb ∧ v = .int ((n : Int) - 1 - (i : Int))) (fun i Ha v Hb _ _ hy => by
      obtain ⟨rfl, rfl⟩ := hy
      exact ⟨Ex.refl _, by show V.int ((n : Int) - 1 + ((i : Nat) : Int) * -1) = _; congr 1; omega⟩)
    exact q _ H2 _ e2 w fun _ _ _ _ => True.intro⟩
theorem q_parLC {i j : Nat} {c : V} {tz : TS} {D : Ends} {xs : List V} (h : EvL ta σ H xs) (k : ∀ p H1, H p = none → Ex H H1 → H1 p = some (.lst xs) → tz D ((σ.set i (some (.ref p))).set j (some c)) H1) : tSeq (tPar i j (tCons ta (tCons (tC c) tNil))) tz D σ H :=
  h H (Ex.refl _) _ fun p H1 hp e1 h1 => ⟨.ref p, c, rfl, k p H1 hp e1 h1⟩
theorem q_parCC {i j : Nat} {c d : V} {tz : TS} {D : Ends} (k : tz D ((σ.set i (some c)).set j (some d)) H) : tSeq (tPar i j (tCons (tC c) (tCons (tC d) tNil))) tz D σ H := ⟨c, d, rfl, k⟩
/-- two names, two constants -/
theorem q_asg2C {i j : Nat} {c d : V} {tz : TS} {D : Ends} (k : ∀ H1, Ex H H1 → tz D ((σ.set i (some c)).set j (some d)) H1) : tSeq (tAsg (tTup (tCons (tC c) (tCons (tC d) tNil))) (gTup K 2 (gCons (gName i) (gCons (gName j) gNil)))) tz D σ H :=
  ⟨by show 2 ≤ sizeLine; decide, fun pt hpt => ⟨pt, _, rfl, st_of upd_same, rfl, c, [d], rfl, d, [], rfl, rfl, k _ (Ex.new hpt)⟩⟩
theorem q_asgIf {i : Nat} {tu : TT} {tz : TS} {D : Ends} {b : Bool} (h : EvT tu σ H b) (h1 : b = true → ∀ H1, Ex H H1 → ta σ H1 fun v H2 => tz D (σ.set i (some v)) H2) (h2 : b = false → ∀ H1, Ex H H1 → tb σ H1 fun v H2 => tz D (σ.set i (some v)) H2) : tSeq (tAsg (tIf tu ta tb) (gName i)) tz D σ H := h H (Ex.refl H) _ fun H1 e1 => by
  cases b with
  | true => exact h1 rfl H1 e1
  | false => exact h2 rfl H1 e1
theorem hix {i : Nat} {x : Addr} {xs : List V} {j : Int} {v : V} (hx : H x = some (.tup xs)) (h0 : σ[i]? = some (some (.ref x))) (ha : atI xs j = some v) : Ev (tOp (rIxAny K) (tVar i) (tC (.int j))) σ H v := ev_op (ev_var h0) ev_c fun H3 e3 Q3 q3 => .inl (.inr (rv_ixT (K := K) (st_of hx) ha H3 e3 Q3 q3))
def rMin2 : List V → Hp → VK → Prop := fun xs H Q => ∃ i j, xs = [.int i, .int j] ∧ Q (.int (if j < i then j else i)) H
theorem ev_min2 {i j : Int} (ha : Ev ta σ H (.int i)) (hb : Ev tb σ H (.int j)) : Ev (tCB rMin2 (tCons ta (tCons tb tNil))) σ H (.int (if j < i then j else i)) := fun H1 e Q q =>
  ha H1 e _ fun H2 e2 => hb H2 (e.trans e2) _ fun H3 e3 => ⟨i, j, rfl, q H3 (e2.trans e3)⟩
end
end Wg
set_option Elab.async false
set_option linter.all false
set_option maxRecDepth 100000
set_option maxHeartbeats 2000000
/-! errors of own classes: raised, passed on, caught; three named values -/
namespace Wg
open PySem PySem.Spec PyProof.Rows L2 Evl Wc
/-- an own class of errors under ValueError, by its name -/
structure Err (K : PySem.W.Frag) (mg : Str → Option Value) (x : Str) (C : Addr) : Prop where
  gP : mg x = some (.ref C)
  xP : PySem.W.excIn K C [.type "ValueError", .type "Exception", .type "BaseException", .type "object"] "ValueError.__new__" = true
  kP : PySem.W.keepIn K (.ref C) = true
  bP : PySem.W.subIn K (.ref C) (.type "BaseException") = some true
  tP : PySem.W.typeIn K (.ref C) = some (.type "type")
/-- .. caught by its own name, asked for its kind -/
structure ErrI (K : PySem.W.Frag) (C : Addr) : Prop where
  te : PySem.W.exmOne K (.ref C) (.ref C) = some true
  cl : ExcC K C
/-- isinstance of the error that the suite holds, of whatever class -/
def rIsE2 (K : PySem.W.Frag) (D a : Addr) (cls : Value) (d : Option Addr) : List V → Hp → VK → Prop := fun xs H Q => cls = .ref D ∧ d = none ∧ rIsE K D a xs H Q
theorem call_isE2 {X : Cx} {a D : Addr} {oe : Obj} {pn : List (Addr × Obj)} {cls : Value} {d : Option Addr} (C : ExcC X.K D) (hz : Zc cls d oe) (hf : ∃ vs, oe.data = .fields vs) : CallR (X.suite a ((a, oe) :: pn)) (.builtin "isinstance") (rIsE2 X.K D a cls d) := by
  intro pins s σ H xs us Q I r h
  obtain ⟨rfl, rfl, h⟩ := h
  exact (call_isE C hz hf) pins s σ H xs us Q I r h
theorem is_err {K : PySem.W.Frag} {D a B : Addr} {b : Bool} {H : Hp} {Q : VK} (h : PySem.W.kitOne K (.ref D) (.ref B) = some b) (q : Q (.bl b) H) : rIsE2 K D a (.ref D) none [.ref a, .ref B] H Q := ⟨rfl, rfl, .ref B, .ref B, b, rfl, fun u hu => by cases hu; rfl, h, q⟩
section
variable {P : Program} {w : World} {K : PySem.W.Frag} {mg : Str → Option Value} {base : Heap}
/-- a def that may raise, called by its name -/
structure CalS (P : Program) (w : World) (K : PySem.W.Frag) (mg : Str → Option Value) (base : Heap) (x : Str) (st : Stmt) (k : Nat) (ps : List Str) (sp : Sp) : Prop where
  ex : ∃ f fd, FnOk P w K mg base (L2.CX P w) k f fd ps sp ∧ mg x = some (.ref f) ∧ Fun K x x st f fd ∧ Binds K fd ps []
/-- .. where it raises nothing -/
def calm (sp : Sp) : Sp := fun vs H Q _ => sp vs H Q E0
theorem CalS.calm {x : Str} {st : Stmt} {k : Nat} {ps : List Str} {sp : Sp} (C : CalS P w K mg base x st k ps sp) : Cal P w K mg base x st k ps (calm sp) := by
  obtain ⟨f, fd, F, hm, hF, hb⟩ := C.ex
  refine ⟨f, fd, ⟨fun vs H Q E h => F.len _ _ _ _ h, fun A outer s H args us vs Q E hr he hb r h => codeAny_mono (F.run A outer s H args us vs Q E0 hr he hb r h) fun z s' hz => ?_⟩, hm, hF, hb⟩
  cases z with
  | ok fl => cases fl <;> exact hz
  | error e =>
    obtain ⟨_, _, _, _, _, _, _, _, _, _, _, _, no⟩ := hz
    exact no
end
section
variable {X : Cx} {x : Str} {st : Stmt} {k n : Nat} {ps : List Str} {sp : Sp} {p pos pos' p2 : Pos} {e : Expr} {es : List Expr} {t : TA} {W : WX} {m : Str} {j : Nat} {C : Addr}
theorem pe_clS (Cl : CalS X.prog X.w X.K X.mg X.base x st k ps sp) (hr : Room n X.A) (tk : Takes X W) (ha : PA X (e :: es) t) (hkn : k ≤ n := by decide) (hg : Gl X x := by rfl) (hdb : (x == ("__debug__" : Str)) = false := by decide)
    (he : starEach (e :: es) X.env = (false, eval e X.env) :: starEach es X.env := by rfl) (hpl : (backTo pos (starEach es X.env)).any (·.1) = false := by rfl) : PE X (.Call (.Name x p) (e :: es) [] pos) (tCallS sp (WE W) t) := by
  obtain ⟨f, fd, F, hm, hF, hb⟩ := Cl.ex
  exact pe_callS F (hr.mono hkn) hg hm hF.kp hb (fun σ => passAt tk σ) ha hdb he hpl
theorem ps_raiseE (hc : X.calm = true) (tk : Takes X W) (Er : Err X.K X.mg x C) (hg : Gl X x := by rfl) (hdb : (x == ("__debug__" : Str)) = false := by decide) : PS X (.Raise (some (.Call (.Name x p) [.Constant (.str m) j p2] [] pos)) none pos') (fun _ σ H => W (.ref C) none σ H) :=
  ps_raise hc tk (pmk_own PySem.F.excBase_ValueError Er.xP Er.gP Er.kP (raises_own Er.bP Er.tP) hg hdb)
end
/-- three named values, the last one first -/
def sw3 {α : Type} : List α → List α → List α
  | [], [a, b, c] => [c, b, a]
  | _, _ => []
theorem sw3_rel {vs zs : List V} {us ws : List Value} (r : Vals vs us) (rz : Vals zs ws) : Vals (sw3 vs zs) (sw3 us ws) := by
  cases r with
  | cons => exact .nil
  | nil =>
    match zs, ws, rz with
    | [], _, .nil => exact .nil
    | [_], _, .cons _ .nil => exact .nil
    | [_, _], _, .cons _ (.cons _ .nil) => exact .nil
    | [_, _, _], _, .cons h1 (.cons h2 (.cons h3 .nil)) => exact .cons h3 (.cons h2 (.cons h1 .nil))
    | _ :: _ :: _ :: _ :: _, _, .cons _ (.cons _ (.cons _ (.cons _ _))) => exact .nil
theorem kb3 {x : Str} {st : Stmt} {ps ks : List Str} (hp : ps.length = 3)
    (h : ∀ (kV doc pm : Value) (an : Option Addr) (cdv ct a b c : Value), bindArgs (PySem.W.fnOf x x (defArgs st) (defBody st) (defScope st) .none kV doc pm an cdv ct) ⟨[], ks.zip [a, b, c]⟩ = pure (ps.zip (sw3 [] [a, b, c]))) : KB x st 0 ps ks sw3 sw3 := by
  intro K f fd F
  obtain ⟨oc, od, kV, doc, pm, an, cdv, ct, osl, rfl, lk, hcd⟩ := F.ex
  refine ⟨fun s us ws _ hl => ?_, fun r rz => sw3_rel r rz⟩
  rw [hp] at hl
  match us, ws, hl with
  | [], [a, b, c], _ => exact .of_eq (h kV doc pm an cdv ct a b c)
  | [], [], hl => exact absurd hl (by simp [sw3])
  | [], [_], hl => exact absurd hl (by simp [sw3])
  | [], [_, _], hl => exact absurd hl (by simp [sw3])
  | [], _ :: _ :: _ :: _ :: _, hl => exact absurd hl (by simp [sw3])
  | _ :: _, ws, hl => exact absurd hl (by simp [sw3])
end Wg
set_option Elab.async false
set_option linter.all false
set_option maxRecDepth 100000
set_option maxHeartbeats 2000000
/-! two lists, item by item; a pair popped off a list -/
namespace Wg
open PySem PySem.Spec PyProof.Rows L2 Evl Wc
inductive All2 {α β : Type} (R : α → β → Prop) : List α → List β → Prop
  | nil : All2 R [] []
  | cons {a : α} {b : β} {as : List α} {bs : List β} : R a b → All2 R as bs → All2 R (a :: as) (b :: bs)
namespace All2
variable {α β : Type} {R R' : α → β → Prop} {as as' : List α} {bs bs' : List β}
theorem mono (h : All2 R as bs) (k : ∀ a b, R a b → R' a b) : All2 R' as bs := by
  induction h with
  | nil => exact .nil
  | cons r _ ih => exact .cons (k _ _ r) ih
theorem len (h : All2 R as bs) : as.length = bs.length := by
  induction h with
  | nil => rfl
  | cons _ _ ih => rw [List.length_cons, List.length_cons, ih]
theorem app (h : All2 R as bs) (h' : All2 R as' bs') : All2 R (as ++ as') (bs ++ bs') := by
  induction h with
  | nil => exact h'
  | cons r _ ih => exact .cons r ih
theorem one {a : α} {b : β} (r : R a b) : All2 R [a] [b] := .cons r .nil
theorem push {a : α} {b : β} (h : All2 R as bs) (r : R a b) : All2 R (as ++ [a]) (bs ++ [b]) := h.app (one r)
theorem pop : ∀ {as : List α} {bs : List β} {b : β}, All2 R as (bs ++ [b]) → ∃ as' a, as = as' ++ [a] ∧ All2 R as' bs ∧ R a b
  | [], [], _, h => nomatch h
  | [], _ :: _, _, h => nomatch h
  | a :: as, [], b, h => by
    cases h with
    | cons r h' => cases h' with
      | nil => exact ⟨[], a, rfl, .nil, r⟩
  | a :: as, b0 :: bs, b, h => by
    cases h with
    | cons r h' =>
      obtain ⟨as', x, rfl, h1, h2⟩ := pop h'
      exact ⟨a :: as', x, rfl, .cons r h1, h2⟩
theorem at_ (h : All2 R as bs) : ∀ {i : Nat} {b : β}, bs[i]? = some b → ∃ a, as[i]? = some a ∧ R a b := by
  induction h with
  | nil => intro i b h; simp at h
  | cons r _ ih =>
    intro i b h
    cases i with
    | zero =>
      rw [List.getElem?_cons_zero] at h
      cases h
      exact ⟨_, rfl, r⟩
    | succ i => exact ih (by rwa [List.getElem?_cons_succ] at h)
theorem take (h : All2 R as bs) (n : Nat) : All2 R (as.take n) (bs.take n) := by
  induction h generalizing n with
  | nil => simp; exact .nil
  | cons r _ ih => cases n with
    | zero => exact .nil
    | succ n => exact .cons r (ih n)
end All2
section
variable {K : PySem.W.Frag} {σ : L2.St} {H : Hp}
theorem q_popP {i a b : Nat} {pw t : Addr} {xs : List V} {u v : V} {D : Ends} {tz : TS} (h0 : σ[i]? = some (some (.ref pw))) (h : H pw = some (.lst (xs ++ [.ref t]))) (ht : H t = some (.tup [u, v])) (k : tz D ((σ.set a (some u)).set b (some v)) (upd H pw (.lst xs))) :
    tSeq (tAsg (tBM0 K "list" rPop (tVar i)) (gTup K 2 (gCons (gName a) (gCons (gName b) gNil)))) tz D σ H := by
  have hne : t ≠ pw := fun z => by rw [z, h] at ht; cases ht
  refine ⟨.ref pw, h0, Or.inl ⟨rfl, _, sq_of h⟩, pw, xs ++ [.ref t], .ref t, rfl, rfl, h, by simp, ?_⟩
  rw [List.dropLast_concat]
  exact ⟨t, _, rfl, st_of (by rw [upd_ne hne]; exact ht), rfl, u, [v], rfl, v, [], rfl, rfl, k⟩
theorem s_appT {i : Nat} {l : Addr} {xs : List V} {te : TE} {D : Ends} (h0 : σ[i]? = some (some (.ref l))) (hl : H l = some (.lst xs)) (h : te σ H fun v H2 => rAppend (.ref l) [v] H2 fun _ H3 => D.nx σ H3) : tDrop (tBM K "list" rAppend (tVar i) (tCons te tNil)) D σ H := ⟨.ref l, h0, Or.inl ⟨rfl, xs, sq_of hl⟩, h⟩
end
end Wg
set_option Elab.async false
set_option linter.all false
set_option maxRecDepth 100000
set_option maxHeartbeats 2000000
/-! len(set(ints)), dicts that serve as sets of numbers, dict comprehensions, comprehensions of two clauses -/
namespace Wd
open PySem PySem.Spec PyProof.Rows L2 Evl Wc Wt Wg
theorem hu1 {A : Around} (h : A.units + 64 < cLine) : A.units + 1 < cLine := by omega
theorem len_nodup {α : Type} {l l' : List α} (h1 : l.Nodup) (h2 : l'.Nodup) (h : ∀ a, a ∈ l ↔ a ∈ l') : l.length = l'.length := ((List.perm_ext_iff_of_nodup h1 h2).mpr h).length_eq
/-- the distinct ones -/
def uniq : List Int → List Int
  | [] => []
  | x :: xs => if x ∈ xs then uniq xs else x :: uniq xs
theorem mem_uniq {z : Int} : ∀ {l : List Int}, z ∈ uniq l ↔ z ∈ l
  | [] => Iff.rfl
  | x :: xs => by
    unfold uniq
    split
    · rename_i h
      rw [mem_uniq, List.mem_cons]
      exact ⟨.inr, fun z => z.elim (fun e => e ▸ h) id⟩
    · rw [List.mem_cons, List.mem_cons, mem_uniq]
theorem uniq_nodup : ∀ l : List Int, (uniq l).Nodup
  | [] => List.Pairwise.nil
  | x :: xs => by
    unfold uniq
    split
    · exact uniq_nodup xs
    · rename_i h
      exact List.nodup_cons.mpr ⟨fun z => h (mem_uniq.mp z), uniq_nodup xs⟩
theorem uniq_le : ∀ l : List Int, (uniq l).length ≤ l.length
  | [] => Nat.le_refl _
  | x :: xs => by
    have := uniq_le xs
    unfold uniq
    split
    · rw [List.length_cons]; omega
    · rw [List.length_cons, List.length_cons]; omega
theorem uniq_all {l : List Int} (h : l.Nodup) : (uniq l).length = l.length := len_nodup (uniq_nodup l) h fun _ => mem_uniq
section
variable {X : Cx}
def rSetN (K : PySem.W.Frag) (w : World) : List V → Hp → VK → Prop := fun vs H Q => ∃ (p : Addr) (ns : List Int), vs = [.ref p] ∧ SqL K H p (ns.map V.int) ∧ ns.length ≤ 4000 ∧ ∀ q, H q = none → Q (.ref q) (upd H q (SetO w q (fun j => decide (j ∈ ns)) (uniq ns).length))
theorem cr_setN (hc : X.calm = true) : CallR X (.type "set") (rSetN X.K X.w) := by
  intro pins s σ H vs us Q I r h
  obtain ⟨p, ns, rfl, hp, hl, q⟩ := h
  rw [Vals.ref1 r]
  obtain ⟨its, rv, pl, hz⟩ := I.list hp
  refine call_set_ints (P := X.prog) (xs := ns) (I.ok.hd hc) pl.isList (ints_of_vals rv) (by unfold scanBound; omega) fun h2 tk c R m k => ?_
  have hn : H s.heap.objs.size = none := I.hok.fresh (Nat.le_refl _)
  have hc : c = (uniq ns).length := by
    obtain ⟨o, es, ep, t, _, _, _, _, nd, hm, _, _, hn, _⟩ := R
    rw [← hn, ← Array.length_toList, ← List.length_map (f := keyOf)]
    exact len_nodup nd (uniq_nodup ns) fun z => (hm z).symm.trans (decide_eq_true_iff.trans mem_uniq.symm)
  subst hc
  exact ⟨.ref _, upd H s.heap.objs.size (SetO X.w s.heap.objs.size (fun j => decide (j ∈ ns)) (uniq ns).length), I.laid (t' := tk) k (Nat.le_refl _) (setO_new R), rfl, q _ hn⟩
theorem ksetN {K : PySem.W.Frag} {w : World} (hc : X.calm = true := by rfl) (hK : X.K = K := by rfl) (hw : X.w = w := by rfl) : CallR X (.type "set") (rSetN K w) := by
  subst hK hw
  exact cr_setN hc
def rLenO (w : World) : List V → Hp → VK → Prop := fun vs H Q => ∃ (p : Addr) (S : Int → Bool) (n : Nat), vs = [.ref p] ∧ H p = some (SetO w p S n) ∧ n ≤ 4000 ∧ Q (.int (n : Int)) H
theorem cr_lenO : CallR X (.builtin "len") (rLenO X.w) := by
  intro pins s σ H vs us Q I r h
  obtain ⟨p, S, n, rfl, hp, hl, q⟩ := h
  rw [Vals.ref1 r]
  obtain ⟨o, es, ep, t, ho, hex, hd, _, _, _, _, hf, hn, _⟩ := setO_get I hp
  exact call_len_set ho hex hd hf (by omega) ⟨.int (n : Int), H, I.tok _, ⟨_, by rw [hn]⟩, q⟩
theorem kLenO {w : World} (hw : X.w = w := by rfl) : CallR X (.builtin "len") (rLenO w) := by
  subst hw
  exact cr_lenO
def rDictP (K : PySem.W.Frag) : List V → Hp → VK → Prop := fun xs H Q => ∃ (a : Addr) (ps : List Addr) (kvs : List (Key × V)), xs = [.ref a] ∧ SqL K H a (ps.map V.ref) ∧ Paired (fun p kv => SqT K H p [kV kv.1, kv.2]) ps kvs ∧
    ∀ p, H p = none → Q (.ref p) (upd H p (.dK (mergeK [] kvs)))
theorem kDictP {K : PySem.W.Frag} (hc : X.calm = true := by rfl) (hK : X.K = K := by rfl) : CallR X (.type "dict") (rDictP K) := by
  subst hK
  exact call_dictP hc
end
section
variable {K : PySem.W.Frag} {w : World} {σ : L2.St} {H : Hp} {ta td ty tv : TE} {D : Ends}
theorem ev_lenSet {p : Addr} {ns : List Int} (h : Ev ta σ H (.ref p)) (hp : SqL K H p (ns.map V.int)) (hl : ns.length ≤ 4000) : Ev (tCB (rLenO w) (tCons (tCB (rSetN K w) (tCons ta tNil)) tNil)) σ H (.int ((uniq ns).length : Int)) := fun H1 e Q q =>
  h H1 e _ fun H2 e2 => ⟨p, ns, rfl, ex_l (e.trans e2) hp, hl, fun r hr => ⟨r, _, _, rfl, upd_same, by have := uniq_le ns; omega, q _ (e2.trans (Ex.new hr))⟩⟩
/-! ### dicts as sets of numbers -/
def DS (ks : List Nat) : List (Key × V) := ks.map fun (n : Nat) => ((Sum.inl (n : Int) : Key), V.bl true)
def addN (ks : List Nat) (n : Nat) : List Nat := if n ∈ ks then ks else ks ++ [n]
theorem mem_addN {ks : List Nat} {n m : Nat} : m ∈ addN ks n ↔ m ∈ ks ∨ m = n := by
  unfold addN
  split
  · rename_i h
    exact ⟨.inl, fun z => z.elim id fun e => e ▸ h⟩
  · rw [List.mem_append, List.mem_singleton]
theorem addN_nodup {ks : List Nat} {n : Nat} (h : ks.Nodup) : (addN ks n).Nodup := by
  unfold addN
  split
  · exact h
  · rename_i hn
    refine List.nodup_append.mpr ⟨h, List.pairwise_singleton _ _, fun a ha b hb => ?_⟩
    rw [List.mem_singleton.mp hb]
    exact fun z => hn (z ▸ ha)
theorem addN_len (ks : List Nat) (n : Nat) : (addN ks n).length ≤ ks.length + 1 := by
  unfold addN
  split
  · omega
  · simp
theorem val_DS (ks : List Nat) (n : Nat) : valV (DS ks) (Sum.inl (n : Int)) = if n ∈ ks then some (.bl true) else none := by
  induction ks with
  | nil => rfl
  | cons m ks ih =>
    by_cases h : m = n
    · subst h
      show valV ((Sum.inl (m : Int), V.bl true) :: DS ks) _ = _
      rw [valV_pos rfl, if_pos List.mem_cons_self]
    · show valV ((Sum.inl (m : Int), V.bl true) :: DS ks) _ = _
      rw [valV_neg (fun z => h (Int.ofNat.inj (Sum.inl.inj z))), ih]
      by_cases h2 : n ∈ ks
      · rw [if_pos h2, if_pos (List.mem_cons_of_mem _ h2)]
      · rw [if_neg h2, if_neg fun z => (List.mem_cons.mp z).elim (fun e => h e.symm) h2]
theorem put_DS (ks : List Nat) (n : Nat) : putK (DS ks) (Sum.inl (n : Int)) (.bl true) = DS (addN ks n) := by
  have ha := valV_any (Sum.inl (n : Int) : Key) (DS ks)
  rw [val_DS] at ha
  unfold putK addN
  by_cases h : n ∈ ks
  · rw [if_pos h] at ha
    rw [if_pos (show ((DS ks).any fun kv => decide (kv.1 = (Sum.inl (n : Int) : Key))) = true from ha), if_pos h]
    unfold DS
    rw [List.map_map]
    refine List.map_congr_left fun m _ => ?_
    show (if (Sum.inl (m : Int) : Key) = Sum.inl (n : Int) then _ else _) = _
    split <;> rfl
  · rw [if_neg h] at ha
    rw [if_neg (show ¬ ((DS ks).any fun kv => decide (kv.1 = (Sum.inl (n : Int) : Key))) = true from fun z => Bool.false_ne_true (ha.symm.trans z)), if_neg h]
    unfold DS
    rw [List.map_append]
    rfl
theorem DS_len (ks : List Nat) : (DS ks).length = ks.length := by unfold DS; rw [List.length_map]
/-- d[n] = True -/
theorem s_putD {d : Addr} {ks : List Nat} {n : Nat} (hd : Ev td σ H (.ref d)) (hn : Ev ty σ H (.int (n : Int))) (h : H d = some (.dK (DS ks))) (hl : ks.length ≤ 10000) (k : ∀ H1, Ex H H1 → D.nx σ (upd H1 d (.dK (DS (addN ks n))))) : sDPut td ty (tC (.bl true)) D σ H :=
  hd H (Ex.refl _) _ fun H2 e2 => hn H2 e2 _ fun H3 e3 => ⟨d, _, rfl, DPut.k (k := Sum.inl (n : Int)) ((e2.trans e3) _ _ h) (by rw [DS_len]; unfold sizeLine; omega), by rw [put_DS]; exact k H3 (e2.trans e3)⟩
theorem q_putD {tz : TS} {d : Addr} {ks : List Nat} {n : Nat} (hd : Ev td σ H (.ref d)) (hn : Ev ty σ H (.int (n : Int))) (h : H d = some (.dK (DS ks))) (hl : ks.length ≤ 10000) (k : ∀ H1, Ex H H1 → tz D σ (upd H1 d (.dK (DS (addN ks n))))) : tSeq (sDPut td ty (tC (.bl true))) tz D σ H := s_putD (D := { D with nx := tz D }) hd hn h hl k
theorem some_if {b : Prop} [Decidable b] {v : V} : (if b then some v else none).isSome = decide b := by
  by_cases h : b
  · rw [if_pos h, decide_eq_true h]; rfl
  · rw [if_neg h, decide_eq_false h]; rfl
theorem ev_inD {d : Addr} {ks : List Nat} {n : Nat} (hn : Ev ty σ H (.int (n : Int))) (hd : Ev td σ H (.ref d)) (h : H d = some (.dK (DS ks))) : Ev (tDIn ty td) σ H (.bl (decide (n ∈ ks))) := fun H1 e Q q =>
  hn H1 e _ fun H2 e2 => hd H2 (e.trans e2) _ fun H3 e3 => ⟨d, _, rfl, DGet.k (k := Sum.inl (n : Int)) (((e.trans e2).trans e3) _ _ h), by rw [val_DS, some_if]; exact q H3 (e2.trans e3)⟩
theorem ev_notinD {d : Addr} {ks : List Nat} {n : Nat} (hn : Ev ty σ H (.int (n : Int))) (hd : Ev td σ H (.ref d)) (h : H d = some (.dK (DS ks))) : Ev (tDNotIn ty td) σ H (.bl (!decide (n ∈ ks))) := fun H1 e Q q =>
  hn H1 e _ fun H2 e2 => hd H2 (e.trans e2) _ fun H3 e3 => ⟨d, _, rfl, DGet.k (k := Sum.inl (n : Int)) (((e.trans e2).trans e3) _ _ h), by rw [val_DS, some_if]; exact q H3 (e2.trans e3)⟩
/-- list(d) -/
theorem el_listD {d : Addr} {ks : List Nat} (hd : Ev td σ H (.ref d)) (h : H d = some (.dK (DS ks))) : EvL (tCB rListD (tCons td tNil)) σ H (ks.map fun (n : Nat) => V.int (n : Int)) := fun H1 e Q q =>
  hd H1 e _ fun H2 e2 => ⟨d, DS ks, rfl, (e.trans e2) _ _ h, fun r hr => q r _ (fresh_back e2 hr) (e2.trans (Ex.new hr)) (by
    rw [upd_same]
    unfold DS
    rw [List.map_map]
    rfl)⟩
end
/-! ### numbers, ascending -/
/-- the members of ks, ascending, below n -/
def asc (n : Nat) (p : Nat → Bool) : List Nat := (List.range n).filter p
theorem asc_lt (n : Nat) (p : Nat → Bool) : (asc n p).Pairwise (· < ·) := List.Pairwise.filter _ List.pairwise_lt_range
theorem sorted_is {l l' : List Int} (h1 : l.Pairwise (· ≤ ·)) (h2 : l'.Pairwise (· ≤ ·)) (h : l.Perm l') : l = l' := h.eq_of_pairwise (fun a b _ _ h1 h2 => Int.le_antisymm h1 h2) h1 h2
/-- what any ascending order of ks is -/
theorem asc_is {n : Nat} {p : Nat → Bool} {ks : List Nat} {ys : List Int} (hk : ks.Nodup) (hm : ∀ m, m ∈ ks ↔ m < n ∧ p m = true) (hp : ys.Perm (ks.map fun (m : Nat) => (m : Int))) (hs : ys.Pairwise (· ≤ ·)) : ys = (asc n p).map fun (m : Nat) => (m : Int) := by
  refine sorted_is hs ?_ (hp.trans (List.Perm.map _ ?_))
  · exact List.pairwise_map.mpr ((asc_lt n p).imp fun h => by omega)
  · refine (List.perm_ext_iff_of_nodup hk ((asc_lt n p).imp fun h => Nat.ne_of_lt h)).mpr fun m => ?_
    unfold asc
    rw [hm, List.mem_filter, List.mem_range]
end Wd
set_option Elab.async false
set_option linter.all false
set_option maxRecDepth 100000
set_option maxHeartbeats 2000000
/-! dict comprehensions, comprehensions of two clauses -/
namespace Wd
open PySem PySem.Spec PyProof.Rows L2 Evl Wc Wt Wg
section
variable {J : It} {n : Nat} {G : Hp → Prop} {Y : Nat → Hp → V → Hp → Prop}
theorem dc_it (w : Walk J n G Y) {g : TG} {tt : TT} {tk tv : TE} {vs : List Nat} {σ : L2.St} {H1 : Hp} {D : Addr} {Qd : Hp → Prop} (Pv : Nat → Hp → Prop) (h0 : Pv 0 (upd H1 D (.dK []))) (hG : ∀ i H, i ≤ n → Pv i H → G H)
    (hs : ∀ i x H H', i < n → Pv i H → Y i H x H' → g x (wipe σ vs) H' fun σ2 H2 => wipe σ2 vs = wipe σ vs ∧ tt σ2 H2 fun b H3 =>
      if b = true then tk σ2 H3 fun y H4 => tv σ2 H4 fun z H5 => ∃ kvs k, y = kV k ∧ H5 D = some (.dK kvs) ∧ kvs.length < sizeLine ∧ Pv (i + 1) (upd H5 D (.dK (putK kvs k z))) else Pv (i + 1) H3) (hd : ∀ H, Pv n H → Qd H) :
    ∃ W : Nat → Nat → Hp → Prop, (∃ m, W 0 m (upd H1 D (.dK []))) ∧ ∀ i m H, W i m H →
      (J.stop i H ∧ Qd H) ∨ (J.go i H ∧ ∃ Nx : Hp → Prop, (∀ H', Nx H' → ∃ m', m' < m ∧ W (i + 1) m' H') ∧ ∀ x H', J.yld i H x H' → g x (wipe σ vs) H' fun σ2 H2 => wipe σ2 vs = wipe σ vs ∧ tt σ2 H2 fun b H3 =>
        if b = true then tk σ2 H3 fun y H4 => tv σ2 H4 fun z H5 => ∃ kvs k, y = kV k ∧ H5 D = some (.dK kvs) ∧ kvs.length < sizeLine ∧ Nx (upd H5 D (.dK (putK kvs k z))) else Nx H3) := by
  refine ⟨fun i m H => m = n - i ∧ i ≤ n ∧ Pv i H, ⟨n, by simp, Nat.zero_le _, h0⟩, ?_⟩
  rintro i m H ⟨rfl, hi, p⟩
  have q := hG i H hi p
  by_cases hlt : i < n
  · exact .inr ⟨w.goes i H hlt q, Pv (i + 1), fun H' p' => ⟨n - (i + 1), by omega, rfl, hlt, p'⟩, fun x H' y => hs i x H H' hlt p (w.yields i H x H' hlt q y)⟩
  · have e : i = n := by omega
    subst e
    exact .inl ⟨w.stops H q, hd H p⟩
theorem in_it (w : Walk J n G Y) {g : TG} {tt : TT} {te : TE} {vs : List Nat} {σ : L2.St} {H1 : Hp} {D : Addr} {Qd : Hp → Prop} (Pv : Nat → Hp → Prop) (h0 : Pv 0 H1) (hG : ∀ i H, i ≤ n → Pv i H → G H)
    (hs : ∀ i x H H', i < n → Pv i H → Y i H x H' → g x (wipe σ vs) H' fun σ2 H2 => wipe σ2 vs = wipe σ vs ∧ tt σ2 H2 fun b H3 =>
      if b = true then te σ2 H3 fun y H4 => ∃ acc, H4 D = some (.lst acc) ∧ acc.length < sizeLine ∧ Pv (i + 1) (upd H4 D (.lst (acc ++ [y]))) else Pv (i + 1) H3) (hd : ∀ H, Pv n H → Qd H) :
    ∃ W : Nat → Nat → Hp → Prop, (∃ m, W 0 m H1) ∧ ∀ i m H, W i m H →
      (J.stop i H ∧ Qd H) ∨ (J.go i H ∧ ∃ Nx : Hp → Prop, (∀ H', Nx H' → ∃ m', m' < m ∧ W (i + 1) m' H') ∧ ∀ x H', J.yld i H x H' → g x (wipe σ vs) H' fun σ2 H2 => wipe σ2 vs = wipe σ vs ∧ tt σ2 H2 fun b H3 =>
        if b = true then te σ2 H3 fun y H4 => ∃ acc, H4 D = some (.lst acc) ∧ acc.length < sizeLine ∧ Nx (upd H4 D (.lst (acc ++ [y]))) else Nx H3) := by
  refine ⟨fun i m H => m = n - i ∧ i ≤ n ∧ Pv i H, ⟨n, by simp, Nat.zero_le _, h0⟩, ?_⟩
  rintro i m H ⟨rfl, hi, p⟩
  have q := hG i H hi p
  by_cases hlt : i < n
  · exact .inr ⟨w.goes i H hlt q, Pv (i + 1), fun H' p' => ⟨n - (i + 1), by omega, rfl, hlt, p'⟩, fun x H' y => hs i x H H' hlt p (w.yields i H x H' hlt q y)⟩
  · have e : i = n := by omega
    subst e
    exact .inl ⟨w.stops H q, hd H p⟩
end
def addAll (ks ns : List Nat) : List Nat := ns.foldl addN ks
theorem mem_addAll {m : Nat} : ∀ {ns ks : List Nat}, m ∈ addAll ks ns ↔ m ∈ ks ∨ m ∈ ns
  | [], ks => ⟨.inl, fun z => z.elim id fun h => nomatch h⟩
  | n :: ns, ks => by
    show m ∈ addAll (addN ks n) ns ↔ _
    rw [mem_addAll, mem_addN, List.mem_cons, or_assoc]
theorem addAll_nodup : ∀ {ns ks : List Nat}, ks.Nodup → (addAll ks ns).Nodup
  | [], _, h => h
  | n :: ns, ks, h => addAll_nodup (ns := ns) (addN_nodup h)
theorem addAll_len : ∀ (ns ks : List Nat), (addAll ks ns).length ≤ ks.length + ns.length
  | [], _ => Nat.le_refl _
  | n :: ns, ks => by
    have h1 := addAll_len ns (addN ks n)
    have h2 := addN_len ks n
    show (addAll (addN ks n) ns).length ≤ _
    rw [List.length_cons]
    omega
theorem addAll_succ {ns : List Nat} {i n : Nat} (h : ns[i]? = some n) : addAll [] (ns.take (i + 1)) = addN (addAll [] (ns.take i)) n := by
  rw [List.take_add_one, h]
  unfold addAll
  rw [List.foldl_append]
  rfl
section
variable {K : PySem.W.Frag} {σ : L2.St} {H : Hp} {te : TE} {Q : VK}
/-- {n: True for n in ns} -/
theorem dc_nums {wi : TI} {j : Nat} {vs : List Nat} {own : Addr → Prop} (ns : List Nat) (hs : Src wi σ H ns.length own (fun i v _ => (ns.map fun (n : Nat) => V.int (n : Int))[i]? = some v)) (hn : ns.length ≤ 4000) (hw : ∀ x, wipe ((wipe σ vs).set j (some x)) vs = wipe σ vs) (hj : ∀ x, ((wipe σ vs).set j (some x))[j]? = some (some x))
    (k : ∀ d H2, H d = none → Ex H H2 → H2 d = some (.dK (DS (addAll [] ns))) → Q (.ref d) H2) : tDc wi (gName j) tYes (tVar j) (tC (.bl true)) vs σ H Q :=
  hs H (Ex.refl H) _ fun J H1 S e1 w hS => fun Dl hD => by
    refine dc_it w (Qd := fun H3 => Q (.ref Dl) H3) (fun i Hi => Ex H1 Hi ∧ Hi Dl = some (.dK (DS (addAll [] (ns.take i))))) ?_ (fun i Hi hi p => hS (fun _ => False) Hi (fun b z => z.elim) (.of p.1)) ?_ ?_
    · exact ⟨Ex.new hD, upd_same⟩
    · rintro i x Ha Hb hi ⟨R, h1⟩ ⟨ey, hP⟩
      obtain ⟨n, hn1, rfl⟩ := at_map hP
      refine ⟨hw _, ?_⟩
      unfold tYes
      dsimp only
      rw [if_pos rfl]
      refine ⟨.int (n : Int), hj _, ?_⟩
      have hl := addAll_len (ns.take i) []
      refine ⟨DS (addAll [] (ns.take i)), Sum.inl (n : Int), rfl, ey _ _ h1, ?_, Ex.mut (R.trans ey) hD, ?_⟩
      · rw [DS_len]
        rw [List.length_take] at hl
        have : ([] : List Nat).length = 0 := rfl
        unfold sizeLine
        omega
      · rw [upd_same, put_DS, addAll_succ hn1]
    · rintro H3 ⟨R, h1⟩
      rw [List.take_length] at h1
      exact k Dl H3 (fresh_back e1 hD) (e1.trans R) h1
theorem sum_part {α : Type} (f : α → Nat) (xs : List α) (i : Nat) : ((xs.take i).map f).sum ≤ (xs.map f).sum := by
  conv => rhs; rw [← List.take_append_drop i xs, List.map_append, List.sum_append]
  omega
/-- [g a b for a in xs for b in ys a] -/
theorem el_lc2 {α β : Type} {wi wi1 : TI} {j j1 : Nat} {vs vs1 : List Nat} {own : Addr → Prop} {own1 : α → Addr → Prop} {f : α → V} {h : β → V} {g : α → β → V} (xs : List α) (ys : α → List β) (hs : Src wi σ H xs.length own (fun i v _ => (xs.map f)[i]? = some v))
    (hs1 : ∀ a H1, Ex H H1 → a ∈ xs → Src wi1 ((wipe σ vs).set j (some (f a))) H1 (ys a).length (own1 a) (fun i v _ => ((ys a).map h)[i]? = some v))
    (ho : ∀ a c, own1 a c → H c ≠ none) (hz : (xs.map fun a => (ys a).length).sum ≤ 40000) (hw : ∀ x, wipe ((wipe σ vs).set j (some x)) vs = wipe σ vs) (hw1 : ∀ x y, wipe ((wipe ((wipe σ vs).set j (some x)) vs1).set j1 (some y)) vs1 = wipe ((wipe σ vs).set j (some x)) vs1)
    (he : ∀ a b H1, Ex H H1 → a ∈ xs → b ∈ ys a → Ev te ((wipe ((wipe σ vs).set j (some (f a))) vs1).set j1 (some (h b))) H1 (g a b)) :
    EvL (tLc2 wi (gName j) tYes wi1 (gName j1) tYes te vs vs1) σ H (xs.flatMap fun a => (ys a).map (g a)) := fun H0 e0 Q q => hs H0 e0 _ fun J H1 S e1 w hS => fun Dl hD => by
  have e01 := e0.trans e1
  refine ⟨fun i m Hi => m = xs.length - i ∧ i ≤ xs.length ∧ Ex H1 Hi ∧ Hi Dl = some (.lst ((xs.take i).flatMap fun a => (ys a).map (g a))), ⟨xs.length, by simp, Nat.zero_le _, Ex.new hD, upd_same⟩, ?_⟩
  rintro i m Hi ⟨rfl, hi, hE, hL⟩
  have hG : S Hi := hS (fun _ => False) Hi (fun b z => z.elim) (.of hE)
  by_cases hlt : i < xs.length
  · refine .inr ⟨w.goes i Hi hlt hG, fun H' => Ex H1 H' ∧ H' Dl = some (.lst ((xs.take (i + 1)).flatMap fun a => (ys a).map (g a))), fun H' p' => ⟨xs.length - (i + 1), by omega, rfl, hlt, p'.1, p'.2⟩, fun x H' y => ?_⟩
    obtain ⟨ey, hP⟩ := w.yields i Hi x H' hlt hG y
    obtain ⟨a, ha, rfl⟩ := at_map hP
    have ham := List.mem_of_getElem? ha
    have hEy := hE.trans ey
    refine ⟨hw _, ?_⟩
    show wi1 ((wipe σ vs).set j (some (f a))) H' _
    refine hs1 a H' (e01.trans hEy) ham H' (Ex.refl _) _ fun J1 H4 S1 e4 w1 hS1 => ?_
    have hL4 : H4 Dl = some (.lst ((xs.take i).flatMap fun a => (ys a).map (g a))) := e4 _ _ (ey _ _ hL)
    have hE4 := hEy.trans e4
    have htk : (xs.take (i + 1)).flatMap (fun a => (ys a).map (g a)) = (xs.take i).flatMap (fun a => (ys a).map (g a)) ++ (ys a).map (g a) := by
      rw [List.take_add_one, ha, List.flatMap_append]
      simp
    refine in_it w1 (Qd := fun H' => Ex H1 H' ∧ H' Dl = some (.lst ((xs.take (i + 1)).flatMap fun a => (ys a).map (g a)))) (fun t Ht => Ex H1 Ht ∧ Exc (fun c => c = Dl) H4 Ht ∧ Ht Dl = some (.lst ((xs.take i).flatMap (fun a => (ys a).map (g a)) ++ ((ys a).take t).map (g a)))) ?_ ?_ ?_ ?_
    · exact ⟨hE4, Exc.refl _, by rw [hL4]; simp⟩
    · intro t Ht ht p
      refine hS1 (fun c => c = Dl) Ht (fun b z => ?_) p.2.1
      subst z
      exact ⟨(by rw [ey _ _ hL]; exact fun z => nomatch z), fun z => ho a b z (fresh_back e01 hD)⟩
    · rintro t y Ht Hu ht ⟨p1, p2, p3⟩ ⟨eu, hy⟩
      obtain ⟨b, hb, rfl⟩ := at_map hy
      refine ⟨hw1 _ _, ?_⟩
      show te ((wipe ((wipe σ vs).set j (some (f a))) vs1).set j1 (some (h b))) Hu fun y H7 => _
      refine he a b Hu (e01.trans (p1.trans eu)) ham (List.mem_of_getElem? hb) Hu (Ex.refl _) _ fun H7 e7 => ?_
      refine ⟨_, e7 _ _ (eu _ _ p3), ?_, Ex.mut (p1.trans (eu.trans e7)) hD, (p2.then (eu.trans e7)).upd (.inl rfl), ?_⟩
      · refine sz_lt ?_
        rw [List.length_append, List.length_flatMap, List.length_map, List.length_take]
        have h1 := sum_part (fun a => (ys a).length) xs (i + 1)
        rw [List.take_add_one, ha, List.map_append, List.sum_append] at h1
        simp at h1 ⊢
        omega
      · rw [upd_same, List.take_add_one, hb, List.map_append, List.append_assoc]
        rfl
    · rintro Ht ⟨p1, _, p3⟩
      rw [List.take_length] at p3
      exact ⟨p1, by rw [p3, htk]⟩
  · have e : i = xs.length := by omega
    subst e
    rw [List.take_length] at hL
    exact .inl ⟨w.stops Hi hG, q Dl Hi (fresh_back e1 hD) (e1.trans hE) hL⟩
end
end Wd
set_option Elab.async false
set_option linter.all false
set_option maxRecDepth 100000
set_option maxHeartbeats 2000000
/-! set comprehensions of any kind of things -/
namespace Ws
open PySem PySem.Spec PyProof.Rows L2 Evl Wc Wt Wg Wd
/-- how a set of some kind begins (nw) and takes one thing more (ad) -/
structure Fill (P : Program) (w : World) (nw : Addr → HO) (ad : Addr → HO → V → HO → Prop) : Prop where
  new : ∀ (H : Hp) (h : Heap), ObjOk P w H (h.push (so w)) h.objs.size (nw h.objs.size)
  add : ∀ (X : Cx), X.prog = P → X.w = w → ∀ (pins : List (Addr × Obj)) (σ : L2.St) (H : Hp) (s : Shared) (E : Value → Shared → Prop) (D : Addr) (o o' : HO) (y : V) (v : Value) (Q : Value → Shared → Prop), Inv X pins σ H s → H D = some o → ad D o y o' → RelV y v →
    (∀ s', Inv X pins σ (upd H D o') s' → Q .none s') → wpAny (model X.prog X.w) X.A (call (.builtin "set.add") [.ref D, v]) Q E s
/-- one turn's end: the thing y goes into the set at D, behind it Z -/
def tInto (ad : Addr → HO → V → HO → Prop) (D : Addr) (Z : Hp → Prop) : VK := fun y H => ∃ o o', H D = some o ∧ ad D o y o' ∧ Z (upd H D o')
/-- {te for g in wi if tt} -/
def tSet (nw : Addr → HO) (ad : Addr → HO → V → HO → Prop) (wi : TI) (g : TG) (tt : TT) (te : TE) (vs : List Nat) : TE := fun σ H Q => wi σ H fun J H1 => ∀ D, H1 D = none → ∃ W : Nat → Nat → Hp → Prop, (∃ m, W 0 m (upd H1 D (nw D))) ∧ ∀ i m H, W i m H →
  (J.stop i H ∧ Q (.ref D) H) ∨ (J.go i H ∧ ∃ Z : Hp → Prop, (∀ H', Z H' → ∃ m', m' < m ∧ W (i + 1) m' H') ∧ ∀ x H', J.yld i H x H' →
    g x (wipe σ vs) H' fun σ2 H2 => wipe σ2 vs = wipe σ vs ∧ tt σ2 H2 fun b H3 => if b = true then te σ2 H3 (tInto ad D Z) else Z H3)
/-- {te for g in wi if tt for g1 in wi1 if tt1} -/
def tSet2 (nw : Addr → HO) (ad : Addr → HO → V → HO → Prop) (wi : TI) (g : TG) (tt : TT) (wi1 : TI) (g1 : TG) (tt1 : TT) (te : TE) (vs vs1 : List Nat) : TE := fun σ H Q => wi σ H fun J H1 => ∀ D, H1 D = none → ∃ W : Nat → Nat → Hp → Prop, (∃ m, W 0 m (upd H1 D (nw D))) ∧ ∀ i m H, W i m H →
  (J.stop i H ∧ Q (.ref D) H) ∨ (J.go i H ∧ ∃ Z : Hp → Prop, (∀ H', Z H' → ∃ m', m' < m ∧ W (i + 1) m' H') ∧ ∀ x H', J.yld i H x H' →
    g x (wipe σ vs) H' fun σ2 H2 => wipe σ2 vs = wipe σ vs ∧ tt σ2 H2 fun b H3 => if b = true then
      wi1 σ2 H3 fun J1 H4 => ∃ W1 : Nat → Nat → Hp → Prop, (∃ m, W1 0 m H4) ∧ ∀ j k H, W1 j k H →
        (J1.stop j H ∧ Z H) ∨ (J1.go j H ∧ ∃ Z1 : Hp → Prop, (∀ H', Z1 H' → ∃ k', k' < k ∧ W1 (j + 1) k' H') ∧ ∀ x H', J1.yld j H x H' →
          g1 x (wipe σ2 vs1) H' fun σ3 H5 => wipe σ3 vs1 = wipe σ2 vs1 ∧ tt1 σ3 H5 fun b H6 => if b = true then te σ3 H6 (tInto ad D Z1) else Z1 H6)
    else Z H3)
/-! ### the turns of two clauses -/
section
variable {prog : Program} {w : World} {A : Around} {R : Result → Shared → Prop} {s : Shared} {elt t0 i0 t1 i1 : Expr} {ifs0 ifs1 : List Expr} {scope : Scope} {pos : Pos} {it acc : Value} {env : Env}
theorem turn_first (elt t0 i0 t1 i1 : Expr) (ifs0 ifs1 : List Expr) (scope : Scope) (pos : Pos) (it acc : Value) (env : Env) :
    compTurn (.SetComp elt [⟨t0, i0, ifs0, 0⟩, ⟨t1, i1, ifs1, 0⟩] scope pos) 0 it acc env = (do
      standAt i0.pos
      match ← pyNext it with
      | none => pure (.done .next)
      | some v =>
        letOwnedTupleGo t0 it v
        assign t0 env v
        let mut ok := true
        for c in ifs0 do
          if ok then ok ← isTrue c env (eval c env)
        if ok then
          let x ← eval i1 env
          standAt i1.pos
          let x ← foldedSetIterable i1 env x
          let _ ← runOwn (.compStart (.SetComp elt [⟨t0, i0, ifs0, 0⟩, ⟨t1, i1, ifs1, 0⟩] scope pos) 1 (← holding [x] (pyIter x)) acc env) env
        again (.compLoop (.SetComp elt [⟨t0, i0, ifs0, 0⟩, ⟨t1, i1, ifs1, 0⟩] scope pos) 0 it acc env)) := by rfl
theorem turn_second (elt t0 i0 t1 i1 : Expr) (ifs0 ifs1 : List Expr) (scope : Scope) (pos : Pos) (it acc : Value) (env : Env) :
    compTurn (.SetComp elt [⟨t0, i0, ifs0, 0⟩, ⟨t1, i1, ifs1, 0⟩] scope pos) 1 it acc env = (do
      standAt i1.pos
      match ← pyNext it with
      | none => pure (.done .next)
      | some v =>
        letOwnedTupleGo t1 it v
        assign t1 env v
        let mut ok := true
        for c in ifs1 do
          if ok then ok ← isTrue c env (eval c env)
        if ok then
          (do let v ← eval elt env; standAt elt.pos; let _ ← call (.builtin "set.add") [acc, v])
        again (.compLoop (.SetComp elt [⟨t0, i0, ifs0, 0⟩, ⟨t1, i1, ifs1, 0⟩] scope pos) 1 it acc env)) := by rfl
/-- a raise out of the block -/
abbrev Out (prog : Program) (w : World) (A : Around) (env : Env) (R : Result → Shared → Prop) : Value → Shared → Prop := notedBy (model prog w) A env fun e s' => R (.error e) s'
/-- the tests of a clause -/
abbrev oks (ifs : List Expr) (env : Env) : Sem Bool := forIn ifs true fun c r => if r = true then do let ok ← isTrue c env (eval c env); pure (ForInStep.yield ok) else pure (ForInStep.yield r)
theorem loop_first (hs : ∀ x, foldedSetIterable i1 env x = pure x) (I : Nat → Shared → Prop)
    (turn : ∀ n s, I n s → wpAny (model prog w) A (pyNext it) (fun r s₁ => match r with
      | none => R (.ok .next) s₁
      | some v => wpAny (model prog w) A (letOwnedTupleGo t0 it v) (fun _ s₂ => wpAny (model prog w) A (assign t0 env v) (fun _ s₃ => wpAny (model prog w) A (oks ifs0 env) (fun ok s₄ =>
            if ok = true then wpAny (model prog w) A (eval i1 env) (fun x s₅ => wpAny (model prog w) A (pyIter x) (fun it1 s₆ =>
              codeAny (model prog w) A (.compStart (.SetComp elt [⟨t0, i0, ifs0, 0⟩, ⟨t1, i1, ifs1, 0⟩] scope pos) 1 it1 acc env) (fun r s' => match r with
                | .ok _ => ∃ m, m < n ∧ I m s'
                | .error _ => False) s₆) (Out prog w A env R) s₅) (Out prog w A env R) s₄
            else ∃ m, m < n ∧ I m s₄) (Out prog w A env R) s₃) (Out prog w A env R) s₂) (Out prog w A env R) s₁) (Out prog w A env R) s)
    (n : Nat) (h : I n s) : codeAny (model prog w) A (.compLoop (.SetComp elt [⟨t0, i0, ifs0, 0⟩, ⟨t1, i1, ifs1, 0⟩] scope pos) 0 it acc env) R s := by
  refine codeAny_loop rfl I (fun n s hI => ?_) n h
  show wpAny _ A ((compTurn (.SetComp elt [⟨t0, i0, ifs0, 0⟩, ⟨t1, i1, ifs1, 0⟩] scope pos) 0 it acc env).onRaise (fun x => do noteFrame x env; theTreesLotGoes x)) _ _ s
  refine wpAny_noted ?_
  rw [turn_first]
  refine wpAny_bind (wpAny_standAt (wpAny_bind (wpAny_mono (turn n s hI) (fun r s₁ h₁ => ?_) fun _ _ z => z)))
  cases r with
  | none => exact wpAny_pure h₁
  | some v =>
    refine wpAny_bind (wpAny_mono h₁ (fun _ s₂ h₂ => wpAny_bind (wpAny_mono h₂ (fun _ s₃ h₃ => wpAny_bind (wpAny_mono h₃ (fun ok s₄ h₄ => ?_) fun _ _ z => z)) fun _ _ z => z)) fun _ _ z => z)
    cases ok with
    | false => exact wpAny_pure ⟨rfl, h₄⟩
    | true =>
      refine wpAny_bind (wpAny_mono h₄ (fun x s₅ h₅ => wpAny_bind (wpAny_standAt (wpAny_bind (wpAny_of_eq (hs x) (wpAny_bind (wpAny_holding (wpAny_mono h₅ (fun it1 s₆ h₆ => wpAny_bind (wpAny_runOwn ?_)) fun _ _ z => z))))))) fun _ _ z => z)
      rw [Around.mark_none]
      refine codeAny_mono h₆ fun r s' hr => ?_
      cases r with
      | error e => exact hr.elim
      | ok f => first | exact wpAny_pure ⟨rfl, hr⟩ | exact wpAny_bind (wpAny_pure (wpAny_pure ⟨rfl, hr⟩))
theorem loop_second (I : Nat → Shared → Prop)
    (turn : ∀ n s, I n s → wpAny (model prog w) A (pyNext it) (fun r s₁ => match r with
      | none => R (.ok .next) s₁
      | some v => wpAny (model prog w) A (letOwnedTupleGo t1 it v) (fun _ s₂ => wpAny (model prog w) A (assign t1 env v) (fun _ s₃ => wpAny (model prog w) A (oks ifs1 env) (fun ok s₄ =>
            if ok = true then wpAny (model prog w) A (eval elt env) (fun x s₅ => wpAny (model prog w) A (call (.builtin "set.add") [acc, x]) (fun _ s₆ => ∃ m, m < n ∧ I m s₆) (Out prog w A env R) s₅) (Out prog w A env R) s₄
            else ∃ m, m < n ∧ I m s₄) (Out prog w A env R) s₃) (Out prog w A env R) s₂) (Out prog w A env R) s₁) (Out prog w A env R) s)
    (n : Nat) (h : I n s) : codeAny (model prog w) A (.compLoop (.SetComp elt [⟨t0, i0, ifs0, 0⟩, ⟨t1, i1, ifs1, 0⟩] scope pos) 1 it acc env) R s := by
  refine codeAny_loop rfl I (fun n s hI => ?_) n h
  show wpAny _ A ((compTurn (.SetComp elt [⟨t0, i0, ifs0, 0⟩, ⟨t1, i1, ifs1, 0⟩] scope pos) 1 it acc env).onRaise (fun x => do noteFrame x env; theTreesLotGoes x)) _ _ s
  refine wpAny_noted ?_
  rw [turn_second]
  refine wpAny_bind (wpAny_standAt (wpAny_bind (wpAny_mono (turn n s hI) (fun r s₁ h₁ => ?_) fun _ _ z => z)))
  cases r with
  | none => exact wpAny_pure h₁
  | some v =>
    refine wpAny_bind (wpAny_mono h₁ (fun _ s₂ h₂ => wpAny_bind (wpAny_mono h₂ (fun _ s₃ h₃ => wpAny_bind (wpAny_mono h₃ (fun ok s₄ h₄ => ?_) fun _ _ z => z)) fun _ _ z => z)) fun _ _ z => z)
    cases ok with
    | false => exact wpAny_pure ⟨rfl, h₄⟩
    | true => exact wpAny_bind (wpAny_bind (wpAny_mono h₄ (fun x s₅ h₅ => wpAny_bind (wpAny_standAt (wpAny_bind (wpAny_mono h₅ (fun _ s₆ h₆ => wpAny_pure (wpAny_pure ⟨rfl, h₆⟩)) fun _ _ z => z)))) fun _ _ z => z))
theorem start_second (h0 : codeAny (model prog w) A (.compLoop (.SetComp elt [⟨t0, i0, ifs0, 0⟩, ⟨t1, i1, ifs1, 0⟩] scope pos) 1 it acc env) R s)
    (h : wpAny (model prog w) A (pyIter it) (fun it' s' => codeAny (model prog w) A (.compLoop (.SetComp elt [⟨t0, i0, ifs0, 0⟩, ⟨t1, i1, ifs1, 0⟩] scope pos) 1 it' acc env) R s') (Out prog w A env R) s) :
    codeAny (model prog w) A (.compStart (.SetComp elt [⟨t0, i0, ifs0, 0⟩, ⟨t1, i1, ifs1, 0⟩] scope pos) 1 it acc env) R s := by
  refine codeAny_of_tree ?_
  show wpAny _ _ ((compStart (.SetComp elt [⟨t0, i0, ifs0, 0⟩, ⟨t1, i1, ifs1, 0⟩] scope pos) 1 it acc env).onRaise (fun x => do noteFrame x env; standAt theWindowsPlace)) _ _ s
  refine wpAny_notedAt ?_
  unfold compStart
  show wpAny _ _ (ask >>= _) _ _ s
  refine wpAny_bind (wpAny_askSetting (wpAny_ite ?_))
  split
  · first
      | exact wpAny_bind (wpAny_pure (wpAny_pure (And.intro rfl h0)))
      | exact wpAny_pure (And.intro rfl h0)
  · first
      | exact wpAny_bind (wpAny_rule (wpAny_bind (wpAny_standAt (wpAny_bind (wpAny_mono h (fun it' s' h' => wpAny_pure (And.intro rfl h')) fun _ _ x => x)))))
      | (refine wpAny_bind (wpAny_rule ?_); show wpAny _ _ (standAt i1.pos >>= _) _ _ s; exact wpAny_bind (wpAny_standAt (wpAny_bind (wpAny_mono h (fun it' s' h' => wpAny_pure (And.intro rfl h')) fun _ _ x => x))))
end
section
variable {X : Cx} {nw : Addr → HO} {ad : Addr → HO → V → HO → Prop}
/-- what a rule of a block's part tells at each of its contexts -/
abbrev InBlk (X : Cx) (scope : Scope) (G : Cx → Prop) : Prop := ∀ (s : Shared) (H : Hp) (C : Addr) (cl : List (PySem.Str × Addr)) (fp : List Addr), G (X.blk s H scope (compEnvC scope cl C X.env) fp)
/-- the block's frame stands: H3 what is there, D the set, s3 the state ahead of the frame, ce its names -/
structure Frame (X : Cx) (pins : List (Addr × Obj)) (σ : L2.St) (vs : List Nat) (scope : Scope) (H3 : Hp) (s3 s4 : Shared) (ce : Env) (fp : List Addr) : Prop where
  loc : ce.locals = s3.heap.objs.size
  inv : Inv X pins σ H3 s3
  fps : ∀ b ∈ fp, FpOk X pins H3 b ∧ b < s3.heap.objs.size
  blk : Inv (X.blk s3 H3 scope ce fp) [] (wipe σ vs) H3 s4
/-- the source's objects at a turn -/
theorem Frame.stat {pins : List (Addr × Obj)} {σ σ' : L2.St} {vs : List Nat} {scope : Scope} {H3 H' : Hp} {s3 s4 s' : Shared} {ce : Env} {fp : List Addr} (F : Frame X pins σ vs scope H3 s3 s4 ce fp) (I : Inv (X.blk s3 H3 scope ce fp) [] σ' H' s') (hn : ∀ b ∈ fp, H' b = none) : ∀ b ∈ fp, FpOk (X.blk s3 H3 scope ce fp) [] H' b := fun b hb =>
  ⟨hn b hb, (I.ok.exf b hb).1, I.ok.exfs b hb, .inl hb, fun x c e => (I.ok.exf b hb).2 x c e, fun p hp => absurd (show p ∈ ([] : List (Addr × Obj)) ++ [] from hp) (by simp)⟩
/-- the block's frame goes -/
theorem Frame.leave {pins : List (Addr × Obj)} {σ σ' : L2.St} {vs : List Nat} {scope : Scope} {H3 H' : Hp} {s3 s4 s' : Shared} {ce : Env} {fp : List Addr} {Q : V → Prop} {D : Addr} {use : Option (Value → Sem Unit)} {Qf : Value → Shared → Prop} (F : Frame X pins σ vs scope H3 s3 s4 ce fp) (I : Inv (X.blk s3 H3 scope ce fp) [] σ' H' s')
    (k : ∀ m, Inv X pins σ H' s' → s'.heap.Ns s3.heap.objs.size m → FpOk X pins H' s3.heap.objs.size → compPost (model X.prog X.w) X.A X.xe use Qf (.ref D) s3.heap.objs.size (.ok .next) s') : compPost (model X.prog X.w) X.A X.xe use Qf (.ref D) s3.heap.objs.size (.ok .next) s' := by
  have nC : H' s3.heap.objs.size = none := F.loc ▸ (show H' ce.locals = none from I.free)
  obtain ⟨m, hn, _⟩ := I.loc
  have hn : s'.heap.Ns ce.locals m := hn
  rw [F.loc] at hn
  refine k m (F.inv.call' (ch := fp) I.os I.base I.hok I.bare fun b hb => ?_) hn (F.inv.fpOk (Nat.le_refl _) nC)
  obtain ⟨⟨_, a1, a2, a3, a4, a5⟩, _⟩ := F.fps b hb
  exact ⟨a3, a1, a4, a5⟩
/-- the way into the block: the first source, the empty set, the block's frame. What is left is the loop. -/
theorem set_in {pins : List (Addr × Obj)} {s : Shared} {σ : L2.St} {H : Hp} {elt tg iter : Expr} {ifs : List Expr} {more : List Comprehension} {scope : Scope} {own : List (PySem.Str × Nat)} {pos pos' : Pos} {wi : TI} {use : Option (Value → Sem Unit)} {Qf : Value → Shared → Prop} {KJ : It → Hp → Prop}
    (fl : Fill X.prog X.w nw ad) (hN : X.N.Nodup) (I : Inv X pins σ H s) (hi : PI X tg iter wi) (ok : BlkOk X.N X.env.scope scope own) (hs : ∀ x, foldedSetIterable iter X.env x = pure x) (h : wi σ H KJ)
    (loop : ∀ (J : It) (H2 H3 : Hp) (s3 s4 : Shared) (D it : Addr) (fp : List Addr) (tn : Nat → Heap → Prop) (cl : List (PySem.Str × Addr)), KJ J H2 → H2 D = none → H3 = upd H2 D (nw D) → Frame X pins σ (own.map (·.2)) scope H3 s3 s4 (compEnvC scope cl s3.heap.objs.size X.env) fp → Turn X.prog X.w X.K tg J fp it tn → tn 0 s4.heap →
      codeAny (model X.prog X.w) X.A (.compLoop (.SetComp elt (⟨tg, iter, ifs, 0⟩ :: more) scope pos) 0 (.ref it) (.ref D) (compEnvC scope cl s3.heap.objs.size X.env)) (compPost (model X.prog X.w) X.A X.xe use Qf (.ref D) s3.heap.objs.size) s4) :
    wpAny (model X.prog X.w) X.A (comprehension (.SetComp elt (⟨tg, iter, ifs, 0⟩ :: more) scope pos) scope X.env pos' (newSet (.type "set")) false (eval iter X.env) use) Qf X.xe s := by
  have hfree : ∀ y ∈ scope.names, y.2 = .free → ∃ c, X.env.cells.lookup y.1 = some c := fun y hy e => (ok.free y hy e).elim (fun k => I.ok.has _ (.inl k)) fun k => I.ok.has _ (.inr k)
  refine wpAny_comprehension_free (use := use) rfl hs (closure_ok hfree) ok.kind (fun y hy e => by rw [ok.uniq y hy, e]) (thn (hi.run pins s σ H _ I h) fun xv s1 hx => thn hx fun itv s2 h2 => ?_)
  obtain ⟨it, fp, tn, J, H2, rfl, I2, T, st2, f2, q⟩ := h2
  refine PpSet.newSet_ok (newEnv_comp ?_)
  have none2 : H2 s2.heap.objs.size = none := I2.hok.fresh (Nat.le_refl _)
  have I3 := I2.laid (t' := s2.toks) (fun b o e => Heap.get?_push_of_some (so X.w) e) (Nat.le_refl _) (fl.new _ s2.heap)
  have old : ∀ b ∈ fp, b < s2.heap.objs.size := fun b hb => by
    obtain ⟨o, e, _⟩ := T.obj _ _ st2 b hb
    exact Heap.lt_size e
  have f3 : ∀ b ∈ fp, FpOk X pins (upd H2 s2.heap.objs.size (nw s2.heap.objs.size)) b ∧ b < (s2.heap.push (so X.w)).objs.size := fun b hb => by
    refine ⟨⟨?_, (f2 b hb).2⟩, by rw [Heap.size_push]; exact Nat.lt_succ_of_lt (old b hb)⟩
    rw [upd_ne (Nat.ne_of_lt (old b hb))]
    exact (f2 b hb).1
  have st3 : tn 0 (s2.heap.push (so X.w)) := T.keep _ _ _ st2 fun b _ o e => Heap.get?_push_of_some _ e
  have I4 := block_start I3 ok hN f3
  have st4 : tn 0 (pushCells ((s2.heap.push (so X.w)).push { cls := .type "dict", data := .dict #[] }) scope.names) := T.keep _ _ _ st3 fun b _ o e => pushCells_keeps _ _ _ _ (Heap.get?_push_of_some _ e)
  have L := loop J H2 _ { s2 with heap := s2.heap.push (so X.w) } _ s2.heap.objs.size it fp tn _ q none2 rfl ⟨rfl, I3, f3, I4⟩ T st4
  exact PpSet.codeAny_compStart_set L (T.self X.A 0 _ _ _ st4 L)
/-- what is pinned behind a turn's store stands behind the turn -/
theorem turn_end {Y : Cx} {pins : List (Addr × Obj)} {fp : List Addr} {h7 : Heap} {σ8 σ0 : L2.St} {H' : Hp} {s' : Shared} {tg : Expr} {J : It} {it : Addr} {tn : Nat → Heap → Prop} {i : Nat} (T : Turn Y.prog Y.w Y.K tg J fp it tn) (st : tn i h7)
    (I : Inv Y (pins ++ pinsAt fp h7) σ8 H' s') (hl : σ0.length = σ8.length) (hk : ∀ (j : Nat) v, σ0[j]? = some (some v) → σ8[j]? = some (some v)) : Inv Y pins σ0 H' s' ∧ tn i s'.heap ∧ ∀ b ∈ fp, H' b = none := by
  have pin' : ∀ b ∈ fp, ∀ o, h7.get? b = some o → s'.heap.get? b = some o ∧ H' b = none := fun b hb o e =>
    let z := I.pin (b, o) (List.mem_append_right _ (List.mem_append_right _ (mem_pinsAt hb e)))
    ⟨z.1, z.2.1⟩
  refine ⟨I.unpinned.weak hl hk, T.keep _ _ _ st fun b hb o e => (pin' b hb o e).1, fun b hb => ?_⟩
  obtain ⟨o, e, _⟩ := T.obj _ _ st b hb
  exact (pin' b hb o e).2
theorem set_one {pins : List (Addr × Obj)} {s : Shared} {σ : L2.St} {H : Hp} {Q : VK} {elt tg iter : Expr} {ifs : List Expr} {scope : Scope} {own : List (PySem.Str × Nat)} {pos pos' : Pos} {wi : TI} {g : TG} {tt : TT} {te : TE} {use : Option (Value → Sem Unit)} {Qf : Value → Shared → Prop}
    (fl : Fill X.prog X.w nw ad) (hc : X.calm = true) (hN : X.N.Nodup) (I : Inv X pins σ H s) (hi : PI X tg iter wi) (ok : BlkOk X.N X.env.scope scope own) (hg : InBlk X scope fun Y => PG Y tg g) (ht : InBlk X scope fun Y => PTs Y ifs tt) (he : InBlk X scope fun Y => PE Y elt te)
    (hs : ∀ x, foldedSetIterable iter X.env x = pure x) (h : tSet nw ad wi g tt te (own.map (·.2)) σ H Q)
    (fin : ∀ D C s' m H', Inv X pins σ H' s' → Q (.ref D) H' → s'.heap.Ns C m → FpOk X pins H' C → compPost (model X.prog X.w) X.A X.xe use Qf (.ref D) C (.ok .next) s') :
    wpAny (model X.prog X.w) X.A (comprehension (.SetComp elt [⟨tg, iter, ifs, 0⟩] scope pos) scope X.env pos' (newSet (.type "set")) false (eval iter X.env) use) Qf X.xe s := by
  refine set_in fl hN I hi ok hs h fun J H2 H3 s3 s4 D it fp tn cl q none2 e3 F T st4 => ?_
  obtain ⟨W, ⟨m0, w0⟩, turn⟩ := q D none2
  rw [← e3] at w0
  have pg := hg s3 H3 s3.heap.objs.size cl fp
  have pt := ht s3 H3 s3.heap.objs.size cl fp
  have pe := he s3 H3 s3.heap.objs.size cl fp
  generalize compEnvC scope cl s3.heap.objs.size X.env = ce at F pg pt pe ⊢
  refine PpSet.compLoopS_any (fun n s' => ∃ i H', Inv (X.blk s3 H3 scope ce fp) [] (wipe σ (own.map (·.2))) H' s' ∧ tn i s'.heap ∧ (∀ b ∈ fp, H' b = none) ∧ W i n H') ?_ m0 ⟨0, H3, F.blk, st4, fun b hb => (F.fps b hb).1.1, w0⟩
  rintro n s5 ⟨i, H5, I5, st5, n5, w5⟩
  rcases turn i n H5 w5 with ⟨stop, qq⟩ | ⟨go, Z, hZ, step⟩
  · refine thnF (T.done (X.blk s3 H3 scope ce fp) rfl rfl rfl hc i [] s5 _ H5 (fun _ _ => False) I5 (F.stat I5 n5) st5 stop) fun r s6 ⟨hr, I6⟩ => ?_
    subst hr
    exact F.leave (Q := fun _ => True) I6 fun m I7 hn hf => fin D _ s6 m H5 I7 qq hn hf
  · refine thnF (T.item (X.blk s3 H3 scope ce fp) rfl rfl rfl hc i [] s5 _ H5 (fun _ _ => False) I5 (F.stat I5 n5) st5 go) fun r s6 ⟨u, hr, h6⟩ => ?_
    subst hr
    refine thnF h6 fun _ s7 ⟨x, H7, I7, r7, y7, st7, n7⟩ => ?_
    refine thnF (pg.run _ s7 _ H7 x u _ (I7.pinned (F.stat I7 n7) (T.obj _ _ st7)) r7 (step x H7 y7)) fun _ s8 ⟨σ8, H8, I8, hw8, q8⟩ => ?_
    refine thnF (pt.run _ s8 σ8 H8 _ I8 q8) fun b s9 ⟨H9, I9, q9⟩ => ?_
    have back : ∀ {s' : Shared} {H' : Hp}, Inv (X.blk s3 H3 scope ce fp) ([] ++ pinsAt fp s7.heap) σ8 H' s' → Z H' → ∃ m, m < n ∧ ∃ i H', Inv (X.blk s3 H3 scope ce fp) [] (wipe σ (own.map (·.2))) H' s' ∧ tn i s'.heap ∧ (∀ b ∈ fp, H' b = none) ∧ W i m H' := fun {s' H'} I' z => by
      obtain ⟨m', hm, w'⟩ := hZ H' z
      obtain ⟨a1, a2, a3⟩ := turn_end (Y := X.blk s3 H3 scope ce fp) (σ0 := wipe σ (own.map (·.2))) T st7 I' (by rw [← hw8, wipe_length]) fun j v e => by
        rw [← hw8] at e
        exact (wipe_some e).1
      exact ⟨m', hm, i + 1, H', a1, a2, a3, w'⟩
    cases b with
    | false =>
      simp only [Bool.false_eq_true, if_false] at q9 ⊢
      exact back I9 q9
    | true =>
      simp only [if_true] at q9 ⊢
      refine thnF (pe.run _ s9 σ8 H9 _ I9 q9) fun z s10 ⟨y, H10, I10, r10, o, o', ho, hy, nx⟩ => ?_
      exact fl.add (X.blk s3 H3 scope ce fp) rfl rfl _ _ _ _ _ _ _ _ _ _ _ I10 ho hy r10 fun s11 I11 => back I11 nx
theorem set_two {pins : List (Addr × Obj)} {s : Shared} {σ : L2.St} {H : Hp} {Q : VK} {elt tg iter tg1 iter1 : Expr} {ifs ifs1 : List Expr} {scope : Scope} {own : List (PySem.Str × Nat)} {vs1 : List Nat} {pos pos' : Pos} {wi wi1 : TI} {g g1 : TG} {tt tt1 : TT} {te : TE} {use : Option (Value → Sem Unit)} {Qf : Value → Shared → Prop}
    (fl : Fill X.prog X.w nw ad) (hc : X.calm = true) (hN : X.N.Nodup) (I : Inv X pins σ H s) (hi : PI X tg iter wi) (ok : BlkOk X.N X.env.scope scope own) (hv : ∀ i ∈ vs1, i ∈ own.map (·.2)) (hg : InBlk X scope fun Y => PG Y tg g) (ht : InBlk X scope fun Y => PTs Y ifs tt)
    (hi1 : InBlk X scope fun Y => PI Y tg1 iter1 wi1) (hg1 : InBlk X scope fun Y => PG Y tg1 g1) (ht1 : InBlk X scope fun Y => PTs Y ifs1 tt1) (he : InBlk X scope fun Y => PE Y elt te)
    (hs : ∀ x, foldedSetIterable iter X.env x = pure x) (hs1 : ∀ env x, foldedSetIterable iter1 env x = pure x) (h : tSet2 nw ad wi g tt wi1 g1 tt1 te (own.map (·.2)) vs1 σ H Q)
    (fin : ∀ D C s' m H', Inv X pins σ H' s' → Q (.ref D) H' → s'.heap.Ns C m → FpOk X pins H' C → compPost (model X.prog X.w) X.A X.xe use Qf (.ref D) C (.ok .next) s') :
    wpAny (model X.prog X.w) X.A (comprehension (.SetComp elt [⟨tg, iter, ifs, 0⟩, ⟨tg1, iter1, ifs1, 0⟩] scope pos) scope X.env pos' (newSet (.type "set")) false (eval iter X.env) use) Qf X.xe s := by
  refine set_in fl hN I hi ok hs h fun J H2 H3 s3 s4 D it fp tn cl q none2 e3 F T st4 => ?_
  obtain ⟨W, ⟨m0, w0⟩, turn⟩ := q D none2
  rw [← e3] at w0
  have pg := hg s3 H3 s3.heap.objs.size cl fp
  have pt := ht s3 H3 s3.heap.objs.size cl fp
  have pe := he s3 H3 s3.heap.objs.size cl fp
  have pi1 := hi1 s3 H3 s3.heap.objs.size cl fp
  have pg1 := hg1 s3 H3 s3.heap.objs.size cl fp
  have pt1 := ht1 s3 H3 s3.heap.objs.size cl fp
  generalize compEnvC scope cl s3.heap.objs.size X.env = ce at F pg pt pe pi1 pg1 pt1 ⊢
  refine loop_first (hs1 ce) (fun n s' => ∃ i H', Inv (X.blk s3 H3 scope ce fp) [] (wipe σ (own.map (·.2))) H' s' ∧ tn i s'.heap ∧ (∀ b ∈ fp, H' b = none) ∧ W i n H') ?_ m0 ⟨0, H3, F.blk, st4, fun b hb => (F.fps b hb).1.1, w0⟩
  rintro n s5 ⟨i, H5, I5, st5, n5, w5⟩
  rcases turn i n H5 w5 with ⟨stop, qq⟩ | ⟨go, Z, hZ, step⟩
  · refine thnF (T.done (X.blk s3 H3 scope ce fp) rfl rfl rfl hc i [] s5 _ H5 (fun _ _ => False) I5 (F.stat I5 n5) st5 stop) fun r s6 ⟨hr, I6⟩ => ?_
    subst hr
    exact F.leave (Q := fun _ => True) I6 fun m I7 hn hf => fin D _ s6 m H5 I7 qq hn hf
  · refine thnF (T.item (X.blk s3 H3 scope ce fp) rfl rfl rfl hc i [] s5 _ H5 (fun _ _ => False) I5 (F.stat I5 n5) st5 go) fun r s6 ⟨u, hr, h6⟩ => ?_
    subst hr
    refine thnF h6 fun _ s7 ⟨x, H7, I7, r7, y7, st7, n7⟩ => ?_
    refine thnF (pg.run _ s7 _ H7 x u _ (I7.pinned (F.stat I7 n7) (T.obj _ _ st7)) r7 (step x H7 y7)) fun _ s8 ⟨σ8, H8, I8, hw8, q8⟩ => ?_
    refine thnF (pt.run _ s8 σ8 H8 _ I8 q8) fun b s9 ⟨H9, I9, q9⟩ => ?_
    have back : ∀ {σ9 : L2.St} {s' : Shared} {H' : Hp}, Inv (X.blk s3 H3 scope ce fp) ([] ++ pinsAt fp s7.heap) σ9 H' s' → (wipe σ (own.map (·.2))).length = σ9.length → (∀ (j : Nat) v, (wipe σ (own.map (·.2)))[j]? = some (some v) → σ9[j]? = some (some v)) → Z H' →
        ∃ m, m < n ∧ ∃ i H', Inv (X.blk s3 H3 scope ce fp) [] (wipe σ (own.map (·.2))) H' s' ∧ tn i s'.heap ∧ (∀ b ∈ fp, H' b = none) ∧ W i m H' := fun {σ9 s' H'} I' hl hk z => by
      obtain ⟨m', hm, w'⟩ := hZ H' z
      obtain ⟨a1, a2, a3⟩ := turn_end (Y := X.blk s3 H3 scope ce fp) T st7 I' hl hk
      exact ⟨m', hm, i + 1, H', a1, a2, a3, w'⟩
    have len8 : (wipe σ (own.map (·.2))).length = σ8.length := by rw [← hw8, wipe_length]
    have kept8 : ∀ (j : Nat) v, (wipe σ (own.map (·.2)))[j]? = some (some v) → σ8[j]? = some (some v) ∧ j ∉ vs1 := fun j v e => by
      rw [← hw8] at e
      obtain ⟨e1, e2⟩ := wipe_some e
      exact ⟨e1, fun z => e2 (hv j z)⟩
    cases b with
    | false =>
      simp only [Bool.false_eq_true, if_false] at q9 ⊢
      exact back I9 len8 (fun j v e => (kept8 j v e).1) q9
    | true =>
      simp only [if_true] at q9 ⊢
      refine thnF (pi1.run _ s9 σ8 H9 _ I9 q9) fun xv s10 hx => thnF hx fun itv s11 h11 => ?_
      obtain ⟨it1, fp1, tn1, J1, H11, rfl, I11, T1, st11, f11, W1, ⟨m1, w1⟩, turn1⟩ := h11
      have inner : codeAny (model X.prog X.w) X.A (.compLoop (.SetComp elt [⟨tg, iter, ifs, 0⟩, ⟨tg1, iter1, ifs1, 0⟩] scope pos) 1 (.ref it1) (.ref D) ce)
          (fun r s' => match r with
            | .ok _ => ∃ m, m < n ∧ ∃ i H', Inv (X.blk s3 H3 scope ce fp) [] (wipe σ (own.map (·.2))) H' s' ∧ tn i s'.heap ∧ (∀ b ∈ fp, H' b = none) ∧ W i m H'
            | .error _ => False) s11 := by
        have stat1 : ∀ {H' : Hp}, (∀ b ∈ fp1, H' b = none) → ∀ b ∈ fp1, FpOk (X.blk s3 H3 scope ce fp) ([] ++ pinsAt fp s7.heap) H' b := fun hn b hb => ⟨hn b hb, (f11 b hb).2⟩
        refine loop_second (fun k s' => ∃ j H', Inv (X.blk s3 H3 scope ce fp) ([] ++ pinsAt fp s7.heap) (wipe σ8 vs1) H' s' ∧ tn1 j s'.heap ∧ (∀ b ∈ fp1, H' b = none) ∧ W1 j k H') ?_ m1 ⟨0, H11, I11.weak (wipe_length _ _) (fun j v e => (wipe_some e).1), st11, fun b hb => (f11 b hb).1, w1⟩
        rintro k s12 ⟨j, H12, I12, st12, n12, w12⟩
        rcases turn1 j k H12 w12 with ⟨stop1, z1⟩ | ⟨go1, Z1, hZ1, step1⟩
        · refine thnF (T1.done (X.blk s3 H3 scope ce fp) rfl rfl rfl hc j _ s12 (wipe σ8 vs1) H12 (fun _ _ => False) I12 (stat1 n12) st12 stop1) fun r s13 ⟨hr, I13⟩ => ?_
          subst hr
          exact back I13 (len8.trans (wipe_length σ8 vs1).symm) (fun j v e => by rw [wipe_out (kept8 j v e).2]; exact (kept8 j v e).1) z1
        · refine thnF (T1.item (X.blk s3 H3 scope ce fp) rfl rfl rfl hc j _ s12 (wipe σ8 vs1) H12 (fun _ _ => False) I12 (stat1 n12) st12 go1) fun r s13 ⟨u1, hr, h13⟩ => ?_
          subst hr
          refine thnF h13 fun _ s14 ⟨x1, H14, I14, r14, y14, st14, n14⟩ => ?_
          refine thnF (pg1.run _ s14 (wipe σ8 vs1) H14 x1 u1 _ (I14.pinned (stat1 n14) (T1.obj _ _ st14)) r14 (step1 x1 H14 y14)) fun _ s15 ⟨σ15, H15, I15, hw15, q15⟩ => ?_
          refine thnF (pt1.run _ s15 σ15 H15 _ I15 q15) fun b1 s16 ⟨H16, I16, q16⟩ => ?_
          have back1 : ∀ {s' : Shared} {H' : Hp}, Inv (X.blk s3 H3 scope ce fp) (([] ++ pinsAt fp s7.heap) ++ pinsAt fp1 s14.heap) σ15 H' s' → Z1 H' → ∃ m, m < k ∧ ∃ j H', Inv (X.blk s3 H3 scope ce fp) ([] ++ pinsAt fp s7.heap) (wipe σ8 vs1) H' s' ∧ tn1 j s'.heap ∧ (∀ b ∈ fp1, H' b = none) ∧ W1 j m H' := fun {s' H'} I' z => by
            obtain ⟨m', hm, w'⟩ := hZ1 H' z
            obtain ⟨a1, a2, a3⟩ := turn_end (Y := X.blk s3 H3 scope ce fp) (σ0 := wipe σ8 vs1) T1 st14 I' (by rw [← hw15, wipe_length]) fun j v e => by
              rw [← hw15] at e
              exact (wipe_some e).1
            exact ⟨m', hm, j + 1, H', a1, a2, a3, w'⟩
          cases b1 with
          | false =>
            simp only [Bool.false_eq_true, if_false] at q16 ⊢
            exact back1 I16 q16
          | true =>
            simp only [if_true] at q16 ⊢
            refine thnF (pe.run _ s16 σ15 H16 _ I16 q16) fun z s17 ⟨y, H17, I17, r17, o, o', ho, hy, nx⟩ => ?_
            exact fl.add (X.blk s3 H3 scope ce fp) rfl rfl _ _ _ _ _ _ _ _ _ _ _ I17 ho hy r17 fun s18 I18 => back1 I18 nx
      exact start_second inner (T1.self X.A 0 _ _ _ st11 inner)
/-- as a value, one clause -/
theorem pe_set {elt tg iter : Expr} {ifs : List Expr} {scope : Scope} {own : List (PySem.Str × Nat)} {pos : Pos} {wi : TI} {g : TG} {tt : TT} {te : TE} (fl : Fill X.prog X.w nw ad) (hc : X.calm = true) (hN : X.N.Nodup) (hi : PI X tg iter wi) (ok : BlkOk X.N X.env.scope scope own)
    (hg : InBlk X scope fun Y => PG Y tg g) (ht : InBlk X scope fun Y => PTs Y ifs tt) (he : InBlk X scope fun Y => PE Y elt te) (hs : ∀ x, foldedSetIterable iter X.env x = pure x := by intro _; rfl) : PE X (.SetComp elt [⟨tg, iter, ifs, 0⟩] scope pos) (tSet nw ad wi g tt te (own.map (·.2))) := by
  refine ⟨fun pins s σ H Q I h => ?_⟩
  rw [PpSet.eval_SetComp]
  refine set_one fl hc hN I hi ok hg ht he hs h fun D C s' m H' I' q hn ⟨f0, f1, f2, f3, f4, f5⟩ => ⟨m, hn, fun h'' sb => ?_⟩
  exact ⟨.ref D, H', I'.turned (t' := s'.toks) (fun b o hb e => (sb.2 b hb).trans e) f0 f1 f3 f4 f5, rfl, q⟩
/-- as a value, two clauses -/
theorem pe_set2 {elt tg iter tg1 iter1 : Expr} {ifs ifs1 : List Expr} {scope : Scope} {own : List (PySem.Str × Nat)} {vs1 : List Nat} {pos : Pos} {wi wi1 : TI} {g g1 : TG} {tt tt1 : TT} {te : TE} (fl : Fill X.prog X.w nw ad) (hc : X.calm = true) (hN : X.N.Nodup) (hi : PI X tg iter wi) (ok : BlkOk X.N X.env.scope scope own) (hv : ∀ i ∈ vs1, i ∈ own.map (·.2))
    (hg : InBlk X scope fun Y => PG Y tg g) (ht : InBlk X scope fun Y => PTs Y ifs tt) (hi1 : InBlk X scope fun Y => PI Y tg1 iter1 wi1) (hg1 : InBlk X scope fun Y => PG Y tg1 g1) (ht1 : InBlk X scope fun Y => PTs Y ifs1 tt1) (he : InBlk X scope fun Y => PE Y elt te)
    (hs : ∀ x, foldedSetIterable iter X.env x = pure x := by intro _; rfl) (hs1 : ∀ env x, foldedSetIterable iter1 env x = pure x := by intro _ _; rfl) : PE X (.SetComp elt [⟨tg, iter, ifs, 0⟩, ⟨tg1, iter1, ifs1, 0⟩] scope pos) (tSet2 nw ad wi g tt wi1 g1 tt1 te (own.map (·.2)) vs1) := by
  refine ⟨fun pins s σ H Q I h => ?_⟩
  rw [PpSet.eval_SetComp]
  refine set_two fl hc hN I hi ok hv hg ht hi1 hg1 ht1 he hs hs1 h fun D C s' m H' I' q hn ⟨f0, f1, f2, f3, f4, f5⟩ => ⟨m, hn, fun h'' sb => ?_⟩
  exact ⟨.ref D, H', I'.turned (t' := s'.toks) (fun b o hb e => (sb.2 b hb).trans e) f0 f1 f3 f4 f5, rfl, q⟩
end
end Ws
set_option Elab.async false
set_option linter.all false
set_option maxRecDepth 100000
set_option maxHeartbeats 4000000
/-! set comprehensions of texts and of numbers; sorted of them; len of a set of texts; set(tuple of texts) -/
namespace Ws
open PySem PySem.Spec PyProof.Rows L2 Evl Wc Wt Wg Wd
/-- one text more, if it is not there yet -/
def addX (l : List Tx) (x : Tx) : List Tx := if x ∈ l then l else x :: l
def setX (l : List Tx) : List Tx := l.foldl addX []
theorem mem_addX {l : List Tx} {x y : Tx} : y ∈ addX l x ↔ y ∈ l ∨ y = x := by
  unfold addX
  split
  · rename_i h
    exact ⟨.inl, fun z => z.elim id fun e => e ▸ h⟩
  · rw [List.mem_cons]
    exact Or.comm
theorem addX_nodup {l : List Tx} {x : Tx} (h : l.Nodup) : (addX l x).Nodup := by
  unfold addX
  split
  · exact h
  · rename_i hx
    exact List.nodup_cons.mpr ⟨hx, h⟩
theorem addX_len (l : List Tx) (x : Tx) : (addX l x).length ≤ l.length + 1 := by
  unfold addX
  split
  · omega
  · simp
theorem fold_addX : ∀ (xs l : List Tx), (∀ y, y ∈ xs.foldl addX l ↔ y ∈ l ∨ y ∈ xs) ∧ (l.Nodup → (xs.foldl addX l).Nodup) ∧ (xs.foldl addX l).length ≤ l.length + xs.length
  | [], l => ⟨fun y => ⟨.inl, fun z => z.elim id fun h => nomatch h⟩, id, Nat.le_refl _⟩
  | x :: xs, l => by
    obtain ⟨h1, h2, h3⟩ := fold_addX xs (addX l x)
    refine ⟨fun y => ?_, fun h => h2 (addX_nodup h), ?_⟩
    · show y ∈ xs.foldl addX (addX l x) ↔ _
      rw [h1, mem_addX, List.mem_cons, or_assoc]
    · have := addX_len l x
      show (xs.foldl addX (addX l x)).length ≤ _
      rw [List.length_cons]
      omega
theorem mem_setX {l : List Tx} {y : Tx} : y ∈ setX l ↔ y ∈ l := ((fold_addX l []).1 y).trans ⟨fun z => z.elim (fun h => nomatch h) id, .inr⟩
theorem setX_nodup (l : List Tx) : (setX l).Nodup := (fold_addX l []).2.1 List.nodup_nil
theorem setX_len (l : List Tx) : (setX l).length ≤ l.length := by
  have := (fold_addX l []).2.2
  rwa [List.length_nil, Nat.zero_add] at this
theorem setX_snoc (l : List Tx) (x : Tx) : setX (l ++ [x]) = addX (setX l) x := List.foldl_append
/-- the texts without repetition, ascending -/
def setS (l : List Tx) : List Tx := sortT (setX l)
theorem mem_setS {l : List Tx} {y : Tx} : y ∈ setS l ↔ y ∈ l := sortT_mem.trans mem_setX
theorem setS_nodup (l : List Tx) : (setS l).Nodup := (sortT_perm _).nodup_iff.mpr (setX_nodup l)
theorem setS_len (l : List Tx) : (setS l).length ≤ l.length := by
  unfold setS
  rw [sortT_len]
  exact setX_len l
theorem sortT_of_perm {a b : List Tx} (h : a.Perm b) : sortT a = sortT b := (((sortT_perm a).trans h).trans (sortT_perm b).symm).eq_of_pairwise (fun x y _ _ h1 h2 => List.le_antisymm h1 h2) (sortT_pw a) (sortT_pw b)
theorem sortT_same {a b : List Tx} (ha : a.Nodup) (hb : b.Nodup) (h : ∀ x, x ∈ a ↔ x ∈ b) : sortT a = sortT b := sortT_of_perm ((List.perm_ext_iff_of_nodup ha hb).mpr h)
theorem setS_uniq {l ys : List Tx} (u : Uniq l ys) : sortT ys = setS l := sortT_same u.nd (setX_nodup l) fun x => (u.mem x).trans mem_setX.symm
theorem setS_same {a b : List Tx} (h : ∀ x, x ∈ a ↔ x ∈ b) : setS a = setS b := sortT_same (setX_nodup a) (setX_nodup b) fun x => mem_setX.trans ((h x).trans mem_setX.symm)
theorem setX_map_add (l : List Tx) (x : Tx) : (if SX.S x ∈ l.map SX.S then l.map SX.S else SX.S x :: l.map SX.S) = (addX l x).map SX.S := by
  have e : SX.S x ∈ l.map SX.S ↔ x ∈ l := by
    rw [List.mem_map]
    exact ⟨fun ⟨y, hy, q⟩ => S_inj q ▸ hy, fun h => ⟨x, h, rfl⟩⟩
  unfold addX
  by_cases h : x ∈ l
  · rw [if_pos (e.mpr h), if_pos h]
  · rw [if_neg fun z => h (e.mp z), if_neg h]
    rfl
section
variable {P : Program} {w : World} {A : Around} {E : Value → Shared → Prop} {s : Shared} {a : Addr} {l : List Str}
theorem SetX.typeIs (R : SetX P w s.heap a l) : s.TypeIs (.ref a) "set" := by
  obtain ⟨o, _, _, _, ho, hx, _⟩ := R
  exact ⟨o, ho, hx.1⟩
/-- a.add(k) -/
theorem addText {k : Str} {u : Tok} {Q : Value → Shared → Prop} (R : SetX P w s.heap a l) (room : l.length + 1 < scanBound)
    (hQ : ∀ h', Heap.SameBut a s.heap h' → SetX P w h' a (if k ∈ l then l else k :: l) → Q .none { s with heap := h', toks := s.toks + 1 }) : wpAny (model P w) A (call (.builtin "set.add") [.ref a, .str k u]) Q E s := by
  refine wpAny_call_entry F.slot_set_add (SetX.typeIs R) F.entry_set_add ?_ (F.args_set_add_2 _ _)
  unfold Builtin.«set.add» Builtin.Frozenset.oneOther
  simp only [List.isEmpty_nil, bind_assoc]
  unfold Builtin.Frozenset.addrOf setAdd
  refine wpAny_bind (wpAny_pure ?_)
  try dsimp only
  refine wpAny_bind (wpAny_pure ?_)
  try dsimp only
  refine wpAny_bind (wpAny_holding (wpAny_bind ((PySem.strKind P w).pyHash (k := k) (PySem.strKind_is _ _ _ _) ?_)))
  refine add_text (s := { s with toks := s.toks + 1 }) R room fun h' b sb r => ?_
  show wpAny _ _ (ret Value.none) _ _ _
  exact wpAny_pure ⟨_, rfl, hQ h' sb r⟩
end
def nwX (P : Program) (w : World) (D : Addr) : HO := SetXO P w D []
def adX (P : Program) (w : World) (D : Addr) (o : HO) (y : V) (o' : HO) : Prop := ∃ (l : List Tx) (x : Tx), o = SetXO P w D (l.map SX.S) ∧ y = T x ∧ l.length + 1 < scanBound ∧ o' = SetXO P w D ((addX l x).map SX.S)
theorem fillX (P : Program) (w : World) : Fill P w (nwX P w) (adX P w) := by
  refine ⟨fun H h => setXO_new (SetX.new (Heap.get?_push_size _ rfl)), ?_⟩
  rintro X rfl rfl pins σ H s E D o o' y v Q I hD ⟨l, x, rfl, rfl, room, rfl⟩ r k
  obtain ⟨t, rfl⟩ := r
  refine addText (I.hok D _ hD).1 (by rw [List.length_map]; exact room) fun h' sb R => ?_
  rw [setX_map_add] at R
  have he : ∃ u, h'.get? D = some u := by
    have ⟨o, _, _, _, ho, _⟩ := R
    exact ⟨o, ho⟩
  exact k _ (I.write (e := D) (t' := s.toks + 1) (by rw [hD]; trivial) (.inl rfl) (fun b u hb hu => (sb.2 b hb).trans hu) he (setXO_new R))
def nwN (w : World) (D : Addr) : HO := SetO w D (fun _ => false) 0
def adN (w : World) (D : Addr) (o : HO) (y : V) (o' : HO) : Prop := ∃ (S : Int → Bool) (n : Nat) (k : Int), o = SetO w D S n ∧ y = .int k ∧ n + 1 < scanBound ∧ o' = SetO w D (fun j => S j || decide (j = k)) (if S k = true then n else n + 1)
theorem fillN (P : Program) (w : World) : Fill P w (nwN w) (adN w) := by
  refine ⟨fun H h => setO_new (setR_fresh w), ?_⟩
  rintro X rfl rfl pins σ H s E D o o' y v Q I hD ⟨S, n, k, rfl, rfl, room, rfl⟩ r kk
  obtain ⟨t, rfl⟩ := r
  refine setR_add (setO_get I hD) room fun h' sb R => ?_
  have he : ∃ u, h'.get? D = some u := by
    have ⟨o, _, _, _, ho, _⟩ := R
    exact ⟨o, ho⟩
  exact kk _ (I.write (e := D) (t' := s.toks + 1) (by rw [hD]; trivial) (.inl rfl) (fun b u hb hu => (sb.2 b hb).trans hu) he (setO_new R))
section
variable {K : PySem.W.Frag} {P : Program} {w : World} {σ : L2.St} {H : Hp} {te : TE} {tt : TT} {Q : VK}
/-- what a comprehension of texts leaves, one clause, no test -/
theorem el_setX {α : Type} {wi : TI} {j : Nat} {vs : List Nat} {own : Addr → Prop} {f : α → V} {g : α → Tx} (xs : List α) (hs : Src wi σ H xs.length own (fun i v _ => (xs.map f)[i]? = some v)) (hz : xs.length ≤ 4000) (hw : ∀ x, wipe ((wipe σ vs).set j (some x)) vs = wipe σ vs)
    (he : ∀ a H1, Ex H H1 → a ∈ xs → Ev te ((wipe σ vs).set j (some (f a))) H1 (T (g a)))
    (k : ∀ d H2, H d = none → Ex H H2 → H2 d = some (SetXO P w d ((setX (xs.map g)).map SX.S)) → Q (.ref d) H2) : tSet (nwX P w) (adX P w) wi (gName j) tYes te vs σ H Q :=
  hs H (Ex.refl H) _ fun J H1 S e1 wk hS => fun D hD => by
    refine ⟨fun i m Hi => m = xs.length - i ∧ i ≤ xs.length ∧ Ex H1 Hi ∧ Hi D = some (SetXO P w D ((setX ((xs.take i).map g)).map SX.S)), ⟨xs.length, by simp, Nat.zero_le _, Ex.new hD, upd_same⟩, ?_⟩
    rintro i m Hi ⟨rfl, hi, hE, hL⟩
    have hG : S Hi := hS (fun _ => False) Hi (fun b z => z.elim) (.of hE)
    by_cases hlt : i < xs.length
    · refine .inr ⟨wk.goes i Hi hlt hG, fun H' => Ex H1 H' ∧ H' D = some (SetXO P w D ((setX ((xs.take (i + 1)).map g)).map SX.S)), fun H' p' => ⟨xs.length - (i + 1), by omega, rfl, hlt, p'.1, p'.2⟩, fun x H' y => ?_⟩
      obtain ⟨ey, hP⟩ := wk.yields i Hi x H' hlt hG y
      obtain ⟨a, ha, rfl⟩ := at_map hP
      refine ⟨hw _, ?_⟩
      unfold tYes
      dsimp only
      rw [if_pos rfl]
      refine he a H' ((e1.trans hE).trans ey) (List.mem_of_getElem? ha) H' (Ex.refl _) _ fun H4 e4 => ?_
      refine ⟨_, _, e4 _ _ (ey _ _ hL), ⟨_, _, rfl, rfl, ?_, rfl⟩, Ex.mut (hE.trans (ey.trans e4)) hD, ?_⟩
      · have := setX_len ((xs.take i).map g)
        rw [List.length_map, List.length_take] at this
        unfold scanBound
        omega
      · rw [upd_same, List.take_add_one, ha, List.map_append]
        show some (SetXO P w D ((addX (setX ((xs.take i).map g)) (g a)).map SX.S)) = some (SetXO P w D ((setX ((xs.take i).map g ++ [g a])).map SX.S))
        rw [setX_snoc]
    · have e : i = xs.length := by omega
      subst e
      rw [List.take_length] at hL
      exact .inl ⟨wk.stops Hi hG, k D Hi (fresh_back e1 hD) (e1.trans hE) hL⟩
/-- what a comprehension of numbers leaves, one clause, no test -/
theorem el_setN {α : Type} {wi : TI} {j : Nat} {vs : List Nat} {own : Addr → Prop} {f : α → V} {g : α → Int} (xs : List α) (hs : Src wi σ H xs.length own (fun i v _ => (xs.map f)[i]? = some v)) (hz : xs.length ≤ 4000) (hw : ∀ x, wipe ((wipe σ vs).set j (some x)) vs = wipe σ vs)
    (he : ∀ a H1, Ex H H1 → a ∈ xs → Ev te ((wipe σ vs).set j (some (f a))) H1 (.int (g a)))
    (k : ∀ d H2 S c, H d = none → Ex H H2 → (∀ z, S z = true ↔ z ∈ xs.map g) → c ≤ xs.length → H2 d = some (SetO w d S c) → Q (.ref d) H2) : tSet (nwN w) (adN w) wi (gName j) tYes te vs σ H Q :=
  hs H (Ex.refl H) _ fun J H1 S e1 wk hS => fun D hD => by
    refine ⟨fun i m Hi => m = xs.length - i ∧ i ≤ xs.length ∧ Ex H1 Hi ∧ ∃ B c, Hi D = some (SetO w D B c) ∧ c ≤ i ∧ ∀ z, B z = true ↔ z ∈ (xs.take i).map g, ⟨xs.length, by simp, Nat.zero_le _, Ex.new hD, _, _, upd_same, Nat.le_refl _, fun z => by simp⟩, ?_⟩
    rintro i m Hi ⟨rfl, hi, hE, B, c, hL, hc, hB⟩
    have hG : S Hi := hS (fun _ => False) Hi (fun b z => z.elim) (.of hE)
    by_cases hlt : i < xs.length
    · refine .inr ⟨wk.goes i Hi hlt hG, fun H' => Ex H1 H' ∧ ∃ B c, H' D = some (SetO w D B c) ∧ c ≤ i + 1 ∧ ∀ z, B z = true ↔ z ∈ (xs.take (i + 1)).map g, fun H' p' => ⟨xs.length - (i + 1), by omega, rfl, hlt, p'.1, p'.2⟩, fun x H' y => ?_⟩
      obtain ⟨ey, hP⟩ := wk.yields i Hi x H' hlt hG y
      obtain ⟨a, ha, rfl⟩ := at_map hP
      refine ⟨hw _, ?_⟩
      unfold tYes
      dsimp only
      rw [if_pos rfl]
      refine he a H' ((e1.trans hE).trans ey) (List.mem_of_getElem? ha) H' (Ex.refl _) _ fun H4 e4 => ?_
      refine ⟨_, _, e4 _ _ (ey _ _ hL), ⟨B, c, g a, rfl, rfl, by unfold scanBound; omega, rfl⟩, Ex.mut (hE.trans (ey.trans e4)) hD, _, _, upd_same, by split <;> omega, fun z => ?_⟩
      rw [List.take_add_one, ha, List.map_append, List.mem_append, Bool.or_eq_true, decide_eq_true_eq, hB]
      simp
    · have e : i = xs.length := by omega
      subst e
      rw [List.take_length] at hB
      exact .inl ⟨wk.stops Hi hG, k D Hi B c (fresh_back e1 hD) (e1.trans hE) hB hc hL⟩
/-- what a comprehension of texts leaves, two clauses, the second with a test -/
theorem el_setX2 {α β : Type} {wi wi1 : TI} {j j1 : Nat} {vs vs1 : List Nat} {own : Addr → Prop} {own1 : α → Addr → Prop} {f : α → V} {h : β → V} {p : α → β → Bool} {g : α → β → Tx} (xs : List α) (ys : α → List β) (hs : Src wi σ H xs.length own (fun i v _ => (xs.map f)[i]? = some v))
    (hs1 : ∀ a H1, Ex H H1 → a ∈ xs → Src wi1 ((wipe σ vs).set j (some (f a))) H1 (ys a).length (own1 a) (fun i v _ => ((ys a).map h)[i]? = some v))
    (ho : ∀ a c, own1 a c → H c ≠ none) (hz : (xs.map fun a => (ys a).length).sum ≤ 4000) (hw : ∀ x, wipe ((wipe σ vs).set j (some x)) vs = wipe σ vs) (hw1 : ∀ x y, wipe ((wipe ((wipe σ vs).set j (some x)) vs1).set j1 (some y)) vs1 = wipe ((wipe σ vs).set j (some x)) vs1)
    (ht : ∀ a b H1, Ex H H1 → a ∈ xs → b ∈ ys a → EvT tt ((wipe ((wipe σ vs).set j (some (f a))) vs1).set j1 (some (h b))) H1 (p a b))
    (he : ∀ a b H1, Ex H H1 → a ∈ xs → b ∈ ys a → p a b = true → Ev te ((wipe ((wipe σ vs).set j (some (f a))) vs1).set j1 (some (h b))) H1 (T (g a b)))
    (k : ∀ d H2, H d = none → Ex H H2 → H2 d = some (SetXO P w d ((setX (xs.flatMap fun a => ((ys a).filter (p a)).map (g a))).map SX.S)) → Q (.ref d) H2) :
    tSet2 (nwX P w) (adX P w) wi (gName j) tYes wi1 (gName j1) tt te vs vs1 σ H Q := hs H (Ex.refl H) _ fun J H1 S e1 wk hS => fun D hD => by
  let row := fun a => ((ys a).filter (p a)).map (g a)
  have hrow : ∀ i, ((xs.take i).flatMap row).length ≤ 4000 := fun i => by
    refine Nat.le_trans ?_ hz
    refine Nat.le_trans ?_ (sum_part (fun a => (ys a).length) xs i)
    rw [List.length_flatMap]
    induction xs.take i with
    | nil => exact Nat.le_refl _
    | cons a l ih =>
      rw [List.map_cons, List.map_cons, List.sum_cons, List.sum_cons]
      have h1 : (row a).length ≤ (ys a).length := by
        show (((ys a).filter (p a)).map (g a)).length ≤ _
        rw [List.length_map]
        exact List.length_filter_le _ _
      omega
  refine ⟨fun i m Hi => m = xs.length - i ∧ i ≤ xs.length ∧ Ex H1 Hi ∧ Hi D = some (SetXO P w D ((setX ((xs.take i).flatMap row)).map SX.S)), ⟨xs.length, by simp, Nat.zero_le _, Ex.new hD, upd_same⟩, ?_⟩
  rintro i m Hi ⟨rfl, hi, hE, hL⟩
  have hG : S Hi := hS (fun _ => False) Hi (fun b z => z.elim) (.of hE)
  by_cases hlt : i < xs.length
  · refine .inr ⟨wk.goes i Hi hlt hG, fun H' => Ex H1 H' ∧ H' D = some (SetXO P w D ((setX ((xs.take (i + 1)).flatMap row)).map SX.S)), fun H' p' => ⟨xs.length - (i + 1), by omega, rfl, hlt, p'.1, p'.2⟩, fun x H' y => ?_⟩
    obtain ⟨ey, hP⟩ := wk.yields i Hi x H' hlt hG y
    obtain ⟨a, ha, rfl⟩ := at_map hP
    have ham := List.mem_of_getElem? ha
    have hEy := hE.trans ey
    have htk : (xs.take (i + 1)).flatMap row = (xs.take i).flatMap row ++ row a := by
      rw [List.take_add_one, ha, List.flatMap_append]
      simp
    have hbig := hrow (i + 1)
    rw [htk] at hbig
    refine ⟨hw _, ?_⟩
    unfold tYes
    dsimp only
    rw [if_pos rfl]
    refine hs1 a H' ((e1.trans hE).trans ey) ham H' (Ex.refl _) _ fun J1 H4 S1 e4 w1 hS1 => ?_
    refine ⟨fun t m Ht => m = (ys a).length - t ∧ t ≤ (ys a).length ∧ Ex H1 Ht ∧ Exc (fun c => c = D) H4 Ht ∧ Ht D = some (SetXO P w D ((setX ((xs.take i).flatMap row ++ (((ys a).take t).filter (p a)).map (g a))).map SX.S)), ⟨(ys a).length, by simp, Nat.zero_le _, hEy.trans e4, Exc.refl _, by
      rw [e4 _ _ (ey _ _ hL), List.take_zero, List.filter_nil, List.map_nil, List.append_nil]⟩, ?_⟩
    rintro t m Ht ⟨rfl, htl, p1, p2, p3⟩
    have hG1 : S1 Ht := by
      refine hS1 (fun c => c = D) Ht (fun b z => ?_) p2
      subst z
      exact ⟨(by rw [ey _ _ hL]; exact fun z => nomatch z), fun z => ho a b z (fresh_back e1 hD)⟩
    by_cases hlt1 : t < (ys a).length
    · refine .inr ⟨w1.goes t Ht hlt1 hG1, fun Hn => Ex H1 Hn ∧ Exc (fun c => c = D) H4 Hn ∧ Hn D = some (SetXO P w D ((setX ((xs.take i).flatMap row ++ (((ys a).take (t + 1)).filter (p a)).map (g a))).map SX.S)), fun Hn q => ⟨(ys a).length - (t + 1), by omega, rfl, hlt1, q⟩, fun y Hu yy => ?_⟩
      obtain ⟨eu, hy⟩ := w1.yields t Ht y Hu hlt1 hG1 yy
      obtain ⟨b, hb, rfl⟩ := at_map hy
      have hbm := List.mem_of_getElem? hb
      have eH : Ex H Hu := e1.trans (p1.trans eu)
      refine ⟨hw1 _ _, ?_⟩
      refine ht a b Hu eH ham hbm Hu (Ex.refl _) _ fun H6 e6 => ?_
      by_cases hp : p a b = true
      · rw [if_pos hp]
        refine he a b H6 (eH.trans e6) ham hbm hp H6 (Ex.refl _) _ fun H7 e7 => ?_
        have e47 := eu.trans (e6.trans e7)
        refine ⟨_, _, e47 _ _ p3, ⟨_, _, rfl, rfl, ?_, rfl⟩, Ex.mut (p1.trans e47) hD, (p2.then e47).upd (.inl rfl), ?_⟩
        · refine Nat.lt_of_le_of_lt (Nat.succ_le_succ (Nat.le_trans (setX_len _) (Nat.le_trans ?_ hbig))) (by decide)
          rw [List.length_append, List.length_append, List.length_map]
          show _ ≤ _ + (((ys a).filter (p a)).map (g a)).length
          rw [List.length_map]
          exact Nat.add_le_add_left ((List.Sublist.filter _ (List.take_sublist _ _)).length_le) _
        · rw [upd_same, List.take_add_one, hb, List.filter_append, List.map_append, ← List.append_assoc]
          show some (SetXO P w D _) = some (SetXO P w D ((setX (_ ++ ((([b] : List β)).filter (p a)).map (g a))).map SX.S))
          rw [List.filter_cons_of_pos hp, List.filter_nil, List.map_cons, List.map_nil, setX_snoc]
      · rw [if_neg hp]
        have e46 := eu.trans e6
        refine ⟨p1.trans e46, p2.then e46, ?_⟩
        rw [e46 _ _ p3, List.take_add_one, hb, List.filter_append]
        show _ = some (SetXO P w D ((setX (_ ++ (_ ++ ([b] : List β).filter (p a)).map (g a))).map SX.S))
        rw [List.filter_cons_of_neg hp, List.filter_nil, List.append_nil]
    · have e : t = (ys a).length := by omega
      subst e
      rw [List.take_length] at p3
      exact .inl ⟨w1.stops Ht hG1, p1, by rw [p3, htk]⟩
  · have e : i = xs.length := by omega
    subst e
    rw [List.take_length] at hL
    exact .inl ⟨wk.stops Hi hG, k D Hi (fresh_back e1 hD) (e1.trans hE) hL⟩
/-- sorted(..) of a new set of texts -/
theorem el_sortX {ts : TE} {l : List Tx} (h : ∀ Q : VK, (∀ d H2, H d = none → Ex H H2 → H2 d = some (SetXO P w d ((setX l).map SX.S)) → Q (.ref d) H2) → ts σ H Q) (Q : VK) (k : ∀ q H2, H q = none → Ex H H2 → H2 q = some (.lst ((setS l).map T)) → Q (.ref q) H2) : tCB (rSortX K P w) (tCons ts tNil) σ H Q :=
  h _ fun d H2 hd e2 h2 => .inr ⟨d, _, rfl, h2, fun zs q pz hq => k q _ (fresh_back e2 hq) (e2.trans (Ex.new hq)) (by rw [upd_same, sortT_of_perm pz]; rfl)⟩
end
end Ws
set_option Elab.async false
set_option linter.all false
set_option maxRecDepth 100000
set_option maxHeartbeats 2000000
/-! zip(a, t) of a text and a tuple -/
namespace Ws
open PySem PySem.Spec PyProof.Rows L2 Evl Wc Wt Wg Wd
def ItzM (K : PySem.W.Frag) (a : Tx) (b : Addr) : It :=
  ⟨fun i H => i < a.length ∧ ∃ ys, SqT K H b ys ∧ i < ys.length, fun i H v H' => ∃ t c y, v = .ref t ∧ H t = none ∧ H' = upd H t (.tup [T [c], y]) ∧ a[i]? = some c ∧ ∀ ys, SqT K H b ys → ys[i]? = some y,
    fun i H => ∃ ys, SqT K H b ys ∧ i = min a.length ys.length⟩
theorem turn_zipM {P : Program} {w : World} {K : PySem.W.Frag} {elts : List Expr} {kk : Nat} {tpos : Pos} {a : Tx} {b : Addr} {ta : Tok} {z TI TO i1 i2 : Addr} (D : ZipSep2 z TI TO i1 i2 [i1] [i2, b]) (hne : b ≠ i2) :
    Turn P w K (.Tuple elts kk tpos) (ItzM K a b) [z, TI, TO, i1, i2] z (fun i h => IsZip h z TI TO .none ∧ IsTupOf2 h TI (.ref i1) (.ref i2) ∧ (∃ x y, IsTupOf2 h TO x y) ∧ h.IsStrIter i1 (strIterType (SX.S a)) (SX.S a) ta i ∧ h.IsTupleIter i2 b i) where
  mem := by simp
  obj := fun i h st c hc => by
    obtain ⟨hz, hTI, ⟨x, y, hTO⟩, ⟨o1, e1, _, d1⟩, ⟨o2, e2, _, d2⟩⟩ := st
    have e' : c = z ∨ c = TI ∨ c = TO ∨ c = i1 ∨ c = i2 := by simpa using hc
    rcases e' with q | q | q | q | q
    · rw [q]; exact ⟨_, hz, fun v q => nomatch q⟩
    · rw [q]; exact ⟨_, hTI, fun v q => nomatch q⟩
    · rw [q]; exact ⟨_, hTO, fun v q => nomatch q⟩
    · rw [q]; exact ⟨o1, e1, fun v q => by rw [d1] at q; cases q⟩
    · rw [q]; exact ⟨o2, e2, fun v q => by rw [d2] at q; cases q⟩
  keep := fun i h h' st k => by
    obtain ⟨hz, hTI, ⟨x, y, hTO⟩, ⟨o1, e1, f1⟩, h2⟩ := st
    exact ⟨k z (by simp) _ hz, k TI (by simp) _ hTI, ⟨x, y, k TO (by simp) _ hTO⟩, ⟨o1, k i1 (by simp) _ e1, f1⟩, h2.at fun o q => k i2 (by simp) o q⟩
  item := by
    intro X hP hw hK hc i pins s σ H E I hf st hg
    subst hP hw hK
    obtain ⟨hz, hTI, ⟨x0, y0, hTO⟩, h1, h2⟩ := st
    obtain ⟨hlt, ys, hqy, hly⟩ := hg
    obtain ⟨its, rv, p, _⟩ := I.tuple hqy
    have D1 := Draws.text (prog := X.prog) (w := X.w) (A := X.A.in1) (I.ok.hd hc) i1 (SX.S a) ta
    have D2 := Draws.tuple (prog := X.prog) (w := X.w) (A := X.A.in1) (I.ok.hd hc) i2 b hne its.toArray
    have s1 : (SX.S a).cps.size = a.length := by simp [SX.S]
    have s2 : its.toArray.size = ys.length := by simp [rv.length]
    have hzl : z < s.heap.objs.size := Heap.lt_size hz
    refine wpAny_pyNext_zipD2_item D D1 D2 hz hTI hTO h1 ⟨h2, p⟩ (by omega) (by omega) fun u u2 h' tk p1 p2 z' TO' h1' h2' hT hsz hk => ?_
    obtain ⟨c, hcx, ru⟩ := sgn p1
    obtain ⟨y, hy, ru2⟩ : ∃ y, ys[i]? = some y ∧ RelV y u2 := by
      obtain ⟨v, hv, rr⟩ := rv.get (List.getElem?_eq_getElem hly)
      have e : its.toArray[i]? = some v := by simpa using hv
      rw [p2] at e
      cases e
      exact ⟨_, List.getElem?_eq_getElem hly, rr⟩
    refine ⟨_, rfl, wpAny_letOwnedTupleGo_zip (s := { s with heap := h', toks := tk }) z' fun h'' z'' sb => ?_⟩
    have hT2 : h''.get? s.heap.objs.size = some { cls := .type "tuple", data := .seq #[u, u2] } := (sb.2 _ (Nat.ne_of_gt hzl)).trans hT
    have new : ObjOk X.prog X.w (upd H s.heap.objs.size (.tup [T [c], y])) h'' s.heap.objs.size (.tup [T [c], y]) :=
      ⟨by show 2 ≤ sizeLine; decide, [u, u2], .cons ru (.cons ru2 .nil), ⟨_, hT2, rfl, _, rfl⟩⟩
    have I1 : Inv X pins σ (upd H s.heap.objs.size (.tup [T [c], y])) { s with heap := h'', toks := tk } :=
      I.turnedNew (ch := [z, TI, TO, i1, i2]) (fun c o hb q => (sb.2 c (fun q' => hb (by simp [q']))).trans (hk c o (fun q' => hb (by simp [q'])) (fun q' => hb (by simp [q'])) (fun q' => hb (by simp [q'])) (fun q' => hb (by simp [q'])) q)) hf (Nat.le_refl _) new
    refine ⟨.ref s.heap.objs.size, _, I1, rfl, ⟨_, c, y, rfl, I.hok.fresh (Nat.le_refl _), rfl, hcx, fun l hl => by rw [I.tuple_inj hl hqy]; exact hy⟩, ⟨z'', ?_, ⟨u, u2, ?_⟩, ?_, ?_⟩, fun c hcm => ?_⟩
    · exact (sb.2 _ D.TIz).trans (hk _ _ D.TIz D.TITO D.TIi1 D.TIi2 hTI)
    · exact (sb.2 _ D.TOz).trans TO'
    · obtain ⟨o1, e1, f1⟩ := h1'
      exact ⟨o1, (sb.2 _ (Ne.symm D.zi1)).trans e1, f1⟩
    · exact h2'.1.at fun o q => (sb.2 _ (Ne.symm D.zi2)).trans q
    · have hlt : c < s.heap.objs.size := by
        have e' : c = z ∨ c = TI ∨ c = TO ∨ c = i1 ∨ c = i2 := by simpa using hcm
        rcases e' with q | q | q | q | q
        · rw [q]; exact hzl
        · rw [q]; exact Heap.lt_size hTI
        · rw [q]; exact Heap.lt_size hTO
        · rw [q]; obtain ⟨_, e1, _⟩ := h1; exact Heap.lt_size e1
        · rw [q]; obtain ⟨_, e2, _⟩ := h2; exact Heap.lt_size e2
      rw [upd_ne (Nat.ne_of_lt hlt)]
      exact (hf c hcm).1
  done := by
    intro X hP hw hK hc i pins s σ H E I hf st hg
    subst hP hw hK
    obtain ⟨hz, hTI, ⟨x0, y0, hTO⟩, h1, h2⟩ := st
    obtain ⟨ys, hqy, hend⟩ := hg
    obtain ⟨its, rv, p, _⟩ := I.tuple hqy
    have D1 := Draws.text (prog := X.prog) (w := X.w) (A := X.A.in1) (I.ok.hd hc) i1 (SX.S a) ta
    have D2 := Draws.tuple (prog := X.prog) (w := X.w) (A := X.A.in1) (I.ok.hd hc) i2 b hne its.toArray
    have s1 : (SX.S a).cps.size = a.length := by simp [SX.S]
    have s2 : its.toArray.size = ys.length := by simp [rv.length]
    exact wpAny_pyNext_zipD2_end D D1 D2 hz hTI hTO h1 ⟨h2, p⟩ (by omega) (by omega) (by omega) fun h' tk hk => ⟨rfl, I.turnedL (t' := tk) (ch := [z, TI, TO, i1, i2]) (fun c o hb q =>
      hk c o (fun q' => hb (by simp [q'])) (fun q' => hb (by simp [q'])) (fun q' => hb (by simp [q'])) (fun q' => hb (by simp [q'])) q) hf⟩
  self := fun A i s Q E st h => wpAny_pyIter_zip st.1 h
def iZipM (K : PySem.W.Frag) (ta : TA) : TI := fun σ H R => ta σ H fun vs H1 => ∃ (a : Tx) (b : Addr) (ys : List V), vs = [T a, .ref b] ∧ SqT K H1 b ys ∧ R (ItzM K a b) H1
theorem pi_zipM {X : Cx} {e e2 : Expr} {ta : TA} {p pos tpos : Pos} {elts : List Expr} {kk : Nat} (hg : Gl X "zip") (hm : X.mg "zip" = none) (ha : PA X [e, e2] ta)
    (hs : starEach [e, e2] X.env = (false, eval e X.env) :: starEach [e2] X.env := by rfl) (hpl : (backTo pos (starEach [e2] X.env)).any (·.1) = false := by rfl) :
    PI X (.Tuple elts kk tpos) (.Call (.Name "zip" p) [e, e2] [] pos) (iZipM X.K ta) := by
  refine ⟨fun pins s σ H R I h => ?_⟩
  refine Call_ (ld_blt I hg hm PyProof.Rows.boot_zip (PyProof.Rows.callWith_type1 (thn (ha.run pos pins s σ H _ I h) fun us s1 ⟨vs, H1, I1, r1, q1⟩ => ?_) hs hpl))
  obtain ⟨a, b, ys, ex, hqy, q⟩ := q1
  subst ex
  cases r1 with
  | cons r rr =>
    cases rr with
    | cons r' rr =>
      cases rr
      obtain ⟨ta, rfl⟩ := r
      cases r'
      obtain ⟨its, rv, p, _⟩ := I1.tuple hqy
      obtain ⟨o2, ho2, _⟩ := id p
      have hlt := Heap.lt_size ho2
      have fresh5 : ∀ c, c ∈ [s1.heap.objs.size + 4, s1.heap.objs.size + 2, s1.heap.objs.size + 3, s1.heap.objs.size, s1.heap.objs.size + 1] → FpOk X pins H1 c := fun c hcm => by
        have e' : c = s1.heap.objs.size + 4 ∨ c = s1.heap.objs.size + 2 ∨ c = s1.heap.objs.size + 3 ∨ c = s1.heap.objs.size ∨ c = s1.heap.objs.size + 1 := by simpa using hcm
        have hle : s1.heap.objs.size ≤ c := by omega
        exact I1.fpOk hle (I1.hok.fresh hle)
      refine zip_begins2 (begins_text (SX.S a) ta) (begins_tuple b its.toArray) trivial p fun h' hz hTI hTO h1 h2 hsz hk => wpAny_pyIter_zip hz ?_
      have I2 : Inv X pins σ H1 { s1 with heap := h' } := I1.kept (t' := s1.toks) hk
      exact ⟨s1.heap.objs.size + 4, [s1.heap.objs.size + 4, s1.heap.objs.size + 2, s1.heap.objs.size + 3, s1.heap.objs.size, s1.heap.objs.size + 1], _, _, H1, rfl, I2, turn_zipM (ta := ta) (zip_sep2 (fun b hb => by cases hb) (fun c hb => by rw [List.mem_singleton.mp hb]; exact hlt)) (Nat.ne_of_lt (Nat.lt_succ_of_lt hlt)), ⟨hz, hTI, ⟨_, _, hTO⟩, ⟨_, h1, rfl, rfl⟩, ⟨_, h2, rfl, rfl⟩⟩, fresh5, q⟩
section
variable {K : PySem.W.Frag} {σ : L2.St} {H : Hp}
theorem kizm {X : Cx} {tg iter : Expr} {ta : TA} (h : PI X tg iter (iZipM X.K ta)) (hK : X.K = K := by rfl) : PI X tg iter (iZipM K ta) := hK ▸ h
theorem src_zipM {a : Tx} {b : Addr} {ys : List V} {tl tr : TE} (h : Ev tl σ H (T a)) (h2 : Ev tr σ H (.ref b)) (hq : SqT K H b ys) : Src (iZipM K (tCons tl (tCons tr tNil))) σ H (min a.length ys.length) (fun c => c = b) (fun i v Hb => ∃ p c y, v = .ref p ∧ a[i]? = some c ∧ ys[i]? = some y ∧ Hb p = some (.tup [T [c], y])) := fun H1 e R q =>
  h H1 e _ fun H2 e2 => h2 H2 (e.trans e2) _ fun H3 e3 => by
    have e13 := e.trans (e2.trans e3)
    refine ⟨a, b, ys, rfl, ex_t e13 hq, q _ H3 (fun Ha => SqT K Ha b ys) (e2.trans e3) ⟨fun i Ha hi hs => ⟨by omega, ys, hs, by omega⟩, fun Ha hs => ⟨ys, hs, rfl⟩, fun i Ha v Hb hi hs y => ?_⟩ fun B Ha hB ea => ?_⟩
    · obtain ⟨t, c, y, rfl, hn, rfl, h1, h2⟩ := y
      exact ⟨Ex.new hn, t, c, y, rfl, h1, h2 ys hs, upd_same⟩
    · exact ea.tp (fun z => (hB b z).2 rfl) (ex_t e13 hq)
end
end Ws
set_option Elab.async false
set_option linter.all false
set_option maxRecDepth 100000
set_option maxHeartbeats 4000000
/-! dicts as sets of texts; set(tuple of texts), len of a set of texts -/
namespace Ws
open PySem PySem.Spec PyProof.Rows L2 Evl Wc Wt Wg Wd
/-- a text as a key -/
abbrev kx (t : Tx) : Key := Sum.inr (SX.S t)
def DX (ks : List Tx) : List (Key × V) := ks.map fun t => (kx t, V.bl true)
def addT (ks : List Tx) (t : Tx) : List Tx := if t ∈ ks then ks else ks ++ [t]
theorem mem_addT {ks : List Tx} {n m : Tx} : m ∈ addT ks n ↔ m ∈ ks ∨ m = n := by
  unfold addT
  split
  · rename_i h
    exact ⟨.inl, fun z => z.elim id fun e => e ▸ h⟩
  · rw [List.mem_append, List.mem_singleton]
theorem addT_nodup {ks : List Tx} {n : Tx} (h : ks.Nodup) : (addT ks n).Nodup := by
  unfold addT
  split
  · exact h
  · rename_i hn
    refine List.nodup_append.mpr ⟨h, List.pairwise_singleton _ _, fun a ha b hb => ?_⟩
    rw [List.mem_singleton.mp hb]
    exact fun z => hn (z ▸ ha)
theorem addT_len (ks : List Tx) (n : Tx) : (addT ks n).length ≤ ks.length + 1 := by
  unfold addT
  split
  · omega
  · simp
theorem kx_inj {a b : Tx} (h : kx a = kx b) : a = b := S_inj (Sum.inr.inj h)
theorem val_DX (ks : List Tx) (n : Tx) : valV (DX ks) (kx n) = if n ∈ ks then some (.bl true) else none := by
  induction ks with
  | nil => rfl
  | cons m ks ih =>
    by_cases h : m = n
    · subst h
      show valV ((kx m, V.bl true) :: DX ks) _ = _
      rw [valV_pos rfl, if_pos List.mem_cons_self]
    · show valV ((kx m, V.bl true) :: DX ks) _ = _
      rw [valV_neg (fun z => h (kx_inj z)), ih]
      by_cases h2 : n ∈ ks
      · rw [if_pos h2, if_pos (List.mem_cons_of_mem _ h2)]
      · rw [if_neg h2, if_neg fun z => (List.mem_cons.mp z).elim (fun e => h e.symm) h2]
theorem put_DX (ks : List Tx) (n : Tx) : putK (DX ks) (kx n) (.bl true) = DX (addT ks n) := by
  have ha := valV_any (kx n) (DX ks)
  rw [val_DX] at ha
  unfold putK addT
  by_cases h : n ∈ ks
  · rw [if_pos h] at ha
    rw [if_pos (show ((DX ks).any fun kv => decide (kv.1 = kx n)) = true from ha), if_pos h]
    unfold DX
    rw [List.map_map]
    refine List.map_congr_left fun m _ => ?_
    show (if kx m = kx n then _ else _) = _
    split <;> rfl
  · rw [if_neg h] at ha
    rw [if_neg (show ¬ ((DX ks).any fun kv => decide (kv.1 = kx n)) = true from fun z => Bool.false_ne_true (ha.symm.trans z)), if_neg h]
    unfold DX
    rw [List.map_append]
    rfl
theorem DX_len (ks : List Tx) : (DX ks).length = ks.length := by unfold DX; rw [List.length_map]
def addAllT (ks ns : List Tx) : List Tx := ns.foldl addT ks
theorem mem_addAllT {m : Tx} : ∀ {ns ks : List Tx}, m ∈ addAllT ks ns ↔ m ∈ ks ∨ m ∈ ns
  | [], ks => ⟨.inl, fun z => z.elim id fun h => nomatch h⟩
  | n :: ns, ks => by
    show m ∈ addAllT (addT ks n) ns ↔ _
    rw [mem_addAllT, mem_addT, List.mem_cons, or_assoc]
theorem addAllT_nodup : ∀ {ns ks : List Tx}, ks.Nodup → (addAllT ks ns).Nodup
  | [], _, h => h
  | n :: ns, ks, h => addAllT_nodup (ns := ns) (addT_nodup h)
theorem addAllT_len : ∀ (ns ks : List Tx), (addAllT ks ns).length ≤ ks.length + ns.length
  | [], _ => Nat.le_refl _
  | n :: ns, ks => by
    have h1 := addAllT_len ns (addT ks n)
    have h2 := addT_len ks n
    show (addAllT (addT ks n) ns).length ≤ _
    rw [List.length_cons]
    omega
theorem addAllT_succ {ns : List Tx} {i : Nat} {n : Tx} (h : ns[i]? = some n) : addAllT [] (ns.take (i + 1)) = addT (addAllT [] (ns.take i)) n := by
  rw [List.take_add_one, h]
  unfold addAllT
  rw [List.foldl_append]
  rfl
theorem addAllT_id : ∀ {ns ks : List Tx}, (ks ++ ns).Nodup → addAllT ks ns = ks ++ ns
  | [], ks, _ => (List.append_nil ks).symm
  | n :: ns, ks, h => by
    have hn : n ∉ ks := fun z => (List.nodup_append.mp h).2.2 n z n List.mem_cons_self rfl
    show addAllT (addT ks n) ns = _
    have e : addT ks n = ks ++ [n] := by unfold addT; rw [if_neg hn]
    rw [e, addAllT_id (by rw [List.append_assoc]; exact h), List.append_assoc]
    rfl
section
variable {K : PySem.W.Frag} {w : World} {P : Program} {σ : L2.St} {H : Hp} {ta td ty tv te : TE} {D : Ends} {Q : VK}
/-- d[t] = True -/
theorem s_putX {d : Addr} {ks : List Tx} {n : Tx} (hd : Ev td σ H (.ref d)) (hn : Ev ty σ H (T n)) (h : H d = some (.dK (DX ks))) (hl : ks.length ≤ 10000) (k : ∀ H1, Ex H H1 → D.nx σ (upd H1 d (.dK (DX (addT ks n))))) : sDPut td ty (tC (.bl true)) D σ H :=
  hd H (Ex.refl H) _ fun H2 e2 => hn H2 e2 _ fun H3 e3 => ⟨d, _, rfl, DPut.k (k := kx n) ((e2.trans e3) _ _ h) (by rw [DX_len]; unfold sizeLine; omega), by rw [put_DX]; exact k H3 (e2.trans e3)⟩
theorem q_putX {tz : TS} {d : Addr} {ks : List Tx} {n : Tx} (hd : Ev td σ H (.ref d)) (hn : Ev ty σ H (T n)) (h : H d = some (.dK (DX ks))) (hl : ks.length ≤ 10000) (k : ∀ H1, Ex H H1 → tz D σ (upd H1 d (.dK (DX (addT ks n))))) : tSeq (sDPut td ty (tC (.bl true))) tz D σ H := s_putX (D := { D with nx := tz D }) hd hn h hl k
theorem ev_inX {d : Addr} {ks : List Tx} {n : Tx} (hn : Ev ty σ H (T n)) (hd : Ev td σ H (.ref d)) (h : H d = some (.dK (DX ks))) : Ev (tDIn ty td) σ H (.bl (decide (n ∈ ks))) := fun H1 e Q q =>
  hn H1 e _ fun H2 e2 => hd H2 (e.trans e2) _ fun H3 e3 => ⟨d, _, rfl, DGet.k (k := kx n) (((e.trans e2).trans e3) _ _ h), by rw [val_DX, some_if]; exact q H3 (e2.trans e3)⟩
theorem ev_notinX {d : Addr} {ks : List Tx} {n : Tx} (hn : Ev ty σ H (T n)) (hd : Ev td σ H (.ref d)) (h : H d = some (.dK (DX ks))) : Ev (tDNotIn ty td) σ H (.bl (!decide (n ∈ ks))) := fun H1 e Q q =>
  hn H1 e _ fun H2 e2 => hd H2 (e.trans e2) _ fun H3 e3 => ⟨d, _, rfl, DGet.k (k := kx n) (((e.trans e2).trans e3) _ _ h), by rw [val_DX, some_if]; exact q H3 (e2.trans e3)⟩
/-- list(d) -/
theorem el_listX {d : Addr} {ks : List Tx} (hd : Ev td σ H (.ref d)) (h : H d = some (.dK (DX ks))) : EvL (tCB rListD (tCons td tNil)) σ H (ks.map T) := fun H1 e Q q =>
  hd H1 e _ fun H2 e2 => ⟨d, DX ks, rfl, (e.trans e2) _ _ h, fun r hr => q r _ (fresh_back e2 hr) (e2.trans (Ex.new hr)) (by
    rw [upd_same]
    unfold DX
    rw [List.map_map]
    rfl)⟩
/-- {t: True for t in ns} -/
theorem dc_texts {wi : TI} {j : Nat} {vs : List Nat} {own : Addr → Prop} (ns : List Tx) (hs : Src wi σ H ns.length own (fun i v _ => (ns.map T)[i]? = some v)) (hn : ns.length ≤ 4000) (hw : ∀ x, wipe ((wipe σ vs).set j (some x)) vs = wipe σ vs) (hj : ∀ x, ((wipe σ vs).set j (some x))[j]? = some (some x))
    (k : ∀ d H2, H d = none → Ex H H2 → H2 d = some (.dK (DX (addAllT [] ns))) → Q (.ref d) H2) : tDc wi (gName j) tYes (tVar j) (tC (.bl true)) vs σ H Q :=
  hs H (Ex.refl H) _ fun J H1 S e1 wk hS => fun Dl hD => by
    refine dc_it wk (Qd := fun H3 => Q (.ref Dl) H3) (fun i Hi => Ex H1 Hi ∧ Hi Dl = some (.dK (DX (addAllT [] (ns.take i))))) ?_ (fun i Hi hi p => hS (fun _ => False) Hi (fun b z => z.elim) (.of p.1)) ?_ ?_
    · exact ⟨Ex.new hD, upd_same⟩
    · rintro i x Ha Hb hi ⟨R, h1⟩ ⟨ey, hP⟩
      obtain ⟨n, hn1, rfl⟩ := at_map hP
      refine ⟨hw _, ?_⟩
      unfold tYes
      dsimp only
      rw [if_pos rfl]
      refine ⟨T n, hj _, ?_⟩
      have hl := addAllT_len (ns.take i) []
      refine ⟨DX (addAllT [] (ns.take i)), kx n, rfl, ey _ _ h1, ?_, Ex.mut (R.trans ey) hD, ?_⟩
      · rw [DX_len]
        rw [List.length_take] at hl
        have : ([] : List Tx).length = 0 := rfl
        unfold sizeLine
        omega
      · show (upd Hb Dl (.dK (putK (DX (addAllT [] (ns.take i))) (kx n) (.bl true)))) Dl = _
        rw [upd_same, put_DX, addAllT_succ hn1]
    · rintro H3 ⟨R, h1⟩
      rw [List.take_length] at h1
      exact k Dl H3 (fresh_back e1 hD) (e1.trans R) h1
theorem merge_DX : ∀ (xs : List Tx) (ks : List Tx), mergeK (DX ks) (xs.map fun x => (kx x, V.bl true)) = DX (addAllT ks xs)
  | [], ks => rfl
  | x :: xs, ks => by
    show mergeK (putK (DX ks) (kx x) (.bl true)) (xs.map fun x => (kx x, V.bl true)) = DX (addAllT (addT ks x) xs)
    rw [put_DX, merge_DX xs]
end
/-! ### set(tuple of texts), its len -/
section
variable {P : Program} {w : World} {A : Around} {E : Value → Shared → Prop} {s : Shared}
set_option maxHeartbeats 3200000 in
theorem call_setT {src : Addr} {its : Array Value} {xs : List Str} {Q : Value → Shared → Prop} (noH : A.handled = none) (isl : s.heap.IsTuple src its) (hit : StrsAre its.toList xs) (room : xs.length + 1 < scanBound)
    (fin : ∀ (h2 : Heap) (tk : Nat) (l : List Str), Met xs xs.length l → SetX P w h2 s.heap.objs.size l → (∀ b o, s.heap.get? b = some o → h2.get? b = some o) → Q (.ref s.heap.objs.size) { s with heap := h2, toks := tk }) :
    wpAny (model P w) A (call (.type "set") [.ref src]) Q E s := by
  have lx : xs.length = its.size := by rw [← Array.length_toList, hit.len_eq]
  obtain ⟨c, tl, q0⟩ := PySem.F.called_set.mro
  have q1 := PySem.F.called_set.made; have q2 := PySem.F.called_set.sub
  refine wpAny_call (codeAny_of_tree (wpAny_pure ⟨Code.quiet_builtin _ (by decide +kernel), codeAny_builtin PySem.F.entry_type_call ?_⟩))
  rw [Around.under_plain (weight_type_call_type "set" [.ref src] []) rfl]
  have q3 := PySem.F.called_set.notType; have q4 := PySem.F.called_set.canCreate
  have q5 := PySem.F.typeCall_set_1 (.ref src)
  repeat (any_goals (first | assumption | wp_step))
  refine codeAny_mono (code_set_led1 (.ref src) (E := E) (Q₁ := fun ob t1 => ob = .ref s.heap.objs.size ∧ t1 = { s with heap := s.heap.push (so w) }) ⟨rfl, rfl⟩) fun r t1 hr => ?_
  match r, hr with
  | .error e, hr => exact hr
  | .ok (.ret ob), hr =>
    obtain ⟨rfl, rfl⟩ := hr
    have atS : (s.heap.push (so w)).get? s.heap.objs.size = some (so w) := Heap.get?_push_size _ rfl
    have tyS : Shared.TypeIs { s with heap := s.heap.push (so w) } (.ref s.heap.objs.size) "set" := ⟨_, atS, rfl⟩
    have q6 := PySem.F.called_set.init.lookup
    have q7 := PySem.F.called_set.init.bind (.ref s.heap.objs.size)
    repeat (any_goals (first | assumption | wp_step))
    refine codeAny_mono (codeAny_call_builtin (R := wants (fun r t2 => r = .none ∧ ∃ h2 tk l, t2 = { s with heap := h2, toks := tk } ∧ Met xs xs.length l ∧ SetX P w h2 s.heap.objs.size l ∧ ∀ b o, s.heap.get? b = some o → h2.get? b = some o) E) PySem.F.called_set.init.plain PySem.F.entry_set_init (check_set_init_1 tyS ?_)) fun r2 t2 hr2 => ?_
    · obtain ⟨ol, atl, cl, nl, dl⟩ := isl
      obtain ⟨ocls, odict, odata, oslots⟩ := ol
      simp only at cl dl
      subst cl; subst dl
      have lt := Heap.lt_size atl
      have isl2 : (s.heap.push (so w)).IsTuple src its := ⟨_, Heap.get?_push_of_some _ atl, rfl, nl, rfl⟩
      have q8 := PySem.F.sub_tuple_set; have q9 := PySem.F.sub_tuple_frozenset
      have q10 : (Value.type "tuple" == Value.type "dict") = false := by decide
      have atl2 : (s.heap.push (so w)).get? src = some { cls := .type "tuple", dict := odict, data := .seq its nl, slots := oslots } := Heap.get?_push_of_some _ atl
      unfold Builtin.«set.__init__» noKeywords Builtin.Frozenset.updateFrom
      generalize hI : pyIter = iter
      wp_walk
      subst hI
      refine wpAny_pyIter_tuple isl2 (wpAny_bind (wpAny_runValue ?_))
      have no3 : A.in1.in1.in1.handled = none := by simp [noH]
      have zI : (s.heap.push (so w)).objs.size = s.heap.objs.size + 1 := Heap.size_push ..
      have ne1 : src ≠ (s.heap.push (so w)).objs.size := by rw [zI]; exact Nat.ne_of_lt (Nat.lt_succ_of_lt lt)
      have out1 : s.heap.objs.size ∉ [(s.heap.push (so w)).objs.size, src] := by
        rw [zI]
        intro z
        rcases List.mem_cons.mp z with z | z
        · exact absurd z (Nat.ne_of_lt (Nat.lt_succ_self _))
        · exact absurd (List.mem_singleton.mp z) (Nat.ne_of_gt lt)
      refine fill_texts (P := P) (xs := xs) ((Walks.tuple no3 _ src ne1 its).toS) out1 lx (by rw [← lx]; exact room) (fun i v hv => ?_) its.size 0 _ [] (by omega) ⟨⟨_, Heap.get?_push_size _ rfl, rfl, rfl⟩, isl2.push _⟩ ⟨List.nodup_nil, fun x => by simp, Nat.le_refl _⟩ (SetX.new (Heap.get?_push_of_some _ atS)) fun s2 l2 mv m2 X2 => ?_
      · obtain ⟨y, u, h1, h2⟩ := hit.item i v (by rw [Array.getElem?_toList]; exact hv)
        exact ⟨y, u, h2, h1⟩
      · obtain ⟨h2, g2, d2, tk2, os2⟩ := s2
        obtain rfl : g2 = s.gens := mv.gens
        obtain rfl : d2 = s.drawn := mv.drawn
        obtain rfl : os2 = s.os := mv.os
        rw [← lx] at m2
        show wpAny _ _ (Bind.bind (pure _) _) _ _ _
        refine wpAny_pure (wpAny_pure ⟨rfl, h2, tk2, l2, rfl, m2, X2, fun b o e => ?_⟩)
        have hb := Heap.lt_size e
        refine mv.heap b o (fun z => ?_) (Heap.get?_push_of_some _ (Heap.get?_push_of_some _ e))
        rw [zI] at z
        rcases List.mem_cons.mp z with z | z
        · exact absurd z (Nat.ne_of_lt hb)
        · exact absurd (List.mem_singleton.mp z) (Nat.ne_of_lt (Nat.lt_succ_of_lt hb))
    · match r2, hr2 with
      | .error e, hr2 => exact hr2
      | .ok (.ret v2), hr2 =>
        obtain ⟨rfl, h2, tk, l, rfl, m, X, k⟩ := hr2
        repeat (any_goals (first | assumption | wp_step))
        exact fin _ _ _ m X k
end
section
variable {X : Cx}
def rSetTup (K : PySem.W.Frag) (P : Program) (w : World) : List V → Hp → VK → Prop := fun vs H Q => ∃ (p : Addr) (xs : List Tx), vs = [.ref p] ∧ SqT K H p (xs.map T) ∧ xs.length ≤ 4000 ∧ ∀ q ys, Uniq xs ys → ys.length ≤ xs.length → H q = none → Q (.ref q) (upd H q (SetXO P w q (ys.map SX.S)))
theorem cr_setTup (hc : X.calm = true) : CallR X (.type "set") (rSetTup X.K X.prog X.w) := by
  intro pins s σ H vs us Q I r h
  obtain ⟨p, xs, rfl, hp, hl, q⟩ := h
  rw [Vals.ref1 r]
  obtain ⟨its, rv, pl, hz⟩ := I.tuple hp
  refine call_setT (P := X.prog) (xs := xs.map SX.S) (I.ok.hd hc) pl (by simpa using strs_of_each (each_of_vals rv)) (by rw [List.length_map]; unfold scanBound; omega) fun h2 tk l m R k => ?_
  obtain ⟨ys, rfl, u, hly⟩ := uniq_of m
  have hn : H s.heap.objs.size = none := I.hok.fresh (Nat.le_refl _)
  exact ⟨.ref _, upd H s.heap.objs.size (SetXO X.prog X.w s.heap.objs.size (ys.map SX.S)), I.laid (t' := tk) k (Nat.le_refl _) (setXO_new R), rfl, q _ ys u hly hn⟩
theorem ksetTup {K : PySem.W.Frag} {P : Program} {w : World} (hc : X.calm = true := by rfl) (hK : X.K = K := by rfl) (hP : X.prog = P := by rfl) (hw : X.w = w := by rfl) : CallR X (.type "set") (rSetTup K P w) := by
  subst hK hP hw
  exact cr_setTup hc
def rLenX (P : Program) (w : World) : List V → Hp → VK → Prop := fun vs H Q => ∃ (p : Addr) (l : List Tx), vs = [.ref p] ∧ H p = some (SetXO P w p (l.map SX.S)) ∧ l.length ≤ 4000 ∧ Q (.int (l.length : Int)) H
theorem cr_lenX : CallR X (.builtin "len") (rLenX X.prog X.w) := by
  intro pins s σ H vs us Q I r h
  obtain ⟨p, l, rfl, hp, hl, q⟩ := h
  rw [Vals.ref1 r]
  obtain ⟨o, es, ep, t, ho, hex, hd, py⟩ := (I.hok p _ hp).1
  have hn := py.size
  rw [List.length_map] at hn
  exact call_len_set ho hex hd py.fit (by omega) ⟨.int (l.length : Int), H, I.tok _, ⟨_, by rw [hn]⟩, q⟩
theorem kLenX {P : Program} {w : World} (hP : X.prog = P := by rfl) (hw : X.w = w := by rfl) : CallR X (.builtin "len") (rLenX P w) := by
  subst hP hw
  exact cr_lenX
end
section
variable {K : PySem.W.Frag} {w : World} {P : Program} {σ : L2.St} {H : Hp} {ta : TE}
theorem uniq_len {xs ys : List Tx} (u : Uniq xs ys) : ys.length = (setX xs).length := len_nodup' u.nd (setX_nodup xs) fun x => (u.mem x).trans mem_setX.symm
where len_nodup' {l l' : List Tx} (h1 : l.Nodup) (h2 : l'.Nodup) (h : ∀ a, a ∈ l ↔ a ∈ l') : l.length = l'.length := ((List.perm_ext_iff_of_nodup h1 h2).mpr h).length_eq
/-- len(set(tuple of texts)) -/
theorem ev_lenSetT {p : Addr} {xs : List Tx} (h : Ev ta σ H (.ref p)) (hp : SqT K H p (xs.map T)) (hl : xs.length ≤ 4000) : Ev (tCB (rLenX P w) (tCons (tCB (rSetTup K P w) (tCons ta tNil)) tNil)) σ H (.int ((setX xs).length : Int)) := fun H1 e Q q =>
  h H1 e _ fun H2 e2 => ⟨p, xs, rfl, ex_t (e.trans e2) hp, hl, fun r ys u hle hr => ⟨r, ys, rfl, upd_same, by omega, by rw [uniq_len u]; exact q _ (e2.trans (Ex.new hr))⟩⟩
end
end Ws
set_option Elab.async false
set_option linter.all false
set_option maxRecDepth 100000
set_option maxHeartbeats 4000000
/-! sorted(tuple of texts); the place of a sign in "abcd" -/
namespace Ws
open PySem PySem.Spec PyProof.Rows L2 Evl Wc Wt Wg Wd
section
variable {P : Program} {w : World} {A : Around} {E : Value → Shared → Prop} {s : Shared}
/-- the items of a tuple; the heap only grows -/
theorem collectTup {it : Addr} {items : Array Value} {Q : List Value → Shared → Prop} (hl : s.heap.IsTuple it items) (hsz : items.size ≤ sizeLine)
    (hQ : ∀ h', (∀ b o', s.heap.get? b = some o' → h'.get? b = some o') → s.heap.objs.size ≤ h'.objs.size → Q items.toList { s with heap := h' }) : wpAny (model P w) A (collect (.ref it)) Q E s := by
  obtain ⟨o, ho, hc, n, hd⟩ := hl
  have atL : (s.heap.push { cls := .type "list", data := .seq ([] : List Value).toArray }).get? s.heap.objs.size = some { cls := .type "list", data := .seq #[] 0 } := Heap.get?_push_size _ rfl
  have at2 := Heap.get?_update_self (Obj.mapSeq (· ++ items)) atL rfl
  have big : s.heap.objs.size ≤ ((s.heap.push { cls := .type "list", data := .seq ([] : List Value).toArray }).update s.heap.objs.size (Obj.mapSeq (· ++ items))).objs.size := by
    rw [Heap.size_update, Heap.size_push]
    exact Nat.le_succ _
  unfold collect
  refine wpAny_bind (wpAny_runValue (codeAny_builtin F.entry_proto_collect ?_))
  rw [Around.under_plainId F.plain_proto_collect _]
  show wpAny _ A.in1 (newList [] >>= fun l => again (.builtin "list.__iadd__" ⟨[l, .ref it], []⟩)) _ _ s
  refine wpAny_bind (wpAny_newObj_type (wpAny_pure ⟨plainId_quiet F.plain_list_iadd _, codeAny_builtin F.entry_list_iadd ?_⟩))
  rw [Around.under_plainId F.plain_list_iadd _]
  show wpAny _ A.in1 (Builtin.List.listExtendWith (.ref s.heap.objs.size) (.ref it) (.ref s.heap.objs.size)) _ _ _
  have last : wpAny (model P w) A (match Value.ref s.heap.objs.size with
      | Value.ref a => do
        match (← load a).data with
          | Data.seq xs _ => pure xs.toList
          | _ => unsupported "internal:collect"
      | _ => unsupported "internal:collect") Q E { s with heap := (s.heap.push { cls := .type "list", data := .seq ([] : List Value).toArray }).update s.heap.objs.size (Obj.mapSeq (· ++ items)) } := by
    show wpAny _ A (load s.heap.objs.size >>= _) _ _ _
    refine wpAny_bind (wpAny_load at2 (wpAny_pure ?_))
    show Q ((#[] : Array Value) ++ items).toList _
    rw [show ((#[] : Array Value) ++ items).toList = items.toList from by simp]
    exact hQ _ (fun b o' hb => (Heap.get?_update_other _ _ (Nat.ne_of_gt (Heap.lt_size hb))).trans (Heap.get?_push_of_some _ hb)) big
  refine wpAny_mono (wpAny_extend_seq (hsz := hsz) (A := A) (R := fun r s' => r = .ok (.ret (.ref s.heap.objs.size)) ∧ s' = { s with heap := (s.heap.push { cls := .type "list", data := .seq ([] : List Value).toArray }).update s.heap.objs.size (Obj.mapSeq (· ++ items)) })
    (s := { s with heap := s.heap.push { cls := .type "list", data := .seq ([] : List Value).toArray } }) _ it _ 0 (.inr rfl) atL (Heap.get?_push_of_some _ ho) hc hd ⟨rfl, rfl⟩) (fun fin s' h => ?_) (fun e s' h => absurd h.1 (by simp))
  cases fin with
  | done f =>
    obtain ⟨e, rfl⟩ := h
    cases e
    exact last
  | again c' => exact ⟨h.1, codeAny_mono h.2 fun r s'' hr => by obtain ⟨rfl, rfl⟩ := hr; exact last⟩
end
section
variable {X : Cx}
def rSortTup (K : PySem.W.Frag) : List V → Hp → VK → Prop := fun vs H Q => ∃ (p : Addr) (xs : List Tx), vs = [.ref p] ∧ SqT K H p (xs.map T) ∧ ∀ q, H q = none → Q (.ref q) (upd H q (.lst ((sortT xs).map T)))
theorem cr_sortTup (hu : X.A.units + 64 < cLine) : CallR X (.builtin "sorted") (rSortTup X.K) := by
  intro pins s σ H vs us Q I r h
  obtain ⟨p, xs, rfl, hp, q⟩ := h
  rw [Vals.ref1 r]
  obtain ⟨its, rv, pl, hz⟩ := I.tuple hp
  obtain ⟨o, ho, hc, n, hd⟩ := id pl
  have ez := each_of_vals rv
  rw [List.length_map] at hz
  have li := ez.length
  refine Calls.call_function_entry kind_sorted plain_sorted entry_sorted (args_sorted1 _) ?_
  unfold Builtin.«sorted»
  refine wpAny_bind (m := checkCount "sorted" 1 1 _) (wpAny_pure (wpAny_bind (collectTup (A := X.A.in1) pl (by simp; omega) fun h' k1 sz => ?_)))
  rw [List.toList_toArray]
  have small : its.length ≤ sizeLine := by omega
  refine wpAny_bind (wpAny_newList ?_ small)
  have atL : (h'.push (seqObj "list" its.toArray 0)).get? h'.objs.size = some (seqObj "list" its.toArray 0) := Heap.get?_push_size _ rfl
  refine wpAny_bind (wpAny_holding (PySem.W.list_sort_data (s := { s with heap := h'.push (seqObj "list" its.toArray 0) }) (R := IsT) (enc := fun b : Tx => PyData.str (SX.S b)) atL ez (reads_out ez) (alike_tx xs) (sortable_tx xs) (by omega) (fun b _ => ?_) fun out hlen eo => ?_))
  · show X.A.in1.units + 1 + _ < cLine
    have h1 : X.A.in1.units ≤ X.A.units + 8 := by
      show X.A.units + _ ≤ _
      first | omega | exact Nat.add_le_add_left (by decide) _
    have : (PyData.str (SX.S b)).depth ≤ 1 := by simp [PyData.depth]
    omega
  · rw [enc_le] at eo
    obtain ⟨c, hc2⟩ := sortedHeap_at (vs := its) (out := out.toArray) atL
    have kk : ∀ b u, s.heap.get? b = some u → (sortedHeap (h'.push (seqObj "list" its.toArray 0)) h'.objs.size its out.toArray).get? b = some u := fun b u e => by
      have lt := Heap.lt_size (k1 b u e)
      rw [sortedHeap_old (Nat.ne_of_lt lt) (by rw [size_push']; exact Nat.lt_succ_of_lt lt)]
      exact Heap.get?_push_of_some _ (k1 b u e)
    have hn : H h'.objs.size = none := I.hok.fresh sz
    refine wpAny_pure ⟨_, rfl, .ref h'.objs.size, _, ?_, rfl, q _ hn⟩
    exact I.laid (t' := s.toks) kk sz ⟨by rw [List.length_map, sortT_len]; omega, out, c, vals_of_each eo, hc2⟩
theorem ksortTup {K : PySem.W.Frag} (hu : X.A.units + 64 < cLine) (hK : X.K = K := by rfl) : CallR X (.builtin "sorted") (rSortTup K) := by
  subst hK
  exact cr_sortTup hu
/-- the letters -/
abbrev AB : Tx := [97, 98, 99, 100]
theorem at_AB {c : Nat} (h1 : 97 ≤ c) (h2 : c ≤ 100) : c = 97 ∨ c = 98 ∨ c = 99 ∨ c = 100 := by omega
def rIndexA : V → List V → Hp → VK → Prop := fun x xs H Q => ∃ c : Nat, 97 ≤ c ∧ c ≤ 100 ∧ x = T AB ∧ xs = [T [c]] ∧ Q (.int ((c - 97 : Nat) : Int)) H
theorem mt_indexA : MtR X "str.index" rIndexA := by
  intro pins s σ H x xs v us Q I rx r h
  obtain ⟨c, h1, h2, rfl, rfl, q⟩ := h
  refine mt_sindex pins s σ H _ _ v us Q I rx r ?_
  rcases at_AB h1 h2 with rfl | rfl | rfl | rfl
  · exact ⟨_, _, 0, [], rfl, rfl, by decide +kernel, q⟩
  · exact ⟨_, _, 1, [], rfl, rfl, by decide +kernel, q⟩
  · exact ⟨_, _, 2, [], rfl, rfl, by decide +kernel, q⟩
  · exact ⟨_, _, 3, [], rfl, rfl, by decide +kernel, q⟩
end
section
variable {K : PySem.W.Frag} {σ : L2.St} {H : Hp} {te : TE}
theorem rm_indexA {c : Nat} (h1 : 97 ≤ c) (h2 : c ≤ 100) : RM rIndexA (T AB) [T [c]] H (.int ((c - 97 : Nat) : Int)) := fun H1 e Q q => ⟨c, h1, h2, rfl, rfl, q H1 (Ex.refl _)⟩
theorem el_sortTup {p : Addr} {xs : List Tx} (h : Ev te σ H (.ref p)) (hp : SqT K H p (xs.map T)) : EvL (tCB (rSortTup K) (tCons te tNil)) σ H ((sortT xs).map T) := fun H1 e _ q => h H1 e _ fun H2 e2 => ⟨p, xs, rfl, ex_t (e.trans e2) hp, fun r hr => q r _ (fresh_back e2 hr) (e2.trans (Ex.new hr)) upd_same⟩
end
end Ws
set_option Elab.async false
set_option linter.all false
set_option maxRecDepth 100000
set_option maxHeartbeats 2000000
/-! startswith and endswith; comprehensions that make an object for some of the things; comprehensions over things that stand -/
namespace Ws
open PySem PySem.Spec PyProof.Rows L2 Evl Wc Wt Wg Wd
def rStartT : V → List V → Hp → VK → Prop := fun x xs H Q => ∃ (a b : Tx), x = T a ∧ xs = [T b] ∧ Q (.bl (decide (a.take b.length = b))) H
theorem mt_startT {X : Cx} : MtR X "str.startswith" rStartT := by
  intro pins s σ H x xs v us Q I rx r h
  obtain ⟨a, b, rfl, rfl, q⟩ := h
  refine mt_startswith pins s σ H _ _ v us Q I rx r ⟨_, _, rfl, rfl, ?_⟩
  unfold Txt.startswith
  rw [S_length, S_length, subAt_T, ← Bool.decide_and]
  have e : decide (0 + b.length ≤ a.length ∧ StAt a b 0) = decide (a.take b.length = b) := decide_eq_decide.mpr ⟨fun h => h.2, fun h => ⟨by have := congrArg List.length h; rw [List.length_take] at this; omega, h⟩⟩
  rw [e]
  exact q
def rEndT : V → List V → Hp → VK → Prop := fun x xs H Q => ∃ (a b : Tx), x = T a ∧ xs = [T b] ∧ Q (.bl (decide (b.length ≤ a.length ∧ a.drop (a.length - b.length) = b))) H
theorem mt_endT {X : Cx} : MtR X "str.endswith" rEndT := by
  intro pins s σ H x xs v us Q I rx r h
  obtain ⟨a, b, rfl, rfl, q⟩ := h
  refine mt_endswith pins s σ H _ _ v us Q I rx r ⟨_, _, rfl, rfl, ?_⟩
  unfold Txt.endswith
  rw [S_length, S_length, subAt_T, ← Bool.decide_and]
  have e : decide (0 + b.length ≤ a.length ∧ StAt a b (a.length - b.length)) = decide (b.length ≤ a.length ∧ a.drop (a.length - b.length) = b) := decide_eq_decide.mpr (by
    rw [Nat.zero_add]
    refine and_congr_right fun hl => ?_
    show (a.drop (a.length - b.length)).take b.length = b ↔ _
    rw [List.take_of_length_le (by rw [List.length_drop]; omega)])
  rw [e]
  exact q
section
variable {K : PySem.W.Frag} {σ : L2.St} {H : Hp} {te : TE} {t : TT}
theorem rm_startT {a b : Tx} : RM rStartT (T a) [T b] H (.bl (decide (a.take b.length = b))) := fun H1 _ _ q => ⟨a, b, rfl, rfl, q H1 (Ex.refl _)⟩
theorem rm_start3T {a b : Tx} {i : Nat} : RM rStart3T (T a) [T b, .int (i : Int)] H (.bl (decide (i + b.length ≤ a.length ∧ StAt a b i))) := fun H1 _ _ q => ⟨a, b, i, rfl, rfl, q H1 (Ex.refl _)⟩
theorem rm_endT {a b : Tx} : RM rEndT (T a) [T b] H (.bl (decide (b.length ≤ a.length ∧ a.drop (a.length - b.length) = b))) := fun H1 _ _ q => ⟨a, b, rfl, rfl, q H1 (Ex.refl _)⟩
/-- a new object for each thing that is kept -/
theorem lcO {α : Type} {wi : TI} {g : TG} {vs : List Nat} {n : Nat} {own : Addr → Prop} {P : Nat → V → Hp → Prop} {Q : VK} {p : α → Bool} (xs : List α) (st : α → L2.St) (o : α → HO) (R : α → V → Hp → Prop) (hs : Src wi σ H n own P) (hn : n ≤ 40000) (hx : xs.length = n)
    (hP : ∀ i x H1, Ex H H1 → P i x H1 → ∃ a, xs[i]? = some a ∧ R a x H1) (hg : ∀ a x H1 (Q' : L2.St → Hp → Prop), R a x H1 → Q' (st a) H1 → g x (wipe σ vs) H1 Q') (hw : ∀ a, wipe (st a) vs = wipe σ vs)
    (ht : ∀ a H1, Ex H H1 → a ∈ xs → EvT t (st a) H1 (p a)) (he : ∀ a H1, Ex H H1 → a ∈ xs → p a = true → ∀ Q' : VK, (∀ q H2, H1 q = none → Ex H1 H2 → H2 q = some (o a) → Q' (.ref q) H2) → te (st a) H1 Q')
    (k : ∀ q H2 ps, H q = none → Ex H H2 → H2 q = some (.lst (ps.map V.ref)) → All2 (fun b a => H2 b = some (o a) ∧ H b = none ∧ b ≠ q) ps (xs.filter p) → Q (.ref q) H2) : tLc wi g t te vs σ H Q :=
  hs H (Ex.refl H) _ fun J H1 S e1 w hS => fun Dl hD => by
    have hDH : H Dl = none := fresh_back e1 hD
    have ftk : ∀ {i a}, xs[i]? = some a → (xs.take (i + 1)).filter p = (xs.take i).filter p ++ if p a = true then [a] else [] := fun {i a} ha => by
      rw [List.take_add_one, ha, List.filter_append]
      congr 1
      cases z : p a with
      | true => simp [z]
      | false => simp [z]
    refine lc_it w (Qd := fun H3 => Q (.ref Dl) H3) (fun i Hi => Ex H1 Hi ∧ ∃ ps : List Addr, Hi Dl = some (.lst (ps.map V.ref)) ∧ ps.length ≤ i ∧ All2 (fun b a => Hi b = some (o a) ∧ H b = none ∧ b ≠ Dl) ps ((xs.take i).filter p)) ?_ (fun i Hi hi p => hS (fun _ => False) Hi (fun b z => z.elim) (.of p.1)) ?_ ?_
    · exact ⟨Ex.new hD, [], upd_same, Nat.le_refl _, .nil⟩
    · rintro i x Ha Hb hi ⟨R1, ps, h1, h2, h3⟩ ⟨ey, hPi⟩
      have eB : Ex H Hb := e1.trans (R1.trans ey)
      obtain ⟨a, ha, hr⟩ := hP i x Hb eB hPi
      have hm := List.mem_of_getElem? ha
      refine hg a x Hb _ hr ⟨hw a, ht a Hb eB hm Hb (Ex.refl _) _ fun H3 e3 => ?_⟩
      have hft := ftk ha
      cases hp : p a with
      | true =>
        rw [hp, if_pos rfl] at hft
        show te (st a) H3 fun y H4 => ∃ acc, H4 Dl = some (.lst acc) ∧ acc.length < sizeLine ∧ _
        refine he a H3 (eB.trans e3) hm hp _ fun q H4 hq e4 h4 => ?_
        have hDl4 : H4 Dl = some (.lst (ps.map V.ref)) := e4 _ _ (e3 _ _ (ey _ _ h1))
        have nqD : q ≠ Dl := fun z => by rw [z, e3 _ _ (ey _ _ h1)] at hq; cases hq
        have eM : Ex H1 (upd H4 Dl (.lst (ps.map V.ref ++ [.ref q]))) := Ex.mut (((R1.trans ey).trans e3).trans e4) hD
        refine ⟨ps.map V.ref, hDl4, sz_lt (by rw [List.length_map]; omega), eM, ps ++ [q], by rw [upd_same, List.map_append]; rfl, by rw [List.length_append, List.length_singleton]; omega, ?_⟩
        rw [hft]
        exact (h3.mono fun b a' r => ⟨by rw [upd_ne r.2.2]; exact e4 _ _ (e3 _ _ (ey _ _ r.1)), r.2⟩).push ⟨by rw [upd_ne nqD]; exact h4, fresh_back (eB.trans e3) hq, nqD⟩
      | false =>
        rw [hp, if_neg Bool.false_ne_true, List.append_nil] at hft
        show Ex H1 H3 ∧ _
        refine ⟨(R1.trans ey).trans e3, ps, e3 _ _ (ey _ _ h1), by omega, ?_⟩
        rw [hft]
        exact h3.mono fun b a' r => ⟨e3 _ _ (ey _ _ r.1), r.2⟩
    · rintro H3 ⟨R1, ps, h1, h2, h3⟩
      rw [← hx, List.take_length] at h3
      exact k Dl H3 ps hDH (e1.trans R1) h1 h3
/-- as el_lcG, the heap of each turn known to be a greater one -/
theorem el_lcE {α : Type} {wi : TI} {g : TG} {vs : List Nat} {n : Nat} {own : Addr → Prop} {P : Nat → V → Hp → Prop} {gv : α → V} {p : α → Bool} (xs : List α) (st : α → L2.St) (hs : Src wi σ H n own P) (hn : n ≤ 40000) (hx : xs.length = n)
    (hP : ∀ i x H1, Ex H H1 → P i x H1 → ∃ a, xs[i]? = some a ∧ ∀ Q' : L2.St → Hp → Prop, Q' (st a) H1 → g x (wipe σ vs) H1 Q') (hw : ∀ a, wipe (st a) vs = wipe σ vs)
    (ht : ∀ a H1, Ex H H1 → a ∈ xs → EvT t (st a) H1 (p a)) (he : ∀ a H1, Ex H H1 → a ∈ xs → p a = true → Ev te (st a) H1 (gv a)) : EvL (tLc wi g t te vs) σ H ((xs.filter p).map gv) := fun H0 e Q q => by
  have hgm := given_map xs p gv (fun i => match xs[i]? with | some a => p a | none => false) (fun i => match xs[i]? with | some a => gv a | none => .non) (fun i a ha => by simp only [ha]) (fun i a ha => by simp only [ha])
  rw [hx] at hgm
  generalize hf : (fun (i : Nat) => match xs[i]? with | some a => p a | none => false) = f at hgm
  generalize hv : (fun (i : Nat) => match xs[i]? with | some a => gv a | none => V.non) = v at hgm
  exact hs H0 e _ fun J H1 S e1 w hS => fun Dl hD =>
    lc_it w (Qd := fun H3 => Q (.ref Dl) H3) (Cw H1 f v Dl) ⟨hD, Ex.new hD, upd_same⟩ (fun i Hi _ c => hS (fun _ => False) Hi (fun _ z => z.elim) (.of c.2.1)) (fun i x Hi Hj hi c hy => by
      obtain ⟨ey, hPi⟩ := hy
      have c' : Cw H1 f v Dl i Hj := ⟨c.1, c.2.1.trans ey, ey _ _ c.2.2⟩
      have eAll : Ex H Hj := (e.trans e1).trans c'.2.1
      obtain ⟨a, ha, hg⟩ := hP i x Hj eAll hPi
      have hm : a ∈ xs := List.mem_of_getElem? ha
      have fa : f i = p a := by rw [← hf]; simp only [ha]
      have va : v i = gv a := by rw [← hv]; simp only [ha]
      obtain ⟨c1, c2, c3⟩ := c'
      refine hg _ ⟨hw a, ht a Hj eAll hm Hj (Ex.refl _) _ fun H3 e3 => ?_⟩
      cases hp : p a with
      | true =>
        show te (st a) H3 fun y H4 => ∃ acc, H4 Dl = some (.lst acc) ∧ acc.length < sizeLine ∧ Cw H1 f v Dl (i + 1) (upd H4 Dl (.lst (acc ++ [y])))
        refine he a Hj eAll hm hp H3 e3 _ fun H4 e4 => ⟨given i f v, e4 Dl _ (e3 Dl _ c3), sz_lt (by have := given_len i f v; omega), c1, Ex.mut ((c2.trans e3).trans e4) c1, ?_⟩
        rw [given_yes (fa.trans hp), va]
        exact upd_same
      | false =>
        show Cw H1 f v Dl (i + 1) H3
        refine ⟨c1, c2.trans e3, ?_⟩
        rw [given_no (fa.trans hp)]
        exact e3 Dl _ c3) (fun H3 c => by
      refine q Dl H3 (fresh_back e1 c.1) (e1.trans c.2.1) ?_
      rw [← hgm]
      exact c.2.2)
/-- x in ts, of texts -/
theorem inV_T (x : Tx) (ts : List Tx) : inV (T x) (ts.map T) = decide (x ∈ ts) := by
  unfold inV
  rw [List.any_map]
  rw [Bool.eq_iff_iff, List.any_eq_true, decide_eq_true_eq]
  constructor
  · rintro ⟨y, hy, h⟩
    have h : eqV (T y) (T x) = true := h
    unfold eqV at h
    have := eq_of_beq h
    rw [SX.S_inj this] at hy
    exact hy
  · intro h
    refine ⟨x, h, ?_⟩
    show eqV (T x) (T x) = true
    unfold eqV
    exact beq_self_eq_true _
theorem flat_T (ts : List Tx) : (ts.map T).all flatV = true := by
  rw [List.all_map, List.all_eq_true]
  intro x _
  rfl
end
end Ws
set_option Elab.async false
set_option linter.all false
set_option maxRecDepth 100000
set_option maxHeartbeats 2000000
/-! name = {k: v for ..} on one line, the name a local -/
namespace Ws
open PySem PySem.Spec PyProof.Rows L2 Evl Wc Wt Wg Wd
def rNotInT : R2 := fun x y H Q => ∃ (c : Nat) (z : Tx), x = T [c] ∧ y = T z ∧ Q (.bl (!decide (c ∈ z))) H
theorem op_notInT {X : Cx} : OpR X (compareOp .NotIn) rNotInT := by
  intro pins s σ H x y v u Q I rx ry h
  obtain ⟨c, z, rfl, rfl, q⟩ := h
  exact op_notIn_sign pins s σ H _ _ v u Q I rx ry ⟨c, SX.S z, rfl, rfl, q⟩
theorem rv_notInT {H : Hp} {c : Nat} {b : Tx} : RV rNotInT (T [c]) (T b) H (.bl (!decide (c ∈ b))) := rv_val fun H1 _ Q q => ⟨c, b, rfl, rfl, q⟩
/-- one named value -/
def sw1 {α : Type} : List α → List α → List α
  | [], [a] => [a]
  | _, _ => []
theorem sw1_rel {vs zs : List V} {us ws : List Value} (r : Vals vs us) (rz : Vals zs ws) : Vals (sw1 vs zs) (sw1 us ws) := by
  cases r with
  | cons => exact .nil
  | nil =>
    match zs, ws, rz with
    | [], _, .nil => exact .nil
    | [_], _, .cons h1 .nil => exact .cons h1 .nil
    | _ :: _ :: _, _, .cons _ (.cons _ _) => exact .nil
theorem kb1 {x : PySem.Str} {st : Stmt} {ps ks : List PySem.Str} (hp : ps.length = 1)
    (h : ∀ (kV doc pm : Value) (an : Option Addr) (cdv ct a : Value), bindArgs (PySem.W.fnOf x x (defArgs st) (defBody st) (defScope st) .none kV doc pm an cdv ct) ⟨[], ks.zip [a]⟩ = pure (ps.zip (sw1 [] [a]))) : KB x st 0 ps ks sw1 sw1 := by
  intro K f fd F
  obtain ⟨oc, od, kV, doc, pm, an, cdv, ct, osl, rfl, lk, hcd⟩ := F.ex
  refine ⟨fun s us ws _ hl => ?_, fun r rz => sw1_rel r rz⟩
  rw [hp] at hl
  match us, ws, hl with
  | [], [a], _ => exact .of_eq (h kV doc pm an cdv ct a)
  | [], [], hl => exact absurd hl (by simp [sw1])
  | [], _ :: _ :: _, hl => exact absurd hl (by simp [sw1])
  | _ :: _, ws, hl => exact absurd hl (by simp [sw1])
section
variable {X : Cx}
theorem sw_trueD {kx vx : Expr} {gs : List Comprehension} {scope : Scope} {pos py : Pos} {y : PySem.Str} {l : Nat} {env : Env} (hk : env.scope.kind = .function) (hy : env.scope.names.lookup y = some .local) (hl : (py.line == pos.line) = true)
    (ha : (scope.names.any fun (n, k) => n == y && (k == .local || k == .cell)) = false) : swapsWith (.DictComp kx vx gs scope pos) (some (.Name y py)) l env = pure true := by
  have ky : env.kindOf y = some .local := hy
  have hb : env.blockKind = .function := by unfold Env.blockKind; rw [hk]; rfl
  unfold swapsWith
  simp only [hb, ky, ha, Expr.pos, hl]
  rfl
theorem ps_setDc {i : Nat} {y : PySem.Str} {py : Pos} {kx vx tg iter : Expr} {ifs : List Expr} {scope : Scope} {own : List (PySem.Str × Nat)} {pos spos : Pos} {wi : TI} {g : TG} {tt : TT} {tk tv : TE} (hc : X.calm = true) (hN : X.N.Nodup) (hy : X.N[i]? = some y) (hyl : X.env.scope.names.lookup y = some .local)
    (hsw : swapsWith (.DictComp kx vx [⟨tg, iter, ifs, 0⟩] scope pos) (some (.Name y py)) spos.line X.env = pure true) (hi : PI X tg iter wi) (ok : BlkOk X.N X.env.scope scope own)
    (hg : ∀ (s : Shared) (H : Hp) (C : Addr) (cl : List (PySem.Str × Addr)) (fp : List Addr), PG (X.blk s H scope (compEnvC scope cl C X.env) fp) tg g) (ht : ∀ (s : Shared) (H : Hp) (C : Addr) (cl : List (PySem.Str × Addr)) (fp : List Addr), PTs (X.blk s H scope (compEnvC scope cl C X.env) fp) ifs tt)
    (hk : ∀ (s : Shared) (H : Hp) (C : Addr) (cl : List (PySem.Str × Addr)) (fp : List Addr), PE (X.blk s H scope (compEnvC scope cl C X.env) fp) kx tk)
    (he : ∀ (s : Shared) (H : Hp) (C : Addr) (cl : List (PySem.Str × Addr)) (fp : List Addr), PE (X.blk s H scope (compEnvC scope cl C X.env) fp) vx tv) (hs : ∀ x, foldedSetIterable iter X.env x = pure x := by intro _; rfl) :
    PS X (.Assign [.Name y py] (.DictComp kx vx [⟨tg, iter, ifs, 0⟩] scope pos) spos) (tAsg (tDc wi g tt tk tv (own.map (·.2))) (gName i)) := by
  refine ⟨fun pins s σ H D I h => ?_⟩
  rw [exec_Assign_Name_used _ _ _ _ hsw]
  refine wpAny_bind (wpAny_standAt (wpAny_bind ?_))
  show wpAny _ X.A (do let _ ← comprehension (.DictComp kx vx [⟨tg, iter, ifs, 0⟩] scope pos) scope X.env (firstIterPos [⟨tg, iter, ifs, 0⟩] pos) newDict false (eval iter X.env) (some (assign (.Name y py) X.env))) _ _ s
  have h : tDc wi g tt tk tv (own.map (·.2)) σ H (fun x H1 => gName i x σ H1 D.nx) := h
  refine wpAny_bind (thn (dc_core (Qf := fun _ s' => SP X pins D .next s') hc hN I hi ok hg ht hk he hs h fun L C s' m H' I' q hn f => ?_) fun _ s' hq => wpAny_pure (wpAny_pure hq))
  show wpAny _ _ (assign (.Name y py) X.env (.ref L)) _ _ _
  refine wpAny_assign_Name (store_ok2 (v := V.ref L) I' hN hy (.inl hyl) rfl (fun s2 I2 ⟨a, sb, ha⟩ => ?_) (.inr hyl))
  obtain ⟨f0, f1, f2, f3, f4, f5⟩ := f
  have haC : C ≠ a := by
    rcases ha with z | z
    · rw [z]; exact f1
    · exact fun e => f4 y a z e.symm
  refine ⟨m, hn.sameBut sb haC, fun h3 sb3 => ?_⟩
  exact ⟨_, H', I2.turned (t' := s2.toks) (fun b o hb e => (sb3.2 b hb).trans e) f0 f1 f3 f4 f5, q⟩
end
end Ws
set_option Elab.async false
set_option linter.all false
set_option maxRecDepth 100000
set_option maxHeartbeats 2000000
/-! list(text); a text or a list of one-sign texts -/
namespace Ws
open PySem PySem.Spec PyProof.Rows L2 Evl Wc Wt Wg Wd
def rListT : List V → Hp → VK → Prop := fun xs H Q => ∃ s : Tx, xs = [T s] ∧ s.length ≤ 16777216 ∧ ∀ l, H l = none → Q (.ref l) (upd H l (.lst (s.map fun c => T [c])))
theorem call_list_T {X : Cx} (hc : X.calm = true) : CallR X (.type "list") rListT := by
  intro pins s σ H xs us Q I r h
  obtain ⟨a, rfl, hz, q⟩ := h
  obtain ⟨u, rfl, t, rfl⟩ := vals1 r
  have hz' : a.length ≤ sizeLine := by rw [sizeLine_eq]; omega
  refine call_list_str (I.ok.hd hc) _ t (fun h' tk acc c' hk e hi => ?_) (by show (SX.S a).length ≤ _; rw [S_length]; exact hz')
  refine ⟨.ref s.heap.objs.size, upd H s.heap.objs.size (.lst (a.map fun c => T [c])), I.laid hk (Nat.le_refl _) ⟨by rw [List.length_map]; exact hz', acc.toList, c', ?_, by rw [Array.toArray_toList]; exact e⟩, rfl, q _ (I.hok.fresh (Nat.le_refl _))⟩
  refine vals_of_idx _ _ (by rw [List.length_map, Array.length_toList, hi.1]; exact S_length a) fun j u hj => ?_
  obtain ⟨c, t', hc, rfl⟩ := hi.2 j u (by rw [← Array.getElem?_toList]; exact hj)
  have hc' : a[j]? = some c := by
    have : (a.toArray)[j]? = some c := hc
    simpa using this
  exact ⟨T [c], by rw [List.getElem?_map, hc']; rfl, ⟨_, rfl⟩⟩
def rListAny (K : PySem.W.Frag) : List V → Hp → VK → Prop := fun xs H Q => rListT xs H Q ∨ rListS K xs H Q
theorem call_list_any {X : Cx} (hc : X.calm = true) : CallR X (.type "list") (fun xs H Q => rListT xs H Q ∨ (∃ p ys, xs = [.ref p] ∧ (SqL X.K H p ys ∨ SqT X.K H p ys) ∧ ∀ l, H l = none → Q (.ref l) (upd H l (.lst ys)))) := CallR.or (call_list_T hc) call_list_of
def iAny (K : PySem.W.Frag) (tl : TE) : TI := fun σ H R => iStr tl σ H R ∨ iList K tl σ H R
theorem pi_any {X : Cx} {K : PySem.W.Frag} {tg l : Expr} {tl : TE} (hl : PE X l tl) (hK : X.K = K := by rfl) : PI X tg l (iAny K tl) := hK ▸ pi_or (pi_str hl) (pi_list hl)
/-- signs, as a text or as a list of them -/
def Sgn (H : Hp) (fa : Addr) (v : V) (s : Tx) : Prop := v = T s ∨ ∃ p, v = .ref p ∧ H p = some (.lst (s.map fun c => T [c])) ∧ p ≠ fa
section
variable {K : PySem.W.Frag} {fa : Addr} {σ : L2.St} {H H1 : Hp} {te : TE} {v : V} {s : Tx} {m i : Nat} {Q : VK}
theorem Sgn.ex (h : Sgn H fa v s) (e : Ex H H1) : Sgn H1 fa v s := h.imp id fun ⟨p, h1, h2, h3⟩ => ⟨p, h1, e _ _ h2, h3⟩
theorem Sgn.rf (h : Sgn H fa v s) (R : Rf fa m H H1) : Sgn H1 fa v s := h.imp id fun ⟨p, h1, h2, h3⟩ => ⟨p, h1, R.at_ h2 h3, h3⟩
theorem Sgn.exc {B : Addr → Prop} (h : Sgn H fa v s) (R : Exc B H H1) (hB : ∀ c, c ≠ fa → H c ≠ none → ¬ B c) : Sgn H1 fa v s := h.imp id fun ⟨p, h1, h2, h3⟩ => ⟨p, h1, R p _ (hB p h3 (by rw [h2]; exact fun z => nomatch z)) h2, h3⟩
theorem ev_lenAny (h : Ev te σ H v) (hs : Sgn H fa v s) (hl : s.length ≤ 16777216) : Ev (tCB (rLenAny K) (tCons te tNil)) σ H (.int (s.length : Int)) := by
  rcases hs with rfl | ⟨p, rfl, h2, _⟩
  · exact fun H1 e Q q => h H1 e _ fun H2 e2 => .inl ⟨s, rfl, hl, q H2 e2⟩
  · refine fun H1 e Q q => h H1 e _ fun H2 e2 => .inr ⟨p, _, rfl, .inl (sq_of (e2 _ _ (e _ _ h2))), ?_⟩
    rw [List.length_map]
    exact q H2 e2
theorem el_listAny (h : Ev te σ H v) (hs : Sgn H fa v s) (hl : s.length ≤ 16777216) : EvL (tCB (rListAny K) (tCons te tNil)) σ H (s.map fun c => T [c]) := by
  rcases hs with rfl | ⟨p, rfl, h2, _⟩
  · exact fun H1 e Q q => h H1 e _ fun H2 e2 => .inl ⟨s, rfl, hl, fun l hl => q l _ (fresh_back e2 hl) (e2.trans (Ex.new hl)) upd_same⟩
  · exact fun H1 e Q q => h H1 e _ fun H2 e2 => .inr ⟨p, _, rfl, .inl (sq_of (e2 _ _ (e _ _ h2))), fun l hl => q l _ (fresh_back e2 hl) (e2.trans (Ex.new hl)) upd_same⟩
theorem Src.own {wi : TI} {n : Nat} {own own' : Addr → Prop} {P : Nat → V → Hp → Prop} (h : Src wi σ H n own P) (k : ∀ b, own b → own' b) : Src wi σ H n own' P := fun H1 e R q => h H1 e R fun J H2 S e2 w h2 => q J H2 S e2 w fun B Ha hB ea => h2 B Ha (fun b hb => ⟨(hB b hb).1, fun z => (hB b hb).2 (k b z)⟩) ea
theorem src_any (h : Ev te σ H v) (hs : Sgn H fa v s) (hl : s.length ≤ 40000) : Src (iAny K te) σ H s.length (fun b => v = .ref b) (fun i v _ => (s.map fun c => T [c])[i]? = some v) := by
  rcases hs with rfl | ⟨p, rfl, h2, _⟩
  · exact src_orL (Src.own (src_str h) fun b z => z.elim)
  · exact src_orR (by
      have := src_list (K := K) h (sq_of h2)
      rw [List.length_map] at this
      exact Src.own this fun b z => by rw [z])
theorem wp_oneAny {B : Nat} (h0 : σ[i]? = some (some (.ref fa))) (h : Ev te σ H v) (hs : Sgn H fa v s) (G : GF fa B H) (hn : s ≠ []) (hl : s.length ≤ 16777216) (k : ∀ c H', c ∈ s → Rf fa 1 H H' → Q (T [c]) H') (hB : 1 ≤ B := by omega) : tCall (sp_one K) [] E0 (tCons (tVar i) (tCons te tNil)) σ H Q := by
  rcases hs with rfl | ⟨p, rfl, h2, h3⟩
  · exact wp_oneT h0 h G hn hl k hB
  · refine wp_oneS h0 h (.inl (sq_of h2)) h3 G (fun z => hn (List.map_eq_nil_iff.mp z)) (by rw [List.length_map]; exact hl) (fun v H' hv R => ?_) hB
    obtain ⟨c, hc, rfl⟩ := List.mem_map.mp hv
    exact k c H' hc R
end
end Ws
set_option Elab.async false
set_option linter.all false
set_option maxRecDepth 100000
set_option maxHeartbeats 4000000
/-! t[::-1] of a tuple -/
namespace HT
open PySem PySem.Spec PyProof.Rows
section
variable {prog : Program} {w : World} {A : Around} {E : Value → Shared → Prop} {s : Shared}
theorem adjust_rev (n : Nat) (hn : 1 ≤ n) : Builtin.Slice.sliceAdjust none none (-1) (n : Int) = ((n : Int) - 1, -1) := by
  unfold Builtin.Slice.sliceAdjust
  simp
theorem places_rev (n : Nat) (hn : 1 ≤ n) : Builtin.Slice.slicePlaces ((n : Int) - 1) (-1) (-1) = n := by
  unfold Builtin.Slice.slicePlaces
  have h1 : ¬ ((-1 : Int) > 0) := by decide
  simp only [h1, if_false]
  rw [if_pos (by omega), show (- -1 : Int) = 1 by decide, Int.ediv_one]
  omega
theorem sliceApplied_rev {sl : Addr} {u : Tok} {n : Nat} {Q : Int × Int × Nat → Shared → Prop} (hn : 1 ≤ n) (hs : s.heap.IsSliceOf sl .none .none (.int (-1) u))
    (h : Q ((n : Int) - 1, -1, n) s) : wpAny (model prog w) A (Builtin.Slice.sliceApplied (.ref sl) (pure (n : Int))) Q E s := by
  obtain ⟨os, hos, hcs, hds⟩ := id hs
  unfold Builtin.Slice.sliceApplied Builtin.Slice.sliceFields
  refine wpAny_bind (wpAny_bind (wpAny_field hos hds (x := .none) rfl (wpAny_bind (wpAny_field hos hds (x := .none) rfl (wpAny_bind (wpAny_field hos hds (x := .int (-1) u) rfl (wpAny_pure ?_)))))))
  refine wpAny_bind (slicePart_int ?_)
  show wpAny _ _ (if ((-1 : Int) == 0) = true then _ else _) _ _ s
  rw [if_neg (by decide)]
  refine wpAny_bind (slicePart_none (wpAny_bind (slicePart_none (wpAny_bind (wpAny_pure ?_)))))
  show wpAny _ _ (match Builtin.Slice.sliceAdjust none none (-1) (n : Int) with | (lo, hi) => pure (lo, (-1 : Int), Builtin.Slice.slicePlaces lo hi (-1))) _ _ s
  rw [adjust_rev n hn]
  show wpAny _ _ (pure ((n : Int) - 1, (-1 : Int), Builtin.Slice.slicePlaces ((n : Int) - 1) (-1) (-1))) _ _ s
  rw [places_rev n hn]
  exact wpAny_pure h
theorem fmap_congr {α β : Type} {f g : α → Option β} : ∀ {l : List α}, (∀ a ∈ l, f a = g a) → l.filterMap f = l.filterMap g
  | [], _ => rfl
  | a :: l, h => by
    rw [List.filterMap_cons, List.filterMap_cons, h a List.mem_cons_self, fmap_congr fun b hb => h b (List.mem_cons_of_mem _ hb)]
theorem pick_rev (xs : Array Value) : ((List.range xs.size).filterMap fun (m : Nat) => xs[(((xs.size : Int) - 1) + (m : Int) * -1).toNat]?).toArray = xs.toList.reverse.toArray := by
  congr 1
  rw [← PySem.W.krv_all xs, ← List.filterMap_reverse, ← PySem.W.krv_range, List.filterMap_map]
  refine fmap_congr fun m hm => ?_
  show xs[_]? = xs[xs.size - 1 - m]?
  congr 1
  omega
theorem getItem_tuple_rev {t sl : Addr} {items : Array Value} {u : Tok} {Q : Value → Shared → Prop} (ht : IsTup s.heap t items) (hs : s.heap.IsSliceOf sl .none .none (.int (-1) u)) (hn : 1 ≤ items.size)
    (h : Q (.ref s.heap.objs.size) { s with heap := s.heap.push { cls := .type "tuple", data := .seq items.toList.reverse.toArray } })
    (hsz : items.size ≤ sizeLine) : wpAny (model prog w) A (getItem (.ref t) (.ref sl)) Q E s := by
  have htake : sizeOk (.seq items.toList.reverse.toArray) := by
    show items.toList.reverse.toArray.size ≤ sizeLine
    rw [List.size_toArray, List.length_reverse, Array.length_toList]
    omega
  obtain ⟨os, hos, hcs, hds⟩ := id hs
  have hTs : s.TypeIs (.ref sl) "slice" := ⟨os, hos, hcs⟩
  unfold getItem
  try with_reducible refine wpAny_holding ?_
  first | refine wpAny_bind (wpAny_pure ?_) | skip
  refine wpAny_bind (wpAny_sequenceKey ht.typeIs (by decide) ?_)
  refine wpAny_bind (wpAny_callSpecial?_slot (name := Str.ofString "__getitem__") ht.typeIs PyProof.Rows.slot_tuple_getitem
    (wpAny_call_entry PyProof.Rows.slot_tuple_getitem ht.typeIs entry_tuple_getitem ?_ (args_tuple_getitem _ _)))
  show wpAny _ _ (Builtin.Tuple.tupleItemsOf (.ref t) >>= _) _ _ s
  refine wpAny_bind (tupleItemsOf_ ht ?_)
  refine wpAny_bind (wpAny_typeOf hTs ?_)
  rw [if_pos (by decide)]
  refine wpAny_bind (sliceApplied_rev hn hs ?_)
  have hno : ¬ ((((items.size : Int) - 1) == 0 && (-1 : Int) == 1 && items.size == items.size) = true) := by
    intro q
    rw [Bool.and_eq_true, Bool.and_eq_true] at q
    exact absurd q.1.2 (by decide)
  show wpAny _ _ (if (((items.size : Int) - 1) == 0 && (-1 : Int) == 1 && items.size == items.size) = true then _ else _) _ _ s
  rw [if_neg hno, pick_rev]
  first
    | exact wpAny_bind (m := Builtin.Tuple.tupleExact _) (wpAny_newObj_type (wpAny_pure ⟨_, rfl, wpAny_pure h⟩) htake)
    | exact wpAny_bind (m := Builtin.Tuple.tupleExact _) (wpAny_newObj_type (wpAny_bind (wpAny_pure (wpAny_pure ⟨_, rfl, wpAny_pure h⟩))) htake)
    | exact wpAny_bind (wpAny_bind (m := Builtin.Tuple.tupleExact _) (wpAny_newObj_type (wpAny_pure (wpAny_pure ⟨_, rfl, wpAny_pure h⟩)) htake))
    | exact wpAny_bind (wpAny_bind (m := Builtin.Tuple.tupleExact _) (wpAny_newObj_type (wpAny_pure ⟨_, rfl, wpAny_pure h⟩) htake))
end
end HT
namespace Ws
open PySem PySem.Spec PyProof.Rows L2 Evl Wc Wt Wg Wd
def tRevU (K : PySem.W.Frag) (te : TE) : TE := fun σ H Q => te σ H fun x H1 => ∃ a xs, x = .ref a ∧ SqT K H1 a xs ∧ xs ≠ [] ∧ ∀ p, H1 p = none → Q (.ref p) (upd H1 p (.tup xs.reverse))
theorem pe_revU {X : Cx} {K : PySem.W.Frag} {e : Expr} {te : TE} {k : Nat} {p1 p2 p3 pos : Pos} (he : PE X e te) (hK : X.K = K := by rfl) : PE X (.Subscript e (.Slice none none (some (.UnaryOp .USub (.Constant (.int 1) k p1) p2)) p3) pos) (tRevU K te) := by
  subst hK
  refine ⟨fun pins s σ H Q I h => ?_⟩
  refine Subscript_ (thn (he.run pins s σ H _ I h) fun v s1 ⟨x, H1, I1, r1, q1⟩ => ?_)
  obtain ⟨a, xs, ex, hx, hne, q⟩ := q1
  subst ex
  cases r1
  have hst : PO X (some (.UnaryOp .USub (.Constant (.int 1) k p1) p2)) (tPart (tUn (rU fun i => .int (-i)) (tC (.int 1)))) := po_some (pe_un un_neg pe_int)
  refine wpAny_Slice (thn (po_none.run pins s1 σ H1 (fun o H2 => o = none ∧ H2 = H1) I1 ⟨rfl, rfl⟩) fun vl s2 ⟨l, H2, I2, pl, el, e2⟩ => ?_)
  subst el e2
  refine thn (po_none.run pins s2 σ H2 (fun o H3 => o = none ∧ H3 = H2) I2 ⟨rfl, rfl⟩) fun vu s3 ⟨u, H3, I3, pu, eu, e3⟩ => ?_
  subst eu e3
  refine thn (hst.run pins s3 σ H3 (fun o H4 => o = some (-1) ∧ H4 = H3) I3 ⟨1, rfl, -1, rfl, rfl, rfl⟩) fun vs s4 ⟨o, H4, I4, ps, eo, e4⟩ => ?_
  subst eo e4
  cases pl
  cases pu
  cases ps with
  | int i tk =>
  have I5 : Inv X pins σ H4 { s4 with heap := s4.heap.push { cls := .type "slice", data := .fields #[.none, .none, .int (-1) tk] } } := I4.kept (t' := s4.toks) fun b ob q => Heap.get?_push_of_some _ q
  obtain ⟨its, r, ht, hz⟩ := I5.tuple hx
  have hlen := r.length
  show wpAny (model X.prog X.w) X.A (subscriptTail e (.Slice none none (some (.UnaryOp .USub (.Constant (.int 1) k p1) p2)) p3) (.ref a) (.ref s4.heap.objs.size)) (EP X pins σ Q) X.xe { s4 with heap := s4.heap.push { cls := .type "slice", data := .fields #[.none, .none, .int (-1) tk] } }
  refine tail_any (ops := [.ref a, .ref s4.heap.objs.size]) ht.typeIs (PyProof.Rows.slot_tuple_getitem.lookup) ?_ (by with_unfolding_all rfl)
  refine HT.getItem_tuple_rev ht (Heap.IsSliceOf.new _ .none .none (.int (-1) tk)) (by rw [List.size_toArray, ← hlen]; exact List.length_pos_iff.mpr hne) ?_ (by rw [List.size_toArray]; omega)
  refine ⟨.ref _, _, I5.laid (t' := s4.toks) (o := .tup xs.reverse) (fun b ob q => Heap.get?_push_of_some _ q) (Nat.le_refl _) ?_, rfl, q _ (I5.hok.fresh (Nat.le_refl _))⟩
  exact ⟨by rw [List.length_reverse]; exact hz, _, r.reverse, IsTup.new _ _⟩
section
variable {K : PySem.W.Frag} {σ : L2.St} {H : Hp} {te tb : TE}
theorem eu_revU {p : Addr} {xs : List V} (h : Ev te σ H (.ref p)) (hp : H p = some (.tup xs)) (hne : xs ≠ []) : EvU (tRevU K te) σ H xs.reverse := fun H1 e Q q => h H1 e _ fun H2 e2 => ⟨p, xs, rfl, st_of ((e.trans e2) _ _ hp), hne, fun r hr => q r _ (fresh_back e2 hr) (e2.trans (Ex.new hr)) upd_same⟩
/-- t * 2 of a new tuple -/
theorem eu_mul {xs : List V} {n : Nat} (h : EvU te σ H xs) (hn : Ev tb σ H (.int (n : Int))) (hne : xs ≠ []) (h2 : 2 ≤ n) (h3 : n ≤ 1000) (hl : xs.length ≤ 1000) : EvU (tOp (rRepT K) te tb) σ H (List.replicate n xs).flatten := fun H1 e Q q => h H1 e _ fun p H2 hp e2 hp2 => hn H2 (e.trans e2) _ fun H3 e3 => ⟨p, (n : Int), xs, rfl, rfl, st_of (e3 _ _ hp2), hne, by omega, by omega, hl, fun r hr => by
  rw [Int.toNat_natCast]
  exact q r _ (fresh_back (e2.trans e3) hr) ((e2.trans e3).trans (Ex.new hr)) upd_same⟩
/-- t + u, both not empty, u new -/
theorem eu_catA {p : Addr} {xs ys : List V} (h : Ev te σ H (.ref p)) (hp : H p = some (.tup xs)) (hb : EvU tb σ H ys) (hx : xs ≠ []) (hy : ys ≠ []) (hl : xs.length + ys.length ≤ 100000) : EvU (tOp (rCatA K) te tb) σ H (xs ++ ys) := fun H1 e Q q => h H1 e _ fun H2 e2 => hb H2 (e.trans e2) _ fun r H3 hr e3 h3 => ⟨p, r, xs, ys, rfl, rfl, st_of (((e.trans e2).trans e3) _ _ hp), st_of h3, sz_of hl, fun z => absurd z hx, fun _ z => absurd z hy, fun _ _ n hn => q n _ (fresh_back (e2.trans e3) hn) ((e2.trans e3).trans (Ex.new hn)) upd_same⟩
/-- list(t) -/
theorem el_listU {p : Addr} {xs : List V} (h : Ev te σ H (.ref p)) (hp : H p = some (.tup xs)) : EvL (tCB (rListS K) (tCons te tNil)) σ H xs := fun H1 e Q q => h H1 e _ fun H2 e2 => ⟨p, xs, rfl, .inr (st_of ((e.trans e2) _ _ hp)), fun r hr => q r _ (fresh_back e2 hr) (e2.trans (Ex.new hr)) upd_same⟩
theorem krepT {X : Cx} {K : PySem.W.Frag} (hK : X.K = K := by rfl) : OpR X (binaryOp .Mult) (rRepT K) := hK ▸ op_repT
end
end Ws
set_option Elab.async false
set_option linter.all false
set_option maxRecDepth 100000
set_option maxHeartbeats 4000000
/-! an error that is kept behind its except suite; isinstance of it -/
namespace We
open PySem PySem.Spec PyProof.Rows L2 Evl Wc Wt Wg
/-- the error at a -/
def ExO (cls : Value) (d : Option Addr) (a : Addr) : HO := .ext fun h => ∃ (oe : Obj) (vs : Array Value), h.get? a = some oe ∧ oe.cls = cls ∧ oe.dict = d ∧ oe.data = .fields vs
section
variable {X : Cx} {pins : List (Addr × Obj)} {σ : L2.St} {H : Hp} {s : Shared} {a : Addr}
theorem exO_ok {P : Program} {w : World} {H : Hp} {h : Heap} {cls : Value} {d : Option Addr} {oe : Obj} (he : h.get? a = some oe) (hz : Zc cls d oe) (hd : ∃ vs, oe.data = .fields vs) : ObjOk P w H h a (ExO cls d a) := by
  obtain ⟨vs, hd⟩ := hd
  exact ⟨⟨oe, vs, he, hz.1, hz.2, hd⟩, ⟨oe, he⟩, fun h1 h2 ⟨o, v, x1, x2⟩ k => ⟨o, v, k o x1, x2⟩⟩
/-- an object that stands is looked after from now on -/
theorem track {o : HO} (I : Inv X pins σ H s) (na : H a = none) (nL : a ≠ X.env.locals) (nC : ∀ x c, X.env.cells.lookup x = some c → c ≠ a) (nP : ∀ p ∈ X.pn ++ pins, p.1 ≠ a) (n0 : X.s_0.heap.get? a = none) (new : ObjOk X.prog X.w (upd H a o) s.heap a o) : Inv X pins σ (upd H a o) s where
  ok := I.ok
  os := I.os
  bare := I.bare
  base := ⟨I.base.keep, I.base.slot, fun b u e n hx => by rw [upd_ne (fun z => by rw [z, n0] at e; cases e)]; exact I.base.free b u e n hx, I.base.there, fun b xs e => by have := I.base.tups b xs e; rw [upd_ne (fun z => by rw [z, na] at this; cases this)]; exact this, fun b u v e => by have := I.base.frzs b u v e; rw [upd_ne (fun z => by rw [z, na] at this; cases this)]; exact this, fun b ps e => by
    obtain ⟨more, hm⟩ := I.base.tbls b ps e
    exact ⟨more, by rw [upd_ne (fun z => by rw [z, na] at hm; cases hm)]; exact hm⟩⟩
  loc := I.loc
  cell := I.cell
  free := by rw [upd_ne (Ne.symm nL)]; exact I.free
  freeC := fun x c e => by rw [upd_ne (nC x c e)]; exact I.freeC x c e
  pin := fun p hp => by
    obtain ⟨h1, h2, h3⟩ := I.pin p hp
    exact ⟨h1, by rw [upd_ne (nP p hp)]; exact h2, h3⟩
  hok := fun b u e => by
    by_cases hb : b = a
    · subst hb
      rw [upd_same] at e
      cases e
      exact new
    · rw [upd_ne hb] at e
      exact (I.hok b u e).stay (fun c v _ q => q) (fun c q => by rw [upd_ne (ne_of_none q na)]; exact q) fun c xs q => by rw [upd_ne (ne_of_none q na)]; exact q
  len := I.len
/-- isinstance of a kept error -/
def rIsK (K : PySem.W.Frag) : List V → Hp → VK → Prop := fun xs H Q => ∃ (a D : Addr) (c : V) (cv : Value) (b : Bool), xs = [.ref a, c] ∧ H a = some (ExO (.ref D) none a) ∧ ExcC K D ∧ (∀ u, RelV c u → u = cv) ∧ PySem.W.kitOne K (.ref D) cv = some b ∧ Q (.bl b) H
theorem cr_isK : CallR X (.builtin "isinstance") (rIsK X.K) := by
  intro pins s σ H xs us Q I r h
  obtain ⟨a, D, c, cv, b, rfl, hx, C, hcv, e, q⟩ := h
  cases r with
  | cons rx rr =>
    cases rr with
    | cons rt rr =>
      cases rr
      cases rx
      have ec := hcv _ rt
      subst ec
      obtain ⟨⟨oe, vs, hget, h1, h2, hv⟩, _⟩ := (I.hok a _ hx : ObjOk X.prog X.w H s.heap a (ExO (.ref D) none a))
      have J : PySem.W.InstAt s.heap a oe D none := by
        obtain ⟨oc, od, oda, osl⟩ := oe
        dsimp only at h1 h2 hv
        subst h1 h2 hv
        exact ⟨hget, rfl, rfl, trivial⟩
      exact PySem.W.kia_one (PySem.W.handS_kitx_exc C.hg C.hk C.hs C.hd C.ha C.hn C.ht C.hm) I.kIn J e (fun z => nomatch z) fun tk => ⟨.bl b, H, I.kept (t' := tk) fun _ _ z => z, rfl, q⟩
end
theorem kisK {X : Cx} {K : PySem.W.Frag} (hK : X.K = K := by rfl) : CallR X (.builtin "isinstance") (rIsK K) := hK ▸ cr_isK
/-- as wAs of HandS, the error looked after behind the suite -/
def wKeep (K : PySem.W.Frag) (c : Value) (i : Nat) (ts : Addr → Value → Option Addr → TS) (Wout : WX) (D : Ends) : WX := fun cls d σ H =>
  ∃ b, PySem.W.exmOne K cls c = some b ∧ (b = true → ∀ a, H a = none → ts a cls d { nx := fun σ' H' => H' a = none → D.nx (σ'.set i none) (upd H' a (ExO cls d a)), rt := fun _ _ => False, bk := fun _ _ => False, ct := fun _ _ => False } (σ.set i (some (.ref a))) H) ∧ (b = false → Wout cls d σ H)
section
variable {X : Cx} {x n : Str} {c : Value} {i : Nat} {body suite : List Stmt} {b₀ : Stmt} {np pos pos' : Pos} {tb : WX → TS} {ts : Addr → Value → Option Addr → TS} {Wout : WX}
theorem ps_try_keep (hs : X.stack = X.env :: X.outer) (hf : X.env.frame = some X.env.locals) (hN : X.N.Nodup) (hi : X.N[i]? = some n) (hln : X.env.kindOf n = some .local) (hc : Names X x c) (tk : Takes X Wout) (hex : X.ex = [])
    (hb : ∀ (W : WX) (pn : List (Addr × Obj)) (xe : Value → Shared → Prop), Takes (X.tr pn xe) W → PassesOwn (model X.prog X.w) X.A X.env xe → PSs (X.tr pn xe) body (tb W))
    (hsu : ∀ (a : Addr) (oe : Obj) (cls : Value) (d : Option Addr) (pn : List (Addr × Obj)), Zc cls d oe → (∃ vs, oe.data = .fields vs) → PSs (X.suite a ((a, oe) :: pn)) (b₀ :: suite) (ts a cls d)) :
    PS X (.Try body [.ExceptHandler (some (.Name x np)) (some n) (b₀ :: suite) pos'] [] [] pos) (fun D σ H => tb (wKeep X.K c i ts Wout D) D σ H) := by
  refine ⟨fun pins s σ H D I h => ?_⟩
  have ok := I.ok
  have hfr : X.A.frames = some (X.env :: X.outer) := by rw [ok.frames, hs]
  refine wpAny_Try_except ?_
  refine wpAny_mono ((hb (wKeep X.K c i ts Wout D) (X.pn ++ pins) (fun e s₁ => wpAny (model X.prog X.w) X.A (noteFrame e X.env) (fun _ s₂ => wpAny (model X.prog X.w) X.A (setFlight e none) (fun _ s₃ =>
    wpAny (model X.prog X.w) X.A (handleBy e X.env [.ExceptHandler (some (.Name x np)) (some n) (b₀ :: suite) pos']) (SP X pins D) X.xe s₃) X.xe s₂) X.xe s₁) (fun u s' xx => ?_) PassesOwn.looking).run [] s σ H D (I.toTry _) h) (fun f s1 hsp => ?_) (fun e s1 he => he)
  · obtain ⟨a, B, sI, pins', σ', H', cls, d, rfl, J', nb, up, sky, na, os, ag, b, hb1, hyes, hno⟩ := xx
    have J : Inv X pins σ' H' sI := J'.ofTry ok
    show wpAny (model X.prog X.w) X.A (noteFrame (.ref a) X.env) _ _ _
    refine Sky.land Zc.steady hfr hf (by rw [← hs]; exact sky) fun h3 fl3 up3 => ?_
    have J3 : Inv X pins σ' H' { s' with heap := h3 } := J.landed nb fl3.1 (up.trans up3) os ag
    obtain ⟨oe3, vs3, he3, hz3, hd3⟩ := fl3.there
    have nfr : a ∉ frs (X.env :: X.outer) := fun hm => by
      obtain ⟨_, o', e', hnf⟩ := fl3.2.2.1.mem hm
      rw [he3] at e'
      cases e'
      exact hnf _ hd3
    have nI : sI.heap.get? a = none := by
      cases e : sI.heap.get? a with
      | none => rfl
      | some o =>
        have e1 := nb a o e (by rw [hs]; exact nfr)
        rw [fl3.2.1] at e1
        cases e1
    have n0 : X.s_0.heap.get? a = none := by
      cases e : X.s_0.heap.get? a with
      | none => rfl
      | some o =>
        obtain ⟨o', e1⟩ := J.base.there a o e (by rw [hex]; exact fun z => nomatch z)
        rw [nI] at e1
        cases e1
    have nL : a ≠ X.env.locals := fun z => nfr (List.mem_filterMap.mpr ⟨X.env, List.mem_cons_self, by rw [hf, z]⟩)
    have nF : a ∉ X.fs := fun hm => by
      obtain ⟨e, he, q⟩ := List.mem_filterMap.mp hm
      exact nfr (List.mem_filterMap.mpr ⟨e, List.mem_cons_of_mem _ he, q⟩)
    have nP : ∀ p ∈ X.pn ++ pins, p.1 ≠ a := fun p hp z => by
      have := (J.pin p hp).1
      rw [z, nI] at this
      cases this
    have S3 := J3.suite he3 hd3 na nL nF
    refine wpAny_handleBy_cons (codeAny_handlers_test ?_) (by intro q; cases q)
    have LM := PySem.W.exm_one (M := model X.prog X.w) (J3.kIn) (fun A Q E s k q => wpAny_typeOf_ref (k _ _ he3) (by rw [hz3.1]; exact q) : PySem.W.Looks (model X.prog X.w) h3 (typeOf (.ref a)) cls) hb1
    have test : ∀ {Q : Value → Shared → Prop} {E : Value → Shared → Prop}, Q c { s' with heap := h3 } → wpAny (model X.prog X.w) (X.A.mark (some (.ref a))) (eval (.Name x np) X.env) Q E { s' with heap := h3 } := fun {Q E} q => by
      obtain ⟨hg, hdbg, hm | ⟨hm, hv, hnn⟩⟩ := hc
      · exact ld_glob (X := X.suite a ((a, oe3) :: (X.pn ++ pins))) S3 hg hm q hdbg
      · exact ld_blt (X := X.suite a ((a, oe3) :: (X.pn ++ pins))) S3 hg hm hv q hnn hdbg
    refine test (LM.here ?_)
    cases b with
    | true =>
      refine codeAny_handlers_suite_as ?_
      refine HandSPX.lands_againZ fl3 fun h4 fl4 up4 => ?_
      have J4 : Inv X pins σ' H' { s' with heap := h4 } := J.landed nb fl4.1 ((up.trans up3).trans up4) os ag
      obtain ⟨oe4, vs4, he4, hz4, hd4⟩ := fl4.there
      have S4 := J4.suite he4 hd4 na nL nF
      refine store_ok (X := X.suite a ((a, oe4) :: (X.pn ++ pins))) (v := .ref a) S4 hN hi (.inl hln) rfl (fun s5 S5 => ?_) (.inr hln)
      refine wpAny_mono ((hsu a oe4 cls d (X.pn ++ pins) hz4 ⟨_, hd4⟩).run [] s5 _ H' _ S5 (hyes rfl a na)) (fun f s6 hsp => ?_) (fun _ _ z => False.elim z)
      cases f with
      | next =>
        obtain ⟨σ6, H6, S6, q6⟩ := hsp
        obtain ⟨g1, g2, _⟩ := S6.pin (a, oe4) (List.mem_append.mpr (.inl List.mem_cons_self))
        have U6 : Inv X pins σ6 H6 s6 := S6.unsuite ok
        have T6 := track U6 g2 nL (fun y cc hy z => by
          obtain ⟨v, hv⟩ := U6.cell y cc hy
          rw [z] at hv
          obtain ⟨ob, e1, e2⟩ := hv
          rw [g1] at e1
          cases e1
          rw [hd4] at e2
          cases e2) nP n0 (exO_ok (cls := cls) (d := d) g1 hz4 ⟨_, hd4⟩)
        exact gone_ok T6 hN hi hln fun s7 J7 => ⟨_, _, J7, q6 g2⟩
      | brk =>
        obtain ⟨σ6, H6, S6, q6⟩ := hsp
        exact False.elim q6
      | cont =>
        obtain ⟨σ6, H6, S6, q6⟩ := hsp
        exact False.elim q6
      | ret u =>
        obtain ⟨v6, σ6, H6, S6, r6, q6⟩ := hsp
        exact False.elim q6
    | false =>
      show wpAny _ X.A (handleBy (.ref a) X.env []) _ _ _
      refine wpAny_handleBy_nil ?_
      obtain ⟨k1, k2, k3, oe, vs, T, oT, ts', he, hz, hd, h1, hr⟩ := id fl3
      unfold PySem.passOn
      refine wpAny_bind (wpAny_field he hd h1 ?_)
      rw [if_neg (show ¬ ((Value.ref T == Value.none) = true) from by simp)]
      have fin : wpAny (model X.prog X.w) X.A (setFlight (.ref a) X.env.frame) (fun _ s4 => wpAny (model X.prog X.w) X.A (throw (.ref a) : Sem Flow) (SP X pins D) X.xe s4) X.xe { s' with heap := h3 } := by
        rw [hf]
        refine HandSPX.setFlight_upZ fl3 fun h4 hh4 up4 => wpAny_throw (tk _ _ ?_)
        exact ⟨a, B, sI, pins, σ', H', cls, d, rfl, J, nb, (up.trans up3).trans up4, .inr (.inr (by rw [hs]; exact hh4)), na, os, ag, hno rfl⟩
      first
        | exact wpAny_bind (wpAny_pure (wpAny_bind fin))
        | exact wpAny_bind fin
  · cases f with
    | next =>
      obtain ⟨σ', H', J', q⟩ := hsp
      exact wpAny_execs_nil ⟨σ', H', J'.ofTry ok, q⟩
    | brk =>
      obtain ⟨σ', H', J', q⟩ := hsp
      exact ⟨σ', H', J'.ofTry ok, q⟩
    | cont =>
      obtain ⟨σ', H', J', q⟩ := hsp
      exact ⟨σ', H', J'.ofTry ok, q⟩
    | ret u =>
      obtain ⟨v, σ', H', J', r, q⟩ := hsp
      exact ⟨v, σ', H', J'.ofTry ok, r, q⟩
end
section
variable {K : PySem.W.Frag} {σ : L2.St} {H : Hp}
theorem rc_isK {a D : Addr} {c : V} {cv : Value} {b : Bool} (hx : H a = some (ExO (.ref D) none a)) (C : ExcC K D) (hcv : ∀ u, RelV c u → u = cv) (e : PySem.W.kitOne K (.ref D) cv = some b) : RC (rIsK K) [.ref a, c] H (.bl b) := fun H1 e1 _ q => ⟨a, D, c, cv, b, rfl, e1 _ _ hx, C, hcv, e, q H1 (Ex.refl H1)⟩
end
end We
set_option Elab.async false
set_option linter.all false
set_option maxRecDepth 100000
set_option maxHeartbeats 2000000
/-! repr of any plain data -/
namespace Wd
open PySem PySem.Spec PyProof.Rows L2 Evl Wc Wt Wg
section
variable {X : Cx}
def rReprD (K : PySem.W.Frag) : List V → Hp → VK → Prop := fun xs H Q => ∃ (v : V) (d : PyData), xs = [v] ∧ Dp K H v d ∧ d.showable = true ∧ d.hasDict = false ∧ d.depth ≤ 50 ∧ d.shown.length ≤ sizeLine ∧ Q (T d.shown.cps.toList) H
theorem cr_reprD (hgd : X.A.guards = some []) (hu : X.A.units + 64 < cLine) : CallR X (.builtin "repr") (rReprD X.K) := by
  intro pins s σ H xs us Q I r h
  obtain ⟨v, d, rfl, hd, h1, h2, h3, h4, q⟩ := h
  obtain ⟨u, rfl, rv⟩ := vals1 r
  have fin : ∀ (tk : Nat) (t : Tok), EP X pins σ Q (.str d.shown t) { s with toks := tk } := fun tk t => ⟨T d.shown.cps.toList, H, I.tok _, ⟨t, congrArg (fun z => Value.str z t) (SX.S_tl d.shown).symm⟩, q⟩
  cases hd with
  | non =>
    obtain rfl : u = Value.none := rv
    exact PySem.P.repr_of_none (fin _ _)
  | bl b =>
    obtain rfl : u = Value.bool b := rv
    exact PySem.P.repr_of_bool (fin _ _)
  | int i =>
    obtain ⟨t, rfl⟩ := (show ∃ t, u = Value.int i t from rv)
    exact PySem.P.repr_of_int (of_decide_eq_true h1) (fin _ _)
  | str x =>
    obtain ⟨t, rfl⟩ := (show ∃ t, u = Value.str x t from rv)
    exact PySem.P.repr_of_str (fin _ _) h4
  | lst ha hs =>
    obtain ⟨as, rd⟩ := Dp.reads I _ _ _ (.lst ha hs) rv
    obtain rfl : u = Value.ref _ := rv
    refine repr_of_reads' rd h1 (fun z => by rw [h2] at z; cases z) hgd (by omega) (fun b o e => e) (fun h' u tk hk => ?_) h4
    exact ⟨T _, H, I.kept (t' := tk) hk, ⟨u, congrArg (fun z => Value.str z u) (SX.S_tl _).symm⟩, q⟩
  | tup ha hs =>
    obtain ⟨as, rd⟩ := Dp.reads I _ _ _ (.tup ha hs) rv
    obtain rfl : u = Value.ref _ := rv
    refine repr_of_reads' rd h1 (fun z => by rw [h2] at z; cases z) hgd (by omega) (fun b o e => e) (fun h' u tk hk => ?_) h4
    exact ⟨T _, H, I.kept (t' := tk) hk, ⟨u, congrArg (fun z => Value.str z u) (SX.S_tl _).symm⟩, q⟩
end
theorem rc_reprD {K : PySem.W.Frag} {H : Hp} {v : V} {d : PyData} (h : ∀ H1, Ex H H1 → Dp K H1 v d) (h1 : d.showable = true) (h2 : d.hasDict = false) (h3 : d.depth ≤ 50) (h4 : d.shown.length ≤ sizeLine) : RC (rReprD K) [v] H (T d.shown.cps.toList) := fun H1 e Q q => ⟨v, d, rfl, h H1 e, h1, h2, h3, h4, q H1 (Ex.refl _)⟩
end Wd
set_option Elab.async false
set_option linter.all false
set_option maxRecDepth 100000
set_option maxHeartbeats 4000000
namespace We
open PySem PySem.Spec PyProof.Rows L2 Evl Wc Wt Wg _root_.Wd
/-! ### small data, and readings that give it -/
structure Sd (k n : Nat) (d : PyData) : Prop where
  sh : d.showable = true
  nd : d.hasDict = false
  dp : d.depth ≤ k
  ln : d.shown.length ≤ n
theorem sd_all {k n : Nat} : ∀ {ds : List PyData}, (∀ d ∈ ds, Sd k n d) → PyData.showableAll ds = true ∧ PyData.hasDictAll ds = false ∧ PyData.depthAll ds ≤ k ∧ ((PyData.shownAll ds).map (·.length)).sum ≤ ds.length * n ∧ (PyData.shownAll ds).length = ds.length
  | [], _ => ⟨rfl, rfl, Nat.zero_le _, Nat.zero_le _, rfl⟩
  | d :: ds, h => by
    obtain ⟨h1, h2, h3, h4, h5⟩ := sd_all (ds := ds) (fun e he => h e (List.mem_cons_of_mem _ he))
    have g := h d List.mem_cons_self
    refine ⟨?_, ?_, ?_, ?_, ?_⟩
    · rw [PyData.showableAll, g.sh, h1]; rfl
    · rw [PyData.hasDictAll, g.nd, h2]; rfl
    · rw [PyData.depthAll]; exact Nat.max_le.mpr ⟨g.dp, h3⟩
    · rw [PyData.shownAll, List.map_cons, List.sum_cons, List.length_cons, Nat.succ_mul]
      have := g.ln
      omega
    · rw [PyData.shownAll, List.length_cons, List.length_cons, h5]
theorem sd_list {k n : Nat} {ds : List PyData} (h : ∀ d ∈ ds, Sd k n d) (hl : ds.length ≤ 12) : Sd (k + 1) (12 * n + 100) (.list ds) := by
  obtain ⟨h1, h2, h3, h4, h5⟩ := sd_all h
  have h6 : ds.length * n ≤ 12 * n := Nat.mul_le_mul hl (Nat.le_refl _)
  refine ⟨?_, ?_, ?_, ?_⟩
  · rw [PyData.showable]; exact h1
  · rw [PyData.hasDict]; exact h2
  · rw [PyData.depth]; omega
  · rw [PyData.shown]
    refine Nat.le_trans (PySem.listText_len_le _) ?_
    rw [h5]
    omega
theorem sd_tup {k n : Nat} {ds : List PyData} (h : ∀ d ∈ ds, Sd k n d) (hl : ds.length ≤ 12) : Sd (k + 1) (12 * n + 100) (.tuple ds) := by
  obtain ⟨h1, h2, h3, h4, h5⟩ := sd_all h
  have h6 : ds.length * n ≤ 12 * n := Nat.mul_le_mul hl (Nat.le_refl _)
  refine ⟨?_, ?_, ?_, ?_⟩
  · rw [PyData.showable]; exact h1
  · rw [PyData.hasDict]; exact h2
  · rw [PyData.depth]; omega
  · rw [PyData.shown]
    refine Nat.le_trans (PySem.tupleText_len_le _) ?_
    rw [h5]
    omega
theorem Sd.up {k n k' n' : Nat} {d : PyData} (h : Sd k n d) (hk : k ≤ k' := by omega) (hn : n ≤ n' := by omega) : Sd k' n' d := ⟨h.sh, h.nd, Nat.le_trans h.dp hk, Nat.le_trans h.ln hn⟩
theorem sd_list1 {k n : Nat} {d : PyData} (h : Sd k n d) : Sd (k + 1) (12 * n + 100) (.list [d]) := sd_list (fun e he => by rw [List.mem_singleton.mp he]; exact h) (by show 1 ≤ 12; decide)
theorem sd_list2 {k n : Nat} {d e : PyData} (h : Sd k n d) (h' : Sd k n e) : Sd (k + 1) (12 * n + 100) (.list [d, e]) := sd_list (fun x hx => by
  simp only [List.mem_cons, List.not_mem_nil, or_false] at hx
  rcases hx with rfl | rfl
  · exact h
  · exact h') (by show 2 ≤ 12; decide)
theorem sd_tup2 {k n : Nat} {d e : PyData} (h : Sd k n d) (h' : Sd k n e) : Sd (k + 1) (12 * n + 100) (.tuple [d, e]) := sd_tup (fun x hx => by
  simp only [List.mem_cons, List.not_mem_nil, or_false] at hx
  rcases hx with rfl | rfl
  · exact h
  · exact h') (by show 2 ≤ 12; decide)
/-- a number of at most 100 digits -/
theorem sd_big {n : Nat} (h : n < 10 ^ 100) : Sd 0 100 (.int (n : Int)) := by
  refine ⟨?_, rfl, Nat.zero_le _, ?_⟩
  · have h2 : n < 2 ^ 1920 := Nat.lt_trans h (by decide +kernel)
    rw [PyData.showable]
    refine decide_eq_true ?_
    show n.log2 < 1920
    rcases Nat.eq_zero_or_pos n with rfl | hp
    · decide
    · exact (Nat.log2_lt (by omega)).mpr h2
  · exact PyProof.Rows.toString_length_le (by omega) (by decide) (by exact_mod_cast h)
theorem sd_none : Sd 0 20 .none := ⟨rfl, rfl, Nat.zero_le _, by decide +kernel⟩
section
variable {K : PySem.W.Frag} {σ : L2.St} {H H1 : Hp} {te ta tb tc : TE} {tq : TA} {D : Ends} {tz : TS} {v : V} {xs : List V} {Q : VK} {R : List V → Hp → Prop} {d d1 d2 d3 e : PyData}
/-- a reading gives a thing with the data d -/
def EvD (K : PySem.W.Frag) (te : TE) (σ : L2.St) (H : Hp) (d : PyData) : Prop := ∀ H1, Ex H H1 → ∀ Q : VK, (∀ v H2, Ex H1 H2 → (∀ H3, Ex H2 H3 → Dp K H3 v d) → Q v H2) → te σ H1 Q
theorem EvD.ex (h : EvD K te σ H d) (e : Ex H H1) : EvD K te σ H1 d := fun H2 e2 => h H2 (e.trans e2)
theorem evd_ev (h : Ev te σ H v) (hd : ∀ H3, Ex H H3 → Dp K H3 v d) : EvD K te σ H d := fun H1 e Q q => h H1 e Q fun H2 e2 => q v H2 e2 fun H3 e3 => hd H3 ((e.trans e2).trans e3)
/-- a new tuple of things | a new list of things, all flat -/
theorem evd_tup {xs : List V} {ds : List PyData} (h : EvU te σ H xs) (hd : ∀ H3, Ex H H3 → DpAll K H3 xs ds) : EvD K te σ H (.tuple ds) := fun H1 e Q q => h H1 e Q fun p H2 hp e2 h2 => q _ H2 e2 fun H3 e3 => .tup (st_of (e3 _ _ h2)) (hd H3 ((e.trans e2).trans e3))
theorem evd_lst {xs : List V} {ds : List PyData} (h : EvL te σ H xs) (hd : ∀ H3, Ex H H3 → DpAll K H3 xs ds) : EvD K te σ H (.list ds) := fun H1 e Q q => h H1 e Q fun p H2 hp e2 h2 => q _ H2 e2 fun H3 e3 => .lst (sq_of (e3 _ _ h2)) (hd H3 ((e.trans e2).trans e3))
/-- displays -/
theorem evd_tup2 (h1 : EvD K ta σ H d1) (h2 : EvD K tb σ H d2) : EvD K (tTup (tCons ta (tCons tb tNil))) σ H (.tuple [d1, d2]) := fun H1 e Q q => h1 H1 e _ fun x H2 e2 x2 => h2 H2 (e.trans e2) _ fun y H3 e3 y3 => ⟨by show 2 ≤ sizeLine; decide, fun p hp => q _ _ ((e2.trans e3).trans (Ex.new hp)) fun H4 e4 => .tup (st_of (e4 _ _ upd_same)) (.cons (x2 H4 ((e3.trans (Ex.new hp)).trans e4)) (.cons (y3 H4 ((Ex.new hp).trans e4)) .nil))⟩
theorem evd_lst1 (h1 : EvD K ta σ H d1) : EvD K (tLst (tCons ta tNil)) σ H (.list [d1]) := fun H1 e Q q => h1 H1 e _ fun x H2 e2 x2 => ⟨by show 1 ≤ sizeLine; decide, fun p hp => q _ _ (e2.trans (Ex.new hp)) fun H4 e4 => .lst (sq_of (e4 _ _ upd_same)) (.cons (x2 H4 ((Ex.new hp).trans e4)) .nil)⟩
theorem evd_lst2 (h1 : EvD K ta σ H d1) (h2 : EvD K tb σ H d2) : EvD K (tLst (tCons ta (tCons tb tNil))) σ H (.list [d1, d2]) := fun H1 e Q q => h1 H1 e _ fun x H2 e2 x2 => h2 H2 (e.trans e2) _ fun y H3 e3 y3 => ⟨by show 2 ≤ sizeLine; decide, fun p hp => q _ _ ((e2.trans e3).trans (Ex.new hp)) fun H4 e4 => .lst (sq_of (e4 _ _ upd_same)) (.cons (x2 H4 ((e3.trans (Ex.new hp)).trans e4)) (.cons (y3 H4 ((Ex.new hp).trans e4)) .nil))⟩
theorem evd_lst3 (h1 : EvD K ta σ H d1) (h2 : EvD K tb σ H d2) (h3 : EvD K tc σ H d3) : EvD K (tLst (tCons ta (tCons tb (tCons tc tNil)))) σ H (.list [d1, d2, d3]) := fun H1 e Q q => h1 H1 e _ fun x H2 e2 x2 => h2 H2 (e.trans e2) _ fun y H3 e3 y3 => h3 H3 ((e.trans e2).trans e3) _ fun z H4 e4 z4 => ⟨by show 3 ≤ sizeLine; decide, fun p hp => q _ _ (((e2.trans e3).trans e4).trans (Ex.new hp)) fun H5 e5 => .lst (sq_of (e5 _ _ upd_same)) (.cons (x2 H5 (((e3.trans e4).trans (Ex.new hp)).trans e5)) (.cons (y3 H5 ((e4.trans (Ex.new hp)).trans e5)) (.cons (z4 H5 ((Ex.new hp).trans e5)) .nil)))⟩
/-- displays of any length -/
def EvDs (K : PySem.W.Frag) (tq : TA) (σ : L2.St) (H : Hp) (ds : List PyData) : Prop := ∀ H1, Ex H H1 → ∀ Q : List V → Hp → Prop, (∀ vs H2, Ex H1 H2 → (∀ H3, Ex H2 H3 → DpAll K H3 vs ds) → vs.length = ds.length → Q vs H2) → tq σ H1 Q
theorem evds_nil : EvDs K tNil σ H [] := fun H1 _ Q q => q [] H1 (Ex.refl _) (fun _ _ => .nil) rfl
theorem evds_cons {ds : List PyData} (h : EvD K ta σ H d) (hr : EvDs K tq σ H ds) : EvDs K (tCons ta tq) σ H (d :: ds) := fun H1 e Q q => h H1 e _ fun x H2 e2 x2 => hr H2 (e.trans e2) _ fun vs H3 e3 h3 hl => q _ H3 (e2.trans e3) (fun H4 e4 => .cons (x2 H4 (e3.trans e4)) (h3 H4 e4)) (by rw [List.length_cons, List.length_cons, hl])
theorem evd_tupN {ds : List PyData} (h : EvDs K tq σ H ds) (hl : ds.length ≤ 100000) : EvD K (tTup tq) σ H (.tuple ds) := fun H1 e Q q => h H1 e _ fun vs H2 e2 h2 hz => ⟨by rw [hz]; exact sz_of hl, fun p hp => q _ _ (e2.trans (Ex.new hp)) fun H3 e3 => .tup (st_of (e3 _ _ upd_same)) (h2 H3 ((Ex.new hp).trans e3))⟩
theorem evd_lstN {ds : List PyData} (h : EvDs K tq σ H ds) (hl : ds.length ≤ 100000) : EvD K (tLst tq) σ H (.list ds) := fun H1 e Q q => h H1 e _ fun vs H2 e2 h2 hz => ⟨by rw [hz]; exact sz_of hl, fun p hp => q _ _ (e2.trans (Ex.new hp)) fun H3 e3 => .lst (sq_of (e3 _ _ upd_same)) (h2 H3 ((Ex.new hp).trans e3))⟩
theorem evd_c (h : ∀ H3, Dp K H3 v d) : EvD K (tC v) σ H d := evd_ev ev_c fun H3 _ => h H3
theorem evd_var {i : Nat} (h0 : σ[i]? = some (some v)) (h : ∀ H3, Ex H H3 → Dp K H3 v d) : EvD K (tVar i) σ H d := evd_ev (ev_var h0) h
/-- repr(x) != repr(y), of like data -/
theorem et_reprNe {k n : Nat} (hs : Sd k n d) (hk : k ≤ 50) (hn : n ≤ 10000000) (ha : EvD K ta σ H d) (hb : EvD K tb σ H d) : EvT (tTest (tOp rNeT (tCB (rReprD K) (tCons ta tNil)) (tCB (rReprD K) (tCons tb tNil)))) σ H false := by
  have r : ∀ {te : TE}, EvD K te σ H d → Ev (tCB (rReprD K) (tCons te tNil)) σ H (T d.shown.cps.toList) := fun h H1 e Q q => h H1 e _ fun v H2 e2 hv => rc_reprD hv hs.sh hs.nd (Nat.le_trans hs.dp hk) (by have := hs.ln; rw [sizeLine_eq]; omega) H2 (Ex.refl _) Q fun H3 e3 => q H3 (e2.trans e3)
  refine et_is (et_test (ev_op (r ha) (r hb) rv_neT)) ?_
  rw [decide_eq_true rfl]
  rfl
/-! things one by one -/
theorem a_c (k : tq σ H fun vs H1 => R (v :: vs) H1) : tCons (tC v) tq σ H R := k
theorem a_ev (h : Ev te σ H v) (k : ∀ H1, Ex H H1 → tq σ H1 fun vs H2 => R (v :: vs) H2) : tCons te tq σ H R := h H (Ex.refl _) _ k
theorem a_el (h : EvL te σ H xs) (k : ∀ p H1, H p = none → Ex H H1 → H1 p = some (.lst xs) → tq σ H1 fun vs H2 => R (.ref p :: vs) H2) : tCons te tq σ H R := h H (Ex.refl _) _ k
theorem a_eu (h : EvU te σ H xs) (k : ∀ p H1, H p = none → Ex H H1 → H1 p = some (.tup xs) → tq σ H1 fun vs H2 => R (.ref p :: vs) H2) : tCons te tq σ H R := h H (Ex.refl _) _ k
theorem a_any (h : te σ H fun v H1 => tq σ H1 fun vs H2 => R (v :: vs) H2) : tCons te tq σ H R := h
theorem a_nil (k : R [] H) : tNil σ H R := k
theorem l_lst {ta : TA} (k : ta σ H fun vs H1 => vs.length ≤ sizeLine ∧ ∀ p, H1 p = none → Q (.ref p) (upd H1 p (.lst vs))) : tLst ta σ H Q := k
theorem l_tup {ta : TA} (k : ta σ H fun vs H1 => vs.length ≤ sizeLine ∧ ∀ p, H1 p = none → Q (.ref p) (upd H1 p (.tup vs))) : tTup ta σ H Q := k
theorem l_call {sp : Sp} {ta : TA} {E : XK} (k : ta σ H fun vs H1 => sp (vs ++ []) H1 Q E) : tCall sp [] E ta σ H Q := k
theorem q_asgD {i : Nat} (h : EvD K te σ H d) (k : ∀ v H1, Ex H H1 → (∀ H3, Ex H1 H3 → Dp K H3 v d) → tz D (σ.set i (some v)) H1) : tSeq (tAsg te (gName i)) tz D σ H := h H (Ex.refl _) _ k
theorem q_asgA {i : Nat} (k : te σ H fun v H1 => tz D (σ.set i (some v)) H1) : tSeq (tAsg te (gName i)) tz D σ H := k
theorem ev_eqDB {b : Bool} (ha : EvD K ta σ H d) (hb : EvD K tb σ H e) (s1 : SeqAt.shaped d = true) (s2 : SeqAt.shaped e = true) (he : PyData.eqv d e = b) : Ev (tOp (rEqD K) ta tb) σ H (.bl b) := fun H1 e1 Q q => ha H1 e1 _ fun x H2 e2 hx => hb H2 (e1.trans e2) _ fun y H3 e3 hy => rv_eqD (d := d) (e := e) (b := b) (fun H4 e4 => hx H4 (e3.trans e4)) (fun H4 e4 => hy H4 e4) s1 s2 he H3 (Ex.refl _) Q fun H4 e4 => q H4 ((e2.trans e3).trans e4)
theorem ev_neDB {b : Bool} (ha : EvD K ta σ H d) (hb : EvD K tb σ H e) (s1 : SeqAt.shaped d = true) (s2 : SeqAt.shaped e = true) (he : PyData.eqv d e = b) : Ev (tOp (rNeD K) ta tb) σ H (.bl (!b)) := fun H1 e1 Q q => ha H1 e1 _ fun x H2 e2 hx => hb H2 (e1.trans e2) _ fun y H3 e3 hy => rv_neD (d := d) (e := e) (b := b) (fun H4 e4 => hx H4 (e3.trans e4)) (fun H4 e4 => hy H4 e4) s1 s2 he H3 (Ex.refl _) Q fun H4 e4 => q H4 ((e2.trans e3).trans e4)
/-- zip of a new list and a standing one -/
theorem src_zipN {b : Addr} {xs ys : List V} {n : Nat} {tl tr : TE} (h : EvL tl σ H xs) (h2 : Ev tr σ H (.ref b)) (hs2 : SqL K H b ys) (hn : n = min xs.length ys.length) :
    Src (iZip K (tCons tl (tCons tr tNil))) σ H n (fun c => c = b) (fun i v Hb => ∃ p x y, v = .ref p ∧ xs[i]? = some x ∧ ys[i]? = some y ∧ Hb p = some (.tup [x, y])) := fun H1 e R q =>
  h H1 e _ fun a H2 ha e2 ha2 => h2 H2 (e.trans e2) _ fun H3 e3 => ⟨a, b, xs, ys, rfl, sq_of (e3 _ _ ha2), ex_l ((e.trans e2).trans e3) hs2, q _ H3 _ (e2.trans e3) ((walk_zip hn).mono (fun _ z => z) fun i Ha v Hb _ _ hy => by
    obtain ⟨p, x, y, rfl, hf, rfl, h1, h2⟩ := hy
    exact ⟨Ex.new hf, p, x, y, rfl, h1, h2, upd_same⟩) fun B Ha hB ea => ⟨ea.l (fun z => (hB a z).1 (fresh_back e ha)) (sq_of (e3 _ _ ha2)), ea.l (fun z => (hB b z).2 rfl) (ex_l ((e.trans e2).trans e3) hs2)⟩⟩
theorem op_neB {X : Cx} : OpR X (compareOp .NotEq) (rB0 fun i j => !decide (i = j)) := by
  intro pins s σ H x y v u Q I rx ry h
  obtain ⟨i, j, rfl, rfl, q⟩ := h
  refine op_ne pins s σ H _ _ v u Q I rx ry ⟨rfl, ?_⟩
  rw [Wc.dec_bl]
  exact q
/-! tuples that may be old ones -/
section
variable {K : PySem.W.Frag} {σ : L2.St} {H : Hp} {ta tb te : TE} {xs ys : List V}
def EvW (te : TE) (σ : L2.St) (H : Hp) (xs : List V) : Prop := ∀ H1, Ex H H1 → ∀ Q : VK, (∀ p H2, Ex H1 H2 → H2 p = some (.tup xs) → Q (.ref p) H2) → te σ H1 Q
theorem EvW.ex {H1 : Hp} (h : EvW te σ H xs) (e : Ex H H1) : EvW te σ H1 xs := fun H2 e2 => h H2 (e.trans e2)
theorem ew_of (h : EvU te σ H xs) : EvW te σ H xs := fun H1 e Q q => h H1 e Q fun p H2 _ e2 h2 => q p H2 e2 h2
theorem ew_ev {p : Addr} (h : Ev te σ H (.ref p)) (hp : H p = some (.tup xs)) : EvW te σ H xs := fun H1 e Q q => h H1 e Q fun H2 e2 => q p H2 e2 (e2 _ _ (e _ _ hp))
theorem ew_sl {tl th : TO} {lo hi : Option Int} (h : EvW te σ H xs) (h1 : ∀ H1, Ex H H1 → EvO tl σ H1 lo) (h2 : ∀ H1, Ex H H1 → EvO th σ H1 hi) : EvW (tSl (rSlA K) te tl th) σ H (cutV xs lo hi) := fun H1 e Q q =>
  h H1 e _ fun p H2 e2 g => h1 H2 (e.trans e2) H2 (Ex.refl _) _ fun H3 e3 => h2 H3 ((e.trans e2).trans e3) H3 (Ex.refl _) _ fun H4 e4 => ⟨p, xs, rfl, st_of ((e3.trans e4) _ _ g), fun z => by
    have hc : cutV xs lo hi = xs := by
      unfold cutV
      rw [z.1, z.2]
      simp
    rw [hc] at q
    exact q p H4 ((e2.trans e3).trans e4) ((e3.trans e4) _ _ g), fun _ r hr => q r _ (((e2.trans e3).trans e4).trans (Ex.new hr)) upd_same⟩
theorem ew_cat (h1 : EvW ta σ H xs) (h2 : ∀ H1, Ex H H1 → EvW tb σ H1 ys) (hl : xs.length + ys.length ≤ 100000) : EvW (tOp (rCatA K) ta tb) σ H (xs ++ ys) := fun H1 e Q q =>
  h1 H1 e _ fun p H2 e2 g => h2 H2 (e.trans e2) H2 (Ex.refl _) _ fun r H3 e3 g3 => ⟨p, r, xs, ys, rfl, rfl, st_of (e3 _ _ g), st_of g3, sz_of hl, fun z => by
    rw [z, List.nil_append] at q
    exact q r H3 (e2.trans e3) g3, fun _ z => by
    rw [z, List.append_nil] at q
    exact q p H3 (e2.trans e3) (e3 _ _ g), fun _ _ s hs => q s _ ((e2.trans e3).trans (Ex.new hs)) upd_same⟩
theorem evd_w {ds : List PyData} (h : EvW te σ H xs) (hd : ∀ H3, Ex H H3 → DpAll K H3 xs ds) : EvD K te σ H (.tuple ds) := fun H1 e Q q => h H1 e Q fun p H2 e2 h2 => q _ H2 e2 fun H3 e3 => .tup (st_of (e3 _ _ h2)) (hd H3 ((e.trans e2).trans e3))
/-- tuples in a row -/
abbrev Tups (H : Hp) (ps : List Addr) (os : List (List V)) : Prop := All2 (fun b o => H b = some (HO.tup o)) ps os
theorem Tups.ex {H1 : Hp} {ps : List Addr} {os : List (List V)} (h : Tups H ps os) (e : Ex H H1) : Tups H1 ps os := All2.mono h fun _ _ z => e _ _ z
def EvWs (tq : TA) (σ : L2.St) (H : Hp) (os : List (List V)) : Prop := ∀ H1, Ex H H1 → ∀ Q : List V → Hp → Prop, (∀ ps H2, Ex H1 H2 → Tups H2 ps os → Q (ps.map V.ref) H2) → tq σ H1 Q
theorem ews_nil : EvWs tNil σ H [] := fun H1 _ Q q => q [] H1 (Ex.refl _) .nil
theorem ews_cons {tq : TA} {os : List (List V)} (h : EvW te σ H xs) (hr : ∀ H1, Ex H H1 → EvWs tq σ H1 os) : EvWs (tCons te tq) σ H (xs :: os) := fun H1 e Q q => h H1 e _ fun p H2 e2 h2 => hr H2 (e.trans e2) H2 (Ex.refl _) _ fun ps H3 e3 h3 => q (p :: ps) H3 (e2.trans e3) (.cons (e3 _ _ h2) h3)
/-- x = [.., ..] of tuples -/
theorem q_asgW {D : Ends} {tz : TS} {tq : TA} {i : Nat} {os : List (List V)} (h : EvWs tq σ H os) (hl : os.length ≤ 100000) (k : ∀ q ps H1, H q = none → Ex H H1 → H1 q = some (.lst (ps.map V.ref)) → Tups H1 ps os → tz D (σ.set i (some (.ref q))) H1) : tSeq (tAsg (tLst tq) (gName i)) tz D σ H :=
  h H (Ex.refl _) _ fun ps H2 e2 h2 => ⟨by rw [List.length_map, All2.len h2]; exact sz_of hl, fun q hq => k q ps _ (fresh_back e2 hq) (e2.trans (Ex.new hq)) upd_same (Tups.ex h2 (Ex.new hq))⟩
theorem dp_tups {ps : List Addr} {α : Type} {o : α → List V} {ds : α → List PyData} (hd : ∀ a, DpAll K H (o a) (ds a)) : ∀ {ps : List Addr} {as : List α}, Tups H ps (as.map o) → DpAll K H (ps.map V.ref) (as.map fun a => .tuple (ds a))
  | [], [], _ => .nil
  | p :: ps, a :: as, .cons h r => .cons (.tup (st_of h) (hd a)) (dp_tups (ps := ps) hd r)
theorem src_newU {tl : TE} (h : EvU tl σ H xs) : Src (iTup K tl) σ H xs.length (fun _ => False) (fun i v _ => xs[i]? = some v) := fun H1 e R q =>
  h H1 e _ fun a H2 ha e2 h2 => ⟨a, rfl, ⟨xs, st_of h2⟩, q _ H2 _ e2 (walk_tup.mono (fun _ z => z) fun i Ha v Hb _ _ hy => by
    obtain ⟨rfl, hy⟩ := hy
    exact ⟨Ex.refl _, hy⟩) fun B Ha hB ea => ea.tp (fun z => (hB a z).1 (fresh_back e ha)) (st_of h2)⟩
/-- a comprehension whose items are tuples -/
theorem lcT {H0 : Hp} (e0 : Ex H0 H) {α : Type} {wi : TI} {g : TG} {t : TT} {vs : List Nat} {n : Nat} {own : Addr → Prop} {P : Nat → V → Hp → Prop} {Q : VK} {p : α → Bool} (xs : List α) (st : α → L2.St) (o : α → List V) (R : α → V → Hp → Prop) (hs : Src wi σ H0 n own P) (hn : n ≤ 40000) (hx : xs.length = n)
    (hP : ∀ i x H1, Ex H H1 → P i x H1 → ∃ a, xs[i]? = some a ∧ R a x H1) (hg : ∀ a x H1 (Q' : L2.St → Hp → Prop), R a x H1 → Q' (st a) H1 → g x (wipe σ vs) H1 Q') (hw : ∀ a, wipe (st a) vs = wipe σ vs)
    (ht : ∀ a H1, Ex H H1 → a ∈ xs → EvT t (st a) H1 (p a)) (he : ∀ a H1, Ex H H1 → a ∈ xs → p a = true → EvW te (st a) H1 (o a))
    (k : ∀ q H2 ps, H q = none → Ex H H2 → H2 q = some (.lst (ps.map V.ref)) → Tups H2 ps ((xs.filter p).map o) → Q (.ref q) H2) : tLc wi g t te vs σ H Q :=
  hs H e0 _ fun J H1 S e1 w hS => fun Dl hD => by
    have hDH : H Dl = none := fresh_back e1 hD
    have ftk : ∀ {i a}, xs[i]? = some a → ((xs.take (i + 1)).filter p).map o = ((xs.take i).filter p).map o ++ if p a = true then [o a] else [] := fun {i a} ha => by
      rw [List.take_add_one, ha, List.filter_append, List.map_append]
      congr 1
      cases z : p a with
      | true => simp [z]
      | false => simp [z]
    refine lc_it w (Qd := fun H3 => Q (.ref Dl) H3) (fun i Hi => Ex H1 Hi ∧ ∃ ps : List Addr, Hi Dl = some (.lst (ps.map V.ref)) ∧ ps.length ≤ i ∧ Tups Hi ps (((xs.take i).filter p).map o)) ?_ (fun i Hi hi p => hS (fun _ => False) Hi (fun b z => z.elim) (.of p.1)) ?_ ?_
    · exact ⟨Ex.new hD, [], upd_same, Nat.le_refl _, .nil⟩
    · rintro i x Ha Hb hi ⟨R1, ps, h1, h2, h3⟩ ⟨ey, hPi⟩
      have eB : Ex H Hb := e1.trans (R1.trans ey)
      obtain ⟨a, ha, hr⟩ := hP i x Hb eB hPi
      have hm := List.mem_of_getElem? ha
      refine hg a x Hb _ hr ⟨hw a, ht a Hb eB hm Hb (Ex.refl _) _ fun H3 e3 => ?_⟩
      have hft := ftk ha
      have up : ∀ {H4 : Hp}, Ex H3 H4 → ∀ {b : Addr} {u : List V}, Ha b = some (.tup u) → ∀ l, (upd H4 Dl (.lst l)) b = some (.tup u) := fun {H4} e4 {b u} hb l => by
        have : b ≠ Dl := fun z => by rw [z, h1] at hb; cases hb
        rw [upd_ne this]
        exact e4 _ _ (e3 _ _ (ey _ _ hb))
      cases hp : p a with
      | true =>
        rw [hp, if_pos rfl] at hft
        show te (st a) H3 fun y H4 => ∃ acc, H4 Dl = some (.lst acc) ∧ acc.length < sizeLine ∧ _
        refine he a H3 (eB.trans e3) hm hp H3 (Ex.refl _) _ fun q H4 e4 h4 => ?_
        have hDl4 : H4 Dl = some (.lst (ps.map V.ref)) := e4 _ _ (e3 _ _ (ey _ _ h1))
        have nqD : q ≠ Dl := fun z => by rw [z, hDl4] at h4; cases h4
        have eM : Ex H1 (upd H4 Dl (.lst (ps.map V.ref ++ [.ref q]))) := Ex.mut (((R1.trans ey).trans e3).trans e4) hD
        refine ⟨ps.map V.ref, hDl4, sz_lt (by rw [List.length_map]; omega), eM, ps ++ [q], by rw [upd_same, List.map_append]; rfl, by rw [List.length_append, List.length_singleton]; omega, ?_⟩
        rw [hft]
        exact All2.push (All2.mono h3 fun b u r => up e4 r _) (by rw [upd_ne nqD]; exact h4)
      | false =>
        rw [hp, if_neg Bool.false_ne_true, List.append_nil] at hft
        show Ex H1 H3 ∧ _
        refine ⟨(R1.trans ey).trans e3, ps, e3 _ _ (ey _ _ h1), by omega, ?_⟩
        rw [hft]
        exact All2.mono h3 fun b u r => e3 _ _ (ey _ _ r)
    · rintro H3 ⟨R1, ps, h1, h2, h3⟩
      rw [← hx, List.take_length] at h3
      exact k Dl H3 ps hDH (e1.trans R1) h1 h3
theorem evd_lcT {α : Type} {wi : TI} {g : TG} {t : TT} {vs : List Nat} {n : Nat} {own : Addr → Prop} {P : Nat → V → Hp → Prop} {p : α → Bool} (xs : List α) (st : α → L2.St) (o : α → List V) (ds : α → List PyData) (R : α → V → Hp → Prop) (hs : Src wi σ H n own P) (hn : n ≤ 40000) (hx : xs.length = n)
    (hP : ∀ i x H1, Ex H H1 → P i x H1 → ∃ a, xs[i]? = some a ∧ R a x H1) (hg : ∀ a x H1 (Q' : L2.St → Hp → Prop), R a x H1 → Q' (st a) H1 → g x (wipe σ vs) H1 Q') (hw : ∀ a, wipe (st a) vs = wipe σ vs)
    (ht : ∀ a H1, Ex H H1 → a ∈ xs → EvT t (st a) H1 (p a)) (he : ∀ a H1, Ex H H1 → a ∈ xs → p a = true → EvW te (st a) H1 (o a)) (hd : ∀ a H, DpAll K H (o a) (ds a)) : EvD K (tLc wi g t te vs) σ H (.list ((xs.filter p).map fun a => .tuple (ds a))) := fun H1 e Q q =>
  lcT e xs st o R hs hn hx (fun i x H2 e2 => hP i x H2 (e.trans e2)) hg hw (fun a H2 e2 => ht a H2 (e.trans e2)) (fun a H2 e2 => he a H2 (e.trans e2)) fun r H2 ps hr e2 h2 h3 => q _ H2 e2 fun H3 e3 => .lst (sq_of (e3 _ _ h2)) (dp_tups (ps := ps) (fun a => hd a H3) (Tups.ex h3 e3))
end
end
end We
set_option Elab.async false
set_option linter.all false
set_option maxRecDepth 100000
set_option maxHeartbeats 4000000
namespace We
open PySem PySem.Spec PyProof.Rows L2 Evl Wc Wt Wg _root_.Wd
/-- four named values, the last one first -/
def sw4 {α : Type} : List α → List α → List α
  | [], [a, b, c, d] => [d, c, b, a]
  | _, _ => []
theorem sw4_rel {vs zs : List V} {us ws : List Value} (r : Vals vs us) (rz : Vals zs ws) : Vals (sw4 vs zs) (sw4 us ws) := by
  cases r with
  | cons => exact .nil
  | nil =>
    match zs, ws, rz with
    | [], _, .nil => exact .nil
    | [_], _, .cons _ .nil => exact .nil
    | [_, _], _, .cons _ (.cons _ .nil) => exact .nil
    | [_, _, _], _, .cons _ (.cons _ (.cons _ .nil)) => exact .nil
    | [_, _, _, _], _, .cons h1 (.cons h2 (.cons h3 (.cons h4 .nil))) => exact .cons h4 (.cons h3 (.cons h2 (.cons h1 .nil)))
    | _ :: _ :: _ :: _ :: _ :: _, _, .cons _ (.cons _ (.cons _ (.cons _ (.cons _ _)))) => exact .nil
theorem kb4 {x : PySem.Str} {st : Stmt} {ps ks : List PySem.Str} (hp : ps.length = 4)
    (h : ∀ (kV doc pm : Value) (an : Option Addr) (cdv ct a b c d : Value), bindArgs (PySem.W.fnOf x x (defArgs st) (defBody st) (defScope st) .none kV doc pm an cdv ct) ⟨[], ks.zip [a, b, c, d]⟩ = pure (ps.zip (sw4 [] [a, b, c, d]))) : KB x st 0 ps ks sw4 sw4 := by
  intro K f fd F
  obtain ⟨oc, od, kV, doc, pm, an, cdv, ct, osl, rfl, lk, hcd⟩ := F.ex
  refine ⟨fun s us ws _ hl => ?_, fun r rz => sw4_rel r rz⟩
  rw [hp] at hl
  match us, ws, hl with
  | [], [a, b, c, d], _ => exact .of_eq (h kV doc pm an cdv ct a b c d)
  | [], [], hl => exact absurd hl (by simp [sw4])
  | [], [_], hl => exact absurd hl (by simp [sw4])
  | [], [_, _], hl => exact absurd hl (by simp [sw4])
  | [], [_, _, _], hl => exact absurd hl (by simp [sw4])
  | [], _ :: _ :: _ :: _ :: _ :: _, hl => exact absurd hl (by simp [sw4])
  | _ :: _, ws, hl => exact absurd hl (by simp [sw4])
section
variable {K : PySem.W.Frag} {σ : L2.St} {H : Hp} {te ta tb : TE} {tk : TA} {sp : Sp} {gV : List V → List V → List V} {vs xs : List V} {z : V} {d : PyData}
theorem ev_callK0 (h : EvA tk σ H vs) (hs : SpV sp (gV [] vs) H z) : Ev (tCallK0 sp gV tk) σ H z := fun H1 e Q q => h H1 e _ fun H2 e2 => hs H2 (e.trans e2) _ (fun H3 e3 => q H3 (e2.trans e3)) E0
theorem eu_callK0 (h : EvA tk σ H vs) (hs : ∀ H1, Ex H H1 → ∀ Q : VK, RetU xs H1 Q → ∀ E, sp (gV [] vs) H1 Q E) : EvU (tCallK0 sp gV tk) σ H xs := fun H1 e Q q => h H1 e _ fun H2 e2 => hs H2 (e.trans e2) _ (fun p H3 hp e3 h3 => q p H3 (fresh_back e2 hp) (e2.trans e3) h3) E0
/-- x = e, any target -/
theorem q_asgG {D : Ends} {tz : TS} {g : TG} (k : te σ H fun x H1 => g x σ H1 fun σ2 H2 => tz D σ2 H2) : tSeq (tAsg te g) tz D σ H := k
/-- an if whose test draws -/
theorem q_ifA {D : Ends} {tz tu : TS} {tt : TT} (k : tt σ H fun b H1 => if b = true then tu { D with nx := tz D } σ H1 else tz D σ H1) : tSeq (tIfS tt tu tNext) tz D σ H := k
theorem t_test (k : te σ H fun v H1 => ∃ b, v = .bl b ∧ Q b H1) : tTest te σ H Q := k
theorem t_op {r : R2} {Q : VK} (k : ta σ H fun x H1 => tb σ H1 fun y H2 => r x y H2 Q) : tOp r ta tb σ H Q := k
/-- the target a pair of names, the value a new pair -/
theorem g_pair {i j : Nat} {u v : V} {p : Addr} {Q : L2.St → Hp → Prop} (hp : H p = some (.tup [u, v])) (k : Q ((σ.set i (some u)).set j (some v)) H) : gTup K 2 (gCons (gName i) (gCons (gName j) gNil)) (.ref p) σ H Q := ⟨p, _, rfl, st_of hp, rfl, u, [v], rfl, v, [], rfl, rfl, k⟩
end
end We
set_option Elab.async false
set_option linter.all false
set_option maxRecDepth 100000
set_option maxHeartbeats 4000000
/-! rests: what comes of ends of words by words; lists and dicts of texts -/
namespace Wr
open PySem PySem.Spec PyProof.Rows L2 Evl Wc Wt Wg Ws Wd
/-- what comes of the rest r by the word w -/
def behO (r w : Tx) : List Tx := if w.take r.length = r then [w.drop r.length] else if r.take w.length = w then [r.drop w.length] else []
def behT (lot : List Tx) (r : Tx) : List Tx := lot.flatMap (behO r)
/-- a first rest -/
def Fst (lot : List Tx) (x : Tx) : Prop := ∃ w ∈ lot, ∃ o ∈ lot, w ≠ o ∧ w.take o.length = o ∧ x = w.drop o.length
/-- what comes of those of F, by words -/
inductive Rch (lot : List Tx) (F : Tx → Prop) : Tx → Prop
  | base {x : Tx} : F x → Rch lot F x
  | step {r x : Tx} : Rch lot F r → r ≠ [] → x ∈ behT lot r → Rch lot F x
theorem Rch.mono {lot : List Tx} {F G : Tx → Prop} (h : ∀ x, F x → Rch lot G x) {x : Tx} (hx : Rch lot F x) : Rch lot G x := by
  induction hx with
  | base f => exact h _ f
  | step _ hn hb ih => exact .step ih hn hb
/-- the ends of words -/
def sufs (lot : List Tx) : List Tx := lot.flatMap fun w => (List.range (w.length + 1)).map fun n => w.drop n
theorem mem_sufs {lot : List Tx} {x : Tx} : x ∈ sufs lot ↔ ∃ w ∈ lot, ∃ n, x = w.drop n := by
  unfold sufs
  rw [List.mem_flatMap]
  constructor
  · rintro ⟨w, hw, hx⟩
    obtain ⟨n, _, rfl⟩ := List.mem_map.mp hx
    exact ⟨w, hw, n, rfl⟩
  · rintro ⟨w, hw, n, rfl⟩
    refine ⟨w, hw, List.mem_map.mpr ?_⟩
    by_cases hn : n ≤ w.length
    · exact ⟨n, List.mem_range.mpr (by omega), rfl⟩
    · exact ⟨w.length, List.mem_range.mpr (by omega), by rw [List.drop_length, List.drop_eq_nil_of_le (by omega)]⟩
theorem sufs_len {m : Nat} : ∀ {lot : List Tx}, (∀ w ∈ lot, w.length ≤ m) → (sufs lot).length ≤ lot.length * (m + 1)
  | [], _ => Nat.zero_le _
  | w :: lot, h => by
    have h1 := sufs_len (lot := lot) fun x hx => h x (List.mem_cons_of_mem _ hx)
    have h2 := h w List.mem_cons_self
    have e : sufs (w :: lot) = ((List.range (w.length + 1)).map fun n => w.drop n) ++ sufs lot := rfl
    rw [e, List.length_append, List.length_map, List.length_range, List.length_cons, Nat.succ_mul]
    omega
theorem beh_sufs {lot : List Tx} {r x : Tx} (hr : r ∈ sufs lot) (h : x ∈ behT lot r) : x ∈ sufs lot := by
  obtain ⟨w, hw, hx⟩ := List.mem_flatMap.mp h
  unfold behO at hx
  by_cases h1 : w.take r.length = r
  · rw [if_pos h1] at hx
    rw [List.mem_singleton.mp hx]
    exact mem_sufs.mpr ⟨w, hw, _, rfl⟩
  · rw [if_neg h1] at hx
    by_cases h2 : r.take w.length = w
    · rw [if_pos h2] at hx
      rw [List.mem_singleton.mp hx]
      obtain ⟨v, hv, n, rfl⟩ := mem_sufs.mp hr
      exact mem_sufs.mpr ⟨v, hv, n + w.length, by rw [List.drop_drop]⟩
    · rw [if_neg h2] at hx
      cases hx
theorem Rch.sufs {lot : List Tx} {F : Tx → Prop} (hF : ∀ x, F x → x ∈ sufs lot) {x : Tx} (h : Rch lot F x) : x ∈ sufs lot := by
  induction h with
  | base f => exact hF _ f
  | step _ _ hb ih => exact beh_sufs ih hb
theorem fst_sufs {lot : List Tx} {x : Tx} (h : Fst lot x) : x ∈ sufs lot := by
  obtain ⟨w, hw, o, _, _, _, rfl⟩ := h
  exact mem_sufs.mpr ⟨w, hw, _, rfl⟩
theorem fst_ne {lot : List Tx} {x : Tx} (h : Fst lot x) : x ≠ [] := by
  obtain ⟨w, hw, o, _, hn, ht, rfl⟩ := h
  intro z
  refine hn ?_
  have h1 : w.take o.length = w := List.take_of_length_le (List.drop_eq_nil_iff.mp z)
  rw [h1] at ht
  exact ht
theorem suf_le {lot : List Tx} {m : Nat} (h : ∀ w ∈ lot, w.length ≤ m) {x : Tx} (hx : x ∈ sufs lot) : x.length ≤ m := by
  obtain ⟨w, hw, n, rfl⟩ := mem_sufs.mp hx
  have := h w hw
  rw [List.length_drop]
  omega
theorem suf_sign {lot : List Tx} {p : Nat → Prop} (h : ∀ w ∈ lot, ∀ c ∈ w, p c) {x : Tx} (hx : x ∈ sufs lot) : ∀ c ∈ x, p c := by
  obtain ⟨w, hw, n, rfl⟩ := mem_sufs.mp hx
  exact fun c hc => h w hw c (List.mem_of_mem_drop hc)
theorem len_sub : ∀ {ks l : List Tx}, ks.Nodup → (∀ x ∈ ks, x ∈ l) → ks.length ≤ l.length
  | [], _, _, _ => Nat.zero_le _
  | x :: ks, l, hn, hs => by
    have hx := hs x List.mem_cons_self
    have h1 := len_sub (ks := ks) (l := l.erase x) (List.nodup_cons.mp hn).2 fun y hy => (List.mem_erase_of_ne (fun z => (List.nodup_cons.mp hn).1 (by rw [← z]; exact hy))).mpr (hs y (List.mem_cons_of_mem _ hy))
    rw [List.length_erase_of_mem hx] at h1
    have := List.length_pos_of_mem hx
    rw [List.length_cons]
    omega
/-- while rests are found: ks met, wk on the pile -/
structure MetX (lot : List Tx) (F : Tx → Prop) (ks wk : List Tx) : Prop where
  nd : ks.Nodup
  reach : ∀ x ∈ ks, Rch lot F x
  has : ∀ x, F x → x ∈ ks
  wk : ∀ x ∈ wk, x ∈ ks
theorem MetX.few {lot : List Tx} {F : Tx → Prop} {ks wk : List Tx} (h : MetX lot F ks wk) (hF : ∀ x, F x → x ∈ sufs lot) : ks.length ≤ (sufs lot).length := len_sub h.nd fun x hx => (h.reach x hx).sufs hF
def ClosedX (lot ks : List Tx) (r : Tx) : Prop := ∀ x ∈ behT lot r, x ∈ ks
theorem met_all {lot : List Tx} {F : Tx → Prop} {ks : List Tx} (h : MetX lot F ks []) (hc : ∀ x ∈ ks, x ≠ [] → ClosedX lot ks x) (x : Tx) : x ∈ ks ↔ Rch lot F x := by
  refine ⟨h.reach x, fun z => ?_⟩
  induction z with
  | base z => exact h.has _ z
  | step _ hn hb ih => exact hc _ ih hn _ hb
theorem addT_keep {ks : List Tx} {n m : Tx} (h : m ∈ ks) : m ∈ addT ks n := mem_addT.mpr (.inl h)
/-- one more rest y is met, behind r; it goes on the pile or not -/
theorem MetX.add {lot : List Tx} {F : Tx → Prop} {ks wk wk' : List Tx} {r y : Tx} (h : MetX lot F ks wk) (hr : r ∈ ks) (hrn : r ≠ []) (hy : y ∈ behT lot r) (hw : ∀ x ∈ wk', x ∈ wk ∨ x = y) : MetX lot F (addT ks y) wk' := ⟨addT_nodup h.nd, fun m hm => by
    rcases mem_addT.mp hm with z | z
    · exact h.reach m z
    · rw [z]; exact .step (h.reach r hr) hrn hy, fun m hm => addT_keep (h.has m hm), fun m hm => (hw m hm).elim (fun z => addT_keep (h.wk m z)) fun z => mem_addT.mpr (.inr z)⟩
/-! ### lists of texts in the heap -/
theorem sh_T {c : List Tx} (h : ∀ t ∈ c, LowT t) : SeqAt.shaped (.list (c.map dT)) = true := shaped_list (m := 0) (fun x hx => lay_T (h x hx)) (fun _ _ => Nat.le_refl _) (by decide)
section
variable {K : PySem.W.Frag} {σ : L2.St} {H : Hp} {ta : TE}
theorem dp_T {p : Addr} {c : List Tx} (h : H p = some (.lst (c.map T))) : Dp K H (.ref p) (.list (c.map dT)) := dp_list (sq_of h) fun _ _ => .str _
theorem et_eqNilT {p : Addr} {c : List Tx} (h : H p = some (.lst (c.map T))) (hl : ∀ t ∈ c, LowT t) (hv : Ev ta σ H (.ref p)) : EvT (tTest (tOp (rEqD K) ta (tLst tNil))) σ H (decide (c = [])) := fun H2 e2 Q q => by
  refine hv H2 e2 _ fun H3 e3 => ⟨Nat.zero_le _, fun r hr => ?_⟩
  have e4 := Ex.new (o := HO.lst []) hr
  refine ⟨_, .list [], dp_T (((e2.trans e3).trans e4) _ _ h), .lst (sq_of upd_same) .nil, sh_T hl, rfl, decide (c = []), ?_, q _ (e3.trans e4)⟩
  cases c <;> rfl
theorem et_neNilT {p : Addr} {c : List Tx} (h : H p = some (.lst (c.map T))) (hl : ∀ t ∈ c, LowT t) (hv : Ev ta σ H (.ref p)) : EvT (tTest (tOp (rNeD K) ta (tLst tNil))) σ H (!decide (c = [])) := fun H2 e2 Q q => by
  refine hv H2 e2 _ fun H3 e3 => ⟨Nat.zero_le _, fun r hr => ?_⟩
  have e4 := Ex.new (o := HO.lst []) hr
  refine rv_neD (b := decide (c = [])) (fun H5 e5 => dp_T (e5 _ _ (((e2.trans e3).trans e4) _ _ h))) (fun H5 e5 => .lst (sq_of (e5 _ _ upd_same)) .nil) (sh_T hl) (by decide) ?_ _ (Ex.refl _) _ fun H5 e5 => ⟨_, rfl, q _ ((e3.trans e4).trans e5)⟩
  cases c <;> rfl
theorem last_T (c : List Tx) (n : Tx) : ((c ++ [n]).map T)[((c ++ [n]).map T).length - 1]? = some (T n) := by
  rw [List.length_map, List.length_append, List.getElem?_map]
  simp
theorem wp_popT {i : Nat} {pw : Addr} {c : List Tx} {n : Tx} {Q : VK} (h0 : σ[i]? = some (some (.ref pw))) (h : H pw = some (.lst ((c ++ [n]).map T))) (k : Q (T n) (upd H pw (.lst (c.map T)))) : tBM0 K "list" rPop (tVar i) σ H Q := by
  refine ⟨.ref pw, h0, Or.inl ⟨rfl, _, sq_of h⟩, pw, _, T n, rfl, rfl, h, last_T c n, ?_⟩
  have e : ((c ++ [n]).map T).dropLast = c.map T := by rw [List.map_append]; exact List.dropLast_concat
  rw [e]
  exact k
theorem q_popT {i a : Nat} {pw : Addr} {c : List Tx} {n : Tx} {D : Ends} {tz : TS} (h0 : σ[i]? = some (some (.ref pw))) (h : H pw = some (.lst ((c ++ [n]).map T))) (k : tz D (σ.set a (some (T n))) (upd H pw (.lst (c.map T)))) : tSeq (tAsg (tBM0 K "list" rPop (tVar i)) (gName a)) tz D σ H := wp_popT (Q := fun v H1 => tz D (σ.set a (some v)) H1) h0 h k
theorem pairedX {H : Hp} : ∀ {ps : List Addr} {ns : List Tx}, ps.length = ns.length → (∀ (i : Nat) (p : Addr) (n : Tx), ps[i]? = some p → ns[i]? = some n → H p = some (.tup [T n, .bl true])) → Paired (fun p (kv : Key × V) => SqT K H p [kV kv.1, kv.2]) ps (DX ns)
  | [], [], _, _ => .nil
  | p :: ps, n :: ns, hl, h => .cons (st_of (h 0 p n rfl rfl)) (pairedX (by simpa using hl) fun i p' n' h1 h2 => h (i + 1) p' n' (by simpa using h1) (by simpa using h2))
/-- x = {t: True for t in ns} -/
theorem q_dcX {wi : TI} {i j : Nat} {vs : List Nat} {own : Addr → Prop} {D : Ends} {tz : TS} (ns : List Tx) (hs : Src wi σ H ns.length own (fun i v _ => (ns.map T)[i]? = some v)) (hn : ns.length ≤ 4000) (hw : ∀ x, wipe ((wipe σ vs).set j (some x)) vs = wipe σ vs) (hj : ∀ x, ((wipe σ vs).set j (some x))[j]? = some (some x))
    (k : ∀ d H2, H d = none → Ex H H2 → H2 d = some (.dK (DX (addAllT [] ns))) → tz D (σ.set i (some (.ref d))) H2) : tSeq (tAsg (tDc wi (gName j) tYes (tVar j) (tC (.bl true)) vs) (gName i)) tz D σ H := dc_texts (Q := fun v H1 => tz D (σ.set i (some v)) H1) ns hs hn hw hj k
/-- dict([(t, True) for t in ts]) -/
theorem wp_dictX {i j : Nat} {pp : Addr} {ns : List Tx} {Q : VK} (h0 : σ[i]? = some (some (.ref pp))) (h : H pp = some (.lst (ns.map T))) (hl : ns.length ≤ 4000) (hw : ∀ x, wipe ((wipe σ [j]).set j (some x)) [j] = wipe σ [j]) (hj : ∀ x, ((wipe σ [j]).set j (some x))[j]? = some (some x))
    (k : ∀ d H1, H d = none → Ex H H1 → H1 d = some (.dK (DX (addAllT [] ns))) → Q (.ref d) H1) : tCB (rDictP K) (tCons (tLc (iList K (tVar i)) (gName j) tYes (tTup (tCons (tVar j) (tCons (tC (.bl true)) tNil))) [j]) tNil) σ H Q := by
  have key : tLc (iList K (tVar i)) (gName j) tYes (tTup (tCons (tVar j) (tCons (tC (.bl true)) tNil))) [j] σ H (fun v H1 => rDictP K [v] H1 Q) := by
    refine lcN (n := ns.length) (fun t => .tup [T (ns.getD t []), .bl true]) (src_listM (f := T) (ev_var h0) (sq_of h)) (by omega) hw (fun t x H1 ht hx e1 Q' q' => ?_) fun q H2 ps hq e2 h2 hpl hn hnq => ?_
    · obtain ⟨n, hn, rfl⟩ := at_map hx
      refine ⟨_, hj _, by show 2 ≤ sizeLine; decide, fun p hp => q' p _ hp (Ex.new hp) ?_⟩
      rw [upd_same, List.getD_eq_getElem?_getD, hn]
      rfl
    · refine ⟨q, ps, DX ns, rfl, sq_of h2, pairedX hpl fun i p n h3 h4 => ?_, fun d hd => ?_⟩
      · have := hn.at_ i p h3
        rw [List.getD_eq_getElem?_getD, h4] at this
        exact this
      · have : mergeK [] (DX ns) = DX (addAllT [] ns) := merge_DX ns []
        rw [this]
        exact k d _ (fresh_back e2 hd) (e2.trans (Ex.new hd)) upd_same
  exact key
end
end Wr
set_option Elab.async false
set_option linter.all false
set_option maxRecDepth 100000
set_option maxHeartbeats 4000000
/-! dicts from texts to numbers; list(d.values()) -/
namespace Ws
open PySem PySem.Spec PyProof.Rows L2 Evl Wc Wt Wg Wd
def DC (kvs : List (Tx × Nat)) : List (Key × V) := kvs.map fun p => (kx p.1, V.int (p.2 : Int))
def getC (kvs : List (Tx × Nat)) (t : Tx) : Option Nat := (kvs.find? fun p => decide (p.1 = t)).map (·.2)
def putC (kvs : List (Tx × Nat)) (t : Tx) (n : Nat) : List (Tx × Nat) := if (getC kvs t).isSome = true then kvs.map (fun p => if p.1 = t then (p.1, n) else p) else kvs ++ [(t, n)]
theorem getC_pos {p : Tx × Nat} {r : List (Tx × Nat)} {t : Tx} (e : p.1 = t) : getC (p :: r) t = some p.2 := by simp [getC, List.find?_cons, e]
theorem getC_neg {p : Tx × Nat} {r : List (Tx × Nat)} {t : Tx} (e : ¬ p.1 = t) : getC (p :: r) t = getC r t := by simp [getC, List.find?_cons, e]
theorem DC_len (kvs : List (Tx × Nat)) : (DC kvs).length = kvs.length := List.length_map _
theorem val_DC (kvs : List (Tx × Nat)) (t : Tx) : valV (DC kvs) (kx t) = (getC kvs t).map fun (n : Nat) => V.int (n : Int) := by
  induction kvs with
  | nil => rfl
  | cons p kvs ih =>
    show valV ((kx p.1, V.int (p.2 : Int)) :: DC kvs) (kx t) = _
    by_cases h : p.1 = t
    · rw [valV_pos (congrArg kx h), getC_pos h]
      rfl
    · rw [valV_neg (fun z => h (kx_inj z)), getC_neg h, ih]
theorem put_DC (kvs : List (Tx × Nat)) (t : Tx) (n : Nat) : putK (DC kvs) (kx t) (.int (n : Int)) = DC (putC kvs t n) := by
  have ha := valV_any (kx t) (DC kvs)
  rw [val_DC, Option.isSome_map] at ha
  unfold putK putC
  cases hg : (getC kvs t).isSome with
  | true =>
    rw [hg] at ha
    rw [if_pos ha, if_pos rfl]
    unfold DC
    rw [List.map_map, List.map_map]
    refine List.map_congr_left fun p _ => ?_
    show (if kx p.1 = kx t then (kx p.1, V.int (n : Int)) else (kx p.1, V.int (p.2 : Int))) = ((fun p : Tx × Nat => (kx p.1, V.int (p.2 : Int))) (if p.1 = t then (p.1, n) else p))
    by_cases h : p.1 = t
    · rw [if_pos h, if_pos (congrArg kx h)]
    · rw [if_neg h, if_neg (fun z => h (kx_inj z))]
  | false =>
    rw [hg] at ha
    rw [if_neg (by rw [ha]; exact Bool.false_ne_true), if_neg Bool.false_ne_true]
    unfold DC
    rw [List.map_append]
    rfl
section
variable {K : PySem.W.Frag} {σ : L2.St} {H : Hp} {td ty tx tv : TE} {D : Ends} {tz : TS} {d : Addr} {kvs : List (Tx × Nat)} {t : Tx} {n : Nat}
/-- d[t] -/
theorem ev_getC (hd : Ev td σ H (.ref d)) (hk : Ev ty σ H (T t)) (h : H d = some (.dK (DC kvs))) (hg : getC kvs t = some n) : Ev (tDGet td ty) σ H (.int (n : Int)) := fun H1 e Q q =>
  hd H1 e _ fun H2 e2 => hk H2 (e.trans e2) _ fun H3 e3 => ⟨d, _, rfl, by
    have := DGet.k (H := H3) (a := d) (k := kx t) (((e.trans e2).trans e3) _ _ h)
    rw [val_DC, hg] at this
    exact this, q H3 (e2.trans e3)⟩
/-- d.get(t, i) -/
theorem ev_getC2 {i : Int} (hd : Ev td σ H (.ref d)) (hk : Ev ty σ H (T t)) (hx : Ev tx σ H (.int i)) (h : H d = some (.dK (DC kvs))) : Ev (tDGet2 td ty tx) σ H (.int (match getC kvs t with | none => i | some n => (n : Int))) := fun H1 e Q q =>
  hd H1 e _ fun H2 e2 => ⟨d, rfl, .inl ⟨_, Rd.of ((e.trans e2) _ _ h)⟩, hk H2 (e.trans e2) _ fun H3 e3 => hx H3 ((e.trans e2).trans e3) _ fun H4 e4 => ⟨_, DGet.k (k := kx t) ((((e.trans e2).trans e3).trans e4) _ _ h), by
    rw [val_DC]
    have := q H4 ((e2.trans e3).trans e4)
    cases hg : getC kvs t with
    | none => rw [hg] at this; exact this
    | some n => rw [hg] at this; exact this⟩⟩
/-- d[t] = n -/
theorem s_putC (hv : Ev tv σ H (.int (n : Int))) (hd : Ev td σ H (.ref d)) (hk : Ev ty σ H (T t)) (h : H d = some (.dK (DC kvs))) (hl : kvs.length ≤ 10000) (k : ∀ H1, Ex H H1 → D.nx σ (upd H1 d (.dK (DC (putC kvs t n))))) : sDPut td ty tv D σ H :=
  hv H (Ex.refl H) _ fun H1 e1 => hd H1 e1 _ fun H2 e2 => hk H2 (e1.trans e2) _ fun H3 e3 => ⟨d, _, rfl, DPut.k (k := kx t) (((e1.trans e2).trans e3) _ _ h) (by rw [DC_len]; unfold sizeLine; omega), by rw [put_DC]; exact k H3 ((e1.trans e2).trans e3)⟩
end
/-- list(d.values()) -/
def tListVals (te : TE) : TE := fun σ H Q => te σ H fun x H1 => ∃ d kvs, x = .ref d ∧ H1 d = some (.dK kvs) ∧ ∀ p, H1 p = none → Q (.ref p) (upd H1 p (.lst (kvs.map (·.2))))
section
variable {X : Cx} {e : Expr} {te : TE} {p apos cpos pos : Pos}
theorem pe_listVals (hc : X.calm = true) (he : PE X e te) (hg : Gl X "list") (hm : X.mg "list" = none) (hv : bootBuiltins "list" = some (.type "list")) (hbase : attributeBase e "values" X.env (eval e X.env) = eval e X.env := by rfl) (hline : (apos.endLine == cpos.line) = true := by rfl)
    (hs : starEach [.Call (.Attribute e "values" apos) [] [] cpos] X.env = (false, eval (.Call (.Attribute e "values" apos) [] [] cpos) X.env) :: starEach [] X.env := by rfl) :
    PE X (.Call (.Name "list" p) [.Call (.Attribute e "values" apos) [] [] cpos] [] pos) (tListVals te) := by
  refine ⟨fun pins s σ H Q I hq => ?_⟩
  refine wpAny_Call_Name_kw (ld_blt I hg hm hv ?_)
  refine PyProof.Rows.callWith_type1 ?_ hs rfl
  rw [hs]
  show wpAny _ _ (spliced ((false, eval (.Call (.Attribute e "values" apos) [] [] cpos) X.env) :: backTo pos (starEach [] X.env))) _ _ s
  refine Calls.spliced_cons ?_
  refine wpAny_Call_method (T := "dict") (id := "dict.values") hbase rfl hline PySem.F.plainAttrs_dict PySem.F.slot_dict_values PySem.F.type_dict_values (thn (he.run pins s σ H _ I hq) fun u s1 ⟨x, H1, I1, rx, d, kvs, ex, hd, q⟩ => ?_)
  subst ex
  obtain rfl : u = Value.ref d := rx
  obtain ⟨hz, hs0, vs, kv, hdo⟩ := I1.hok d _ hd
  obtain ⟨ep, hat⟩ := hdo.dictAt
  have lk : kvs.length = vs.length := Paired.length kv
  have I2 : Inv X pins σ H1 { s1 with heap := s1.heap.push { cls := .type "dict_values", data := .fields #[.ref d] } } := I1.kept (t' := s1.toks) fun b ob q => Heap.get?_push_of_some _ q
  refine ⟨hdo.typeIs, hdo.mapOf.noDict, ?_⟩
  show wpAny _ _ (callWith cpos (.builtin "dict.values") [.ref d] [] []) _ X.xe s1
  refine method_meetsIn PySem.F.slot_dict_values PySem.F.entry_dict_values rfl (PySem.evalArgs_none ⟨rfl, hdo.typeIs, PySem.F.args_dict_values_1 _, _, meets_dict_values (mixKind X.prog X.w) d hs0, ⟨vs, hdo⟩, ?_⟩)
  refine Calls.spliced_nil ?_
  refine PySem.W.kdl_call (PySem.W.kdl_values (knd := mixKind X.prog X.w) (kvs := vs) (ep := ep)) (I1.ok.hd hc) ⟨⟨_, Heap.get?_push_size _ rfl, rfl, rfl⟩, hat.push _⟩ (by rw [← lk]; exact hz) fun h' tk acc' c' hkeep hS hacc => ?_
  refine ⟨.ref _, upd H1 _ (.lst (kvs.map (·.2))), I2.laid hkeep (Nat.le_refl _) (show ObjOk X.prog X.w _ _ _ (.lst (kvs.map (·.2))) from ⟨?_, acc'.toList, c', ?_, ?_⟩), rfl, q _ (I2.hok.fresh (Nat.le_refl _))⟩
  · rw [List.length_map]; exact hz
  · have el : acc'.toList.length = acc'.size := by simp
    refine vals_of_at (by rw [List.length_map, el, hacc.1, lk]) fun j x w h1 h2 => ?_
    obtain ⟨k, hky⟩ := hacc.2 j w (by rw [← Array.getElem?_toList]; exact h2)
    obtain ⟨y, g1, g2⟩ := KV.at' kv hky
    rw [List.getElem?_map, g1] at h1
    cases h1
    exact g2
  · rw [Array.toArray_toList]; exact hS
end
section
variable {σ : L2.St} {H : Hp} {td : TE} {d : Addr} {kvs : List (Tx × Nat)}
theorem el_valsC (hd : Ev td σ H (.ref d)) (h : H d = some (.dK (DC kvs))) : EvL (tListVals td) σ H (kvs.map fun p => V.int (p.2 : Int)) := fun H1 e Q q => hd H1 e _ fun H2 e2 => ⟨d, _, rfl, (e.trans e2) _ _ h, fun r hr => q r _ (fresh_back e2 hr) (e2.trans (Ex.new hr)) (by
  rw [upd_same]
  unfold DC
  rw [List.map_map]
  rfl)⟩
theorem el_listC (hd : Ev td σ H (.ref d)) (h : H d = some (.dK (DC kvs))) : EvL (tCB rListD (tCons td tNil)) σ H (kvs.map fun p => T p.1) := fun H1 e Q q => hd H1 e _ fun H2 e2 => ⟨d, DC kvs, rfl, (e.trans e2) _ _ h, fun r hr => q r _ (fresh_back e2 hr) (e2.trans (Ex.new hr)) (by
  rw [upd_same]
  unfold DC
  rw [List.map_map]
  rfl)⟩
end
end Ws
set_option Elab.async false
set_option linter.all false
set_option maxRecDepth 100000
set_option maxHeartbeats 4000000
namespace Ws
open PySem PySem.Spec PyProof.Rows L2 Evl Wc Wt
section
variable {P : Program} {w : World} {A : Around} {E : Value → Shared → Prop} {s : Shared}
/-- the signs of a text, each a text -/
def signsOf (x : Str) : List Str := x.cps.toList.map fun c => ⟨#[c]⟩
theorem call_set_str {x : Str} {t : Tok} {Q : Value → Shared → Prop} (noH : A.handled = none) (room : x.cps.size + 1 < scanBound)
    (fin : ∀ (h2 : Heap) (tk : Nat) (l : List Str), Met (signsOf x) (signsOf x).length l → SetX P w h2 s.heap.objs.size l → (∀ b o, s.heap.get? b = some o → h2.get? b = some o) → Q (.ref s.heap.objs.size) { s with heap := h2, toks := tk }) :
    wpAny (model P w) A (call (.type "set") [.str x t]) Q E s := by
  have lx : (signsOf x).length = x.cps.size := by unfold signsOf; rw [List.length_map, Array.length_toList]
  obtain ⟨c, tl, q0⟩ := PySem.F.called_set.mro
  have q1 := PySem.F.called_set.made; have q2 := PySem.F.called_set.sub
  refine wpAny_call (codeAny_of_tree (wpAny_pure ⟨Code.quiet_builtin _ (by decide +kernel), codeAny_builtin PySem.F.entry_type_call ?_⟩))
  rw [Around.under_plain (weight_type_call_type "set" [.str x t] []) rfl]
  have q3 := PySem.F.called_set.notType; have q4 := PySem.F.called_set.canCreate
  have q5 := PySem.F.typeCall_set_1 (.str x t)
  repeat (any_goals (first | assumption | wp_step))
  refine codeAny_mono (code_set_led1 (.str x t) (E := E) (Q₁ := fun ob t1 => ob = .ref s.heap.objs.size ∧ t1 = { s with heap := s.heap.push (so w) }) ⟨rfl, rfl⟩) fun r t1 hr => ?_
  match r, hr with
  | .error e, hr => exact hr
  | .ok (.ret ob), hr =>
    obtain ⟨rfl, rfl⟩ := hr
    have atS : (s.heap.push (so w)).get? s.heap.objs.size = some (so w) := Heap.get?_push_size _ rfl
    have tyS : Shared.TypeIs { s with heap := s.heap.push (so w) } (.ref s.heap.objs.size) "set" := ⟨_, atS, rfl⟩
    have q6 := PySem.F.called_set.init.lookup
    have q7 := PySem.F.called_set.init.bind (.ref s.heap.objs.size)
    repeat (any_goals (first | assumption | wp_step))
    refine codeAny_mono (codeAny_call_builtin (R := wants (fun r t2 => r = .none ∧ ∃ h2 tk l, t2 = { s with heap := h2, toks := tk } ∧ Met (signsOf x) (signsOf x).length l ∧ SetX P w h2 s.heap.objs.size l ∧ ∀ b o, s.heap.get? b = some o → h2.get? b = some o) E) PySem.F.called_set.init.plain PySem.F.entry_set_init (check_set_init_1 tyS ?_)) fun r2 t2 hr2 => ?_
    · have q8 : isSubtype (.type "str") (.type "set") = pure false := by rw [isSubtype_type]; kernel_rfl
      have q9 : isSubtype (.type "str") (.type "frozenset") = pure false := by rw [isSubtype_type]; kernel_rfl
      have q10 : (Value.type "str" == Value.type "dict") = false := by decide
      unfold Builtin.«set.__init__» noKeywords Builtin.Frozenset.updateFrom
      generalize hI : pyIter = iter
      wp_walk
      subst hI
      refine wpAny_pyIter_str fun o St W hst => ?_
      refine wpAny_bind (wpAny_runValue ?_)
      have no3 : A.in1.in1.in1.handled = none := by simp [noH]
      have zI : (s.heap.push (so w)).objs.size = s.heap.objs.size + 1 := Heap.size_push ..
      have out1 : s.heap.objs.size ∉ [(s.heap.push (so w)).objs.size] := by
        rw [zI]
        intro z
        exact absurd (List.mem_singleton.mp z) (Nat.ne_of_lt (Nat.lt_succ_self _))
      refine fill_texts (P := P) (xs := signsOf x) ((W A.in1.in1.in1 no3).toS) out1 lx room (fun i v hv => ?_) x.cps.size 0 _ [] (by omega) hst ⟨List.nodup_nil, fun x => by simp, Nat.le_refl _⟩ (SetX.new (Heap.get?_push_of_some _ atS)) fun s2 l2 mv m2 X2 => ?_
      · obtain ⟨c, u, h1, h2⟩ := hv
        refine ⟨_, u, ?_, h2⟩
        unfold signsOf
        rw [List.getElem?_map, Array.getElem?_toList, h1]
        rfl
      · obtain ⟨h2, g2, d2, tk2, os2⟩ := s2
        obtain rfl : g2 = s.gens := mv.gens
        obtain rfl : d2 = s.drawn := mv.drawn
        obtain rfl : os2 = s.os := mv.os
        rw [← lx] at m2
        show wpAny _ _ (Bind.bind (pure _) _) _ _ _
        refine wpAny_pure (wpAny_pure ⟨rfl, h2, tk2, l2, rfl, m2, X2, fun b o e => ?_⟩)
        have hb := Heap.lt_size e
        refine mv.heap b o (fun z => ?_) (Heap.get?_push_of_some _ (Heap.get?_push_of_some _ e))
        rw [zI] at z
        rcases List.mem_cons.mp z with z | z
        · exact absurd z (Nat.ne_of_lt hb)
        · exact absurd (List.mem_singleton.mp z) (Nat.ne_of_lt (Nat.lt_succ_of_lt hb))
    · match r2, hr2 with
      | .error e, hr2 => exact hr2
      | .ok (.ret v2), hr2 =>
        obtain ⟨rfl, h2, tk, l, rfl, m, X, k⟩ := hr2
        repeat (any_goals (first | assumption | wp_step))
        exact fin _ _ _ m X k
end
section
variable {X : Cx}
/-- the signs of a text, as texts -/
def sgs (a : Tx) : List Tx := a.map fun c => [c]
theorem signs_S (a : Tx) : signsOf (SX.S a) = (sgs a).map SX.S := by
  unfold signsOf sgs
  rw [List.map_map]
  rfl
def rSetT (P : Program) (w : World) : List V → Hp → VK → Prop := fun vs H Q => ∃ (a : Tx), vs = [T a] ∧ a.length ≤ 4000 ∧ ∀ q ys, Uniq (sgs a) ys → ys.length ≤ a.length → H q = none → Q (.ref q) (upd H q (SetXO P w q (ys.map SX.S)))
theorem cr_setT (hc : X.calm = true) : CallR X (.type "set") (rSetT X.prog X.w) := by
  intro pins s σ H vs us Q I r h
  obtain ⟨a, rfl, hl, q⟩ := h
  obtain ⟨u, ru, rfl⟩ : ∃ u, RelV (T a) u ∧ us = [u] := by
    cases r with
    | cons h1 h2 => cases h2; exact ⟨_, h1, rfl⟩
  obtain ⟨tk0, rfl⟩ := ru
  have hsz : (SX.S a).cps.size = a.length := S_length a
  refine call_set_str (P := X.prog) (I.ok.hd hc) (by rw [hsz]; unfold scanBound; omega) fun h2 tk l m R k => ?_
  rw [signs_S] at m
  obtain ⟨ys, rfl, uq, hly⟩ := uniq_of m
  have hn : H s.heap.objs.size = none := I.hok.fresh (Nat.le_refl _)
  exact ⟨.ref _, upd H s.heap.objs.size (SetXO X.prog X.w s.heap.objs.size (ys.map SX.S)), I.laid (t' := tk) k (Nat.le_refl _) (setXO_new R), rfl, q _ ys uq (by unfold sgs at hly; rw [List.length_map] at hly; exact hly) hn⟩
theorem ksetT {P : Program} {w : World} (hc : X.calm = true := by rfl) (hP : X.prog = P := by rfl) (hw : X.w = w := by rfl) : CallR X (.type "set") (rSetT P w) := by
  subst hP hw
  exact cr_setT hc
/-- text <= text -/
def rLeT' : R2 := fun x y H Q => ∃ a b : Tx, x = T a ∧ y = T b ∧ Q (.bl (!decide (b < a))) H
theorem op_leT' : OpR X (compareOp .LtE) rLeT' := by
  intro pins s σ H x y v u Q I rx ry h
  obtain ⟨a, b, rfl, rfl, q⟩ := h
  exact op_le_str pins s σ H _ _ v u Q I rx ry ⟨_, _, rfl, rfl, q⟩
end
section
variable {K : PySem.W.Frag} {P : Program} {w : World} {σ : L2.St} {H : Hp} {te : TE} {a b : Tx}
theorem rv_leT' : RV rLeT' (T a) (T b) H (.bl (!decide (b < a))) := fun H1 _ Q q => ⟨a, b, rfl, rfl, q H1 (Ex.refl _)⟩
/-- sorted(set(text)) -/
theorem el_sortSetT (h : Ev te σ H (T a)) (hl : a.length ≤ 4000) : EvL (tCB (rSortX K P w) (tCons (tCB (rSetT P w) (tCons te tNil)) tNil)) σ H ((setS (sgs a)).map T) := fun H1 e1 Q k =>
  h H1 e1 _ fun H2 e2 => ⟨a, rfl, hl, fun q ys uq hly hq => .inr ⟨q, ys, rfl, upd_same, fun zs r pz hr => by
    have e3 : Ex H2 (upd H2 q (SetXO P w q (ys.map SX.S))) := Ex.new hq
    have hs : sortT zs = setS (sgs a) := by
      rw [sortT_of_perm pz]
      exact sortT_same uq.nd (setX_nodup _) fun x => by rw [uq.mem x, mem_setX]
    refine k r _ (fresh_back (e2.trans e3) hr) ((e2.trans e3).trans (Ex.new hr)) ?_
    rw [upd_same, hs]⟩⟩
end
end Ws
set_option Elab.async false
set_option linter.all false
set_option maxRecDepth 100000
set_option maxHeartbeats 4000000
/-! sorted(list of any data); dicts with tuples as keys: {pair: v}, list(d.items()), d == {} -/
namespace Wf
open PySem PySem.Spec PyProof.Rows L2 Evl Wc Wt
section
variable {X : Cx} {pins : List (Addr × Obj)} {σ : L2.St} {H : Hp} {s : Shared}
theorem each_of {β : Type} {f : β → V} : ∀ {bs : List β} {us : List Value}, Vals (bs.map f) us → PySem.W.EachIs (fun v b => RelV (f b) v) us bs
  | [], _, .nil => .nil
  | _ :: _, _, .cons r t => .cons r (each_of t)
theorem vals_of {β : Type} {f : β → V} : ∀ {us : List Value} {bs : List β}, PySem.W.EachIs (fun v b => RelV (f b) v) us bs → Vals (bs.map f) us
  | _, _, .nil => .nil
  | _, _, .cons r t => .cons r (vals_of t)
theorem each_reads {β : Type} {f : β → V} {enc : β → PyData} (I : Inv X pins σ H s) : ∀ {bs : List β} {us : List Value}, Vals (bs.map f) us → (∀ b ∈ bs, Dp X.K H (f b) (enc b)) → PySem.W.EachIs (fun v b => ∃ as, Reads s.heap v (enc b) as) us bs
  | [], _, .nil, _ => .nil
  | b :: _, _, .cons r t, h => .cons (Dp.reads I _ _ _ (h b List.mem_cons_self) r) (each_reads I t fun c hc => h c (List.mem_cons_of_mem _ hc))
def rSortDD (K : PySem.W.Frag) : List V → Hp → VK → Prop := fun vs H Q => ∃ (β : Type) (p : Addr) (bs : List β) (f : β → V) (enc : β → PyData), vs = [.ref p] ∧ SqL K H p (bs.map f) ∧ (∀ b ∈ bs, Dp K H (f b) (enc b)) ∧ PySem.W.AllAlike (bs.map enc) ∧ PySem.W.Sortable (bs.map enc) ∧ (∀ b ∈ bs, (enc b).depth ≤ 50) ∧
  ∀ q, H q = none → Q (.ref q) (upd H q (.lst ((bs.mergeSort (PySem.W.dataLe false enc)).map f)))
theorem cr_sortDD (hu : X.A.units + 64 < cLine) : CallR X (.builtin "sorted") (rSortDD X.K) := by
  intro pins s σ H vs us Q I r h
  obtain ⟨β, p, bs, f, enc, rfl, hp, hd, ha, hk, hz, q⟩ := h
  rw [Vals.ref1 r]
  obtain ⟨its, rv, pl, hl⟩ := I.list hp
  rw [List.length_map] at hl
  refine PySem.W.sorted_data (R := fun v b => RelV (f b) v) (enc := enc) pl.isList (each_of rv) (each_reads I rv hd) ha hk hl (fun b hb => ?_) fun out hlen eo => ?_
  · have := hz b hb
    show X.A.units + 2 + _ < cLine
    omega
  · obtain ⟨c, hc⟩ := sortedAll_at s.heap its out.toArray
    have hn : H (s.heap.objs.size + 1) = none := I.hok.fresh (Nat.le_succ _)
    refine ⟨.ref _, upd H (s.heap.objs.size + 1) (.lst ((bs.mergeSort (PySem.W.dataLe false enc)).map f)), I.laid (t' := s.toks) (fun b u e => sortedAll_old e) (Nat.le_succ _) ⟨?_, out, c, vals_of eo, hc⟩, rfl, q _ hn⟩
    rw [List.length_map, List.length_mergeSort]
    exact hl
theorem ksortDD {K : PySem.W.Frag} (hu : X.A.units + 64 < cLine) (hK : X.K = K := by rfl) : CallR X (.builtin "sorted") (rSortDD K) := hK ▸ cr_sortDD hu
end
section
variable {K : PySem.W.Frag} {σ : L2.St} {H : Hp} {te : TE}
theorem el_sortDD {β : Type} {bs : List β} {f : β → V} {enc : β → PyData} (h : EvL te σ H (bs.map f)) (hd : ∀ H1, Ex H H1 → ∀ b ∈ bs, Dp K H1 (f b) (enc b)) (ha : PySem.W.AllAlike (bs.map enc)) (hk : PySem.W.Sortable (bs.map enc)) (hz : ∀ b ∈ bs, (enc b).depth ≤ 50) : EvL (tCB (rSortDD K) (tCons te tNil)) σ H ((bs.mergeSort (PySem.W.dataLe false enc)).map f) := fun H1 e Q k =>
  h H1 e _ fun p H2 hp e2 h2 => ⟨β, p, bs, f, enc, rfl, sq_of h2, hd H2 (e.trans e2), ha, hk, hz, fun q hq => k q _ (fresh_back e2 hq) (e2.trans (Ex.new hq)) upd_same⟩
end
end Wf
set_option Elab.async false
set_option linter.all false
set_option maxRecDepth 100000
set_option maxHeartbeats 4000000
namespace K16
open PySem PySem.Spec PyProof.Rows L2 Evl Wc
/-! (place, cut), in their sequence -/
abbrev PC := Nat × List Nat
def zs (c : List Nat) : List Int := c.map fun (n : Nat) => (n : Int)
def encR (q : PC) : PyData := .tuple [.int (q.1 : Int), .list ((zs q.2).map PyData.int)]
def leR (a b : PC) : Bool := decide (a.1 < b.1 ∨ (a.1 = b.1 ∧ zs a.2 ≤ zs b.2))
theorem eqv_zs (a b : List Int) : PyData.eqv (.list (a.map PyData.int)) (.list (b.map PyData.int)) = decide (a = b) := eqv_list (g := PyData.int) eqv_int a b
theorem dataLt_zs (a b : List Int) : PySem.W.dataLt (.list (a.map PyData.int)) (.list (b.map PyData.int)) = decide (a < b) := by
  rw [PySem.W.dataLt_list]
  exact PySem.W.dataLt_ints a b
theorem alike_zs : ∀ (a b : List Int), PySem.W.alike (.list (a.map PyData.int)) (.list (b.map PyData.int)) = true := fun a b => by
  show PySem.W.alikeAll _ _ = true
  exact PySem.W.alike_ints a b
theorem dataLe_R : PySem.W.dataLe false encR = leR := by
  funext p q
  show (!PySem.W.dataLt (encR q) (encR p)) = _
  unfold encR leR
  rw [PySem.W.dataLt_pair (by simp [PySem.W.alike]) (alike_zs _ _), dataLt_zs, PySem.W.dataLt_int, eqv_zs, eqv_int]
  by_cases h1 : (q.1 : Int) = (p.1 : Int)
  · have h1' : p.1 = q.1 := by omega
    rw [if_pos (decide_eq_true h1)]
    by_cases h2 : zs q.2 = zs p.2
    · rw [if_pos (decide_eq_true h2), decide_eq_true (.inr ⟨h1', by rw [h2]; exact List.le_refl _⟩)]
      rfl
    · rw [if_neg (by rw [decide_eq_false h2]; exact Bool.false_ne_true)]
      by_cases h3 : zs q.2 < zs p.2
      · rw [decide_eq_true h3, decide_eq_false]
        · rfl
        · rintro (z | ⟨_, z⟩)
          · omega
          · exact List.not_lt.mpr z h3
      · rw [decide_eq_false h3, decide_eq_true (.inr ⟨h1', List.not_lt.mp h3⟩)]
        rfl
  · rw [if_neg (by rw [decide_eq_false h1]; exact Bool.false_ne_true)]
    by_cases h3 : (q.1 : Int) < (p.1 : Int)
    · rw [decide_eq_true h3, decide_eq_false]
      · rfl
      · rintro (z | ⟨z, _⟩) <;> omega
    · rw [decide_eq_false h3, decide_eq_true (.inl (by omega))]
      rfl
theorem zs_inj {a b : List Nat} (h : zs a = zs b) : a = b := by
  induction a generalizing b with
  | nil => cases b with
    | nil => rfl
    | cons y b => cases h
  | cons x a ih => cases b with
    | nil => cases h
    | cons y b =>
      obtain ⟨h1, h2⟩ := List.cons.inj h
      have h3 : (x : Int) = (y : Int) := h1
      rw [ih h2, show x = y by omega]
theorem leR_trans (a b c : PC) (h1 : leR a b = true) (h2 : leR b c = true) : leR a c = true := by
  unfold leR at *
  have h1 := of_decide_eq_true h1
  have h2 := of_decide_eq_true h2
  refine decide_eq_true ?_
  rcases h1 with h1 | ⟨h1, g1⟩ <;> rcases h2 with h2 | ⟨h2, g2⟩
  · exact .inl (by omega)
  · exact .inl (by omega)
  · exact .inl (by omega)
  · exact .inr ⟨by omega, List.le_trans g1 g2⟩
theorem leR_total (a b : PC) : (leR a b || leR b a) = true := by
  unfold leR
  rw [Bool.or_eq_true, decide_eq_true_eq, decide_eq_true_eq]
  rcases Nat.lt_trichotomy a.1 b.1 with h | h | h
  · exact .inl (.inl h)
  · rcases List.le_total (zs a.2) (zs b.2) with g | g
    · exact .inl (.inr ⟨h, g⟩)
    · exact .inr (.inr ⟨h.symm, g⟩)
  · exact .inr (.inl h)
theorem leR_anti (a b : PC) (h1 : leR a b = true) (h2 : leR b a = true) : a = b := by
  unfold leR at *
  have h1 := of_decide_eq_true h1
  have h2 := of_decide_eq_true h2
  have e1 : a.1 = b.1 := by rcases h1 with h1 | h1 <;> rcases h2 with h2 | h2 <;> omega
  have e2 : zs a.2 = zs b.2 := by
    rcases h1 with h1 | ⟨_, g1⟩
    · omega
    · rcases h2 with h2 | ⟨_, g2⟩
      · omega
      · exact List.le_antisymm g1 g2
  obtain ⟨a1, a2⟩ := a
  obtain ⟨b1, b2⟩ := b
  have := zs_inj e2
  dsimp only at e1 this
  rw [e1, this]
/-- ascending -/
def srt (l : List PC) : List PC := l.mergeSort leR
theorem srt_perm (l : List PC) : (srt l).Perm l := List.mergeSort_perm _ _
theorem srt_same {l m : List PC} (h : l.Perm m) : srt l = srt m :=
  (((srt_perm l).trans h).trans (srt_perm m).symm).eq_of_pairwise (fun a b _ _ h1 h2 => leR_anti a b h1 h2) (List.pairwise_mergeSort leR_trans leR_total l) (List.pairwise_mergeSort leR_trans leR_total m)
/-- all cuts of the round -/
def allR (lot : List Tx) (t : Tx) : List PC := (List.range t.length).flatMap fun p => (Rd lot t p).map fun c => (p, c)
theorem allR_len {lot : List Tx} (hL : ∀ i, i < lot.length → wd lot i ≠ []) {t : Tx} (ht : t ≠ []) : (allR lot t).length = N lot t := by
  unfold allR
  rw [List.length_flatMap, ← Rd_count hL ht]
  exact Sm_congr fun p _ => by rw [List.length_map]
end K16
set_option Elab.async false
set_option linter.all false
set_option maxRecDepth 100000
set_option maxHeartbeats 2000000
namespace K16
open PySem PySem.Spec PyProof.Rows L2 Evl Wc Wt
def areSigns (a : Tx) (most : Int) : Bool := decide ((a.length : Int) ≤ most) && a.all fun c => decide (c ∈ [97, 98, 99, 100])
def sp_are_signs : Sp := fun vs H Q _ => ∃ (a : Tx) (most : Int), vs = [T a, .int most] ∧ a.length ≤ 20000 ∧ RetV (.bl (areSigns a most)) H Q
def sp_is_text : Sp := fun vs H Q _ => ∃ (a : Tx), vs = [T a] ∧ a.length ≤ 20000 ∧ RetV (.bl (areSigns a 400)) H Q
def sp_need_some : Sp := fun vs H Q _ => ∃ (a : Tx), vs = [T a] ∧ a.length ≤ 400 ∧ (∀ c ∈ a, abcd c) ∧ a ≠ [] ∧ RetV .non H Q
theorem areSigns_ok {a : Tx} {m : Nat} (h1 : a.length ≤ m) (h2 : ∀ c ∈ a, abcd c) : areSigns a (m : Int) = true := by
  unfold areSigns
  rw [Bool.and_eq_true, decide_eq_true_eq, List.all_eq_true]
  refine ⟨by omega, fun c hc => decide_eq_true ?_⟩
  have := h2 c hc
  unfold abcd at this
  have h4 : c = 97 ∨ c = 98 ∨ c = 99 ∨ c = 100 := by omega
  rcases h4 with rfl | rfl | rfl | rfl <;> decide
section
variable {P : Program} {w : World} {K : PySem.W.Frag} {mg : Str → Option Value} {base : Heap}
theorem ok_are_signs {f : Addr} {fd : FuncData} (F : Fun K "are_signs" "are_signs" st_are_signs f fd) (M : Md K mg) : FnOk P w K mg base CX0 1 f fd ["thing", "most"] sp_are_signs := by
  have nd := sc_are_signs.nd
  refine F.ok sc_are_signs (fun vs H Q E h => ?_) (fun cdv A outer s H vs Q E hr h => ?_)
  · obtain ⟨_, _, rfl, _⟩ := h
    rfl
  · obtain ⟨a, most, rfl, ha, k⟩ := h
    refine ⟨_, (pss_one (ps_ret (pe_and (pe_callB (kcr K (r := rIsiB) cr_isi) (by rfl) M.n_isinstance boot_isinstance (pa_cons (pv 0) (pa_cons (pe_bltn (v := .ty "str") rfl M.n_str boot_str rfl) pa_nil))) (pe_and (pe_cmpR op_le (pe_callB cr_lenT (by rfl) M.n_len boot_len (pa_cons (pv 0) pa_nil)) (pv 1) (nomark _)) (pe_one (pe_callB (kcr K (r := rAll) (cr_all rfl)) (by rfl) M.n_all boot_all (pa_cons (pe_lc (own := [("sign", 2)]) rfl nd (pi_str (pv 0)) (blkOk_by (N := N_are_signs) (sc := defScope st_are_signs) (by decide +kernel)) (fun _ _ _ _ _ => (pg_name (i := 2) nd rfl (Or.inl rfl))) (fun _ _ _ _ _ => pts_nil) (fun _ _ _ _ _ => (pe_cmpR op_inT (pv 2) (pe_gT M.c_SIGNS [97, 98, 99, 100]) (by rfl)))) pa_nil))))))), ?_⟩
    exact s_ret (ev_andV (ev_cb (ea_cons (ev_var rfl) (ea_cons ev_c ea_nil)) (rc_isi (fun _ _ => .base (.str _)) k_str_str)) fun _ => ev_andV (ev_op (ev_cb (ea_cons (ev_var rfl) ea_nil) (rc_lenT (by omega))) (ev_var rfl) rv_I0) fun _ =>
      ev_cbL (el_lcM a (src_str (ev_var rfl)) (by omega) (fun _ => rfl) fun c H1 e1 hc => ev_op (ev_var rfl) ev_c rv_inT) fun p H1 hp e1 => rc_allM (sq_of hp)) k
theorem ok_is_text {f : Addr} {fd : FuncData} (F : Fun K "is_text" "is_text" st_is_text f fd) (M : Md K mg) (C_are_signs : Cal P w K mg base "are_signs" st_are_signs 1 ["thing", "most"] sp_are_signs) : FnOk P w K mg base CX0 2 f fd ["thing"] sp_is_text := by
  have nd := sc_is_text.nd
  refine F.ok sc_is_text (fun vs H Q E h => ?_) (fun cdv A outer s H vs Q E hr h => ?_)
  · obtain ⟨_, rfl, _⟩ := h
    rfl
  · obtain ⟨a, rfl, ha, k⟩ := h
    refine ⟨_, (pss_one (ps_ret (pe_cl C_are_signs hr (pa_cons (pv 0) (pa_cons (pe_gI M.c_MOST_SIGNS) pa_nil))))), ?_⟩
    exact s_ret (ev_call (ea_cons (ev_var rfl) (ea_cons ev_c ea_nil)) fun H1 e1 Q q E => ⟨a, 400, rfl, ha, q⟩) k
theorem ok_need_some_text {f : Addr} {fd : FuncData} (F : Fun K "need_some_text" "need_some_text" st_need_some_text f fd) (M : Md K mg) (C_is_text : Cal P w K mg base "is_text" st_is_text 2 ["thing"] sp_is_text) : FnOk P w K mg base CX0 3 f fd ["text"] sp_need_some := by
  have nd := sc_need_some_text.nd
  refine F.ok sc_need_some_text (fun vs H Q E h => ?_) (fun cdv A outer s H vs Q E hr h => ?_)
  · obtain ⟨_, rfl, _⟩ := h
    rfl
  · obtain ⟨a, rfl, ha, hs, hne, k⟩ := h
    refine ⟨_, (pss_one (ps_if (PW.pt (pw_or (pt_not (pt_val (pe_cl C_is_text hr (pa_cons (pv 0) pa_nil)))) (pw_or1 (pt_cmpR op_eqT (pv 0) (pe_sT []) (nomark _)))))
  (pss_one ps_never)
  pss_nil)), ?_⟩
    have h1 : areSigns a 400 = true := areSigns_ok (m := 400) ha hs
    exact s_when (b := false) (et_is (et_or (a := false) (b := false) (et_is (et_not (et_B (ev_call (ea_cons (ev_var rfl) ea_nil) fun H1 e1 Q q E => ⟨a, rfl, by omega, q⟩))) (by rw [h1]; rfl)) fun _ => et_is (et_test (ev_op (ev_var rfl) ev_c rv_eqT)) (decide_eq_false hne)) rfl) (fun z => by cases z) (fun _ => k)
def sp_is_word : Sp := fun vs H Q _ => ∃ (a : Tx), vs = [T a] ∧ a.length ≤ 20000 ∧ RetV (.bl (areSigns a 12 && !decide (a = []))) H Q
/-- a lot at p -/
def LotAt (p : Addr) (lot : List Tx) (H : Hp) : Prop := H p = some (.tup (lot.map T)) ∧ IsLot lot
def sp_ascending : Sp := fun vs H Q _ => ∃ (p : Addr) (lot : List Tx), vs = [.ref p] ∧ LotAt p lot H ∧ RetV (.bl true) H Q
def sp_lot_form : Sp := fun vs H Q _ => ∃ (p : Addr) (lot : List Tx), vs = [.ref p] ∧ LotAt p lot H ∧ RetV (.bl true) H Q
def sp_need_lot : Sp := fun vs H Q _ => ∃ (p : Addr) (lot : List Tx), vs = [.ref p] ∧ LotAt p lot H ∧ RetV .non H Q
def sp_need_round : Sp := fun vs H Q _ => ∃ (p : Addr) (lot : List Tx) (a : Tx), vs = [.ref p, T a] ∧ LotAt p lot H ∧ a.length ≤ 400 ∧ (∀ c ∈ a, abcd c) ∧ a ≠ [] ∧ RetV .non H Q
theorem LotAt.ex {p : Addr} {lot : List Tx} {H H1 : Hp} (h : LotAt p lot H) (e : Ex H H1) : LotAt p lot H1 := ⟨e _ _ h.1, h.2⟩
theorem zip_lt : ∀ {lot : List Tx}, lot.Pairwise (· < ·) → ∀ a ∈ List.zip lot (lot.drop 1), a.1 < a.2
  | [], _, a, h => by simp at h
  | [x], _, a, h => by simp at h
  | x :: y :: r, hp, a, h => by
    rw [List.pairwise_cons] at hp
    simp only [List.drop_succ_cons, List.drop_zero, List.zip_cons_cons, List.mem_cons] at h
    rcases h with rfl | h
    · exact hp.1 y List.mem_cons_self
    · have := zip_lt hp.2 a
      simp only [List.drop_succ_cons, List.drop_zero] at this
      exact this h
theorem ok_is_word {f : Addr} {fd : FuncData} (F : Fun K "is_word" "is_word" st_is_word f fd) (M : Md K mg) (C_are_signs : Cal P w K mg base "are_signs" st_are_signs 1 ["thing", "most"] sp_are_signs) : FnOk P w K mg base CX0 2 f fd ["thing"] sp_is_word := by
  have nd := sc_is_word.nd
  refine F.ok sc_is_word (fun vs H Q E h => ?_) (fun cdv A outer s H vs Q E hr h => ?_)
  · obtain ⟨_, rfl, _⟩ := h
    rfl
  · obtain ⟨a, rfl, ha, k⟩ := h
    refine ⟨_, (pss_one (ps_ret (pe_and (pe_cl C_are_signs hr (pa_cons (pv 0) (pa_cons (pe_gI M.c_MOST_LETTERS) pa_nil))) (pe_one (pe_cmpR op_neT (pv 0) (pe_sT []) (nomark _)))))), ?_⟩
    exact s_ret (ev_andV (ev_call (ea_cons (ev_var rfl) (ea_cons ev_c ea_nil)) fun H1 e1 Q q E => ⟨a, 12, rfl, ha, q⟩) fun _ => ev_op (ev_var rfl) ev_c rv_neT) k
theorem ok_is_ascending {f : Addr} {fd : FuncData} (F : Fun K "is_ascending" "is_ascending" st_is_ascending f fd) (M : Md K mg) : FnOk P w K mg base CX0 1 f fd ["things"] sp_ascending := by
  have nd := sc_is_ascending.nd
  refine F.ok sc_is_ascending (fun vs H Q E h => ?_) (fun cdv A outer s H vs Q E hr h => ?_)
  · obtain ⟨_, _, rfl, _⟩ := h
    rfl
  · obtain ⟨p, lot, rfl, ⟨hp, hL⟩, k⟩ := h
    refine ⟨_, (pss_one (ps_ret (pe_callB (kcr K (r := rAll) (cr_all rfl)) (by rfl) M.n_all boot_all (pa_cons (pe_lc (own := [("one", 1), ("other", 2)]) rfl nd (kiza K (RZ.pi_zipA (by rfl) M.n_zip (pa_cons (pv 0) (pa_cons (pe_slice (ksl K (r := rSlA) sl_tupA) (pv 0) (po_some pe_int) po_none) pa_nil)))) (blkOk_by (N := N_is_ascending) (sc := defScope st_is_ascending) (by decide +kernel)) (fun _ _ _ _ _ => (kgt K (n := 2) (pg_tup rfl (pgs_cons (pg_name (i := 1) nd rfl (Or.inl rfl)) (pgs_cons (pg_name (i := 2) nd rfl (Or.inl rfl)) pgs_nil))))) (fun _ _ _ _ _ => pts_nil) (fun _ _ _ _ _ => (pe_cmpR op_ltT' (pv 1) (pv 2) (nomark _)))) pa_nil)))), ?_⟩
    have hsl : EvU (tSl (rSlA K) (tVar 0) (tPart (tC (.int 1))) tNoPart) (start N_is_ascending [.ref p]) H ((lot.drop 1).map T) := by
      have := el_dropU (K := K) (σ := start N_is_ascending [.ref p]) (H := H) (te := tVar 0) (xs := lot.map T) (ev_var rfl) (st_of hp) (by rw [List.length_map]; exact List.length_pos_iff.mpr hL.ne)
      rw [← List.map_drop] at this
      exact this
    have hz : ∀ (i : Nat) (x : V) (H1 : Hp), (∃ q y z, x = .ref q ∧ (lot.map T)[i]? = some y ∧ ((lot.drop 1).map T)[i]? = some z ∧ H1 q = some (.tup [y, z])) → ∃ a, (List.zip lot (lot.drop 1))[i]? = some a ∧ (∃ q, x = .ref q ∧ H1 q = some (.tup [T a.1, T a.2])) := fun i x H1 ⟨q, y, z, h1, h2, h3, h4⟩ => by
      obtain ⟨a, ha, rfl⟩ := at_map h2
      obtain ⟨b, hb, rfl⟩ := at_map h3
      exact ⟨(a, b), by rw [List.getElem?_zip_eq_some]; exact ⟨ha, hb⟩, q, h1, h4⟩
    have hlt : ∀ a ∈ List.zip lot (lot.drop 1), a.1 < a.2 := zip_lt hL.asc
    refine s_ret (ev_is (ev_cbL (el_lcG (p := fun _ => true) (gv := fun _ => V.bl true) (List.zip lot (lot.drop 1)) (fun a => [some (.ref p), some (T a.1), some (T a.2)]) (fun a x H1 => ∃ q, x = .ref q ∧ H1 q = some (.tup [T a.1, T a.2])) (src_zipT (n := min (lot.map T).length ((lot.drop 1).map T).length) (ev_var rfl) hsl (st_of hp) rfl) ?_ ?_ hz ?_ (fun _ => rfl) (fun a H1 e1 ha => et_yes) (fun a H1 e1 ha _ => ev_is (ev_op (ev_var rfl) (ev_var rfl) rv_ltT) (by rw [decide_eq_true (hlt a ha)]))) fun q H2 hq e2 => ?_) rfl) k
    · rw [List.length_map]
      have := hL.few
      omega
    · simp
    · rintro a x H1 Q' ⟨q, rfl, hq⟩ k'
      exact ⟨q, _, rfl, st_of hq, rfl, T a.1, [T a.2], rfl, T a.2, [], rfl, rfl, k'⟩
    · exact rc_allT (sq_of hq)
theorem ok_is_lot_form {f : Addr} {fd : FuncData} (F : Fun K "is_lot_form" "is_lot_form" st_is_lot_form f fd) (M : Md K mg) (C_is_word : Cal P w K mg base "is_word" st_is_word 2 ["thing"] sp_is_word) (C_is_ascending : Cal P w K mg base "is_ascending" st_is_ascending 1 ["things"] sp_ascending) : FnOk P w K mg base CX0 3 f fd ["thing"] sp_lot_form := by
  have nd := sc_is_lot_form.nd
  refine F.ok sc_is_lot_form (fun vs H Q E h => ?_) (fun cdv A outer s H vs Q E hr h => ?_)
  · obtain ⟨_, _, rfl, _⟩ := h
    rfl
  · obtain ⟨p, lot, rfl, ⟨hp, hL⟩, k⟩ := h
    refine ⟨_, (pss_cons (ps_if (PW.pt (pw_or (pt_not (pt_val (pe_callB (kcr K (r := rIsiB) cr_isi) (by rfl) M.n_isinstance boot_isinstance (pa_cons (pv 0) (pa_cons (pe_bltn (v := .ty "tuple") rfl M.n_tuple boot_tuple rfl) pa_nil))))) (pw_or1 (pt_not (pt_chain op_le op_le pe_int (pe_callB (kcr K (r := rLenS) call_len_seq) (by rfl) M.n_len boot_len (pa_cons (pv 0) pa_nil)) (pe_gI M.c_MOST_WORDS))))))
  (pss_one (ps_ret pe_bl))
  pss_nil)
  (pss_one (ps_ret (pe_and (pe_callB (kcr K (r := rAll) (cr_all rfl)) (by rfl) M.n_all boot_all (pa_cons (pe_lc (own := [("word", 1)]) rfl nd (kit K (pi_tup (pv 0))) (blkOk_by (N := N_is_lot_form) (sc := defScope st_is_lot_form) (by decide +kernel)) (fun _ _ _ _ _ => (pg_name (i := 1) nd rfl (Or.inl rfl))) (fun _ _ _ _ _ => pts_nil) (fun _ _ _ _ _ => (pe_cl C_is_word hr (pa_cons (pv 1) pa_nil)))) pa_nil)) (pe_one (pe_cl C_is_ascending hr (pa_cons (pv 0) pa_nil))))))), ?_⟩
    have hpos : 0 < lot.length := List.length_pos_iff.mpr hL.ne
    have hfew := hL.few
    refine q_when (b := false) (et_is (et_or (et_not (et_B (ev_cb (ea_cons (ev_var rfl) (ea_cons ev_c ea_nil)) (rc_isi (b := true) (fun H1 e => .base (.tup (e _ _ hp))) k_tuple_tuple)))) fun _ => et_not (et_test (ev_chain ev_c (ev_lenU (ev_var rfl) (st_of hp)) rv_I0 ev_c rv_I0))) ?_) (fun z => by cases z) (fun _ H1 e1 => ?_)
    · rw [List.length_map]
      simp
      omega
    · refine s_ret (ev_is (w := .bl true) (ev_andV (a := true) (b := true) (ev_cbL (el_lcM (g := fun _ => V.bl true) lot (src_tupM (ev_var rfl) (st_of (e1 _ _ hp))) (by omega) (fun _ => rfl) fun t H2 e2 ht => ev_is (ev_call (ea_cons (ev_var rfl) ea_nil) fun H3 e3 Q3 q3 E => ⟨t, rfl, by have := (hL.wd t ht).1; omega, q3⟩) (by rw [show areSigns t 12 = true from areSigns_ok (m := 12) (hL.wd t ht).1 (hL.wd t ht).2, decide_eq_false (hL.pos t ht)]; rfl)) fun q H2 hq e2 => rc_allT (sq_of hq)) fun _ => ev_call (ea_cons (ev_var rfl) ea_nil) fun H3 e3 Q3 q3 E => ⟨p, lot, rfl, ⟨(e1.trans e3) _ _ hp, hL⟩, q3⟩) rfl) (RetV.mono k e1)
theorem ok_need_lot {f : Addr} {fd : FuncData} (F : Fun K "need_lot" "need_lot" st_need_lot f fd) (M : Md K mg) (C_is_lot_form : Cal P w K mg base "is_lot_form" st_is_lot_form 3 ["thing"] sp_lot_form) : FnOk P w K mg base CX0 4 f fd ["lot"] sp_need_lot := by
  have nd := sc_need_lot.nd
  refine F.ok sc_need_lot (fun vs H Q E h => ?_) (fun cdv A outer s H vs Q E hr h => ?_)
  · obtain ⟨_, _, rfl, _⟩ := h
    rfl
  · obtain ⟨p, lot, rfl, hL, k⟩ := h
    refine ⟨_, (pss_one (ps_if (pt_not (pt_val (pe_cl C_is_lot_form hr (pa_cons (pv 0) pa_nil))))
  (pss_one ps_never)
  pss_nil)), ?_⟩
    exact s_when (b := false) (et_is (et_not (et_B (ev_call (ea_cons (ev_var rfl) ea_nil) fun H1 e1 Q q E => ⟨p, lot, rfl, hL.ex e1, q⟩))) rfl) (fun z => by cases z) (fun _ => k)
theorem ok_need_round {f : Addr} {fd : FuncData} (F : Fun K "need_round" "need_round" st_need_round f fd) (M : Md K mg) (C_need_lot : Cal P w K mg base "need_lot" st_need_lot 4 ["lot"] sp_need_lot) (C_need_some_text : Cal P w K mg base "need_some_text" st_need_some_text 3 ["text"] sp_need_some) : FnOk P w K mg base CX0 5 f fd ["lot", "text"] sp_need_round := by
  have nd := sc_need_round.nd
  refine F.ok sc_need_round (fun vs H Q E h => ?_) (fun cdv A outer s H vs Q E hr h => ?_)
  · obtain ⟨_, _, _, rfl, _⟩ := h
    rfl
  · obtain ⟨p, lot, a, rfl, hL, ha, hc, hne, k⟩ := h
    refine ⟨_, (pss_cons (ps_expr (pe_cl C_need_lot hr (pa_cons (pv 0) pa_nil)))
  (pss_one (ps_expr (pe_cl C_need_some_text hr (pa_cons (pv 1) pa_nil))))), ?_⟩
    refine q_drop (ev_call (ea_cons (ev_var rfl) ea_nil) fun H1 e1 Q q E => ⟨p, lot, rfl, hL.ex e1, q⟩) fun H1 e1 => ?_
    exact s_drop (ev_call (ea_cons (ev_var rfl) ea_nil) fun H2 e2 Q q E => ⟨a, rfl, ha, hc, hne, q⟩) fun H2 e2 => k H2 (e1.trans e2)
end
end K16
set_option Elab.async false
set_option linter.all false
set_option maxRecDepth 100000
set_option maxHeartbeats 4000000
namespace K16
open PySem PySem.Spec PyProof.Rows L2 Evl Wc Wt Wg
def numV (c : List Nat) : List V := c.map fun (n : Nat) => V.int (n : Int)
theorem numV_len (c : List Nat) : (numV c).length = c.length := List.length_map _
theorem numV_at {c : List Nat} {i n : Nat} (h : c[i]? = some n) : (numV c)[i]? = some (.int (n : Int)) := by
  unfold numV
  rw [List.getElem?_map, h]
  rfl
theorem numV_set (c : List Nat) (i n : Nat) : (numV c).set i (.int (n : Int)) = numV (c.set i n) := by
  unfold numV
  rw [List.map_set]
theorem lot_wd {lot : List Tx} (h : IsLot lot) : ∀ i, i < lot.length → wd lot i ≠ [] := fun i hi => by
  unfold wd
  rw [List.getD_eq_getElem?_getD, List.getElem?_eq_getElem hi]
  exact h.pos _ (List.getElem_mem hi)
theorem wd_at {lot : List Tx} {i : Nat} (h : i < lot.length) : lot[i]? = some (wd lot i) := by
  unfold wd
  rw [List.getD_eq_getElem?_getD, List.getElem?_eq_getElem h]
  rfl
theorem wd_12 {lot : List Tx} (h : IsLot lot) {i : Nat} (hi : i < lot.length) : (wd lot i).length ≤ 12 := (h.wd _ (List.mem_of_getElem? (wd_at hi))).1
/-- the class Round -/
structure RW (K : PySem.W.Frag) (C : Addr) : Prop where
  cl : Cls K C
  n_lot : NoAttr K C "lot"
  n_text : NoAttr K C "text"
/-- no method's name is a field -/
structure NoM (fs : List (Str × V)) : Prop where
  m1 : fs.lookup ("turned" : Str) = none
  m2 : fs.lookup ("counts_from" : Str) = none
  m3 : fs.lookup ("count_behind" : Str) = none
  m4 : fs.lookup ("number" : Str) = none
  m5 : fs.lookup ("cut_from" : Str) = none
  m6 : fs.lookup ("cuts" : Str) = none
/-- an object of it stands at x -/
structure RoundAt (C x : Addr) (lot : List Tx) (t : Tx) (fs : List (Str × V)) (H : Hp) : Prop where
  ob : ∃ dx, H x = some (.ins C dx fs)
  flot : ∃ pl, fs.lookup ("lot" : Str) = some (.ref pl) ∧ LotAt pl lot H
  ftext : fs.lookup ("text" : Str) = some (T t)
  len : t.length ≤ 400
  ne : t ≠ []
  nom : NoM fs
theorem RoundAt.ex {C x : Addr} {lot : List Tx} {t : Tx} {fs : List (Str × V)} {H H1 : Hp} (W : RoundAt C x lot t fs H) (e : Ex H H1) : RoundAt C x lot t fs H1 := by
  obtain ⟨⟨dx, h1⟩, ⟨pl, h2, h3⟩, h4, h5, h6, h7⟩ := W
  exact ⟨⟨dx, e _ _ h1⟩, ⟨pl, h2, h3.ex e⟩, h4, h5, h6, h7⟩
theorem RoundAt.isLot {C x : Addr} {lot : List Tx} {t : Tx} {fs : List (Str × V)} {H : Hp} (W : RoundAt C x lot t fs H) : IsLot lot := by
  obtain ⟨pl, _, h⟩ := W.flot
  exact h.2
section
variable {K : PySem.W.Frag} {σ : L2.St} {H : Hp} {te : TE} {ta : TA}
/-- o.m(..) -/
theorem m_call {C x dx : Addr} {fs : List (Str × V)} {m : Str} {sp : Sp} {E : XK} {Q : VK} {i : Nat} (h0 : σ[i]? = some (some (.ref x))) (hx : H x = some (.ins C dx fs)) (hm : fs.lookup m = none) (k : ta σ H fun vs H1 => sp (.ref x :: (vs ++ [])) H1 Q E) : tMeth C m sp [] E (tVar i) ta σ H Q := ⟨.ref x, h0, x, dx, fs, rfl, hx, hm, k⟩
theorem ev_text {C x : Addr} {lot : List Tx} {t : Tx} {fs : List (Str × V)} {i : Nat} (Wk : RW K C) (R : RoundAt C x lot t fs H) (h0 : σ[i]? = some (some (.ref x))) : Ev (tFld K (tVar i) "text") σ H (T t) := by
  obtain ⟨dx, hx⟩ := R.ob
  exact ev_fld (ev_var h0) hx Wk.cl Wk.n_text R.ftext
theorem ev_textLen {C x : Addr} {lot : List Tx} {t : Tx} {fs : List (Str × V)} {i : Nat} (Wk : RW K C) (R : RoundAt C x lot t fs H) (h0 : σ[i]? = some (some (.ref x))) : Ev (tCB rLenT (tCons (tFld K (tVar i) "text") tNil)) σ H (.int (t.length : Int)) := ev_cb (ea_cons (ev_text Wk R h0) ea_nil) (rc_lenT (by have := R.len; omega))
end
section
variable {P : Program} {w : World} {K : PySem.W.Frag} {mg : Str → Option Value} {base : Heap}
def sp_turned (C : Addr) : Sp := fun vs H Q _ => ∃ (x : Addr) (lot : List Tx) (t : Tx) (fs : List (Str × V)) (p : Nat), vs = [.ref x, .int (p : Int)] ∧ RoundAt C x lot t fs H ∧ RetV (T (tn t p)) H Q
theorem ok_Round_turned {f C : Addr} {fd : FuncData} (F : Fun K "turned" "Round.turned" st_Round_turned f fd) (M : Md K mg) (W : RW K C) : FnOk P w K mg base CX0 1 f fd ["self", "place"] (sp_turned C) := by
  have nd := sc_Round_turned.nd
  refine F.ok sc_Round_turned (fun vs H Q E h => ?_) (fun cdv A outer s H vs Q E hr h => ?_)
  · obtain ⟨_, _, _, _, _, rfl, _⟩ := h
    rfl
  · obtain ⟨x, lot, t, fs, p, rfl, R, k⟩ := h
    refine ⟨_, (pss_one (ps_ret (pe_op op_addT (pe_slice sl_T (kfl K (pe_fld (pv 0) rfl)) (po_some (pv 1)) po_none) (pe_slice sl_T (kfl K (pe_fld (pv 0) rfl)) po_none (po_some (pv 1)))))), ?_⟩
    have hl := R.len
    refine s_ret (ev_is (w := T (tn t p)) (ev_op (ev_slT (lo := some (p : Int)) (ev_text W R rfl) (eo_some (ev_var rfl)) eo_none (by omega)) (ev_slT (hi := some (p : Int)) (ev_text W R rfl) eo_none (eo_some (ev_var rfl)) (by omega)) (rv_addT ?_)) ?_) k
    · rw [cutT_from, cutT_to, List.length_drop, List.length_take]
      omega
    · rw [cutT_from, cutT_to]
      rfl
/-- cuts behind a word, by the numbers z at the ends -/
def cb (u : Tx) (z : List Nat) (s : Nat) (wrd : Tx) : Nat := if s + wrd.length ≤ u.length ∧ (u.drop s).take wrd.length = wrd then z.getD (s + wrd.length) 0 else 0
def sp_behind (C : Addr) : Sp := fun vs H Q _ => ∃ (x pc : Addr) (z : List Nat) (u wrd : Tx) (s : Nat), vs = [.ref x, .ref pc, T u, .int (s : Int), T wrd] ∧ H pc = some (.lst (numV z)) ∧ z.length = u.length + 1 ∧ u.length ≤ 400 ∧ wrd.length ≤ 400 ∧ RetV (.int ((cb u z s wrd : Nat) : Int)) H Q
theorem ok_Round_count_behind {f C : Addr} {fd : FuncData} (F : Fun K "count_behind" "Round.count_behind" st_Round_count_behind f fd) (M : Md K mg) (W : RW K C) : FnOk P w K mg base CX0 1 f fd ["self", "counts", "text", "spot", "word"] (sp_behind C) := by
  have nd := sc_Round_count_behind.nd
  refine F.ok sc_Round_count_behind (fun vs H Q E h => ?_) (fun cdv A outer s H vs Q E hr h => ?_)
  · obtain ⟨_, _, _, _, _, _, rfl, _⟩ := h
    rfl
  · obtain ⟨x, pc, z, u, wrd, s, rfl, hpc, hz, hu, hw, k⟩ := h
    refine ⟨_, (pss_cons (ps_set (i := 5) nd rfl (Or.inl rfl) (pe_op op_add (pv 3) (pe_callB cr_lenT (by rfl) M.n_len boot_len (pa_cons (pv 4) pa_nil))))
  (pss_one (ps_ret (pe_ifExp (PW.pt (pw_and (pt_cmpR op_le (pv 5) (pe_callB cr_lenT (by rfl) M.n_len boot_len (pa_cons (pv 2) pa_nil)) (nomark _)) (pw_and1 (pt_val (kbm K (pe_bm PySem.F.plainAttrs_str PySem.F.slot_str_startswith PySem.F.type_str_startswith mt_start3T (pv 2) (pa_cons (pv 4) (pa_cons (pv 3) pa_nil)))))))) (pe_ix (kix K (r := L2.rIxL) ix_list) (pv 1) (pv 5) (fun _ _ => rfl)) pe_int)))), ?_⟩
    refine q_asg (v := .int ((s + wrd.length : Nat) : Int)) (ev_is (ev_op (ev_var rfl) (ev_cb (ea_cons (ev_var rfl) ea_nil) (rc_lenT (by omega))) rv_I0) (by congr 1)) fun H1 e1 => ?_
    show tRet _ _ [some (.ref x), some (.ref pc), some (T u), some (.int (s : Int)), some (T wrd), some (.int ((s + wrd.length : Nat) : Int))] H1
    refine s_ret (v := .int ((cb u z s wrd : Nat) : Int)) (ev_if (b := decide (s + wrd.length ≤ u.length) && decide (s + wrd.length ≤ u.length ∧ StAt u wrd s)) (et_and (et_is (et_test (ev_op (ev_var rfl) (ev_cb (ea_cons (ev_var rfl) ea_nil) (rc_lenT (by omega))) rv_I0)) (decide_eq_decide.mpr Int.ofNat_le)) fun _ => et_B (ev_bmT (ev_var rfl) (ea_cons (ev_var rfl) (ea_cons (ev_var rfl) ea_nil)) fun H2 e2 Q2 q2 => ⟨u, wrd, s, rfl, rfl, q2 H2 (Ex.refl _)⟩)) (fun hb => ?_) (fun hb => ?_)) (RetV.mono k e1)
    · have hc := of_decide_eq_true (Bool.and_eq_true_iff.mp hb).2
      have hc2 : s + wrd.length ≤ u.length ∧ (u.drop s).take wrd.length = wrd := hc
      unfold cb
      rw [if_pos hc2]
      have hlt : s + wrd.length < z.length := by omega
      rw [List.getD_eq_getElem?_getD, List.getElem?_eq_getElem hlt]
      exact ev_op (ev_var rfl) (ev_var rfl) (rv_ixL (sq_of (e1 _ _ hpc)) (atI_nat (numV_at (List.getElem?_eq_getElem hlt))))
    · have hc : ¬ (s + wrd.length ≤ u.length ∧ (u.drop s).take wrd.length = wrd) := fun hc => by
        rw [decide_eq_true hc.1, Bool.true_and] at hb
        exact (of_decide_eq_false hb) hc
      unfold cb
      rw [if_neg hc]
      exact ev_c
/-- the numbers from a place on -/
def cnts (lot : List Tx) (t : Tx) (p : Nat) : List Nat := (List.range (t.length + 1)).map fun s => gN lot (tn t p) (okR t.length p) s
theorem cnts_at {lot : List Tx} {t : Tx} {p s : Nat} (h : s ≤ t.length) : (cnts lot t p)[s]? = some (gN lot (tn t p) (okR t.length p) s) := by
  unfold cnts
  rw [List.getElem?_map, List.getElem?_range (by omega)]
  rfl
theorem cnts_len (lot : List Tx) (t : Tx) (p : Nat) : (cnts lot t p).length = t.length + 1 := by
  unfold cnts
  rw [List.length_map, List.length_range]
def sp_counts (C : Addr) : Sp := fun vs H Q _ => ∃ (x : Addr) (lot : List Tx) (t : Tx) (fs : List (Str × V)) (p : Nat), vs = [.ref x, .int (p : Int)] ∧ RoundAt C x lot t fs H ∧ p < t.length ∧ RetL (numV (cnts lot t p)) H Q
theorem ok_Round_counts_from {f C : Addr} {fd : FuncData} (F : Fun K "counts_from" "Round.counts_from" st_Round_counts_from f fd) (M : Md K mg) (W : RW K C) (MT_Round_turned : C8.Met P w K mg base 1 C "turned" (sp_turned C) []) (MT_Round_count_behind : C8.Met P w K mg base 1 C "count_behind" (sp_behind C) []) : FnOk P w K mg base CX0 2 f fd ["self", "place"] (sp_counts C) := by
  have nd := sc_Round_counts_from.nd
  refine F.ok sc_Round_counts_from (fun vs H Q E h => ?_) (fun cdv A outer s H vs Q E hr h => ?_)
  · obtain ⟨_, _, _, _, _, rfl, _⟩ := h
    rfl
  · obtain ⟨x, lot, t, fs, p, rfl, R, hp, k⟩ := h
    refine ⟨_, (pss_cons (ps_asg (pe_tup (pa_cons (pe_callB cr_lenT (by rfl) M.n_len boot_len (pa_cons (kfl K (pe_fld (pv 0) rfl)) pa_nil)) (pa_cons (C8.pe_mt MT_Round_turned hr (by decide) (pv 0) (pa_cons (pv 1) pa_nil)) pa_nil))) (kgt K (n := 2) (pg_tup rfl (pgs_cons (pg_name (i := 2) nd rfl (Or.inl rfl)) (pgs_cons (pg_name (i := 3) nd rfl (Or.inr rfl)) pgs_nil)))))
  (pss_cons (ps_set (i := 4) nd rfl (Or.inr rfl) (pe_op op_cat (pe_op op_rep (pe_lst (pa_cons pe_int pa_nil)) (pv 2)) (pe_lst (pa_cons pe_int pa_nil))))
  (pss_cons (ps_for PassesOwn.never rfl (pi_range3 (by rfl) M.n_range (pa_cons (pe_op op_sub (pv 2) pe_int) (pa_cons (pe_un un_neg pe_int) (pa_cons (pe_un un_neg pe_int) pa_nil)))) (pg_name (i := 5) nd rfl (Or.inr rfl))
  (pss_one (ps_if (PW.pt (pw_or (pt_cmpR op_eqI (pv 5) pe_int (nomark _)) (pw_or1 (pt_cmpR op_lt (pe_op op_add (pv 1) (pv 5)) (pv 2) (nomark _)))))
  (pss_one (ps_asg (pe_callB (kcr K (r := rSum) (cr_sum rfl)) (by rfl) M.n_sum boot_sum (pa_cons (pe_lc (own := [("word", 6)]) rfl nd (kit K (pi_tup (kfl K (pe_fld (pv 0) rfl)))) (blkOk_by (N := N_Round_counts_from) (sc := defScope st_Round_counts_from) (by decide +kernel)) (fun _ _ _ _ _ => (pg_name (i := 6) nd rfl (Or.inl rfl))) (fun _ _ _ _ _ => pts_nil) (fun _ _ _ _ _ => (C8.pe_mt MT_Round_count_behind hr (by decide) (pv 0) (pa_cons (pv 4) (pa_cons (pv 3) (pa_cons (pv 5) (pa_cons (pv 6) pa_nil))))))) pa_nil)) (pg_sub (pv 4) (pv 5) set_list)))
  pss_nil)))
  (pss_one (ps_ret (pv 4)))))), ?_⟩
    have hl := R.len
    have hLot := R.isLot
    have hfew := hLot.few
    have hWd := lot_wd hLot
    have htl := tn_len t p
    obtain ⟨dx, hx⟩ := R.ob
    obtain ⟨pl, f1, hpl⟩ := R.flot
    refine (ev_textLen W R rfl : Ev _ (start N_Round_counts_from [.ref x, .int (p : Int)]) H _) H (Ex.refl _) _ fun Ha ea => m_call (i := 0) rfl (ea _ _ hx) R.nom.m1 ((ea_cons (ev_var rfl) ea_nil : EvA _ (start N_Round_counts_from [.ref x, .int (p : Int)]) Ha [.int (p : Int)]) Ha (Ex.refl _) _ fun Hb eb => ⟨x, lot, t, fs, p, rfl, R.ex (ea.trans eb), fun Hc ec => ⟨by show 2 ≤ sizeLine; decide, fun pt hpt => ⟨pt, _, rfl, st_of upd_same, rfl, _, _, rfl, _, _, rfl, rfl, ?_⟩⟩⟩)
    have eA : Ex H (upd Hc pt (.tup [.int (t.length : Int), T (tn t p)])) := ((ea.trans eb).trans ec).trans (Ex.new hpt)
    generalize upd Hc pt (.tup [.int (t.length : Int), T (tn t p)]) = H1 at eA
    show tSeq _ _ _ [some (.ref x), some (.int (p : Int)), some (.int (t.length : Int)), some (T (tn t p)), none, none, none] H1
    have hrep : EvL (tOp rCat (tOp rRep (tLst (tCons (tC (.int 0)) tNil)) (tVar 2)) (tLst (tCons (tC (.int 1)) tNil))) [some (.ref x), some (.int (p : Int)), some (.int (t.length : Int)), some (T (tn t p)), none, none, none] H1 (numV (List.replicate t.length 0 ++ [1])) := by
      have h := el_catNN (el_rep (n := t.length) (el_lst (ea_cons (ev_c (v := V.int 0)) ea_nil) (by show 1 ≤ 100000; decide) : EvL _ [some (.ref x), some (.int (p : Int)), some (.int (t.length : Int)), some (T (tn t p)), none, none, none] H1 [V.int 0]) (ev_var (i := 2) rfl) (by simp; omega) (by omega)) (el_lst (ea_cons (ev_c (v := V.int 1)) ea_nil) (by show 1 ≤ 100000; decide)) (by rw [rep_one]; simp; omega)
      rw [rep_one] at h
      have e : List.replicate t.length (V.int 0) ++ [V.int 1] = numV (List.replicate t.length 0 ++ [1]) := by
        unfold numV
        rw [List.map_append, List.map_replicate]
        rfl
      rw [e] at h
      exact h
    refine q_asgL hrep fun pb H2 hpb e2 h2 => ?_
    show tSeq _ _ _ [some (.ref x), some (.int (p : Int)), some (.int (t.length : Int)), some (T (tn t p)), some (.ref pb), none, none] H2
    have hpb0 : H pb = none := fresh_back eA hpb
    refine q_forW (fun c => c = pb) (src_down (n := t.length) (ea_cons (ev_op (ev_var rfl) ev_c rv_I0) (ea_cons (ev_un ev_c ru_neg) (ea_cons (ev_un ev_c ru_neg) ea_nil))) (by omega)) ?_
      (fun Hs i σ' H' => ∃ (z : List Nat) (v5 : Option V), σ' = [some (.ref x), some (.int (p : Int)), some (.int (t.length : Int)), some (T (tn t p)), some (.ref pb), v5, none] ∧ Exc (fun c => c = pb) Hs H' ∧ Exc (fun c => c = pb) H2 H' ∧ H' pb = some (.lst (numV z)) ∧ z.length = t.length + 1 ∧ (∀ s, s < t.length - i → z[s]? = some 0) ∧ ∀ s, t.length ≤ s + i → s ≤ t.length → z[s]? = some (gN lot (tn t p) (okR t.length p) s)) ?_ ?_ ?_ ?_ ?_
    · rintro c rfl
      exact ⟨by rw [h2]; exact fun z => (nomatch z), fun z => z⟩
    · intro Hs e
      refine ⟨_, none, rfl, Exc.refl _, Exc.of e, e _ _ h2, by simp, fun s hs => ?_, fun s h3 h4 => ?_⟩
      · rw [List.getElem?_append_left (by rw [List.length_replicate]; omega), List.getElem?_replicate, if_pos (by omega)]
      · have : s = t.length := by omega
        subst this
        rw [List.getElem?_append_right (by simp)]
        have := gN_end (lot := lot) (u := tn t p) (ok := okR t.length p)
        rw [htl] at this
        rw [this]
        simp
    · rintro Hs i σ' H' ⟨_, _, _, h, _⟩
      exact h
    · rintro Hs i σ' Ha Hb ⟨z, v5, g0, g1, g2, g3, g4⟩ e
      exact ⟨z, v5, g0, g1.then e, g2.then e, e _ _ g3, g4⟩
    · rintro Hs i y σ' H' e hi ⟨z, v5, rfl, g1, g2, g3, g4, g5, g6⟩ rfl
      obtain ⟨s, hs⟩ : ∃ s : Nat, (t.length : Int) - 1 - (i : Int) = (s : Int) := ⟨t.length - 1 - i, by omega⟩
      rw [hs]
      have hst : s < t.length := by omega
      show tIfS _ _ _ _ [some (.ref x), some (.int (p : Int)), some (.int (t.length : Int)), some (T (tn t p)), some (.ref pb), some (.int (s : Int)), none] H'
      have kp : ∀ b o, H b = some o → H' b = some o := fun b o hb => g2 _ _ (fun zz => by rw [zz, hpb0] at hb; cases hb) (e2 _ _ (eA _ _ hb))
      have hx' := kp _ _ hx
      have hl' := kp _ _ hpl.1
      have hstep := gN_step hWd (u := tn t p) (ok := okR t.length p) (s := s) (by omega)
      refine s_when (b := okR t.length p s) (et_is (et_or (et_test (ev_op (ev_var rfl) ev_c rv_I0)) fun _ => et_test (ev_op (ev_op (ev_var rfl) (ev_var rfl) rv_I0) (ev_var rfl) rv_I0)) ?_) (fun hb H3 e3 => ?_) (fun hb H3 e3 => ?_)
      · unfold okR
        rw [← Bool.decide_or]
        exact decide_eq_decide.mpr (by omega)
      · rw [if_pos hb] at hstep
        have hlc : EvL (tLc (iTup K (tFld K (tVar 0) "lot")) (gName 6) tYes (tMeth C "count_behind" (sp_behind C) [] E0 (tVar 0) (tCons (tVar 4) (tCons (tVar 3) (tCons (tVar 5) (tCons (tVar 6) tNil))))) [6]) [some (.ref x), some (.int (p : Int)), some (.int (t.length : Int)), some (T (tn t p)), some (.ref pb), some (.int (s : Int)), none] H3 (lot.map fun wrd => V.int ((cb (tn t p) z s wrd : Nat) : Int)) :=
          el_lcM (j := 6) (vs := [6]) (f := T) (g := fun wrd => V.int ((cb (tn t p) z s wrd : Nat) : Int)) lot (src_tupM (ev_fld (ev_var rfl) (e3 _ _ hx') W.cl W.n_lot f1) (st_of (e3 _ _ hl'))) (by omega) (fun _ => rfl) fun wrd H4 e4 hw => fun H5 e5 Q5 q5 =>
            m_call (i := 0) rfl ((e3.trans (e4.trans e5)) _ _ hx') R.nom.m3 ((ea_cons (ev_var rfl) (ea_cons (ev_var rfl) (ea_cons (ev_var rfl) (ea_cons (ev_var rfl) ea_nil))) : EvA _ [some (.ref x), some (.int (p : Int)), some (.int (t.length : Int)), some (T (tn t p)), some (.ref pb), some (.int (s : Int)), some (T wrd)] H5 [.ref pb, T (tn t p), .int (s : Int), T wrd]) H5 (Ex.refl _) _ fun H6 e6 => ⟨x, pb, z, tn t p, wrd, s, rfl, (e3.trans ((e4.trans e5).trans e6)) _ _ g3, by rw [htl]; exact g4, by rw [htl]; exact hl, by have := (hLot.wd wrd hw).1; omega, fun H7 e7 => q5 H7 (e6.trans e7)⟩)
        refine s_setL (v := .int ((gN lot (tn t p) (okR t.length p) s : Nat) : Int)) (j := s) (xs := numV z) (e3 _ _ g3) (ev_is (ev_cbL hlc fun q H7 hq e7 => rc_sumM (sq_of hq)) ?_) (ev_var rfl) (ev_var rfl) (by rw [numV_len]; omega) fun H7 e7 => ?_
        · congr 1
          rw [hstep]
          have e1 : (lot.map fun wrd => ((cb (tn t p) z s wrd : Nat) : Int)).sum = ((Sm lot (fun wrd => cb (tn t p) z s wrd) : Nat) : Int) := by
            unfold Sm
            generalize lot = l
            induction l with
            | nil => rfl
            | cons a l ih => rw [List.map_cons, List.map_cons, List.sum_cons, List.sum_cons, ih, Int.natCast_add]
          rw [e1]
          congr 1
          have e2 : Sm lot (fun wrd => cb (tn t p) z s wrd) = Sm (List.range lot.length) fun j => cb (tn t p) z s (wd lot j) := by
            have : lot = (List.range lot.length).map (wd lot) := by
              apply List.ext_getElem?
              intro j
              rw [List.getElem?_map]
              by_cases hj : j < lot.length
              · rw [wd_at hj, List.getElem?_range hj]
                rfl
              · rw [List.getElem?_eq_none (by omega), List.getElem?_eq_none (by rw [List.length_range]; omega)]
                rfl
            conv => lhs; rw [this]
            rw [Sm_map]
          rw [e2]
          refine Sm_congr fun j hj => ?_
          have hj := List.mem_range.mp hj
          have hpj := List.length_pos_iff.mpr (hWd j hj)
          by_cases hst2 : stB lot (tn t p) s j = true
          · obtain ⟨q1, q2⟩ := stB_is hst2
            unfold cb
            rw [if_pos hst2, if_pos ⟨q1, q2⟩, List.getD_eq_getElem?_getD, g6 _ (by omega) (by omega)]
            rfl
          · unfold cb
            rw [if_neg hst2, if_neg fun zz => hst2 (by unfold stB; exact decide_eq_true zz)]
        · refine ⟨z.set s (gN lot (tn t p) (okR t.length p) s), _, rfl, ((g1.then e3).then e7).upd (.inl rfl), ((g2.then e3).then e7).upd (.inl rfl), by rw [upd_same, numV_set], by rw [List.length_set]; exact g4, fun s' hs' => ?_, fun s' h3 h4 => ?_⟩
          · rw [List.getElem?_set_ne (by omega)]
            exact g5 s' (by omega)
          · by_cases he : s' = s
            · subst he
              rw [List.getElem?_set_self (by omega)]
            · rw [List.getElem?_set_ne (Ne.symm he)]
              exact g6 s' (by omega) h4
      · rw [if_neg (by rw [hb]; exact Bool.false_ne_true)] at hstep
        refine ⟨z, _, rfl, g1.then e3, g2.then e3, e3 _ _ g3, g4, fun s' hs' => g5 s' (by omega), fun s' h3 h4 => ?_⟩
        by_cases he : s' = s
        · subst he
          rw [g5 s' (by omega), hstep]
        · exact g6 s' (by omega) h4
    · rintro Hs σ' H' e ⟨z, v5, rfl, g1, g2, g3, g4, g5, g6⟩
      have hz : z = cnts lot t p := by
        apply List.ext_getElem?
        intro s
        by_cases hs : s ≤ t.length
        · rw [cnts_at hs]
          exact g6 s (by omega) hs
        · rw [List.getElem?_eq_none (by omega), List.getElem?_eq_none (by rw [cnts_len]; omega)]
      subst hz
      refine s_ret (ev_var rfl) fun H3 e3 => k pb H3 hpb0 (fun b o hb => e3 _ _ (g2 _ _ (fun zz => by rw [zz, hpb0] at hb; cases hb) (e2 _ _ (eA _ _ hb)))) (e3 _ _ g3)
end
end K16
set_option Elab.async false
set_option linter.all false
set_option maxRecDepth 100000
set_option maxHeartbeats 4000000
namespace K16
open PySem PySem.Spec PyProof.Rows L2 Evl Wc Wt Wg We
theorem q_par3A {σ : L2.St} {H : Hp} {tz : TS} {D : Ends} {tq : TA} {i j l : Nat} (h : tq σ H fun vs H1 => ∃ u v w, vs = [u, v, w] ∧ tz D (((σ.set i (some u)).set j (some v)).set l (some w)) H1) : tSeq (tPar3 i j l tq) tz D σ H := h
/-- the cuts from s on that begin with the word i -/
def blk (lot : List Tx) (u : Tx) (ok : Nat → Bool) (s i : Nat) : List (List Nat) := if stB lot u s i = true then (cG lot u ok (s + (wd lot i).length)).map (i :: ·) else []
theorem flat_filter {α β : Type} (p : α → Bool) (f : α → List β) : ∀ l : List α, (l.filter p).flatMap f = l.flatMap fun a => if p a = true then f a else []
  | [] => rfl
  | a :: l => by
    rw [List.filter_cons, List.flatMap_cons, ← flat_filter p f l]
    split
    · rw [List.flatMap_cons]
    · rfl
theorem cG_blk {lot : List Tx} (hL : ∀ i, i < lot.length → wd lot i ≠ []) {u : Tx} {ok : Nat → Bool} {s : Nat} (hs : s < u.length) {k : Nat} {c : List Nat} (h : (cG lot u ok s)[k]? = some c) : ((List.range lot.length).flatMap (blk lot u ok s))[k]? = some c := by
  rw [cG_step hL hs] at h
  split at h
  · unfold wAt at h
    rw [flat_filter] at h
    exact h
  · cases h
theorem blk_len (lot : List Tx) (u : Tx) (ok : Nat → Bool) (s i : Nat) : (blk lot u ok s i).length = if stB lot u s i = true then gN lot u ok (s + (wd lot i).length) else 0 := by
  unfold blk gN
  split
  · rw [List.length_map]
  · rfl
theorem blk_at {lot : List Tx} {u : Tx} {ok : Nat → Bool} {s i k : Nat} {c : List Nat} (h : (blk lot u ok s i)[k]? = some c) : ∃ c3, c = i :: c3 ∧ s + (wd lot i).length ≤ u.length ∧ (cG lot u ok (s + (wd lot i).length))[k]? = some c3 := by
  unfold blk at h
  split at h
  · rename_i hs
    rw [List.getElem?_map] at h
    cases hg : (cG lot u ok (s + (wd lot i).length))[k]? with
    | none => rw [hg] at h; cases h
    | some c3 =>
      rw [hg] at h
      exact ⟨c3, (Option.some.inj h).symm, (stB_is hs).1, rfl⟩
  · cases h
theorem cb_blk {lot : List Tx} {t : Tx} {p s i : Nat} : cb (tn t p) (cnts lot t p) s (wd lot i) = (blk lot (tn t p) (okR t.length p) s i).length := by
  rw [blk_len]
  unfold cb
  by_cases h : stB lot (tn t p) s i = true
  · have h2 := stB_is h
    rw [if_pos h, if_pos h2, List.getD_eq_getElem?_getD, cnts_at (by rw [tn_len] at h2; exact h2.1)]
    rfl
  · rw [if_neg h, if_neg fun z => h (by unfold stB; exact decide_eq_true z)]
section
variable {P : Program} {w : World} {K : PySem.W.Frag} {mg : Str → Option Value} {base : Heap}
def sp_number (C : Addr) : Sp := fun vs H Q _ => ∃ (x : Addr) (lot : List Tx) (t : Tx) (fs : List (Str × V)), vs = [.ref x] ∧ RoundAt C x lot t fs H ∧ RetV (.int ((N lot t : Nat) : Int)) H Q
theorem ok_Round_number {f C : Addr} {fd : FuncData} (F : Fun K "number" "Round.number" st_Round_number f fd) (M : Md K mg) (W : RW K C) (MT_Round_counts_from : C8.Met P w K mg base 2 C "counts_from" (sp_counts C) []) : FnOk P w K mg base CX0 3 f fd ["self"] (sp_number C) := by
  have nd := sc_Round_number.nd
  refine F.ok sc_Round_number (fun vs H Q E h => ?_) (fun cdv A outer s H vs Q E hr h => ?_)
  · obtain ⟨_, _, _, _, rfl, _⟩ := h
    rfl
  · obtain ⟨x, lot, t, fs, rfl, R, k⟩ := h
    refine ⟨_, (pss_one (ps_ret (pe_callB (kcr K (r := rSum) (cr_sum rfl)) (by rfl) M.n_sum boot_sum (pa_cons (pe_lc (own := [("place", 1)]) rfl nd (pi_range1 (by rfl) M.n_range (pa_cons (pe_callB cr_lenT (by rfl) M.n_len boot_len (pa_cons (kfl K (pe_fld (pv 0) rfl)) pa_nil)) pa_nil)) (blkOk_by (N := N_Round_number) (sc := defScope st_Round_number) (by decide +kernel)) (fun _ _ _ _ _ => (pg_name (i := 1) nd rfl (Or.inl rfl))) (fun _ _ _ _ _ => pts_nil) (fun _ _ _ _ _ => (pe_ix (kix K (r := L2.rIxL) ix_list) (C8.pe_mt MT_Round_counts_from hr (by decide) (pv 0) (pa_cons (pv 1) pa_nil)) pe_int (fun _ _ => rfl)))) pa_nil)))), ?_⟩
    have hl := R.len
    have hWd := lot_wd R.isLot
    obtain ⟨dx, hx⟩ := R.ob
    have hlc := el_lcM (σ := start N_Round_number [.ref x]) (H := H) (te := tOp (L2.rIxL K) (tMeth C "counts_from" (sp_counts C) [] E0 (tVar 0) (tCons (tVar 1) tNil)) (tC (.int 0))) (j := 1) (vs := [1]) (f := fun (p : Nat) => V.int (p : Int)) (g := fun p => V.int (((Rd lot t p).length : Nat) : Int)) (List.range t.length) (src_range1L (n := t.length) (ea_cons (ev_textLen (i := 0) W R rfl) ea_nil) (by omega)) (by rw [List.length_range]; omega) (fun _ => rfl) (fun p H1 e1 hp => fun H2 e2 Q2 q2 => by
      have hp := List.mem_range.mp hp
      refine m_call (i := 0) rfl ((e1.trans e2) _ _ hx) R.nom.m2 ((ea_cons (ev_var rfl) ea_nil : EvA _ [some (.ref x), some (.int (p : Int))] H2 [.int (p : Int)]) H2 (Ex.refl _) _ fun H3 e3 => ⟨x, lot, t, fs, p, rfl, R.ex ((e1.trans e2).trans e3), hp, fun pc H4 hpc e4 h4 => ⟨pc, _, 0, _, rfl, rfl, sq_of h4, atI_nat (j := 0) (numV_at (cnts_at (Nat.zero_le _))), q2 H4 (e3.trans e4)⟩⟩))
    refine s_ret (v := .int ((N lot t : Nat) : Int)) (ev_is (ev_cbL hlc fun q H7 hq e7 => rc_sumM (sq_of hq)) ?_) k
    congr 1
    rw [← Rd_count hWd R.ne]
    unfold Sm
    generalize List.range t.length = l
    induction l with
    | nil => rfl
    | cons a l ih => rw [List.map_cons, List.map_cons, List.sum_cons, List.sum_cons, ih, Int.natCast_add]
end
end K16
set_option Elab.async false
set_option linter.all false
set_option maxRecDepth 100000
set_option maxHeartbeats 4000000
namespace K16
open PySem PySem.Spec PyProof.Rows L2 Evl Wc Wt Wg We
theorem rd_len {lot : List Tx} (hL : ∀ i, i < lot.length → wd lot i ≠ []) {u : Tx} {ok : Nat → Bool} : ∀ d s, s + d = u.length → ∀ c ∈ cG lot u ok s, c.length ≤ d := fun d => by
  induction d using Nat.strongRecOn with
  | ind d ih =>
    intro s hs c hc
    by_cases h0 : d = 0
    · subst h0
      have : s = u.length := by omega
      subst this
      rw [cG_end, List.mem_singleton] at hc
      rw [hc]
      exact Nat.le_refl _
    · rw [cG_step hL (by omega)] at hc
      split at hc
      · obtain ⟨i, hi, hm⟩ := List.mem_flatMap.mp hc
        obtain ⟨c3, h3, rfl⟩ := List.mem_map.mp hm
        obtain ⟨h1, h2⟩ := wAt_is hi
        have := (stB_is h2).1
        have := List.length_pos_iff.mpr (hL i h1)
        have := ih (d - (wd lot i).length) (by omega) (s + (wd lot i).length) (by omega) c3 h3
        rw [List.length_cons]
        omega
      · cases hc
section
variable {P : Program} {w : World} {K : PySem.W.Frag} {mg : Str → Option Value} {base : Heap}
def sp_cut_from (C : Addr) : Sp := fun vs H Q _ => ∃ (x pc : Addr) (lot : List Tx) (t : Tx) (fs : List (Str × V)) (p k : Nat) (c : List Nat), vs = [.ref x, .int (p : Int), .ref pc, .int (k : Int)] ∧ RoundAt C x lot t fs H ∧ H pc = some (.lst (numV (cnts lot t p))) ∧ (Rd lot t p)[k]? = some c ∧ RetL (numV c) H Q
theorem ok_Round_cut_from {f C : Addr} {fd : FuncData} (F : Fun K "cut_from" "Round.cut_from" st_Round_cut_from f fd) (M : Md K mg) (W : RW K C) (MT_Round_turned : C8.Met P w K mg base 1 C "turned" (sp_turned C) []) (MT_Round_count_behind : C8.Met P w K mg base 1 C "count_behind" (sp_behind C) []) : FnOk P w K mg base CX0 2 f fd ["self", "place", "counts", "number"] (sp_cut_from C) := by
  have nd := sc_Round_cut_from.nd
  refine F.ok sc_Round_cut_from (fun vs H Q E h => ?_) (fun cdv A outer s H vs Q E hr h => ?_)
  · obtain ⟨_, _, _, _, _, _, _, _, rfl, _⟩ := h
    rfl
  · obtain ⟨x, pc, lot, t, fs, p, k, c, rfl, R, hpc, hk, ret⟩ := h
    refine ⟨_, (pss_cons (ps_par3 (i := 4) (j := 5) (l := 6) rfl nd rfl rfl rfl (by decide) (by decide) (by decide) rfl rfl rfl (pa_cons (pe_lst pa_nil) (pa_cons pe_int (pa_cons (C8.pe_mt MT_Round_turned hr (by decide) (pv 0) (pa_cons (pv 1) pa_nil)) pa_nil))) (by rfl))
  (pss_cons (ps_while PassesOwn.never (pt_cmpR op_lt (pv 5) (pe_callB cr_lenT (by rfl) M.n_len boot_len (pa_cons (pv 6) pa_nil)) (nomark _))
  (pss_cons (ps_for PassesOwn.never rfl (kiet K (pi_enumT (by rfl) M.n_enumerate (pa_cons (kfl K (pe_fld (pv 0) rfl)) pa_nil))) (kgt K (n := 2) (pg_tup rfl (pgs_cons (pg_name (i := 7) nd rfl (Or.inl rfl)) (pgs_cons (pg_name (i := 8) nd rfl (Or.inl rfl)) pgs_nil))))
  (pss_cons (ps_set (i := 9) nd rfl (Or.inl rfl) (C8.pe_mt MT_Round_count_behind hr (by decide) (pv 0) (pa_cons (pv 2) (pa_cons (pv 6) (pa_cons (pv 5) (pa_cons (pv 8) pa_nil))))))
  (pss_cons (ps_if (pt_cmpR op_lt (pv 3) (pv 9) (nomark _))
  (pss_one ps_break)
  pss_nil)
  (pss_one (ps_set (i := 3) nd rfl (Or.inl rfl) (pe_op op_sub (pv 3) (pv 9)))))))
  (pss_cons (ps_expr (kbm K (pe_bm PySem.F.plainAttrs_list PySem.F.slot_list_append PySem.F.type_list_append mt_append (pv 4) (pa_cons (pv 7) pa_nil))))
  (pss_one (ps_set (i := 5) nd rfl (Or.inl rfl) (pe_op op_add (pv 5) (pe_callB cr_lenT (by rfl) M.n_len boot_len (pa_cons (pe_ix (kix K (r := L2.rIxT) ix_tup) (kfl K (pe_fld (pv 0) rfl)) (pv 7) (fun _ _ => rfl)) pa_nil))))))))
  (pss_one (ps_ret (pv 4))))), ?_⟩
    have hl := R.len
    have hLot := R.isLot
    have hfew := hLot.few
    have hWd := lot_wd hLot
    have htl := tn_len t p
    obtain ⟨dx, hx⟩ := R.ob
    obtain ⟨pl, f1, hpl⟩ := R.flot
    have hcl : c.length ≤ 400 := Nat.le_trans (rd_len hWd t.length 0 (by rw [htl]; omega) c (List.mem_of_getElem? hk)) hl
    refine q_par3A (a_el (el_lst ea_nil (by decide)) fun pf H1 hpf e1 h1 => a_c (a_any (m_call (i := 0) rfl (e1 _ _ hx) R.nom.m1 (a_ev (ev_var rfl) fun H2 e2 => a_nil ⟨x, lot, t, fs, p, rfl, R.ex (e1.trans e2), fun H3 e3 => a_nil ⟨_, _, _, rfl, ?_⟩⟩))))
    have eA := e1.trans (e2.trans e3)
    have h3 := (e2.trans e3) _ _ h1
    show tSeq _ _ _ [some (.ref x), some (.int (p : Int)), some (.ref pc), some (.int (k : Int)), some (.ref pf), some (.int 0), some (T (tn t p)), none, none, none] H3
    have npf : ∀ b o, H b = some o → b ≠ pf := fun b o hb z => by rw [z, hpf] at hb; cases hb
    refine q_while (fun m σ' H' => ∃ (s k' : Nat) (c1 c2 : List Nat) (v7 v8 v9 : Option V), σ' = [some (.ref x), some (.int (p : Int)), some (.ref pc), some (.int (k' : Int)), some (.ref pf), some (.int (s : Int)), some (T (tn t p)), v7, v8, v9] ∧ m = t.length - s ∧ s ≤ t.length ∧ Exc (fun b => b = pf) H3 H' ∧ H' pf = some (.lst (numV c1)) ∧ c1 ++ c2 = c ∧ (cG lot (tn t p) (okR t.length p) s)[k']? = some c2) t.length ⟨0, k, [], c, none, none, none, rfl, rfl, Nat.zero_le _, Exc.refl _, h3, rfl, hk⟩ fun m σ' H' hw => ?_
    obtain ⟨s, k', c1, c2, v7, v8, v9, rfl, hm, hs, g1, g2, g3, g4⟩ := hw
    have kp : ∀ b o, H b = some o → H' b = some o := fun b o hb => g1 _ _ (npf b o hb) (eA _ _ hb)
    refine ⟨decide (s < t.length), et_is (et_test (ev_op (ev_var rfl) (ev_cb (ea_cons (ev_var rfl) ea_nil) (rc_lenT (by omega))) rv_I0)) (decide_eq_decide.mpr (by rw [htl]; exact Int.ofNat_lt)), fun hb H4 e4 => ?_, fun hb H4 e4 => ?_⟩
    · have hst := of_decide_eq_true hb
      have g4b := cG_blk hWd (by omega) g4
      refine ⟨fun σ2 H2 => ∃ m', m' < m ∧ ∃ (s k' : Nat) (c1 c2 : List Nat) (v7 v8 v9 : Option V), σ2 = [some (.ref x), some (.int (p : Int)), some (.ref pc), some (.int (k' : Int)), some (.ref pf), some (.int (s : Int)), some (T (tn t p)), v7, v8, v9] ∧ m' = t.length - s ∧ s ≤ t.length ∧ Exc (fun b => b = pf) H3 H2 ∧ H2 pf = some (.lst (numV c1)) ∧ c1 ++ c2 = c ∧ (cG lot (tn t p) (okR t.length p) s)[k']? = some c2, fun _ _ z => z, ?_⟩
      have kp4 : ∀ b o, H b = some o → H4 b = some o := fun b o hb => e4 _ _ (kp b o hb)
      refine q_forW (fun _ => False) (src_enumT (xs := lot.map T) (ev_fld (ev_var rfl) (kp4 _ _ hx) W.cl W.n_lot f1) (st_of (kp4 _ _ hpl.1))) (fun _ z => z.elim)
        (fun Hs j σ' H5 => ∃ (r : Nat) (v7 v8 v9 : Option V), σ' = [some (.ref x), some (.int (p : Int)), some (.ref pc), some (.int (r : Int)), some (.ref pf), some (.int (s : Int)), some (T (tn t p)), v7, v8, v9] ∧ Ex Hs H5 ∧ (((List.range lot.length).drop j).flatMap (blk lot (tn t p) (okR t.length p) s))[r]? = some c2) ?_ ?_ ?_ ?_ ?_
      · intro Hs e
        exact ⟨k', v7, v8, v9, rfl, Ex.refl _, g4b⟩
      · rintro Hs j σ' H5 ⟨_, _, _, _, _, h, _⟩
        exact .of h
      · rintro Hs j σ' Ha Hb ⟨r, v7, v8, v9, q0, q1, q2⟩ e
        exact ⟨r, v7, v8, v9, q0, q1.trans e, q2⟩
      · rintro Hs j y σ' H5 e5 hj ⟨r, v7, v8, v9, rfl, q1, q2⟩ ⟨q, y2, rfl, hy, hq⟩
        obtain ⟨wrd, hwr, rfl⟩ := at_map hy
        rw [List.length_map] at hj
        have hwe : wrd = wd lot j := Option.some.inj (hwr.symm.trans (wd_at hj))
        subst hwe
        have e45 := e5.trans q1
        have kp5 : ∀ b o, H b = some o → H5 b = some o := fun b o hb => e45 _ _ (kp4 b o hb)
        refine g_pair hq ?_
        show tSeq _ _ _ [some (.ref x), some (.int (p : Int)), some (.ref pc), some (.int (r : Int)), some (.ref pf), some (.int (s : Int)), some (T (tn t p)), some (.int (j : Int)), some (T (wd lot j)), v9] H5
        refine q_asgA (m_call (i := 0) rfl (kp5 _ _ hx) R.nom.m3 (a_ev (ev_var rfl) fun Ha ea => a_ev (ev_var rfl) fun Hb eb => a_ev (ev_var rfl) fun Hc ec => a_ev (ev_var rfl) fun Hd ed => a_nil ⟨x, pc, cnts lot t p, tn t p, wd lot j, s, rfl, (((ea.trans eb).trans ec).trans ed) _ _ (kp5 _ _ hpc), by rw [cnts_len, htl], by omega, Nat.le_trans (wd_12 hLot hj) (by decide), fun H6 e6 => ?_⟩))
        rw [cb_blk]
        have e56 := (((ea.trans eb).trans ec).trans ed).trans e6
        show tSeq _ _ _ [some (.ref x), some (.int (p : Int)), some (.ref pc), some (.int (r : Int)), some (.ref pf), some (.int (s : Int)), some (T (tn t p)), some (.int (j : Int)), some (T (wd lot j)), some (.int (((blk lot (tn t p) (okR t.length p) s j).length : Nat) : Int))] H6
        have hdr : (List.range lot.length).drop j = j :: (List.range lot.length).drop (j + 1) := by
          rw [List.drop_eq_getElem_cons (by rw [List.length_range]; exact hj), List.getElem_range]
        rw [hdr, List.flatMap_cons] at q2
        refine q_when (b := decide (r < (blk lot (tn t p) (okR t.length p) s j).length)) (et_is (et_test (ev_op (ev_var rfl) (ev_var rfl) rv_I0)) (decide_eq_decide.mpr Int.ofNat_lt)) (fun hb2 H7 e7 => ?_) (fun hb2 H7 e7 => ?_)
        · have hr := of_decide_eq_true hb2
          rw [List.getElem?_append_left hr] at q2
          obtain ⟨c3, rfl, hle, hc3⟩ := blk_at q2
          rw [htl] at hle
          have h7f : H7 pf = some (.lst (numV c1)) := ((e45.trans e56).trans e7) _ _ (e4 _ _ g2)
          have kp7 : ∀ b o, H b = some o → H7 b = some o := fun b o hb => (e56.trans e7) _ _ (kp5 b o hb)
          have hc1 : c1.length < 400 := by
            have := congrArg List.length g3
            rw [List.length_append, List.length_cons] at this
            omega
          refine q_app (σ := [some (.ref x), some (.int (p : Int)), some (.ref pc), some (.int (r : Int)), some (.ref pf), some (.int (s : Int)), some (T (tn t p)), some (.int (j : Int)), some (T (wd lot j)), some (.int (((blk lot (tn t p) (okR t.length p) s j).length : Nat) : Int))]) (H := H7) (v := .int (j : Int)) h7f (ev_var rfl) (ev_var rfl) (by rw [numV_len]; omega) fun H8 e8 => ?_
          have hx8 : (upd H8 pf (.lst (numV c1 ++ [.int (j : Int)]))) x = some (.ins C dx fs) := by
            rw [upd_ne (npf _ _ hx)]
            exact e8 _ _ (kp7 _ _ hx)
          have hl8 : (upd H8 pf (.lst (numV c1 ++ [.int (j : Int)]))) pl = some (.tup (lot.map T)) := by
            rw [upd_ne (npf _ _ hpl.1)]
            exact e8 _ _ (kp7 _ _ hpl.1)
          refine s_asg (v := .int ((s + (wd lot j).length : Nat) : Int)) (ev_is (ev_op (ev_var rfl) (ev_cb (ea_cons (ev_op (ev_fld (ev_var rfl) hx8 W.cl W.n_lot f1) (ev_var rfl) (Evl.rv_ixT (st_of hl8) (atI_nat (by rw [List.getElem?_map, wd_at hj]; rfl)))) ea_nil) (rc_lenT (by have := wd_12 hLot hj; omega))) rv_I0) (by congr 1)) fun H9 e9 => ⟨t.length - (s + (wd lot j).length), by have := List.length_pos_iff.mpr (hWd j hj); omega, s + (wd lot j).length, r, c1 ++ [j], c3, _, _, _, rfl, rfl, hle, ((((g1.then e4).then (e45.trans e56)).then e7).then e8).upd (.inl rfl) |>.then e9, e9 _ _ (by rw [upd_same]; unfold numV; rw [List.map_append]; rfl), by rw [List.append_assoc]; exact g3, hc3⟩
        · have hr := of_decide_eq_false hb2
          rw [List.getElem?_append_right (by omega)] at q2
          exact s_asg (σ := [some (.ref x), some (.int (p : Int)), some (.ref pc), some (.int (r : Int)), some (.ref pf), some (.int (s : Int)), some (T (tn t p)), some (.int (j : Int)), some (T (wd lot j)), some (.int (((blk lot (tn t p) (okR t.length p) s j).length : Nat) : Int))]) (H := H7) (v := .int ((r - (blk lot (tn t p) (okR t.length p) s j).length : Nat) : Int)) (ev_is (ev_op (ev_var rfl) (ev_var rfl) rv_I0) (by congr 1; omega)) fun H8 e8 => ⟨_, _, _, _, rfl, ((q1.trans e56).trans e7).trans e8, q2⟩
      · rintro Hs σ' H5 e5 ⟨r, v7, v8, v9, rfl, q1, q2⟩
        exfalso
        rw [List.drop_eq_nil_of_le (by rw [List.length_range, List.length_map]; exact Nat.le_refl _)] at q2
        cases q2
    · have hst := of_decide_eq_false hb
      have hse : s = (tn t p).length := by omega
      rw [hse, cG_end] at g4
      have hc2 : c2 = [] := by
        have := List.mem_of_getElem? g4
        exact List.mem_singleton.mp this
      subst hc2
      rw [List.append_nil] at g3
      subst g3
      exact s_ret (ev_var rfl) fun H5 e5 => ret pf H5 hpf (fun b o hb => (e4.trans e5) _ _ (kp b o hb)) ((e4.trans e5) _ _ g2)
end
end K16
set_option Elab.async false
set_option linter.all false
set_option maxRecDepth 100000
set_option maxHeartbeats 4000000
namespace K16
open PySem PySem.Spec PyProof.Rows L2 Evl Wc Wt Wg We
/-- (place, list), made behind H0, none of it at d -/
def PairN (d : Addr) (H0 H : Hp) (v : V) (q : PC) : Prop := ∃ a b : Addr, v = .ref a ∧ a ≠ d ∧ b ≠ d ∧ H0 a = none ∧ H0 b = none ∧ H a = some (.tup [.int (q.1 : Int), .ref b]) ∧ H b = some (.lst (numV q.2))
theorem PairN.ex {d : Addr} {H0 H H1 : Hp} {v : V} {q : PC} (h : PairN d H0 H v q) (e : Ex H H1) : PairN d H0 H1 v q := by
  obtain ⟨a, b, h1, h2, h3, h4, h5, h6, h7⟩ := h
  exact ⟨a, b, h1, h2, h3, h4, h5, e _ _ h6, e _ _ h7⟩
theorem PairN.upd {d : Addr} {H0 H : Hp} {v : V} {q : PC} {o : HO} (h : PairN d H0 H v q) : PairN d H0 (L2.upd H d o) v q := by
  obtain ⟨a, b, h1, h2, h3, h4, h5, h6, h7⟩ := h
  exact ⟨a, b, h1, h2, h3, h4, h5, by rw [upd_ne h2]; exact h6, by rw [upd_ne h3]; exact h7⟩
theorem PairN.back {d : Addr} {H0 H1 H : Hp} {v : V} {q : PC} (h : PairN d H1 H v q) (e : Ex H0 H1) : PairN d H0 H v q := by
  obtain ⟨a, b, h1, h2, h3, h4, h5, h6, h7⟩ := h
  exact ⟨a, b, h1, h2, h3, fresh_back e h4, fresh_back e h5, h6, h7⟩
section
variable {σ : L2.St} {H : Hp} {te : TE}
theorem lcP {wi : TI} {j : Nat} {vs : List Nat} {n : Nat} {own : Addr → Prop} {P : Nat → V → Hp → Prop} {Q : VK} (q : Nat → PC) (hs : Src wi σ H n own P) (hn : n ≤ 40000) (hw : ∀ x, wipe ((wipe σ vs).set j (some x)) vs = wipe σ vs)
    (he : ∀ (i : Nat) (x : V) H1, i < n → P i x H1 → Ex H H1 → ∀ Q' : VK, (∀ a b H2, H1 a = none → H1 b = none → Ex H1 H2 → H2 a = some (.tup [.int ((q i).1 : Int), .ref b]) → H2 b = some (.lst (numV (q i).2)) → Q' (.ref a) H2) → te ((wipe σ vs).set j (some x)) H1 Q')
    (k : ∀ d H2 us, H d = none → Ex H H2 → H2 d = some (.lst us) → All2 (PairN d H H2) us ((List.range n).map q) → Q (.ref d) H2) : tLc wi (gName j) tYes te vs σ H Q :=
  hs H (Ex.refl H) _ fun J H1 S e1 w hS => fun Dl hD => by
    have hDH : H Dl = none := fresh_back e1 hD
    refine lc_it w (Qd := fun H3 => Q (.ref Dl) H3) (fun i Hi => Ex H1 Hi ∧ ∃ us : List V, Hi Dl = some (.lst us) ∧ All2 (PairN Dl H Hi) us ((List.range i).map q)) ?_ (fun i Hi hi p => hS (fun _ => False) Hi (fun b z => z.elim) (.of p.1)) ?_ ?_
    · exact ⟨Ex.new hD, [], upd_same, .nil⟩
    · rintro i x Ha Hb hi ⟨R, us, h1, h2⟩ ⟨ey, hP⟩
      refine ⟨hw x, ?_⟩
      show te ((wipe σ vs).set j (some x)) Hb fun y H4 => _
      refine he i x Hb hi hP (e1.trans (R.trans ey)) _ fun a b H4 ha hb e4 ha4 hb4 => ?_
      have hDl4 : H4 Dl = some (.lst us) := e4 _ _ (ey _ _ h1)
      have naD : a ≠ Dl := fun z => by rw [z, ey _ _ h1] at ha; cases ha
      have nbD : b ≠ Dl := fun z => by rw [z, ey _ _ h1] at hb; cases hb
      have hul : us.length = i := by rw [h2.len, List.length_map, List.length_range]
      refine ⟨us, hDl4, sz_lt (by omega), Ex.mut ((R.trans ey).trans e4) hD, us ++ [.ref a], upd_same, ?_⟩
      rw [List.range_succ, List.map_append]
      refine (h2.mono fun u c hc => ((hc.ex ey).ex e4).upd).app (.one ?_)
      exact ⟨a, b, rfl, naD, nbD, fresh_back (e1.trans (R.trans ey)) ha, fresh_back (e1.trans (R.trans ey)) hb, by rw [upd_ne naD]; exact ha4, by rw [upd_ne nbD]; exact hb4⟩
    · rintro Hi ⟨R, us, h1, h2⟩
      exact k Dl Hi us hDH (e1.trans R) h1 h2
end
theorem Sm_mem {α : Type} {l : List α} {f : α → Nat} {a : α} (h : a ∈ l) : f a ≤ Sm l f := by
  induction l with
  | nil => cases h
  | cons b l ih =>
    rw [Sm_cons]
    rcases List.mem_cons.mp h with rfl | h
    · omega
    · have := ih h
      omega
theorem Rd_le {lot : List Tx} (hL : ∀ i, i < lot.length → wd lot i ≠ []) {t : Tx} (ht : t ≠ []) {p : Nat} (hp : p < t.length) : (Rd lot t p).length ≤ N lot t := by
  rw [← Rd_count hL ht]
  exact Sm_mem (f := fun p => (Rd lot t p).length) (List.mem_range.mpr hp)
/-- the cuts from the first i places -/
def preR (lot : List Tx) (t : Tx) (i : Nat) : List PC := (List.range i).flatMap fun p => (Rd lot t p).map fun c => (p, c)
theorem preR_all (lot : List Tx) (t : Tx) : preR lot t t.length = allR lot t := rfl
theorem preR_succ (lot : List Tx) (t : Tx) (i : Nat) : preR lot t (i + 1) = preR lot t i ++ (Rd lot t i).map fun c => (i, c) := by
  unfold preR
  rw [List.range_succ, List.flatMap_append, List.flatMap_cons, List.flatMap_nil, List.append_nil]
theorem preR_len {lot : List Tx} (hL : ∀ i, i < lot.length → wd lot i ≠ []) {t : Tx} (ht : t ≠ []) {i : Nat} (hi : i ≤ t.length) : (preR lot t i).length ≤ N lot t := by
  rw [← allR_len hL ht]
  have h : ∀ k, (preR lot t i).length ≤ (preR lot t (i + k)).length := fun k => by
    induction k with
    | zero => exact Nat.le_refl _
    | succ k ih =>
      rw [← Nat.add_assoc, preR_succ, List.length_append]
      omega
  have := h (t.length - i)
  rw [show i + (t.length - i) = t.length by omega, preR_all] at this
  exact this
theorem range_getD {α : Type} (l : List α) (d : α) : (List.range l.length).map (fun j => l.getD j d) = l := by
  apply List.ext_getElem?
  intro j
  rw [List.getElem?_map]
  by_cases hj : j < l.length
  · rw [List.getElem?_range hj, List.getElem?_eq_getElem hj]
    show some (l.getD j d) = _
    rw [List.getD_eq_getElem?_getD, List.getElem?_eq_getElem hj]
    rfl
  · rw [List.getElem?_eq_none (by rw [List.length_range]; omega), List.getElem?_eq_none (by omega)]
    rfl
end K16
set_option Elab.async false
set_option linter.all false
set_option maxRecDepth 100000
set_option maxHeartbeats 4000000
namespace K16
open PySem PySem.Spec PyProof.Rows L2 Evl Wc Wt Wg We
theorem zip_fst {α β : Type} : ∀ {a : List α} {b : List β}, a.length = b.length → (a.zip b).map Prod.fst = a
  | [], [], _ => rfl
  | x :: a, y :: b, h => by
    show x :: (a.zip b).map Prod.fst = _
    rw [zip_fst (by simpa using h)]
theorem zip_snd {α β : Type} : ∀ {a : List α} {b : List β}, a.length = b.length → (a.zip b).map Prod.snd = b
  | [], [], _ => rfl
  | x :: a, y :: b, h => by
    show y :: (a.zip b).map Prod.snd = _
    rw [zip_snd (by simpa using h)]
theorem all2_zip {α β : Type} {R : α → β → Prop} {as : List α} {bs : List β} (h : All2 R as bs) : ∀ z ∈ as.zip bs, R z.1 z.2 := by
  induction h with
  | nil => intro z hz; cases hz
  | cons r _ ih =>
    intro z hz
    rcases List.mem_cons.mp hz with rfl | hz
    · exact r
    · exact ih z hz
theorem all2_of {α β : Type} {R : α → β → Prop} : ∀ {l : List (α × β)}, (∀ z ∈ l, R z.1 z.2) → All2 R (l.map Prod.fst) (l.map Prod.snd)
  | [], _ => .nil
  | z :: l, h => .cons (h z List.mem_cons_self) (all2_of fun y hy => h y (List.mem_cons_of_mem _ hy))
/-- a list of pairs, sorted: the pairs behind it in their sequence -/
theorem sort_pairs {R : V → PC → Prop} {us : List V} {l : List PC} (h : All2 R us l) : All2 R (((us.zip l).mergeSort (PySem.W.dataLe false fun z : V × PC => encR z.2)).map Prod.fst) (srt l) := by
  have e : ((us.zip l).mergeSort (PySem.W.dataLe false fun z : V × PC => encR z.2)).map Prod.snd = srt l := by
    have h1 := List.map_mergeSort (f := (Prod.snd : V × PC → PC)) (r := PySem.W.dataLe false fun z : V × PC => encR z.2) (s := leR) (l := us.zip l) (fun a _ b _ => by
      rw [← dataLe_R]
      rfl)
    rw [h1, zip_snd h.len]
    rfl
  rw [← e]
  exact all2_of fun z hz => all2_zip h z ((List.mergeSort_perm _ _).mem_iff.mp hz)
theorem dp_pair {K : PySem.W.Frag} {d : Addr} {H0 H : Hp} {v : V} {q : PC} (h : PairN d H0 H v q) : Dp K H v (encR q) := by
  obtain ⟨a, b, rfl, _, _, _, _, h6, h7⟩ := h
  refine .tup (st_of h6) (.cons (.int _) (.cons (.lst (sq_of h7) ?_) .nil))
  unfold numV zs
  rw [List.map_map]
  generalize q.2 = c
  induction c with
  | nil => exact .nil
  | cons n c ih => exact .cons (.int _) ih
theorem alike_R (l : List (V × PC)) : PySem.W.AllAlike (l.map fun z => encR z.2) := by
  intro d hd d' hd'
  obtain ⟨a, _, rfl⟩ := List.mem_map.mp hd
  obtain ⟨b, _, rfl⟩ := List.mem_map.mp hd'
  unfold encR
  have := alike_zs (zs a.2.2) (zs b.2.2)
  simp [PySem.W.alike, PySem.W.alikeAll] at this ⊢
  exact this
theorem sortable_R (l : List (V × PC)) : PySem.W.Sortable (l.map fun z => encR z.2) := .inl fun d hd => by
  obtain ⟨a, _, rfl⟩ := List.mem_map.mp hd
  exact ⟨_, _, rfl⟩
theorem depth_R (q : PC) : (encR q).depth ≤ 50 := by
  unfold encR
  have := PySem.W.depth_ints (zs q.2)
  simp only [PyData.depth, PyData.depthAll, this]
  decide
/-- sorted(..) of a standing list of pairs -/
theorem sorted_pairs {K : PySem.W.Frag} {σ : L2.St} {H : Hp} {te : TE} {pf d : Addr} {H0 : Hp} {us : List V} {l : List PC} {Q : VK} (h : Ev te σ H (.ref pf)) (hp : H pf = some (.lst us)) (ha : All2 (PairN d H0 H) us l) (k : ∀ r H1, H r = none → Ex H H1 → H1 r = some (.lst (((us.zip l).mergeSort (PySem.W.dataLe false fun z : V × PC => encR z.2)).map Prod.fst)) → All2 (PairN d H0 H) (((us.zip l).mergeSort (PySem.W.dataLe false fun z : V × PC => encR z.2)).map Prod.fst) (srt l) → Q (.ref r) H1) : tCB (Wf.rSortDD K) (tCons te tNil) σ H Q :=
  h H (Ex.refl _) _ fun H1 e1 => ⟨V × PC, pf, us.zip l, Prod.fst, fun z => encR z.2, rfl, by rw [zip_fst ha.len]; exact sq_of (e1 _ _ hp), fun z hz => dp_pair ((all2_zip ha z hz).ex e1), alike_R _, sortable_R _, fun z _ => depth_R z.2, fun r hr => k r _ (fresh_back e1 hr) (e1.trans (Ex.new hr)) upd_same (sort_pairs ha)⟩
end K16
set_option Elab.async false
set_option linter.all false
set_option maxRecDepth 100000
set_option maxHeartbeats 4000000
namespace K16
open PySem PySem.Spec PyProof.Rows L2 Evl Wc Wt Wg We
theorem s_retA {σ : L2.St} {H : Hp} {D : Ends} {te : TE} (k : te σ H D.rt) : tRet te D σ H := k
section
variable {P : Program} {w : World} {K : PySem.W.Frag} {mg : Str → Option Value} {base : Heap}
def sp_cuts (C : Addr) : Sp := fun vs H Q _ => ∃ (x : Addr) (lot : List Tx) (t : Tx) (fs : List (Str × V)), vs = [.ref x] ∧ RoundAt C x lot t fs H ∧ N lot t ≤ 300 ∧ ∀ r us H', H r = none → Ex H H' → H' r = some (.lst us) → All2 (PairN r H H') us (srt (allR lot t)) → Q (.ref r) H'
theorem ok_Round_cuts {f C : Addr} {fd : FuncData} (F : Fun K "cuts" "Round.cuts" st_Round_cuts f fd) (M : Md K mg) (W : RW K C) (MT_Round_counts_from : C8.Met P w K mg base 2 C "counts_from" (sp_counts C) []) (MT_Round_cut_from : C8.Met P w K mg base 2 C "cut_from" (sp_cut_from C) []) : FnOk P w K mg base CX0 3 f fd ["self"] (sp_cuts C) := by
  have nd := sc_Round_cuts.nd
  refine F.ok sc_Round_cuts (fun vs H Q E h => ?_) (fun cdv A outer s H vs Q E hr h => ?_)
  · obtain ⟨_, _, _, _, rfl, _⟩ := h
    rfl
  · obtain ⟨x, lot, t, fs, rfl, R, hN, k⟩ := h
    refine ⟨_, (pss_cons (ps_set (i := 1) nd rfl (Or.inl rfl) (pe_lst pa_nil))
  (pss_cons (ps_for PassesOwn.never rfl (pi_range1 (by rfl) M.n_range (pa_cons (pe_callB cr_lenT (by rfl) M.n_len boot_len (pa_cons (kfl K (pe_fld (pv 0) rfl)) pa_nil)) pa_nil)) (pg_name (i := 2) nd rfl (Or.inr rfl))
  (pss_cons (ps_set (i := 3) nd rfl (Or.inr rfl) (C8.pe_mt MT_Round_counts_from hr (by decide) (pv 0) (pa_cons (pv 2) pa_nil)))
  (pss_one (ps_expr (kbm K (pe_bm PySem.F.plainAttrs_list PySem.F.slot_list_extend PySem.F.type_list_extend mt_extend (pv 1) (pa_cons (pe_lc (own := [("number", 4)]) rfl nd (pi_range1 (by rfl) M.n_range (pa_cons (pe_ix (kix K (r := L2.rIxL) ix_list) (pv 3) pe_int (fun _ _ => rfl)) pa_nil)) (blkOk_by (N := N_Round_cuts) (sc := defScope st_Round_cuts) (by decide +kernel)) (fun _ _ _ _ _ => (pg_name (i := 4) nd rfl (Or.inl rfl))) (fun _ _ _ _ _ => pts_nil) (fun _ _ _ _ _ => (pe_tup (pa_cons (pv 2) (pa_cons (C8.pe_mt MT_Round_cut_from hr (by decide) (pv 0) (pa_cons (pv 2) (pa_cons (pv 3) (pa_cons (pv 4) pa_nil)))) pa_nil))))) pa_nil)))))))
  (pss_one (ps_ret (pe_callB (Wf.ksortDD (K := K) hr.units) (by rfl) M.n_sorted boot_sorted (pa_cons (pv 1) pa_nil)))))), ?_⟩
    have hl := R.len
    have hWd := lot_wd R.isLot
    obtain ⟨dx, hx⟩ := R.ob
    refine q_asgL (el_lst ea_nil (by decide)) fun pf H1 hpf e1 h1 => ?_
    show tSeq _ _ _ [some (.ref x), some (.ref pf), none, none, none] H1
    have npf : ∀ b o, H b = some o → b ≠ pf := fun b o hb z => by rw [z, hpf] at hb; cases hb
    refine q_forW (fun c => c = pf) (src_range1 (n := t.length) (ea_cons (ev_textLen (i := 0) W (R.ex e1) rfl) ea_nil) (by omega)) ?_
      (fun Hs i σ' H' => ∃ (us : List V) (v2 v3 : Option V), σ' = [some (.ref x), some (.ref pf), v2, v3, none] ∧ Exc (fun c => c = pf) Hs H' ∧ Exc (fun c => c = pf) H1 H' ∧ H' pf = some (.lst us) ∧ All2 (PairN pf H H') us (preR lot t i)) ?_ ?_ ?_ ?_ ?_
    · rintro c rfl
      exact ⟨by rw [h1]; exact fun z => (nomatch z), fun z => z⟩
    · intro Hs e
      exact ⟨[], none, none, rfl, Exc.refl _, Exc.of e, e _ _ h1, .nil⟩
    · rintro Hs i σ' H' ⟨_, _, _, _, h, _⟩
      exact h
    · rintro Hs i σ' Ha Hb ⟨us, v2, v3, g0, g1, g2, g3, g4⟩ e
      exact ⟨us, v2, v3, g0, g1.then e, g2.then e, e _ _ g3, g4.mono fun a b z => z.ex e⟩
    · rintro Hs i y σ' H' e hi ⟨us, v2, v3, rfl, g1, g2, g3, g4⟩ rfl
      have kp : ∀ b o, H b = some o → H' b = some o := fun b o hb => g2 _ _ (npf b o hb) (e1 _ _ hb)
      show tSeq _ _ _ [some (.ref x), some (.ref pf), some (.int (i : Int)), v3, none] H'
      have R' : RoundAt C x lot t fs H' := by
        obtain ⟨_, ⟨pl, h2, h3⟩, h4, h5, h6, h7⟩ := R
        exact ⟨⟨dx, kp _ _ hx⟩, ⟨pl, h2, ⟨kp _ _ h3.1, h3.2⟩⟩, h4, h5, h6, h7⟩
      refine q_asgA (m_call (i := 0) rfl (kp _ _ hx) R.nom.m2 (a_ev (ev_var rfl) fun Ha ea => a_nil ⟨x, lot, t, fs, i, rfl, R'.ex ea, hi, fun pc H2 hpc e2 h2 => ?_⟩))
      have e02 := ea.trans e2
      have R2 := R'.ex e02
      show tDrop _ _ [some (.ref x), some (.ref pf), some (.int (i : Int)), some (.ref pc), none] H2
      have hn : (Rd lot t i).length ≤ N lot t := Rd_le hWd R.ne hi
      have hpre : (preR lot t i).length ≤ N lot t := preR_len hWd R.ne (by omega)
      have g3' := e02 _ _ g3
      refine ⟨.ref pf, rfl, .inl ⟨rfl, us, sq_of g3'⟩, ?_⟩
      refine lcP (σ := [some (.ref x), some (.ref pf), some (.int (i : Int)), some (.ref pc), none]) (n := (Rd lot t i).length) (fun j => (i, (Rd lot t i).getD j [])) (src_range1 (n := (Rd lot t i).length) (ea_cons (ev_op (ev_var (i := 3) rfl) ev_c (Evl.rv_ixL (sq_of h2) (atI_nat (j := 0) (numV_at (cnts_at (Nat.zero_le _)))))) ea_nil) (by omega)) (by omega) (fun _ => rfl) (fun j y H3 hj hy e3 Q' q' => ?_) fun d H3 ws hd e3 hd3 hall => ?_
      · obtain rfl := hy
        have hjc : (Rd lot t i)[j]? = some ((Rd lot t i).getD j []) := by
          rw [List.getElem?_eq_getElem hj, List.getD_eq_getElem?_getD, List.getElem?_eq_getElem hj]
          rfl
        refine l_tup (a_ev (ev_var rfl) fun Hb eb => a_any (m_call (i := 0) rfl ((e3.trans eb) _ _ (e02 _ _ (kp _ _ hx))) R.nom.m5 (a_ev (ev_var rfl) fun Hc ec => a_ev (ev_var rfl) fun Hd ed => a_ev (ev_var rfl) fun He ee => a_nil ⟨x, pc, lot, t, fs, i, j, (Rd lot t i).getD j [], rfl, R2.ex (((e3.trans eb).trans ec).trans (ed.trans ee)), (((e3.trans eb).trans ec).trans (ed.trans ee)) _ _ h2, hjc, fun pq H4 hpq e4 h4 => a_nil ⟨by show 2 ≤ sizeLine; decide, fun pt hpt => ?_⟩⟩)))
        have eX := ((eb.trans ec).trans (ed.trans ee)).trans e4
        exact q' pt pq _ (fresh_back eX hpt) (fresh_back ((eb.trans ec).trans (ed.trans ee)) hpq) (eX.trans (Ex.new hpt)) upd_same (Ex.new hpt _ _ h4)
      · have hwl : ws.length = (Rd lot t i).length := by rw [hall.len, List.length_map, List.length_range]
        have hul := g4.len
        have hall2 : All2 (PairN pf H H3) ws ((Rd lot t i).map fun c => (i, c)) := by
          have e0 : (List.range (Rd lot t i).length).map (fun j => (i, (Rd lot t i).getD j [])) = (Rd lot t i).map fun c => (i, c) := by
            conv => rhs; rw [← range_getD (Rd lot t i) []]
            rw [List.map_map]
            rfl
          rw [e0] at hall
          refine hall.mono fun a b z => ?_
          obtain ⟨a1, b1, h1', h2', h3', h4', h5', h6', h7'⟩ := z
          refine ⟨a1, b1, h1', (fun zz => by rw [zz, g3'] at h4'; cases h4'), (fun zz => by rw [zz, g3'] at h5'; cases h5'), ?_, ?_, h6', h7'⟩
          · cases hH : H a1 with
            | none => rfl
            | some o =>
              rw [e02 _ _ (kp _ _ hH)] at h4'
              cases h4'
          · cases hH : H b1 with
            | none => rfl
            | some o =>
              rw [e02 _ _ (kp _ _ hH)] at h5'
              cases h5'
        refine ⟨pf, d, us, ws, rfl, rfl, e3 _ _ g3', hd3, Nat.le_trans (show us.length + ws.length ≤ 1000 by omega) (by decide), us ++ ws, _, _, rfl, ((g1.then e02).then e3).upd (.inl rfl), ((g2.then e02).then e3).upd (.inl rfl), upd_same, ?_⟩
        rw [preR_succ]
        exact ((g4.mono fun a b z => ((z.ex e02).ex e3).upd).app (hall2.mono fun a b z => z.upd))
    · rintro Hs σ' H' e ⟨us, v2, v3, rfl, g1, g2, g3, g4⟩
      rw [preR_all] at g4
      refine s_retA (sorted_pairs (ev_var rfl) g3 g4 fun r H2 hr e2 h2 ha => k r _ H2 ?_ (fun b o hb => e2 _ _ (g2 _ _ (npf b o hb) (e1 _ _ hb))) h2 (ha.mono fun a b z => ?_))
      · cases hH : H r with
        | none => rfl
        | some o =>
          have := g2 _ _ (npf _ _ hH) (e1 _ _ hH)
          rw [hr] at this
          cases this
      · obtain ⟨a1, b1, h1', h2', h3', h4', h5', h6', h7'⟩ := z
        exact ⟨a1, b1, h1', (fun zz => by rw [zz, hr] at h6'; cases h6'), (fun zz => by rw [zz, hr] at h7'; cases h7'), h4', h5', e2 _ _ h6', e2 _ _ h7'⟩
end
end K16
set_option Elab.async false
set_option linter.all false
set_option maxRecDepth 100000
set_option maxHeartbeats 4000000
namespace K16
open PySem PySem.Spec PyProof.Rows L2 Evl Wc Wt Wg We
section
variable {P : Program} {w : World} {K : PySem.W.Frag} {mg : Str → Option Value} {base : Heap}
def sp_Round (C : Addr) : Sp := fun vs H Q _ => ∃ (x dx pl : Addr) (lot : List Tx) (t : Tx), vs = [.ref x, .ref pl, T t] ∧ H x = some (.ins C dx []) ∧ LotAt pl lot H ∧ t.length ≤ 400 ∧ t ≠ [] ∧
  ∀ fs H', RoundAt C x lot t fs H' → (∀ b o, H b = some o → b ≠ x → H' b = some o) → Q .non H'
theorem s_fld {σ : L2.St} {H : Hp} {te : TE} {v : V} {C x dx : Addr} {fs : List (Str × V)} {f : Str} {D : Ends} (h : Ev te σ H v) (hx : σ[0]? = some (some (.ref x))) (hH : H x = some (.ins C dx fs)) (c : Cls K C) (n : NoAttr K C f) (hl : fs.length < 1000) (k : ∀ H1, Ex H H1 → D.nx σ (upd H1 x (.ins C dx (putF f v fs)))) : sFld K (tVar 0) te f D σ H := h H (Ex.refl _) _ fun H1 e1 => ⟨_, hx, x, C, dx, fs, rfl, e1 _ _ hH, c, n, hl, k H1 e1⟩
theorem ok_Round_init {f C : Addr} {fd : FuncData} (F : Fun K "__init__" "Round.__init__" st_Round_init f fd) (M : Md K mg) (W : RW K C) : FnOk P w K mg base CX0 1 f fd ["self", "lot", "text"] (sp_Round C) := by
  have nd := sc_Round_init.nd
  refine F.ok sc_Round_init (fun vs H Q E h => ?_) (fun cdv A outer s H vs Q E hr h => ?_)
  · obtain ⟨_, _, _, _, _, rfl, _⟩ := h
    rfl
  · obtain ⟨x, dx, pl, lot, t, rfl, hx, hlot, hlen, hne, k⟩ := h
    refine ⟨_, (pss_cons (ps_fld (pv 0) (pv 1) rfl)
  (pss_one (ps_fld (pv 0) (pv 2) rfl))), ?_⟩
    have npx : pl ≠ x := fun z => by
      have h1 := hlot.1
      rw [z, hx] at h1
      cases h1
    refine q_fld (ev_var rfl) rfl hx W.cl W.n_lot (by decide) fun H1 e1 => ?_
    refine s_fld (ev_var rfl) rfl upd_same W.cl W.n_text (by show 1 < 1000; decide) fun H2 e2 => ?_
    have kp2 : ∀ b o, H b = some o → b ≠ x → (upd H2 x (.ins C dx (putF ("text" : Str) (T t) (putF ("lot" : Str) (.ref pl) [])))) b = some o := fun b o hb hne => by
      rw [upd_ne hne]
      exact e2 _ _ (by rw [upd_ne hne]; exact e1 _ _ hb)
    refine k (putF ("text" : Str) (T t) (putF ("lot" : Str) (.ref pl) [])) _ ⟨⟨dx, upd_same⟩, ⟨pl, ?_, kp2 _ _ hlot.1 npx, hlot.2⟩, ?_, hlen, hne, ⟨?_, ?_, ?_, ?_, ?_, ?_⟩⟩ kp2
    · rw [lookup_putF, if_neg (by decide +kernel), lookup_putF, if_pos rfl]
    · rw [lookup_putF, if_pos rfl]
    all_goals (rw [lookup_putF, if_neg (by decide +kernel), lookup_putF, if_neg (by decide +kernel)]; rfl)
end
end K16
set_option Elab.async false
set_option linter.all false
set_option maxRecDepth 100000
set_option maxHeartbeats 4000000
namespace K16
open PySem PySem.Spec PyProof.Rows L2 Evl Wc Wt Wg We
section
variable {P : Program} {w : World} {K : PySem.W.Frag} {mg : Str → Option Value} {base : Heap}
theorem wp_round {C pl : Addr} {lot : List Tx} {t : Tx} {H : Hp} {Q : VK} {σ : L2.St} {ta : TA} (ha : EvA ta σ H [.ref pl, T t]) (hL : LotAt pl lot H) (h1 : t.length ≤ 400) (h2 : t ≠ []) (k : ∀ x fs H2, Ex H H2 → RoundAt C x lot t fs H2 → Q (.ref x) H2) : tMake C (sp_Round C) [] E0 ta σ H Q :=
  ha H (Ex.refl _) _ fun H1 e0 x dx hx hdx hne => by
    have e1 : Ex H1 (upd (upd H1 dx (.own x)) x (.ins C dx [])) := fun b o hb => by
      rw [upd_ne (ne_of_none hb hx), upd_ne (ne_of_none hb hdx)]
      exact hb
    exact ⟨x, dx, pl, lot, t, rfl, upd_same, (hL.ex e0).ex e1, h1, h2, fun fs H2 R kp => ⟨rfl, k x fs H2 (e0.trans fun b o hb => kp b o (e1 _ _ hb) (ne_of_none hb hx)) R⟩⟩
def sp_count : Sp := fun vs H Q _ => ∃ (pl : Addr) (lot : List Tx) (t : Tx), vs = [.ref pl, T t] ∧ LotAt pl lot H ∧ t.length ≤ 400 ∧ (∀ c ∈ t, abcd c) ∧ t ≠ [] ∧ RetV (.int ((N lot t : Nat) : Int)) H Q
theorem ok_count_round_cuts {f C : Addr} {fd : FuncData} (F : Fun K "count_round_cuts" "count_round_cuts" st_count_round_cuts f fd) (M : Md K mg) (W : RW K C) (C_need_round : Cal P w K mg base "need_round" st_need_round 5 ["lot", "text"] sp_need_round) (MK_Round : Mak P w K mg base 1 C "Round" (sp_Round C)) (MT_Round_number : C8.Met P w K mg base 3 C "number" (sp_number C) []) : FnOk P w K mg base CX0 6 f fd ["lot", "text"] sp_count := by
  have nd := sc_count_round_cuts.nd
  refine F.ok sc_count_round_cuts (fun vs H Q E h => ?_) (fun cdv A outer s H vs Q E hr h => ?_)
  · obtain ⟨_, _, _, rfl, _⟩ := h
    rfl
  · obtain ⟨pl, lot, t, rfl, hL, h1, h2, h3, k⟩ := h
    refine ⟨_, (pss_cons (ps_expr (pe_cl C_need_round hr (pa_cons (pv 0) (pa_cons (pv 1) pa_nil))))
  (pss_one (ps_ret (C8.pe_mt0 MT_Round_number hr (by decide) (pe_mkM MK_Round hr (pa_cons (pv 0) (pa_cons (pv 1) pa_nil))))))), ?_⟩
    refine q_drop (ev_call (ea_cons (ev_var rfl) (ea_cons (ev_var rfl) ea_nil)) fun H1 e1 Q q E => ⟨pl, lot, t, rfl, hL.ex e1, h1, h2, h3, q⟩) fun H1 e1 => ?_
    refine s_retA (wp_round (C := C) (ea_cons (ev_var rfl) (ea_cons (ev_var rfl) ea_nil)) (hL.ex e1) h1 h3 fun x fs H2 e2 R => ?_)
    obtain ⟨dx, hx⟩ := R.ob
    exact ⟨x, dx, fs, rfl, hx, R.nom.m4, x, lot, t, fs, rfl, R, RetV.mono k (e1.trans e2)⟩
def sp_round_cuts (CE : Addr) : Sp := fun vs H Q E => ∃ (pl : Addr) (lot : List Tx) (t : Tx), vs = [.ref pl, T t] ∧ LotAt pl lot H ∧ t.length ≤ 400 ∧ (∀ c ∈ t, abcd c) ∧ t ≠ [] ∧ (N lot t ≤ 300 → ∀ r us H', H r = none → Ex H H' → H' r = some (.lst us) → All2 (PairN r H H') us (srt (allR lot t)) → Q (.ref r) H') ∧ (300 < N lot t → ∀ H', Ex H H' → E (.ref CE) none H')
theorem ok_round_cuts {f C CE : Addr} {fd : FuncData} (F : Fun K "round_cuts" "round_cuts" st_round_cuts f fd) (M : Md K mg) (W : RW K C) (E_TooMany : Err K mg "TooMany" CE) (C_need_round : Cal P w K mg base "need_round" st_need_round 5 ["lot", "text"] sp_need_round) (MK_Round : Mak P w K mg base 1 C "Round" (sp_Round C)) (MT_Round_number : C8.Met P w K mg base 3 C "number" (sp_number C) []) (MT_Round_cuts : C8.Met P w K mg base 3 C "cuts" (sp_cuts C) []) : FnOk P w K mg base (L2.CX P w) 6 f fd ["lot", "text"] (sp_round_cuts CE) := by
  have nd := sc_round_cuts.nd
  refine F.okX sc_round_cuts (fun vs H Q E h => ?_) (fun cdv A outer s H vs Q E hr h => ?_)
  · obtain ⟨_, _, _, rfl, _⟩ := h
    rfl
  · obtain ⟨pl, lot, t, rfl, hL, h1, h2, h3, k1, k2⟩ := h
    refine ⟨_, (pss_cons (ps_expr (pe_cl C_need_round hr (pa_cons (pv 0) (pa_cons (pv 1) pa_nil))))
  (pss_cons (ps_set (i := 2) nd rfl (Or.inl rfl) (pe_mkM MK_Round hr (pa_cons (pv 0) (pa_cons (pv 1) pa_nil))))
  (pss_cons (ps_if (pt_cmpR op_gt (C8.pe_mt0 MT_Round_number hr (by decide) (pv 2)) (pe_gI M.c_MOST_TOLD) (nomark _))
  (pss_one (ps_raiseE rfl (takes_of rfl rfl rfl rfl) E_TooMany))
  pss_nil)
  (pss_one (ps_ret (C8.pe_mt0 MT_Round_cuts hr (by decide) (pv 2))))))), ?_⟩
    refine q_drop (ev_call (ea_cons (ev_var rfl) (ea_cons (ev_var rfl) ea_nil)) fun H1 e1 Q q E => ⟨pl, lot, t, rfl, hL.ex e1, h1, h2, h3, q⟩) fun H1 e1 => ?_
    refine q_asgA (wp_round (C := C) (ea_cons (ev_var rfl) (ea_cons (ev_var rfl) ea_nil)) (hL.ex e1) h1 h3 fun x fs H2 e2 R => ?_)
    have e12 := e1.trans e2
    show tSeq _ _ _ [some (.ref pl), some (T t), some (.ref x)] H2
    obtain ⟨dx, hx⟩ := R.ob
    have hnum : Ev (tMeth C "number" (sp_number C) [] E0 (tVar 2) tNil) [some (.ref pl), some (T t), some (.ref x)] H2 (.int ((N lot t : Nat) : Int)) := fun H3 e3 Q q => m_call (i := 2) rfl (e3 _ _ hx) R.nom.m4 (a_nil ⟨x, lot, t, fs, rfl, R.ex e3, q⟩)
    refine q_when (b := decide (300 < N lot t)) (et_is (et_test (ev_op hnum ev_c rv_I0)) (decide_eq_decide.mpr (by omega))) (fun hb H3 e3 => k2 (of_decide_eq_true hb) H3 (e12.trans e3)) (fun hb H3 e3 => ?_)
    have hle := of_decide_eq_false hb
    exact ⟨.ref x, rfl, x, dx, fs, rfl, e3 _ _ hx, R.nom.m6, x, lot, t, fs, rfl, R.ex e3, by omega, fun r us H' hr e4 h4 ha => k1 (by omega) r us H' (fresh_back (e12.trans e3) hr) ((e12.trans e3).trans e4) h4 (ha.mono fun a b z => z.back (e12.trans e3))⟩
end
end K16
set_option Elab.async false
set_option linter.all false
set_option maxRecDepth 100000
set_option maxHeartbeats 4000000
namespace K16
open PySem PySem.Spec PyProof.Rows L2 Evl Wc Wt Wg We
/-- a room as a pair of numbers -/
def rmV : Rm → List V
  | none => [.int (-1), .int 0]
  | some (i, q) => [.int (i : Int), .int (q : Int)]
def encM : Rm → PyData
  | none => .tuple [.int (-1), .int 0]
  | some (i, q) => .tuple [.int (i : Int), .int (q : Int)]
def RmAt (H : Hp) (v : V) (r : Rm) : Prop := ∃ a, v = .ref a ∧ H a = some (.tup (rmV r))
theorem RmAt.ex {H H1 : Hp} {v : V} {r : Rm} (h : RmAt H v r) (e : Ex H H1) : RmAt H1 v r := by
  obtain ⟨a, h1, h2⟩ := h
  exact ⟨a, h1, e _ _ h2⟩
theorem RmAt.upd {H : Hp} {v : V} {r : Rm} {p : Addr} {xs ys : List V} (h : RmAt H v r) (hp : H p = some (.lst xs)) : RmAt (L2.upd H p (.lst ys)) v r := by
  obtain ⟨a, h1, h2⟩ := h
  exact ⟨a, h1, by rw [upd_ne (fun z => by rw [z, hp] at h2; cases h2)]; exact h2⟩
theorem dp_rm {K : PySem.W.Frag} {H : Hp} {v : V} {r : Rm} (h : RmAt H v r) : Dp K H v (encM r) := by
  obtain ⟨a, rfl, h⟩ := h
  cases r with
  | none => exact .tup (st_of h) (.cons (.int _) (.cons (.int _) .nil))
  | some r => exact .tup (st_of h) (.cons (.int _) (.cons (.int _) .nil))
theorem shape_rm (r : Rm) : SeqAt.shaped (encM r) = true := by
  cases r with
  | none => rfl
  | some r => rfl
theorem eqv_gap (r : Rm) : PyData.eqv (encM r) (.tuple [.int (-1), .int 0]) = decide (r = none) := by
  cases r with
  | none => rfl
  | some r =>
    obtain ⟨i, q⟩ := r
    rw [decide_eq_false (fun z => by cases z)]
    show (PyData.eqv (.int (i : Int)) (.int (-1)) && (PyData.eqv (.int (q : Int)) (.int 0) && true)) = false
    rw [eqv_int, decide_eq_false (by omega), Bool.false_and]
theorem alike_M (l : List (V × Rm)) : PySem.W.AllAlike (l.map fun z => encM z.2) := by
  intro d hd d' hd'
  obtain ⟨⟨u, a⟩, _, rfl⟩ := List.mem_map.mp hd
  obtain ⟨⟨u', b⟩, _, rfl⟩ := List.mem_map.mp hd'
  cases a <;> cases b <;> simp [encM, PySem.W.alike, PySem.W.alikeAll]
theorem sortable_M (l : List (V × Rm)) : PySem.W.Sortable (l.map fun z => encM z.2) := .inl fun d hd => by
  obtain ⟨⟨u, a⟩, _, rfl⟩ := List.mem_map.mp hd
  cases a <;> exact ⟨_, _, rfl⟩
theorem depth_M (r : Rm) : (encM r).depth ≤ 50 := by
  cases r with
  | none => exact (by decide : (1 : Nat) ≤ 50)
  | some r => exact (by decide : (1 : Nat) ≤ 50)
/-- the pairs of a list of doors -/
def dP (lot : List Tx) (c : Nat) (xs : List (Nat × Nat)) : List Rm := (xs.filter fun x => decide ((wd lot x.1)[x.2]? = some c)).map fun x => nxt lot x.1 x.2
theorem dP_snoc (lot : List Tx) (c : Nat) (xs : List (Nat × Nat)) (x : Nat × Nat) : dP lot c (xs ++ [x]) = dP lot c xs ++ if (wd lot x.1)[x.2]? = some c then [nxt lot x.1 x.2] else [] := by
  unfold dP
  rw [List.filter_append, List.map_append]
  congr 1
  by_cases h : (wd lot x.1)[x.2]? = some c
  · rw [if_pos h, List.filter_cons, if_pos (decide_eq_true h)]
    rfl
  · rw [if_neg h, List.filter_cons, if_neg (fun z => h (of_decide_eq_true z))]
    rfl
theorem doors_gap (lot : List Tx) (c : Nat) : doors lot none c = dP lot c ((List.range lot.length).map fun i => (i, 0)) := by
  unfold doors dP
  rw [List.filter_map, List.map_map]
  rfl
theorem doors_in (lot : List Tx) (c i q : Nat) : doors lot (some (i, q)) c = dP lot c [(i, q)] := by
  unfold doors dP
  dsimp only
  rw [List.filter_cons]
  by_cases h : (wd lot i)[q]? = some c
  · rw [if_pos h, if_pos (decide_eq_true h)]
    rfl
  · rw [if_neg h, if_neg (fun z => h (of_decide_eq_true z))]
    rfl
theorem wp_if {σ : L2.St} {H : Hp} {t : TT} {ta tb : TE} {b : Bool} {Q : VK} (h : EvT t σ H b) (h1 : b = true → ∀ H1, Ex H H1 → ta σ H1 Q) (h2 : b = false → ∀ H1, Ex H H1 → tb σ H1 Q) : tIf t ta tb σ H Q := h H (Ex.refl H) _ fun H1 e1 => by
  cases b with
  | true => exact h1 rfl H1 e1
  | false => exact h2 rfl H1 e1
theorem q_forOf {K : PySem.W.Frag} {σ : L2.St} {H : Hp} {te0 : TE} {g : TG} {tb tz : TS} {D : Ends} (h : te0 σ H fun v H1 => tSeq (tFor (iList K (fun _ H' Q' => Q' v H')) g tb) tz D σ H1) : tSeq (tFor (iList K te0) g tb) tz D σ H := h
theorem ev_it {σ : L2.St} {H : Hp} {v : V} : Ev (fun _ H' Q' => Q' v H') σ H v := fun H1 e1 Q q => q H1 (Ex.refl _)
theorem ev_neg1 {σ : L2.St} {H : Hp} : Ev (tUn (rU fun i => .int (-i)) (tC (.int 1))) σ H (.int (-1)) := ev_un ev_c ru_neg
section
variable {P : Program} {w : World} {K : PySem.W.Frag} {mg : Str → Option Value} {base : Heap}
def sp_doors : Sp := fun vs H Q _ => ∃ (pl : Addr) (u : V) (lot : List Tx) (r : Rm) (c : Nat), vs = [.ref pl, u, T [c]] ∧ LotAt pl lot H ∧ RmAt H u r ∧ IsRm lot r ∧ ∀ l us H', H l = none → Ex H H' → H' l = some (.lst us) → All2 (RmAt H') us (doors lot r c) → Q (.ref l) H'
theorem ok__law_doors {f : Addr} {fd : FuncData} (F : Fun K "_law_doors" "_law_doors" st__law_doors f fd) (M : Md K mg) : FnOk P w K mg base CX0 1 f fd ["lot", "room", "sign"] sp_doors := by
  have nd := sc__law_doors.nd
  refine F.ok sc__law_doors (fun vs H Q E h => ?_) (fun cdv A outer s H vs Q E hr h => ?_)
  · obtain ⟨_, _, _, _, _, rfl, _⟩ := h
    rfl
  · obtain ⟨pl, u, lot, r, c, rfl, ⟨hp, hL⟩, hu, hr0, k⟩ := h
    refine ⟨_, (pss_cons (ps_set (i := 3) nd rfl (Or.inl rfl) (pe_lst pa_nil))
  (pss_cons (ps_for PassesOwn.never rfl (kil K (pi_list (pe_ifExp (pt_cmpR (kop K (r := rEqD) (op_eqD hr.units)) (pv 1) (pe_tup (pa_cons (pe_un un_neg pe_int) (pa_cons pe_int pa_nil))) (nomark _)) (pe_lc (own := [("index", 4)]) rfl nd (pi_range1 (by rfl) M.n_range (pa_cons (pe_callB (kcr K (r := rLenS) call_len_seq) (by rfl) M.n_len boot_len (pa_cons (pv 0) pa_nil)) pa_nil)) (blkOk_by (N := N__law_doors) (sc := defScope st__law_doors) (by decide +kernel)) (fun _ _ _ _ _ => (pg_name (i := 4) nd rfl (Or.inl rfl))) (fun _ _ _ _ _ => pts_nil) (fun _ _ _ _ _ => (pe_tup (pa_cons (pv 4) (pa_cons pe_int pa_nil))))) (pe_lst (pa_cons (pv 1) pa_nil))))) (kgt K (n := 2) (pg_tup rfl (pgs_cons (pg_name (i := 4) nd rfl (Or.inl rfl)) (pgs_cons (pg_name (i := 5) nd rfl (Or.inl rfl)) pgs_nil))))
  (pss_one (ps_if (pt_cmpR op_eqT (pe_ix ix_T (pe_ix (kix K (r := L2.rIxT) ix_tup) (pv 0) (pv 4) (fun _ _ => rfl)) (pv 5) (fun _ _ => rfl)) (pv 2) (nomark _))
  (pss_one (ps_expr (kbm K (pe_bm PySem.F.plainAttrs_list PySem.F.slot_list_append PySem.F.type_list_append mt_append (pv 3) (pa_cons (pe_ifExp (pt_cmpR op_eqI (pe_op op_add (pv 5) pe_int) (pe_callB cr_lenT (by rfl) M.n_len boot_len (pa_cons (pe_ix (kix K (r := L2.rIxT) ix_tup) (pv 0) (pv 4) (fun _ _ => rfl)) pa_nil)) (nomark _)) (pe_tup (pa_cons (pe_un un_neg pe_int) (pa_cons pe_int pa_nil))) (pe_tup (pa_cons (pv 4) (pa_cons (pe_op op_add (pv 5) pe_int) pa_nil)))) pa_nil)))))
  pss_nil)))
  (pss_one (ps_ret (pv 3))))), ?_⟩
    have hfew := hL.few
    refine q_asgL (el_lst ea_nil (by decide)) fun pf H1 hpf e1 h1 => ?_
    have hp1 := e1 _ _ hp
    have hu1 := hu.ex e1
    have npl : pl ≠ pf := ne_of_none hp hpf
    show tSeq _ _ _ [some (.ref pl), some u, some (T [c]), some (.ref pf), none, none] H1
    have loop : ∀ (l : Addr) (us : List V) (xs : List (Nat × Nat)) (Hl : Hp), Ex H1 Hl → l ≠ pf → Hl l = some (.lst us) → All2 (fun v x => ∃ a, v = .ref a ∧ Hl a = some (.tup [.int ((x.1 : Nat) : Int), .int ((x.2 : Nat) : Int)])) us xs → xs.length ≤ 12 → (∀ x ∈ xs, x.1 < lot.length ∧ x.2 < (wd lot x.1).length) → doors lot r c = dP lot c xs →
        tSeq (tFor (iList K (fun _ H' Q' => Q' (.ref l) H')) (gTup K 2 (gCons (gName 4) (gCons (gName 5) gNil))) (tIfS (tTest (tOp rEqT (tOp rIxT (tOp (L2.rIxT K) (tVar 0) (tVar 4)) (tVar 5)) (tVar 2))) (tDrop (tBM K "list" rAppend (tVar 3) (tCons (tIf (tTest (tOp (rI0 fun i j => .bl (decide (i = j))) (tOp (rI0 fun i j => .int (i + j)) (tVar 5) (tC (.int 1))) (tCB rLenT (tCons (tOp (L2.rIxT K) (tVar 0) (tVar 4)) tNil)))) (tTup (tCons (tUn (rU fun i => .int (-i)) (tC (.int 1))) (tCons (tC (.int 0)) tNil))) (tTup (tCons (tVar 4) (tCons (tOp (rI0 fun i j => .int (i + j)) (tVar 5) (tC (.int 1))) tNil)))) tNil))) tNext)) (tRet (tVar 3)) { nx := fun _ H' => Q .non H', rt := Q } [some (.ref pl), some u, some (T [c]), some (.ref pf), none, none] Hl := by
      intro l us xs Hl el nl hl hall hxl hxs hdo
      have hul := hall.len
      have hpl := el _ _ hp1
      refine q_forW (fun b => b = pf) (src_list (K := K) ev_it (sq_of hl)) ?_
        (fun Hs i σ' H' => ∃ (fs : List V) (v4 v5 : Option V), σ' = [some (.ref pl), some u, some (T [c]), some (.ref pf), v4, v5] ∧ Exc (fun b => b = pf) Hs H' ∧ H' pf = some (.lst fs) ∧ fs.length ≤ i ∧ All2 (RmAt H') fs (dP lot c (xs.take i))) ?_ ?_ ?_ ?_ ?_
      · rintro b rfl
        exact ⟨by rw [el _ _ h1]; exact fun z => (nomatch z), fun z => nl z.symm⟩
      · intro Hs e
        exact ⟨[], none, none, rfl, Exc.refl _, e _ _ (el _ _ h1), Nat.le_refl _, .nil⟩
      · rintro Hs i σ' H' ⟨_, _, _, _, h, _⟩
        exact h
      · rintro Hs i σ' Ha Hb ⟨fs, v4, v5, g0, g1, g2, g3, g4⟩ e
        exact ⟨fs, v4, v5, g0, g1.then e, e _ _ g2, g3, g4.mono fun a b z => z.ex e⟩
      · rintro Hs i y σ' H' e hi ⟨fs, v4, v5, rfl, g1, g2, g3, g4⟩ hy
        obtain ⟨x, hx⟩ : ∃ x, xs[i]? = some x := ⟨_, List.getElem?_eq_getElem (by omega)⟩
        obtain ⟨y', hy', a, hya, ha⟩ := hall.at_ hx
        obtain rfl : y' = y := Option.some.inj (hy'.symm.trans hy)
        subst hya
        obtain ⟨index, place⟩ := x
        obtain ⟨hxi, hxp⟩ := hxs _ (List.mem_of_getElem? hx)
        have hxi : index < lot.length := hxi
        have hxp : place < (wd lot index).length := hxp
        have ha : Hl a = some (.tup [.int ((index : Nat) : Int), .int ((place : Nat) : Int)]) := ha
        have nap : a ≠ pf := fun z => by rw [z, el _ _ h1] at ha; cases ha
        have ha' := g1 _ _ nap (e _ _ ha)
        have hp' := g1 _ _ npl (e _ _ hpl)
        have h12 := wd_12 hL hxi
        refine g_pair ha' ?_
        show tIfS _ _ _ _ [some (.ref pl), some u, some (T [c]), some (.ref pf), some (.int (index : Int)), some (.int (place : Int))] H'
        have ixw : ∀ {Hb : Hp}, Ex H' Hb → Ev (tOp (L2.rIxT K) (tVar 0) (tVar 4)) [some (.ref pl), some u, some (T [c]), some (.ref pf), some (.int (index : Int)), some (.int (place : Int))] Hb (T (wd lot index)) := fun eb => ev_op (ev_var rfl) (ev_var rfl) (Evl.rv_ixT (st_of (eb _ _ hp')) (atI_nat (by rw [List.getElem?_map, wd_at hxi]; rfl)))
        have hst : dP lot c (xs.take (i + 1)) = dP lot c (xs.take i) ++ if (wd lot index)[place]? = some c then [nxt lot index place] else [] := by
          rw [List.take_add_one, hx]
          exact dP_snoc lot c _ _
        have hsome : (wd lot index)[place]? = some (wd lot index)[place] := List.getElem?_eq_getElem hxp
        refine s_when (b := decide ((wd lot index)[place]? = some c)) (et_is (et_test (ev_op (ev_op (ixw (Ex.refl _)) (ev_var rfl) (Wc.rv_ixT (by omega) (atI_nat hsome))) (ev_var rfl) rv_eqT)) (by rw [hsome]; exact decide_eq_decide.mpr ⟨fun z => by rw [List.cons.inj z |>.1], fun z => by rw [Option.some.inj z]⟩)) (fun hb Ha ea => ?_) (fun hb Ha ea => ?_)
        · have hc := of_decide_eq_true hb
          rw [if_pos hc] at hst
          have h2a := ea _ _ g2
          refine s_appT (i := 3) rfl h2a ?_
          have done : ∀ {te : TE}, (∀ Q' : VK, (∀ b Hb, Ha b = none → Ex Ha Hb → Hb b = some (.tup (rmV (nxt lot index place))) → Q' (.ref b) Hb) → te [some (.ref pl), some u, some (T [c]), some (.ref pf), some (.int (index : Int)), some (.int (place : Int))] Ha Q') → te [some (.ref pl), some u, some (T [c]), some (.ref pf), some (.int (index : Int)), some (.int (place : Int))] Ha fun v H2 => rAppend (.ref pf) [v] H2 fun _ H3 => ∃ (fs : List V) (v4 v5 : Option V), [some (.ref pl), some u, some (T [c]), some (.ref pf), some (.int (index : Int)), some (.int (place : Int))] = [some (.ref pl), some u, some (T [c]), some (.ref pf), v4, v5] ∧ Exc (fun b => b = pf) Hs H3 ∧ H3 pf = some (.lst fs) ∧ fs.length ≤ i + 1 ∧ All2 (RmAt H3) fs (dP lot c (xs.take (i + 1))) := fun h => h _ fun b Hb hb eb hb2 => ⟨pf, fs, .ref b, rfl, rfl, eb _ _ h2a, sz_lt (by omega), fs ++ [.ref b], _, _, rfl, (g1.then (ea.trans eb)).upd (.inl rfl), upd_same, by rw [List.length_append, List.length_singleton]; omega, by
            rw [hst]
            exact (g4.mono fun a b z => ((z.ex ea).ex eb).upd (eb _ _ h2a)).push (RmAt.upd ⟨b, rfl, hb2⟩ (eb _ _ h2a))⟩
          refine done fun Q' q' => wp_if (b := decide (place + 1 = (wd lot index).length)) (et_is (et_test (ev_op (ev_op (ev_var rfl) ev_c rv_I0) (ev_cb (ea_cons (ixw ea) ea_nil) (rc_lenT (by omega))) rv_I0)) (decide_eq_decide.mpr (by omega))) (fun hb2 Hb eb => ?_) (fun hb2 Hb eb => ?_)
          · have hn : nxt lot index place = none := if_pos (of_decide_eq_true hb2)
            rw [hn] at q'
            exact l_tup (a_ev ev_neg1 fun Hc ec => a_c (a_nil ⟨by show 2 ≤ sizeLine; decide, fun p hp => q' p _ (fresh_back (eb.trans ec) hp) ((eb.trans ec).trans (Ex.new hp)) upd_same⟩))
          · have hn : nxt lot index place = some (index, place + 1) := if_neg (of_decide_eq_false hb2)
            rw [hn] at q'
            exact l_tup (a_ev (ev_var rfl) fun Hc ec => a_ev (ev_op (ev_var rfl) ev_c rv_I0) fun Hd ed => a_nil ⟨by show 2 ≤ sizeLine; decide, fun p hp => q' p _ (fresh_back ((eb.trans ec).trans ed) hp) (((eb.trans ec).trans ed).trans (Ex.new hp)) upd_same⟩)
        · rw [if_neg (of_decide_eq_false hb), List.append_nil] at hst
          exact ⟨fs, _, _, rfl, g1.then ea, ea _ _ g2, by omega, by rw [hst]; exact g4.mono fun a b z => z.ex ea⟩
      · rintro Hs σ' H' e ⟨fs, v4, v5, rfl, g1, g2, g3, g4⟩
        rw [hul, List.take_length, ← hdo] at g4
        refine s_ret (ev_var rfl) fun H4 e4 => k pf fs H4 hpf (fun b o hb => e4 _ _ (g1 _ _ (ne_of_none hb hpf) (e _ _ (el _ _ (e1 _ _ hb))))) (e4 _ _ g2) (g4.mono fun a b z => z.ex e4)
    refine q_forOf ?_
    refine wp_if (b := decide (r = none)) (et_test (ev_eqDB (d := encM r) (e := .tuple [.int (-1), .int 0]) (evd_var (i := 1) rfl fun H3 e3 => dp_rm (hu1.ex e3)) (evd_tup2 (evd_ev ev_neg1 fun _ _ => .int _) (evd_c fun _ => .int _)) (shape_rm r) rfl (eqv_gap r))) (fun hb H2 e2 => ?_) (fun hb H2 e2 => ?_)
    · have hn : r = none := of_decide_eq_true hb
      refine lcN (σ := [some (.ref pl), some u, some (T [c]), some (.ref pf), none, none]) (n := lot.length) (fun i => .tup [.int ((i : Nat) : Int), .int ((0 : Nat) : Int)]) (src_range1 (n := lot.length) (ea_cons (ev_is (ev_lenU (ev_var rfl) (st_of (e2 _ _ hp1))) (by rw [List.length_map])) ea_nil) (by omega)) (by omega) (fun _ => rfl) (fun i x H3 hi hx e3 Q' q' => ?_) fun l H3 ps hl e3 h3 hpl hn3 hnl => ?_
      · obtain rfl := hx
        exact l_tup (a_ev (ev_var rfl) fun Hc ec => a_c (a_nil ⟨by show 2 ≤ sizeLine; decide, fun p hp => q' p _ (fresh_back ec hp) (ec.trans (Ex.new hp)) upd_same⟩))
      · refine loop l _ ((List.range lot.length).map fun i => (i, 0)) H3 (e2.trans e3) (fun z => by rw [z] at hl; rw [e2 _ _ h1] at hl; cases hl) h3 ?_ (by rw [List.length_map, List.length_range]; omega) (fun x hx => ?_) (by rw [hn]; exact doors_gap lot c)
        · have hgen : ∀ (ps : List Addr) (s : Nat), (∀ i p, ps[i]? = some p → H3 p = some (.tup [.int ((s + i : Nat) : Int), .int ((0 : Nat) : Int)])) → All2 (fun v x => ∃ a, v = .ref a ∧ H3 a = some (.tup [.int ((x.1 : Nat) : Int), .int ((x.2 : Nat) : Int)])) (ps.map V.ref) ((List.range' s ps.length).map fun i => (i, 0)) := fun ps => by
            induction ps with
            | nil => intro s h; exact .nil
            | cons p ps ih =>
              intro s h
              exact .cons ⟨p, rfl, h 0 p rfl⟩ (ih (s + 1) fun i q hq => by
                have := h (i + 1) q hq
                rw [this, show s + 1 + i = s + (i + 1) by omega])
          have := hgen ps 0 (fun i p hp => by rw [Nat.zero_add]; exact hn3.at_ i p hp)
          rw [hpl, ← List.range_eq_range'] at this
          exact this
        · obtain ⟨i, hi, rfl⟩ := List.mem_map.mp hx
          have hi := List.mem_range.mp hi
          exact ⟨hi, List.length_pos_iff.mpr (lot_wd hL i hi)⟩
    · cases r with
      | none => exact absurd rfl (of_decide_eq_false hb)
      | some r =>
        obtain ⟨i, q⟩ := r
        obtain ⟨au, hau, hau2⟩ := hu1
        subst hau
        refine l_lst (a_ev (ev_var rfl) fun H3 e3 => a_nil ⟨by show 1 ≤ sizeLine; decide, fun l hl => ?_⟩)
        have eX := (e2.trans e3).trans (Ex.new (o := HO.lst [.ref au]) hl)
        refine loop l _ [(i, q)] _ eX (fun z => by rw [z] at hl; rw [(e2.trans e3) _ _ h1] at hl; cases hl) upd_same (.one ⟨au, rfl, eX _ _ hau2⟩) (by show 1 ≤ 12; decide) (fun x hx => ?_) (doors_in lot c i q)
        rw [List.mem_singleton.mp hx]
        exact ⟨hr0.1, hr0.2.2⟩
end
end K16
set_option Elab.async false
set_option linter.all false
set_option maxRecDepth 100000
set_option maxHeartbeats 4000000
namespace K16
open PySem PySem.Spec PyProof.Rows L2 Evl Wc Wt Wg We
theorem Sm_pos {α : Type} {l : List α} {f : α → Nat} : 0 < Sm l f ↔ ∃ a ∈ l, 0 < f a := by
  induction l with
  | nil => exact ⟨fun z => absurd z (by rw [Sm_nil]; omega), fun ⟨a, h, _⟩ => nomatch h⟩
  | cons a l ih =>
    rw [Sm_cons]
    constructor
    · intro h
      by_cases h1 : 0 < f a
      · exact ⟨a, List.mem_cons_self, h1⟩
      · obtain ⟨b, hb, h2⟩ := ih.mp (by omega)
        exact ⟨b, List.mem_cons_of_mem _ hb, h2⟩
    · rintro ⟨b, hb, h2⟩
      rcases List.mem_cons.mp hb with rfl | hb
      · omega
      · have := ih.mpr ⟨b, hb, h2⟩
        omega
/-- words lead on from a spot to the end -/
def fitB (lot : List Tx) (u : Tx) (ok : Nat → Bool) (s : Nat) : Bool := decide (0 < gN lot u ok s)
def wrdB (lot : List Tx) (u : Tx) (ok : Nat → Bool) (s : Nat) (wrd : Tx) : Bool := decide (s + wrd.length ≤ u.length ∧ (u.drop s).take wrd.length = wrd) && fitB lot u ok (s + wrd.length)
theorem fit_end {lot : List Tx} {u : Tx} {ok : Nat → Bool} : fitB lot u ok u.length = true := by
  unfold fitB
  rw [gN_end]
  rfl
theorem fit_not {lot : List Tx} (hL : ∀ i, i < lot.length → wd lot i ≠ []) {u : Tx} {ok : Nat → Bool} {s : Nat} (hs : s < u.length) (hk : ok s = false) : fitB lot u ok s = false := by
  unfold fitB
  rw [gN_step hL hs, hk]
  rfl
theorem fit_step {lot : List Tx} (hL : ∀ i, i < lot.length → wd lot i ≠ []) {u : Tx} {ok : Nat → Bool} {s : Nat} (hs : s < u.length) (hk : ok s = true) : fitB lot u ok s = !decide (lot.filter (wrdB lot u ok s) = []) := by
  unfold fitB
  rw [gN_step hL hs, if_pos hk, ← decide_not]
  refine decide_eq_decide.mpr (Sm_pos.trans ?_)
  constructor
  · rintro ⟨i, hi, h⟩ z
    have hi := List.mem_range.mp hi
    have hm : wd lot i ∈ lot.filter (wrdB lot u ok s) := by
      refine List.mem_filter.mpr ⟨List.mem_of_getElem? (wd_at hi), ?_⟩
      unfold wrdB
      by_cases hb : stB lot u s i = true
      · rw [if_pos hb] at h
        rw [decide_eq_true (stB_is hb), Bool.true_and]
        exact decide_eq_true h
      · rw [if_neg hb] at h
        omega
    rw [z] at hm
    cases hm
  · intro z
    obtain ⟨x, hx⟩ := List.exists_mem_of_ne_nil _ z
    obtain ⟨h1, h2⟩ := List.mem_filter.mp hx
    obtain ⟨i, hi⟩ := List.mem_iff_getElem?.mp h1
    have hil := (List.getElem?_eq_some_iff.mp hi).1
    have hw : wd lot i = x := Option.some.inj ((wd_at hil).symm.trans hi)
    unfold wrdB at h2
    rw [Bool.and_eq_true] at h2
    refine ⟨i, List.mem_range.mpr hil, ?_⟩
    have h3 := of_decide_eq_true h2.1
    rw [if_pos (by unfold stB; rw [hw]; exact decide_eq_true h3), hw]
    exact of_decide_eq_true h2.2
def fitsL (lot : List Tx) (u : Tx) (ok : Nat → Bool) : List V := (List.range (u.length + 1)).map fun s => V.bl (fitB lot u ok s)
theorem fits_len (lot : List Tx) (u : Tx) (ok : Nat → Bool) : (fitsL lot u ok).length = u.length + 1 := by
  unfold fitsL
  rw [List.length_map, List.length_range]
theorem fits_at {lot : List Tx} {u : Tx} {ok : Nat → Bool} {s : Nat} (h : s ≤ u.length) : (fitsL lot u ok)[s]? = some (.bl (fitB lot u ok s)) := by
  unfold fitsL
  rw [List.getElem?_map, List.getElem?_range (by omega)]
  rfl
theorem IsLot.low {lot : List Tx} (h : IsLot lot) : ∀ x ∈ lot, LowT x := fun x hx c hc => by
  have := (h.wd x hx).2 c hc
  unfold abcd at this
  omega
section
variable {P : Program} {w : World} {K : PySem.W.Frag} {mg : Str → Option Value} {base : Heap}
def sp_fits : Sp := fun vs H Q _ => ∃ (pl : Addr) (lot : List Tx) (u : Tx) (p : Nat), vs = [.ref pl, T u, .int (p : Int)] ∧ LotAt pl lot H ∧ u.length ≤ 400 ∧ RetL (fitsL lot u (okR u.length p)) H Q
theorem ok__law_fits {f : Addr} {fd : FuncData} (F : Fun K "_law_fits" "_law_fits" st__law_fits f fd) (M : Md K mg) : FnOk P w K mg base CX0 1 f fd ["lot", "turned", "place"] sp_fits := by
  have nd := sc__law_fits.nd
  refine F.ok sc__law_fits (fun vs H Q E h => ?_) (fun cdv A outer s H vs Q E hr h => ?_)
  · obtain ⟨_, _, _, _, rfl, _⟩ := h
    rfl
  · obtain ⟨pl, lot, u, p, rfl, hLA, hlen, k⟩ := h
    refine ⟨_, (pss_cons (ps_set (i := 3) nd rfl (Or.inr rfl) (pe_callB cr_lenT (by rfl) M.n_len boot_len (pa_cons (pv 1) pa_nil)))
  (pss_cons (ps_set (i := 4) nd rfl (Or.inr rfl) (pe_op op_cat (pe_op op_rep (pe_lst (pa_cons pe_bl pa_nil)) (pv 3)) (pe_lst (pa_cons pe_bl pa_nil))))
  (pss_cons (ps_for PassesOwn.never rfl (pi_revR (by rfl) M.n_reversed (prg_1 (by rfl) M.n_range (pv 3))) (pg_name (i := 5) nd rfl (Or.inr rfl))
  (pss_one (ps_if (PW.pt (pw_or (pt_cmpR op_eqI (pv 5) pe_int (nomark _)) (pw_or1 (pt_cmpR op_lt (pe_op op_add (pv 2) (pv 5)) (pv 3) (nomark _)))))
  (pss_one (ps_asg (pe_cmpR (kop K (r := rNeD) (op_neD hr.units)) (pe_lc (own := [("word", 6)]) rfl nd (kit K (pi_tup (pv 0))) (blkOk_by (N := N__law_fits) (sc := defScope st__law_fits) (by decide +kernel)) (fun _ _ _ _ _ => (pg_name (i := 6) nd rfl (Or.inl rfl))) (fun _ _ _ _ _ => (pts_one (PW.pt (pw_and (pt_cmpR op_le (pe_op op_add (pv 5) (pe_callB cr_lenT (by rfl) M.n_len boot_len (pa_cons (pv 6) pa_nil))) (pv 3) (nomark _)) (pw_and (pt_cmpR op_eqT (pe_slice sl_T (pv 1) (po_some (pv 5)) (po_some (pe_op op_add (pv 5) (pe_callB cr_lenT (by rfl) M.n_len boot_len (pa_cons (pv 6) pa_nil))))) (pv 6) (nomark _)) (pw_and1 (pt_val (pe_ix (kix K (r := L2.rIxL) ix_list) (pv 4) (pe_op op_add (pv 5) (pe_callB cr_lenT (by rfl) M.n_len boot_len (pa_cons (pv 6) pa_nil))) (fun _ _ => rfl))))))))) (fun _ _ _ _ _ => (pv 6))) (pe_lst pa_nil) (nomark _)) (pg_sub (pv 4) (pv 5) set_list)))
  pss_nil)))
  (pss_one (ps_ret (pv 4)))))), ?_⟩
    obtain ⟨hp, hL⟩ := id hLA
    have hfew := hL.few
    have hWd := lot_wd hL
    refine q_asg (v := .int ((u.length : Nat) : Int)) (ev_cb (ea_cons (ev_var rfl) ea_nil) (rc_lenT (by omega))) fun H0 e0 => ?_
    show tSeq _ _ _ [some (.ref pl), some (T u), some (.int (p : Int)), some (.int (u.length : Int)), none, none, none] H0
    refine q_asgL (xs := List.replicate u.length (V.bl false) ++ [V.bl true]) ?_ fun pf H1 hpf e1 h1 => ?_
    · have := el_catNN (el_rep (n := u.length) (el_lst (ea_cons (ev_c (v := V.bl false)) ea_nil) (by show 1 ≤ 100000; decide) : EvL _ [some (.ref pl), some (T u), some (.int (p : Int)), some (.int (u.length : Int)), none, none, none] H0 [V.bl false]) (ev_var (i := 3) rfl) (by simp; omega) (by omega)) (el_lst (ea_cons (ev_c (v := V.bl true)) ea_nil) (by show 1 ≤ 100000; decide)) (by rw [rep_one]; simp; omega)
      rw [rep_one] at this
      exact this
    have e01 := e0.trans e1
    have hpf0 : H pf = none := fresh_back e0 hpf
    have hp1 := e01 _ _ hp
    have npl : pl ≠ pf := ne_of_none hp hpf0
    show tSeq _ _ _ [some (.ref pl), some (T u), some (.int (p : Int)), some (.int (u.length : Int)), some (.ref pf), none, none] H1
    refine q_forW (fun c => c = pf) (src_revR (n := u.length) (ev_var rfl) (by omega)) ?_
      (fun Hs i σ' H' => ∃ (vs : List V) (v5 : Option V), σ' = [some (.ref pl), some (T u), some (.int (p : Int)), some (.int (u.length : Int)), some (.ref pf), v5, none] ∧ Exc (fun c => c = pf) Hs H' ∧ H' pf = some (.lst vs) ∧ vs.length = u.length + 1 ∧ (∀ s, s < u.length - i → vs[s]? = some (.bl false)) ∧ ∀ s, u.length - i ≤ s → s ≤ u.length → vs[s]? = some (.bl (fitB lot u (okR u.length p) s))) ?_ ?_ ?_ ?_ ?_
    · rintro c rfl
      exact ⟨by rw [h1]; exact fun z => (nomatch z), fun z => z⟩
    · intro Hs e
      refine ⟨_, none, rfl, Exc.refl _, e _ _ h1, by simp, fun s hs => ?_, fun s h2 h3 => ?_⟩
      · rw [List.getElem?_append_left (by simp; omega), List.getElem?_replicate, if_pos (by omega)]
      · obtain rfl : s = u.length := by omega
        rw [List.getElem?_append_right (by simp), fit_end]
        simp
    · rintro Hs i σ' H' ⟨_, _, _, h, _⟩
      exact h
    · rintro Hs i σ' Ha Hb ⟨vs, v5, g0, g1, g2, g3⟩ e
      exact ⟨vs, v5, g0, g1.then e, e _ _ g2, g3⟩
    · rintro Hs i y σ' H' e hi ⟨vs, v5, rfl, g1, g2, g3, g4, g5⟩ rfl
      obtain ⟨s, hs, hsi⟩ : ∃ s : Nat, ((u.length : Nat) : Int) - 1 - (i : Int) = (s : Int) ∧ s + i + 1 = u.length := ⟨u.length - 1 - i, by omega, by omega⟩
      show tIfS _ _ _ _ [some (.ref pl), some (T u), some (.int (p : Int)), some (.int (u.length : Int)), some (.ref pf), some (.int (((u.length : Nat) : Int) - 1 - (i : Int))), none] H'
      rw [hs]
      have hp' := g1 _ _ npl (e _ _ hp1)
      refine s_when (b := okR u.length p s) (et_is (et_or (et_test (ev_op (ev_var rfl) ev_c rv_I0)) fun _ => et_test (ev_op (ev_op (ev_var rfl) (ev_var rfl) rv_I0) (ev_var rfl) rv_I0)) (by unfold okR; rw [← Bool.decide_or]; exact decide_eq_decide.mpr (by omega))) (fun hb Ha ea => ?_) (fun hb Ha ea => ?_)
      · have g2a := ea _ _ g2
        have hpa := ea _ _ hp'
        have hlc := el_lcF (σ := [some (.ref pl), some (T u), some (.int (p : Int)), some (.int (u.length : Int)), some (.ref pf), some (.int (s : Int)), none]) (H := Ha) (j := 6) (vs := [6]) (te := tVar 6) (f := T) (g := T) (p := wrdB lot u (okR u.length p) s) (t := tAnd (tTest (tOp (rI0 fun i j => .bl (decide (i ≤ j))) (tOp (rI0 fun i j => .int (i + j)) (tVar 5) (tCB rLenT (tCons (tVar 6) tNil))) (tVar 3))) (tAnd (tTest (tOp rEqT (tSl rSlT (tVar 1) (tPart (tVar 5)) (tPart (tOp (rI0 fun i j => .int (i + j)) (tVar 5) (tCB rLenT (tCons (tVar 6) tNil))))) (tVar 6))) (tB (tOp (L2.rIxL K) (tVar 4) (tOp (rI0 fun i j => .int (i + j)) (tVar 5) (tCB rLenT (tCons (tVar 6) tNil))))))) lot (src_tupM (f := T) (xs := lot) (ev_var (i := 0) rfl) (st_of (K := K) hpa)) (by omega) (fun _ => rfl) (fun wrd Hb eb hw => ?_) (fun wrd Hb eb hw _ => ev_var rfl)
        · have hval := ev_opLL hlc (el_lst ea_nil (by decide) : EvL (tLst tNil) [some (.ref pl), some (T u), some (.int (p : Int)), some (.int (u.length : Int)), some (.ref pf), some (.int (s : Int)), none] Ha []) (fun p1 q1 H2 h1 h2 e2 => rv_neD (K := K) (d := .list ((lot.filter (wrdB lot u (okR u.length p) s)).map dT)) (e := .list []) (b := decide (lot.filter (wrdB lot u (okR u.length p) s) = [])) (fun H3 e3 => dp_list (sq_of (e3 _ _ h1)) fun x _ => .str _) (fun H3 e3 => .lst (sq_of (e3 _ _ h2)) .nil) (shaped_list (m := 0) (fun x hx => lay_T (hL.low x (List.mem_filter.mp hx).1)) (fun x _ => Nat.le_refl _) (by decide)) (by decide) (eqv_list (g := dT) eqv_T _ []))
          rw [← fit_step hWd (by omega) hb] at hval
          refine hval Ha (Ex.refl _) _ fun Hc ec => ⟨.ref pf, rfl, .int (s : Int), rfl, pf, vs, (s : Int), s, rfl, rfl, ec _ _ g2a, ixN_nat (by omega), ?_⟩
          exact ⟨vs.set s (.bl (fitB lot u (okR u.length p) s)), _, rfl, (g1.then (ea.trans ec)).upd (.inl rfl), upd_same, by rw [List.length_set]; exact g3, fun s' h' => by
            rw [List.getElem?_set_ne (by omega)]
            exact g4 s' (by omega), fun s' h' h'' => by
            by_cases hss : s = s'
            · subst hss
              rw [List.getElem?_set_self (by omega)]
            · rw [List.getElem?_set_ne hss]
              exact g5 s' (by omega) h''⟩
        · have hw12 := (hL.wd wrd hw).1
          have hlw : ∀ {σ : L2.St} {Hc : Hp}, σ[6]? = some (some (T wrd)) → Ev (tCB rLenT (tCons (tVar 6) tNil)) σ Hc (.int (wrd.length : Int)) := fun h0 => ev_cb (ea_cons (ev_var h0) ea_nil) (rc_lenT (by omega))
          unfold wrdB
          by_cases h1 : s + wrd.length ≤ u.length
          · refine et_is (et_andI (a := true) (et_is (et_test (ev_op (ev_op (ev_var rfl) (hlw rfl) rv_I0) (ev_var rfl) rv_I0)) (decide_eq_true (by omega))) fun _ => et_andI (a := decide ((u.drop s).take wrd.length = wrd)) (et_is (et_test (ev_op (ev_slT (ev_var rfl) (eo_some (ev_var rfl)) (eo_some (ev_is (ev_op (ev_var rfl) (hlw rfl) rv_I0) (w := .int ((s + wrd.length : Nat) : Int)) (by congr 1))) (by omega)) (ev_var rfl) rv_eqT)) (by rw [cutT_mid, Nat.add_sub_cancel_left])) fun _ => et_B (ev_op (ev_var rfl) (ev_is (ev_op (ev_var rfl) (hlw rfl) rv_I0) (w := .int ((s + wrd.length : Nat) : Int)) (by congr 1)) (rv_ixL (sq_of (eb _ _ g2a)) (atI_nat (g5 _ (by have := List.length_pos_iff.mpr (hL.pos wrd hw); omega) h1))))) ?_
            rw [Bool.true_and]
            congr 1
            exact decide_eq_decide.mpr ⟨fun z => ⟨h1, z⟩, fun z => z.2⟩
          · refine et_is (et_andI (a := false) (b := true) (et_is (et_test (ev_op (ev_op (ev_var rfl) (hlw rfl) rv_I0) (ev_var rfl) rv_I0)) (decide_eq_false (by omega))) fun z => by cases z) ?_
            rw [decide_eq_false (fun z => h1 z.1)]
            rfl
      · refine ⟨vs, _, rfl, g1.then ea, ea _ _ g2, g3, fun s' h' => g4 s' (by omega), fun s' h' h'' => ?_⟩
        by_cases hss : s = s'
        · subst hss
          rw [fit_not hWd (by omega) hb]
          exact g4 s (by omega)
        · exact g5 s' (by omega) h''
    · rintro Hs σ' H' e ⟨vs, v5, rfl, g1, g2, g3, g4, g5⟩
      have hvs : vs = fitsL lot u (okR u.length p) := by
        apply List.ext_getElem?
        intro s
        by_cases hs : s ≤ u.length
        · rw [g5 s (by omega) hs, fits_at hs]
        · rw [List.getElem?_eq_none (by omega), List.getElem?_eq_none (by rw [fits_len]; omega)]
      subst hvs
      exact s_ret (ev_var rfl) fun H4 e4 => k pf H4 hpf0 (fun b o hb => e4 _ _ (g1 _ _ (ne_of_none hb hpf0) (e _ _ (e01 _ _ hb)))) (e4 _ _ g2)
end
end K16
set_option Elab.async false
set_option linter.all false
set_option maxRecDepth 100000
set_option maxHeartbeats 4000000
namespace K16
open PySem PySem.Spec PyProof.Rows L2 Evl Wc Wt Wg We
/-! a pile of beginnings of cuts -/
abbrev Ent := List Nat × Nat
def remG (lot : List Tx) (u : Tx) (ok : Nat → Bool) (stk : List Ent) : List (List Nat) := stk.flatMap fun e => (cG lot u ok e.2).map (e.1 ++ ·)
theorem remG_app (lot : List Tx) (u : Tx) (ok : Nat → Bool) (a b : List Ent) : remG lot u ok (a ++ b) = remG lot u ok a ++ remG lot u ok b := by
  unfold remG
  rw [List.flatMap_append]
theorem remG_one (lot : List Tx) (u : Tx) (ok : Nat → Bool) (e : Ent) : remG lot u ok [e] = (cG lot u ok e.2).map (e.1 ++ ·) := by
  unfold remG
  rw [List.flatMap_cons, List.flatMap_nil, List.append_nil]
def goodG (lot : List Tx) (u : Tx) (ok : Nat → Bool) (s i : Nat) : Bool := stB lot u s i && fitB lot u ok (s + (wd lot i).length)
def pushG (lot : List Tx) (u : Tx) (ok : Nat → Bool) (c : List Nat) (s j : Nat) : List Ent := ((List.range j).filter (goodG lot u ok s)).map fun i => (c ++ [i], s + (wd lot i).length)
theorem pushG_succ (lot : List Tx) (u : Tx) (ok : Nat → Bool) (c : List Nat) (s j : Nat) : pushG lot u ok c s (j + 1) = pushG lot u ok c s j ++ if goodG lot u ok s j = true then [(c ++ [j], s + (wd lot j).length)] else [] := by
  unfold pushG
  rw [List.range_succ, List.filter_append, List.map_append]
  congr 1
  cases z : goodG lot u ok s j with
  | true => simp [z]
  | false => simp [z]
theorem pushG_len (lot : List Tx) (u : Tx) (ok : Nat → Bool) (c : List Nat) (s j : Nat) : (pushG lot u ok c s j).length ≤ j := by
  unfold pushG
  rw [List.length_map]
  exact Nat.le_trans (List.length_filter_le _ _) (by rw [List.length_range]; exact Nat.le_refl _)
theorem pushG_mem {lot : List Tx} {u : Tx} {ok : Nat → Bool} {c : List Nat} {s j : Nat} {e : Ent} (hj : j ≤ lot.length) (hW : ∀ i, i < lot.length → wd lot i ≠ []) (h : e ∈ pushG lot u ok c s j) : e.2 ≤ u.length ∧ fitB lot u ok e.2 = true ∧ e.1.length = c.length + 1 ∧ s + 1 ≤ e.2 := by
  obtain ⟨i, hi, rfl⟩ := List.mem_map.mp h
  obtain ⟨h1, h2⟩ := List.mem_filter.mp hi
  unfold goodG at h2
  rw [Bool.and_eq_true] at h2
  have := List.length_pos_iff.mpr (hW i (by have := List.mem_range.mp h1; omega))
  exact ⟨(stB_is h2.1).1, h2.2, by rw [List.length_append, List.length_singleton], by show s + 1 ≤ s + (wd lot i).length; omega⟩
theorem flatMap_ne {α β : Type} {f : α → List β} {q : α → Bool} : ∀ {l : List α}, (∀ a ∈ l, q a = false → f a = []) → (l.filter q).flatMap f = l.flatMap f
  | [], _ => rfl
  | a :: l, h => by
    rw [List.flatMap_cons]
    cases z : q a with
    | true => rw [List.filter_cons_of_pos z, List.flatMap_cons, flatMap_ne fun b hb => h b (List.mem_cons_of_mem _ hb)]
    | false => rw [List.filter_cons_of_neg (by rw [z]; exact Bool.false_ne_true), h a List.mem_cons_self z, List.nil_append, flatMap_ne fun b hb => h b (List.mem_cons_of_mem _ hb)]
theorem nofit {lot : List Tx} {u : Tx} {ok : Nat → Bool} {s : Nat} (h : fitB lot u ok s = false) : cG lot u ok s = [] := by
  have := of_decide_eq_false h
  unfold gN at this
  exact List.length_eq_zero_iff.mp (by omega)
theorem pushG_all {lot : List Tx} (hL : ∀ i, i < lot.length → wd lot i ≠ []) {u : Tx} {ok : Nat → Bool} {c : List Nat} {s : Nat} (hs : s < u.length) (hf : fitB lot u ok s = true) : remG lot u ok (pushG lot u ok c s lot.length) = (cG lot u ok s).map (c ++ ·) := by
  have hk : ok s = true := by
    cases z : ok s with
    | true => rfl
    | false => rw [fit_not hL hs z] at hf; cases hf
  have e2 : (List.range lot.length).filter (goodG lot u ok s) = (wAt lot u s).filter fun i => fitB lot u ok (s + (wd lot i).length) := by
    unfold wAt
    rw [List.filter_filter]
    congr 1
    funext i
    unfold goodG
    rw [Bool.and_comm]
  unfold remG pushG
  rw [e2, List.flatMap_map, cG_step hL hs, if_pos hk, List.map_flatMap]
  rw [flatMap_ne (fun i hi hq => by
    show (cG lot u ok (s + (wd lot i).length)).map _ = []
    rw [nofit hq]
    rfl)]
  refine flat_same fun i _ => ?_
  rw [List.map_map]
  refine List.map_congr_left fun t _ => ?_
  show (c ++ [i]) ++ t = c ++ (i :: t)
  rw [List.append_assoc]
  rfl
theorem Sm_le {α : Type} {l : List α} {f g : α → Nat} (h : ∀ a ∈ l, f a ≤ g a) : Sm l f ≤ Sm l g := by
  induction l with
  | nil => exact Nat.le_refl _
  | cons a l ih =>
    rw [Sm_cons, Sm_cons]
    have := ih fun b hb => h b (List.mem_cons_of_mem _ hb)
    have := h a List.mem_cons_self
    omega
/-- how many turns are left at most -/
def muG (lot : List Tx) (u : Tx) (ok : Nat → Bool) (stk : List Ent) : Nat := Sm stk fun e => gN lot u ok e.2 * (u.length - e.2 + 1)
theorem mu_app (lot : List Tx) (u : Tx) (ok : Nat → Bool) (a b : List Ent) : muG lot u ok (a ++ b) = muG lot u ok a + muG lot u ok b := Sm_app
theorem mu_one (lot : List Tx) (u : Tx) (ok : Nat → Bool) (e : Ent) : muG lot u ok [e] = gN lot u ok e.2 * (u.length - e.2 + 1) := by
  unfold muG
  rw [Sm_cons, Sm_nil, Nat.add_zero]
theorem mu_push {lot : List Tx} (hL : ∀ i, i < lot.length → wd lot i ≠ []) {u : Tx} {ok : Nat → Bool} {c : List Nat} {s : Nat} (hs : s < u.length) (hf : fitB lot u ok s = true) : muG lot u ok (pushG lot u ok c s lot.length) + 1 ≤ gN lot u ok s * (u.length - s + 1) := by
  have hk : ok s = true := by
    cases z : ok s with
    | true => rfl
    | false => rw [fit_not hL hs z] at hf; cases hf
  have h0 : 0 < gN lot u ok s := of_decide_eq_true hf
  have h1 : muG lot u ok (pushG lot u ok c s lot.length) ≤ gN lot u ok s * (u.length - s) := by
    unfold muG pushG
    rw [Sm_map, Sm_if, gN_step hL hs, if_pos hk, ← Sm_mulr]
    refine Sm_le fun i hi => ?_
    have hp := List.length_pos_iff.mpr (hL i (List.mem_range.mp hi))
    by_cases hg : goodG lot u ok s i = true
    · rw [if_pos hg]
      unfold goodG at hg
      rw [Bool.and_eq_true] at hg
      rw [if_pos hg.1]
      have := (stB_is hg.1).1
      exact Nat.mul_le_mul_left _ (by show u.length - (s + (wd lot i).length) + 1 ≤ _; omega)
    · rw [if_neg hg]
      exact Nat.zero_le _
  rw [Nat.mul_add, Nat.mul_one]
  omega
theorem mu_len {lot : List Tx} {u : Tx} {ok : Nat → Bool} : ∀ {stk : List Ent}, (∀ e ∈ stk, fitB lot u ok e.2 = true) → stk.length ≤ muG lot u ok stk
  | [], _ => Nat.zero_le _
  | e :: stk, h => by
    have h1 := mu_len (stk := stk) fun b hb => h b (List.mem_cons_of_mem _ hb)
    have h2 : 0 < gN lot u ok e.2 := of_decide_eq_true (h e List.mem_cons_self)
    unfold muG at h1 ⊢
    rw [Sm_cons, List.length_cons]
    have : gN lot u ok e.2 ≤ gN lot u ok e.2 * (u.length - e.2 + 1) := Nat.le_mul_of_pos_right _ (by omega)
    omega
/-! its objects -/
def FR (H0 H : Hp) (pf pw a : Addr) (c : List Nat) : Prop := H a = some (.lst (numV c)) ∧ H0 a = none ∧ a ≠ pf ∧ a ≠ pw
def WR (H0 H : Hp) (pf pw t : Addr) (e : Ent) : Prop := ∃ ca, H t = some (.tup [.ref ca, .int (e.2 : Int)]) ∧ FR H0 H pf pw ca e.1
def QR (H0 H : Hp) (pf pw : Addr) (v : V) (q : PC) : Prop := ∃ a b, v = .ref a ∧ H0 a = none ∧ H a = some (.tup [.int (q.1 : Int), .ref b]) ∧ FR H0 H pf pw b q.2
abbrev Two (pf pw : Addr) (c : Addr) : Prop := c = pf ∨ c = pw
theorem FR.go {H0 H H1 : Hp} {pf pw a : Addr} {c : List Nat} (h : FR H0 H pf pw a c) (e : Exc (Two pf pw) H H1) : FR H0 H1 pf pw a c := ⟨e _ _ (fun z => z.elim h.2.2.1 h.2.2.2) h.1, h.2⟩
structure PileAt (H0 H : Hp) (pf pw : Addr) (fs : List PC) (stk : List Ent) : Prop where
  f : ∃ us : List V, H pf = some (.lst us) ∧ All2 (QR H0 H pf pw) us fs
  w : ∃ ts : List Addr, H pw = some (.lst (ts.map V.ref)) ∧ All2 (WR H0 H pf pw) ts stk
theorem tup_go {H H1 : Hp} {pf pw t : Addr} {xs : List V} (h : H t = some (.tup xs)) (hf : ∃ xs, H pf = some (.lst xs)) (hw : ∃ xs, H pw = some (.lst xs)) (x : Exc (Two pf pw) H H1) : H1 t = some (.tup xs) := x _ _ (fun z => by
  obtain ⟨xs, hf⟩ := hf
  obtain ⟨ys, hw⟩ := hw
  rcases z with rfl | rfl
  · rw [hf] at h; cases h
  · rw [hw] at h; cases h) h
theorem WR.go {H0 H H1 : Hp} {pf pw t : Addr} {e : Ent} (h : WR H0 H pf pw t e) (hf : ∃ xs, H pf = some (.lst xs)) (hw : ∃ xs, H pw = some (.lst xs)) (x : Exc (Two pf pw) H H1) : WR H0 H1 pf pw t e := by
  obtain ⟨ca, h1, h2⟩ := h
  exact ⟨ca, tup_go h1 hf hw x, h2.go x⟩
theorem QR.go {H0 H H1 : Hp} {pf pw : Addr} {v : V} {q : PC} (h : QR H0 H pf pw v q) (hf : ∃ xs, H pf = some (.lst xs)) (hw : ∃ xs, H pw = some (.lst xs)) (x : Exc (Two pf pw) H H1) : QR H0 H1 pf pw v q := by
  obtain ⟨a, b, h0, h1, h2, h3⟩ := h
  exact ⟨a, b, h0, h1, tup_go h2 hf hw x, h3.go x⟩
theorem PileAt.ex {H0 H H1 : Hp} {pf pw : Addr} {fs : List PC} {stk : List Ent} (h : PileAt H0 H pf pw fs stk) (e : Ex H H1) : PileAt H0 H1 pf pw fs stk := by
  obtain ⟨⟨us, f1, f2⟩, ts, w1, w2⟩ := h
  exact ⟨⟨us, e _ _ f1, f2.mono fun a b r => r.go ⟨_, f1⟩ ⟨_, w1⟩ (.of e)⟩, ts, e _ _ w1, w2.mono fun a b r => r.go ⟨_, f1⟩ ⟨_, w1⟩ (.of e)⟩
theorem PileAt.found {H0 H : Hp} {pf pw : Addr} {fs : List PC} {stk : List Ent} {v : V} {q : PC} {xs : List V} (h : PileAt H0 H pf pw fs stk) (hne : pf ≠ pw) (hc : QR H0 H pf pw v q) (hx : H pf = some (.lst xs)) : PileAt H0 (upd H pf (.lst (xs ++ [v]))) pf pw (fs ++ [q]) stk := by
  obtain ⟨⟨us, f1, f2⟩, ts, w1, w2⟩ := h
  rw [f1] at hx
  cases hx
  have x : Exc (Two pf pw) H (upd H pf (.lst (xs ++ [v]))) := (Exc.refl H).upd (.inl (.inl rfl))
  exact ⟨⟨xs ++ [v], upd_same, (f2.mono fun a b r => r.go ⟨_, f1⟩ ⟨_, w1⟩ x).push (hc.go ⟨_, f1⟩ ⟨_, w1⟩ x)⟩, ts, by rw [upd_ne (Ne.symm hne)]; exact w1, w2.mono fun a b r => r.go ⟨_, f1⟩ ⟨_, w1⟩ x⟩
theorem PileAt.more {H0 H : Hp} {pf pw t : Addr} {fs : List PC} {stk : List Ent} {e : Ent} {xs : List V} (h : PileAt H0 H pf pw fs stk) (hne : pf ≠ pw) (hc : WR H0 H pf pw t e) (hx : H pw = some (.lst xs)) : PileAt H0 (upd H pw (.lst (xs ++ [.ref t]))) pf pw fs (stk ++ [e]) := by
  obtain ⟨⟨us, f1, f2⟩, ts, w1, w2⟩ := h
  rw [w1] at hx
  cases hx
  have x : Exc (Two pf pw) H (upd H pw (.lst (ts.map V.ref ++ [.ref t]))) := (Exc.refl H).upd (.inl (.inr rfl))
  exact ⟨⟨us, by rw [upd_ne hne]; exact f1, f2.mono fun a b r => r.go ⟨_, f1⟩ ⟨_, w1⟩ x⟩, ts ++ [t], by rw [upd_same, List.map_append]; rfl, (w2.mono fun a b r => r.go ⟨_, f1⟩ ⟨_, w1⟩ x).push (hc.go ⟨_, f1⟩ ⟨_, w1⟩ x)⟩
theorem PileAt.less {H0 H : Hp} {pf pw : Addr} {fs : List PC} {stk : List Ent} {e : Ent} (h : PileAt H0 H pf pw fs (stk ++ [e])) (hne : pf ≠ pw) : ∃ (xs : List V) (t ca : Addr), H pw = some (.lst (xs ++ [.ref t])) ∧ H t = some (.tup [.ref ca, .int (e.2 : Int)]) ∧ PileAt H0 (upd H pw (.lst xs)) pf pw fs stk ∧ FR H0 (upd H pw (.lst xs)) pf pw ca e.1 := by
  obtain ⟨⟨us, f1, f2⟩, ts, w1, w2⟩ := h
  obtain ⟨ts', t, rfl, w3, ca, r1, r2⟩ := w2.pop
  have x : Exc (Two pf pw) H (upd H pw (.lst (ts'.map V.ref))) := (Exc.refl H).upd (.inl (.inr rfl))
  exact ⟨ts'.map V.ref, t, ca, by rw [w1, List.map_append]; rfl, r1, ⟨⟨us, by rw [upd_ne hne]; exact f1, f2.mono fun a b r => r.go ⟨_, f1⟩ ⟨_, w1⟩ x⟩, ts', upd_same, w3.mono fun a b r => r.go ⟨_, f1⟩ ⟨_, w1⟩ x⟩, r2.go x⟩
def entD (e : Ent) : PyData := .tuple [.list (e.1.map fun (n : Nat) => PyData.int (n : Int)), .int (e.2 : Int)]
theorem lay_ent (e : Ent) : (entD e).canLay0 = true := by
  show PyData.canLayAll0 [PyData.list (e.1.map fun (n : Nat) => PyData.int (n : Int)), .int (e.2 : Int)] = true
  show ((PyData.list (e.1.map fun (n : Nat) => PyData.int (n : Int))).canLay0 && ((PyData.int (e.2 : Int)).canLay0 && true)) = true
  rw [lay_list fun _ _ => rfl]
  rfl
theorem depth_ent (e : Ent) : (entD e).depth ≤ 3 := by
  show PyData.depthAll [PyData.list (e.1.map fun (n : Nat) => PyData.int (n : Int)), .int (e.2 : Int)] + 1 ≤ 3
  have : PyData.depthAll (e.1.map fun (n : Nat) => PyData.int (n : Int)) ≤ 0 := depth_all fun _ _ => Nat.le_refl _
  show max (PyData.depthAll (e.1.map fun (n : Nat) => PyData.int (n : Int)) + 1) (max 0 0) + 1 ≤ 3
  omega
theorem dp_pile {K : PySem.W.Frag} {H0 H : Hp} {pf pw : Addr} {ts : List Addr} {stk : List Ent} (h : All2 (WR H0 H pf pw) ts stk) : DpAll K H (ts.map V.ref) (stk.map entD) := by
  induction h with
  | nil => exact .nil
  | cons r _ ih =>
    obtain ⟨ca, r1, r2⟩ := r
    exact .cons (.tup (st_of r1) (.cons (dp_list (sq_of r2.1) fun _ _ => .int _) (.cons (.int _) .nil))) ih
theorem q_par2 {ta tb : TE} {i j : Nat} {σ : L2.St} {H : Hp} {tz : TS} {D : Ends} (h : ta σ H fun v H1 => tb σ H1 fun w H2 => ∃ v' w', [v, w] = [v', w'] ∧ tz D ((σ.set i (some v')).set j (some w')) H2) : tSeq (tPar i j (tCons ta (tCons tb tNil))) tz D σ H := h
theorem numV_app (c : List Nat) (n : Nat) : numV (c ++ [n]) = numV c ++ [.int (n : Int)] := by
  unfold numV
  rw [List.map_append]
  rfl
section
variable {P : Program} {w : World} {K : PySem.W.Frag} {mg : Str → Option Value} {base : Heap}
/-- new pairs, ascending -/
def RetP (lot : List Tx) (t : Tx) (H : Hp) (Q : VK) : Prop := ∀ r us H', H r = none → Ex H H' → H' r = some (.lst us) → All2 (PairN r H H') us (srt (allR lot t)) → Q (.ref r) H'
def sp_tried : Sp := fun vs H Q _ => ∃ (pl : Addr) (lot : List Tx) (t : Tx), vs = [.ref pl, T t] ∧ LotAt pl lot H ∧ t.length ≤ 400 ∧ t ≠ [] ∧ N lot t ≤ 300 ∧ RetP lot t H Q
theorem ok__law_tried {f : Addr} {fd : FuncData} (F : Fun K "_law_tried" "_law_tried" st__law_tried f fd) (M : Md K mg) (C__law_fits : Cal P w K mg base "_law_fits" st__law_fits 1 ["lot", "turned", "place"] sp_fits) : FnOk P w K mg base CX0 2 f fd ["lot", "text"] sp_tried := by
  have nd := sc__law_tried.nd
  refine F.ok sc__law_tried (fun vs H Q E h => ?_) (fun cdv A outer s H vs Q E hr h => ?_)
  · obtain ⟨_, _, _, rfl, _⟩ := h
    rfl
  · obtain ⟨pl, lot, t, rfl, hLA, hlen, hne, hN, ret⟩ := h
    refine ⟨_, (pss_cons (ps_set (i := 2) nd rfl (Or.inl rfl) (pe_lst pa_nil))
  (pss_cons (ps_for PassesOwn.never rfl (pi_range1 (by rfl) M.n_range (pa_cons (pe_callB cr_lenT (by rfl) M.n_len boot_len (pa_cons (pv 1) pa_nil)) pa_nil)) (pg_name (i := 3) nd rfl (Or.inl rfl))
  (pss_cons (ps_set (i := 4) nd rfl (Or.inl rfl) (pe_op op_addT (pe_slice sl_T (pv 1) (po_some (pv 3)) po_none) (pe_slice sl_T (pv 1) po_none (po_some (pv 3)))))
  (pss_cons (ps_par (i := 5) (j := 6) rfl nd rfl rfl (by decide) rfl rfl (pa_cons (pe_cl C__law_fits hr (pa_cons (pv 0) (pa_cons (pv 4) (pa_cons (pv 3) pa_nil)))) (pa_cons (pe_lst (pa_cons (pe_tup (pa_cons (pe_lst pa_nil) (pa_cons pe_int pa_nil))) pa_nil)) pa_nil)) (by rfl))
  (pss_one (ps_for PassesOwn.never rfl (pi_range1 (by rfl) M.n_range (pa_cons pe_int pa_nil)) (pg_name (i := 7) nd rfl (Or.inl rfl))
  (pss_cons (ps_if (PW.pt (pw_or (pt_cmpR (kop K (r := rEqD) (op_eqD hr.units)) (pv 6) (pe_lst pa_nil) (nomark _)) (pw_or1 (pt_not (pt_val (pe_ix (kix K (r := L2.rIxL) ix_list) (pv 5) pe_int (fun _ _ => rfl)))))))
  (pss_one ps_break)
  pss_nil)
  (pss_cons (ps_asg (kbm0 K (pe_bm0 PySem.F.plainAttrs_list PySem.F.slot_list_pop PySem.F.type_list_pop mt_pop (pv 6))) (kgt K (n := 2) (pg_tup rfl (pgs_cons (pg_name (i := 8) nd rfl (Or.inl rfl)) (pgs_cons (pg_name (i := 9) nd rfl (Or.inl rfl)) pgs_nil)))))
  (pss_one (ps_if (pt_cmpR op_eqI (pv 9) (pe_callB cr_lenT (by rfl) M.n_len boot_len (pa_cons (pv 4) pa_nil)) (nomark _))
  (pss_one (ps_expr (kbm K (pe_bm PySem.F.plainAttrs_list PySem.F.slot_list_append PySem.F.type_list_append mt_append (pv 2) (pa_cons (pe_tup (pa_cons (pv 3) (pa_cons (pv 8) pa_nil))) pa_nil)))))
  (pss_one (ps_for PassesOwn.never rfl (kiet K (pi_enumT (by rfl) M.n_enumerate (pa_cons (pv 0) pa_nil))) (kgt K (n := 2) (pg_tup rfl (pgs_cons (pg_name (i := 10) nd rfl (Or.inl rfl)) (pgs_cons (pg_name (i := 11) nd rfl (Or.inl rfl)) pgs_nil))))
  (pss_one (ps_if (PW.pt (pw_and (pt_cmpR op_le (pe_op op_add (pv 9) (pe_callB cr_lenT (by rfl) M.n_len boot_len (pa_cons (pv 11) pa_nil))) (pe_callB cr_lenT (by rfl) M.n_len boot_len (pa_cons (pv 4) pa_nil)) (nomark _)) (pw_and (pt_cmpR op_eqT (pe_slice sl_T (pv 4) (po_some (pv 9)) (po_some (pe_op op_add (pv 9) (pe_callB cr_lenT (by rfl) M.n_len boot_len (pa_cons (pv 11) pa_nil))))) (pv 11) (nomark _)) (pw_and1 (pt_val (pe_ix (kix K (r := L2.rIxL) ix_list) (pv 5) (pe_op op_add (pv 9) (pe_callB cr_lenT (by rfl) M.n_len boot_len (pa_cons (pv 11) pa_nil))) (fun _ _ => rfl)))))))
  (pss_one (ps_expr (kbm K (pe_bm PySem.F.plainAttrs_list PySem.F.slot_list_append PySem.F.type_list_append mt_append (pv 6) (pa_cons (pe_tup (pa_cons (pe_op op_cat (pv 8) (pe_lst (pa_cons (pv 10) pa_nil))) (pa_cons (pe_op op_add (pv 9) (pe_callB cr_lenT (by rfl) M.n_len boot_len (pa_cons (pv 11) pa_nil))) pa_nil))) pa_nil)))))
  pss_nil)))))))))))))
  (pss_one (ps_ret (pe_callB (Wf.ksortDD (K := K) hr.units) (by rfl) M.n_sorted boot_sorted (pa_cons (pv 2) pa_nil)))))), ?_⟩
    obtain ⟨hp, hL⟩ := id hLA
    have hfew := hL.few
    have hWd := lot_wd hL
    refine q_asgL (el_lst ea_nil (by decide)) fun pf H1 hpf e1 h1 => ?_
    show tSeq _ _ _ [some (.ref pl), some (T t), some (.ref pf), none, none, none, none, none, none, none, none, none] H1
    have npf : ∀ b o, H b = some o → b ≠ pf := fun b o hb z => by rw [z, hpf] at hb; cases hb
    refine q_forW (fun c => c = pf) (src_range1 (n := t.length) (ea_cons (ev_cb (ea_cons (ev_var (i := 1) rfl) ea_nil) (rc_lenT (by omega))) ea_nil) (by omega)) ?_
      (fun Hs p σ' H' => ∃ (us : List V) (l : List PC) (v3 v4 v5 v6 v7 v8 v9 v10 v11 : Option V), σ' = [some (.ref pl), some (T t), some (.ref pf), v3, v4, v5, v6, v7, v8, v9, v10, v11] ∧ Exc (fun c => c = pf) Hs H' ∧ Exc (fun c => c = pf) H1 H' ∧ H' pf = some (.lst us) ∧ All2 (PairN pf H H') us l ∧ l.Perm (preR lot t p)) ?_ ?_ ?_ ?_ ?_
    · rintro c rfl
      exact ⟨by rw [h1]; exact fun z => (nomatch z), fun z => z⟩
    · intro Hs e
      exact ⟨[], [], _, _, _, _, _, _, _, _, _, rfl, Exc.refl _, Exc.of e, e _ _ h1, .nil, .refl _⟩
    · rintro Hs i σ' H' ⟨_, _, _, _, _, _, _, _, _, _, _, _, h, _⟩
      exact h
    · rintro Hs i σ' Ha Hb ⟨us, l, v3, v4, v5, v6, v7, v8, v9, v10, v11, g0, g1, g2, g3, g4, g5⟩ e
      exact ⟨us, l, v3, v4, v5, v6, v7, v8, v9, v10, v11, g0, g1.then e, g2.then e, e _ _ g3, g4.mono fun a b z => z.ex e, g5⟩
    · rintro Hs p y σ' H' e hpt ⟨us, l, v3, v4, v5, v6, v7, v8, v9, v10, v11, rfl, g1, g2, g3, g4, g5⟩ rfl
      have kp : ∀ b o, H b = some o → H' b = some o := fun b o hb => g2 _ _ (npf b o hb) (e1 _ _ hb)
      have htl := tn_len t p
      show tSeq _ _ _ [some (.ref pl), some (T t), some (.ref pf), some (.int (p : Int)), v4, v5, v6, v7, v8, v9, v10, v11] H'
      refine q_asg (v := T (tn t p)) (ev_is (ev_op (ev_slT (lo := some (p : Int)) (ev_var rfl) (eo_some (ev_var rfl)) eo_none (by omega)) (ev_slT (hi := some (p : Int)) (ev_var rfl) eo_none (eo_some (ev_var rfl)) (by omega)) (rv_addT (by rw [cutT_from, cutT_to, List.length_drop, List.length_take]; omega))) (by rw [cutT_from, cutT_to]; rfl)) fun H2 e2 => ?_
      show tSeq _ _ _ [some (.ref pl), some (T t), some (.ref pf), some (.int (p : Int)), some (T (tn t p)), v5, v6, v7, v8, v9, v10, v11] H2
      have hn0 : (Rd lot t p).length ≤ 300 := Nat.le_trans (Rd_le hWd hne hpt) hN
      have hpre : l.length ≤ 300 := by
        rw [g5.length_eq]
        exact Nat.le_trans (preR_len hWd hne (by omega)) hN
      refine q_par2 ⟨.ref pl, rfl, T (tn t p), rfl, .int (p : Int), rfl, pl, lot, tn t p, p, rfl, ⟨e2 _ _ (kp _ _ hp), hL⟩, by omega, fun pt H3 hpt3 e3 h3 => ?_⟩
      rw [htl] at h3
      refine ⟨by decide, fun c0 hc0 => ⟨by show 2 ≤ sizeLine; decide, fun t0 ht0 => ⟨by show 1 ≤ sizeLine; decide, fun pw hpw => ⟨.ref pt, .ref pw, rfl, ?_⟩⟩⟩⟩
      have i1 := Ex.new (o := HO.lst []) hc0
      have i2 := Ex.new (o := HO.tup [.ref c0, .int 0]) ht0
      have i3 := Ex.new (o := HO.lst [.ref t0]) hpw
      have eA : Ex H3 (upd (upd (upd H3 c0 (.lst [])) t0 (.tup [.ref c0, .int 0])) pw (.lst [.ref t0])) := (i1.trans i2).trans i3
      have hpw3 : H3 pw = none := fresh_back (i1.trans i2) hpw
      have eX := e2.trans (e3.trans eA)
      have hpw' : H' pw = none := fresh_back (e2.trans e3) hpw3
      have nfw : pf ≠ pw := ne_of_none g3 hpw'
      have hc0' : H c0 = none := by
        cases hH : H c0 with
        | none => rfl
        | some o =>
          have := (e2.trans e3) _ _ (kp _ _ hH)
          rw [hc0] at this
          cases this
      have pile0 : PileAt H (upd (upd (upd H3 c0 (.lst [])) t0 (.tup [.ref c0, .int 0])) pw (.lst [.ref t0])) pf pw l [([], 0)] := by
        refine ⟨⟨us, eX _ _ g3, g4.mono fun v q z => ?_⟩, [t0], upd_same, .one ⟨c0, i3 _ _ upd_same, (i2.trans i3) _ _ upd_same, hc0', fun z => ?_, ne_of_none (i2 _ _ upd_same) hpw⟩⟩
        · obtain ⟨a, b, q1, q2, q3, q4, q5, q6, q7⟩ := z
          exact ⟨a, b, q1, q4, eX _ _ q6, eX _ _ q7, q5, q3, ne_of_none q7 hpw'⟩
        · rw [z] at hc0
          rw [(e2.trans e3) _ _ g3] at hc0
          cases hc0
      have h3' := eA _ _ h3
      generalize upd (upd (upd H3 c0 (.lst [])) t0 (.tup [.ref c0, .int 0])) pw (.lst [.ref t0]) = H4 at eA eX pile0 h3' ⊢
      clear i1 i2 i3 hc0 ht0 hpw
      dsimp only
      show tFor _ _ _ _ [some (.ref pl), some (T t), some (.ref pf), some (.int (p : Int)), some (T (tn t p)), some (.ref pt), some (.ref pw), v7, v8, v9, v10, v11] H4
      have npt : pt ≠ pf ∧ pt ≠ pw := by
        refine ⟨fun z => ?_, fun z => ?_⟩
        · rw [z, e2 _ _ g3] at hpt3
          cases hpt3
        · rw [z, hpw3] at h3
          cases h3
      have hfit0 : ∀ {σ : L2.St} {Hb : Hp}, σ[5]? = some (some (.ref pt)) → Exc (Two pf pw) H4 Hb → Ev (tOp (L2.rIxL K) (tVar 5) (tC (.int 0))) σ Hb (.bl (fitB lot (tn t p) (okR t.length p) 0)) := fun h0 ex => ev_op (ev_var h0) ev_c (rv_ixL (sq_of (ex _ _ (fun z => z.elim npt.1 npt.2) h3')) (atI_nat (j := 0) (fits_at (Nat.zero_le _))))
      -- the ends of the loop
      have fin : ∀ {H5 : Hp} {fs : List (List Nat)} {stk : List Ent} {v7 v8 v9 v10 v11 : Option V}, Exc (fun c => c = pf) H' H5 → PileAt H H5 pf pw (l ++ fs.map fun c => (p, c)) stk → fs.Perm (Rd lot t p) → ∃ (us : List V) (l : List PC) (v3' v4' v5' v6' v7' v8' v9' v10' v11' : Option V), [some (.ref pl), some (T t), some (.ref pf), some (.int (p : Int)), some (T (tn t p)), some (.ref pt), some (.ref pw), v7, v8, v9, v10, v11] = [some (.ref pl), some (T t), some (.ref pf), v3', v4', v5', v6', v7', v8', v9', v10', v11'] ∧ Exc (fun c => c = pf) Hs H5 ∧ Exc (fun c => c = pf) H1 H5 ∧ H5 pf = some (.lst us) ∧ All2 (PairN pf H H5) us l ∧ l.Perm (preR lot t (p + 1)) := fun {H5 fs stk _ _ _ _ _} ex pa hf => by
        obtain ⟨us5, f1, f2⟩ := pa.f
        refine ⟨us5, _, _, _, _, _, _, _, _, _, _, rfl, g1.trans ex, g2.trans ex, f1, f2.mono fun v q z => ?_, ?_⟩
        · obtain ⟨a, b, q1, q2, q3, q4, q5, q6, q7⟩ := z
          exact ⟨a, b, q1, (fun z => by rw [z, f1] at q3; cases q3), q6, q2, q5, q3, q4⟩
        · rw [preR_succ]
          exact g5.append (hf.map _)
      refine s_forW (Two pf pw) (src_range1 (n := 400000) (ea_cons ev_c ea_nil) (by omega)) ?_
        (fun Ht i σ' H5 => ∃ (stk : List Ent) (fs : List (List Nat)) (v7 v8 v9 v10 v11 : Option V), σ' = [some (.ref pl), some (T t), some (.ref pf), some (.int (p : Int)), some (T (tn t p)), some (.ref pt), some (.ref pw), v7, v8, v9, v10, v11] ∧ Exc (Two pf pw) Ht H5 ∧ Exc (Two pf pw) H4 H5 ∧ Exc (fun c => c = pf) H' H5 ∧ PileAt H H5 pf pw (l ++ fs.map fun c => (p, c)) stk ∧ (fs ++ remG lot (tn t p) (okR t.length p) stk).Perm (Rd lot t p) ∧ i + muG lot (tn t p) (okR t.length p) stk ≤ gN lot (tn t p) (okR t.length p) 0 * (t.length + 1) ∧ ∀ e ∈ stk, e.2 ≤ t.length ∧ e.1.length ≤ e.2 ∧ (fitB lot (tn t p) (okR t.length p) 0 = true → fitB lot (tn t p) (okR t.length p) e.2 = true)) ?_ ?_ ?_ ?_ ?_
      · rintro c (rfl | rfl)
        · obtain ⟨ps, f1, _⟩ := pile0.f
          exact ⟨by rw [f1]; exact fun z => (nomatch z), fun z => z⟩
        · obtain ⟨ts, w1, _⟩ := pile0.w
          exact ⟨by rw [w1]; exact fun z => (nomatch z), fun z => z⟩
      · intro Ht e5
        refine ⟨[([], 0)], [], _, _, _, _, _, rfl, Exc.refl _, Exc.of e5, .of (eX.trans e5), by rw [List.map_nil, List.append_nil]; exact pile0.ex e5, ?_, ?_, fun x hx => ?_⟩
        · rw [remG_one, List.nil_append]
          show ((cG lot (tn t p) (okR t.length p) 0).map fun t => [] ++ t).Perm _
          simp
          exact .refl _
        · rw [mu_one, Nat.zero_add, htl]
          exact Nat.le_refl _
        · rw [List.mem_singleton.mp hx]
          exact ⟨Nat.zero_le _, Nat.le_refl _, fun z => z⟩
      · rintro Ht i σ' H5 ⟨_, _, _, _, _, _, _, _, h, _⟩
        exact h
      · rintro Ht i σ' Ha Hb ⟨stk, fs, v7, v8, v9, v10, v11, z0, z1, z2, z3, z4, z5⟩ e5
        exact ⟨stk, fs, v7, v8, v9, v10, v11, z0, z1.then e5, z2.then e5, z3.then e5, z4.ex e5, z5⟩
      · rintro Ht i y σ' H5 e5 hi ⟨stk, fs, v7, v8, v9, v10, v11, rfl, z1, z2, z3, z4, z5, z6, z7⟩ rfl
        show tSeq _ _ _ [some (.ref pl), some (T t), some (.ref pf), some (.int (p : Int)), some (T (tn t p)), some (.ref pt), some (.ref pw), some (.int (i : Int)), v8, v9, v10, v11] H5
        obtain ⟨ts, w1, w2⟩ := id z4.w
        obtain ⟨us5, f1, f2⟩ := id z4.f
        have hfsl : fs.length ≤ 300 := by
          have := z5.length_eq
          rw [List.length_append] at this
          omega
        have hempty : Ev (tOp (rEqD K) (tVar 6) (tLst tNil)) [some (.ref pl), some (T t), some (.ref pf), some (.int (p : Int)), some (T (tn t p)), some (.ref pt), some (.ref pw), some (.int (i : Int)), v8, v9, v10, v11] H5 (.bl (decide (stk = []))) := fun H6 e6 Q6 q6 => ⟨.ref pw, rfl, by decide, fun pe hpe => by
          have hpx := (z4.ex (e6.trans (Ex.new (o := HO.lst []) hpe))).w
          obtain ⟨ts2, x1, x2⟩ := hpx
          refine rv_eqD (b := decide (stk = [])) (d := .list (stk.map entD)) (e := .list []) (fun H4 e4 => .lst (sq_of (e4 _ _ x1)) (DpAll.ex e4 (dp_pile x2))) (fun H4 e4 => .lst (sq_of (e4 _ _ upd_same)) .nil) (shaped_list (m := 3) (fun x _ => lay_ent x) (fun x _ => depth_ent x) (by decide)) (by decide) ?_ _ (Ex.refl _) _ fun H4 e4 => q6 H4 ((Ex.new hpe).trans e4)
          cases stk <;> rfl⟩
        refine q_when (b := decide (stk = []) || !fitB lot (tn t p) (okR t.length p) 0) (et_or (et_test hempty) fun _ => et_not (et_B (hfit0 rfl z2))) (fun hb H6 e6 => ?_) (fun hb H6 e6 => ?_)
        · -- the end
          refine fin (fs := fs) (stk := stk) (z3.then e6) (z4.ex e6) ?_
          rw [Bool.or_eq_true, decide_eq_true_eq] at hb
          rcases hb with z | z
          · subst z
            have : remG lot (tn t p) (okR t.length p) [] = [] := rfl
            rw [this, List.append_nil] at z5
            exact z5
          · have h0 : Rd lot t p = [] := nofit (by simpa using z)
            rw [h0] at z5 ⊢
            rw [(List.append_eq_nil_iff.mp z5.eq_nil).1]
        · rw [Bool.or_eq_false_iff, decide_eq_false_iff_not] at hb
          obtain ⟨hb1, hb2⟩ := hb
          have hft0 : fitB lot (tn t p) (okR t.length p) 0 = true := by simpa using hb2
          obtain ⟨stk', en, rfl⟩ : ∃ stk' en, stk = stk' ++ [en] := ⟨stk.dropLast, stk.getLast hb1, (List.dropLast_concat_getLast hb1).symm⟩
          obtain ⟨c, s⟩ := en
          obtain ⟨hsn, hcs, hfs⟩ := z7 (c, s) (List.mem_append_right _ (List.mem_singleton.mpr rfl))
          have hfs : fitB lot (tn t p) (okR t.length p) s = true := hfs hft0
          have hsn : s ≤ t.length := hsn
          have hcs : c.length ≤ s := hcs
          have z7' : ∀ e ∈ stk', e.2 ≤ t.length ∧ e.1.length ≤ e.2 ∧ (fitB lot (tn t p) (okR t.length p) 0 = true → fitB lot (tn t p) (okR t.length p) e.2 = true) := fun e he => z7 e (List.mem_append_left _ he)
          rw [remG_app, remG_one] at z5
          rw [mu_app, mu_one, htl] at z6
          have z6 : i + (muG lot (tn t p) (okR t.length p) stk' + gN lot (tn t p) (okR t.length p) s * (t.length - s + 1)) ≤ gN lot (tn t p) (okR t.length p) 0 * (t.length + 1) := z6
          have hgs : 0 < gN lot (tn t p) (okR t.length p) s := of_decide_eq_true hfs
          have hge : gN lot (tn t p) (okR t.length p) s ≤ gN lot (tn t p) (okR t.length p) s * (t.length - s + 1) := Nat.le_mul_of_pos_right _ (Nat.succ_pos _)
          obtain ⟨xs, tt, ca, y1, y2, y4, y5⟩ := (z4.ex e6).less nfw
          refine q_popP (i := 6) (a := 8) (b := 9) rfl y1 y2 ?_
          have eB : Exc (fun c => c = pf) H' (upd H6 pw (.lst xs)) := (z3.then e6).upd (.inr hpw')
          have xB : Exc (Two pf pw) Ht (upd H6 pw (.lst xs)) := (z1.then e6).upd (.inl (.inr rfl))
          have xC : Exc (Two pf pw) H4 (upd H6 pw (.lst xs)) := (z2.then e6).upd (.inl (.inr rfl))
          generalize upd H6 pw (.lst xs) = H7 at y4 y5 eB xB xC ⊢
          have y5 : FR H H7 pf pw ca c := y5
          clear y1 y2 z4 w1 w2 f1 f2 hempty z7
          show tIfS _ _ _ _ [some (.ref pl), some (T t), some (.ref pf), some (.int (p : Int)), some (T (tn t p)), some (.ref pt), some (.ref pw), some (.int (i : Int)), some (.ref ca), some (.int (s : Int)), v10, v11] H7
          have lenT : ∀ {σ : L2.St} {H' : Hp}, σ[4]? = some (some (T (tn t p))) → Ev (tCB rLenT (tCons (tVar 4) tNil)) σ H' (.int (t.length : Int)) := fun h0 => ev_is (ev_cb (ea_cons (ev_var h0) ea_nil) (rc_lenT (by omega))) (by rw [htl])
          refine s_if (b := decide (s = t.length)) (et_is (et_test (ev_op (ev_var rfl) (lenT rfl) rv_I0)) (decide_eq_decide.mpr (by omega))) (fun hb H8 e8 => ?_) (fun hb H8 e8 => ?_)
          · -- a cut
            have hpe := of_decide_eq_true hb
            obtain ⟨us8, f1, f2⟩ := (y4.ex e8).f
            refine s_appT (i := 2) rfl f1 (l_tup (a_ev (ev_var rfl) fun Ha ea => a_ev (ev_var rfl) fun Hb eb => a_nil ⟨by show 2 ≤ sizeLine; decide, fun p9 hp9 => ⟨pf, us8, .ref p9, rfl, rfl, (Ex.new hp9) _ _ ((ea.trans eb) _ _ f1), sz_lt ?_, ?_⟩⟩))
            · rw [f2.len, List.length_append, List.length_map]
              omega
            · have eC := (ea.trans eb).trans (Ex.new (o := HO.tup [.int (p : Int), .ref ca]) hp9)
              have y6 := y4.ex (e8.trans eC)
              have hp9' : H p9 = none := by
                cases hH : H p9 with
                | none => rfl
                | some o =>
                  have h9 := (e8.trans (ea.trans eb)) _ _ (eB _ _ (npf _ _ hH) (kp _ _ hH))
                  rw [hp9] at h9
                  cases h9
              have y7 := y6.found (v := .ref p9) (q := (p, c)) nfw ⟨p9, ca, rfl, hp9', upd_same, (y5.go (.of (e8.trans eC)))⟩ (eC _ _ f1)
              refine ⟨stk', fs ++ [c], _, _, _, _, _, rfl, (xB.then (e8.trans eC)).upd (.inl (.inl rfl)), (xC.then (e8.trans eC)).upd (.inl (.inl rfl)), (eB.then (e8.trans eC)).upd (.inl rfl), ?_, ?_, by omega, z7'⟩
              · rw [List.map_append, ← List.append_assoc]
                exact y7
              · have hz : cG lot (tn t p) (okR t.length p) s = [[]] := by
                  have := cG_end (lot := lot) (u := tn t p) (ok := okR t.length p)
                  rw [htl] at this
                  rw [hpe]
                  exact this
                rw [hz] at z5
                refine List.Perm.trans ?_ z5
                rw [List.append_assoc]
                refine List.Perm.append_left _ ?_
                show ([c] ++ _).Perm (_ ++ [c ++ []])
                rw [List.append_nil]
                exact List.perm_append_comm
          · -- further words
            have hsl : s < t.length := by
              have := of_decide_eq_false hb
              omega
            have y6 := y4.ex e8
            have eC := eB.then e8
            have xD := xB.then e8
            have xE := xC.then e8
            have zz5 := y5.go (.of e8)
            have hpl8 : H8 pl = some (.tup (lot.map T)) := eC _ _ (npf _ _ hp) (kp _ _ hp)
            have npw : pl ≠ pw := ne_of_none (kp _ _ hp) hpw'
            clear hb
            refine s_forW (fun x => x = pw) (src_enumT (K := K) (xs := lot.map T) (ev_var rfl) (st_of hpl8)) ?_
              (fun Hu j σ' H9 => ∃ (v10 v11 : Option V), σ' = [some (.ref pl), some (T t), some (.ref pf), some (.int (p : Int)), some (T (tn t p)), some (.ref pt), some (.ref pw), some (.int (i : Int)), some (.ref ca), some (.int (s : Int)), v10, v11] ∧ Exc (fun x => x = pw) Hu H9 ∧ Exc (fun c => c = pf) H' H9 ∧ Exc (Two pf pw) Ht H9 ∧ Exc (Two pf pw) H4 H9 ∧ FR H H9 pf pw ca c ∧ PileAt H H9 pf pw (l ++ fs.map fun c => (p, c)) (stk' ++ pushG lot (tn t p) (okR t.length p) c s j)) ?_ ?_ ?_ ?_ ?_
            · rintro x rfl
              obtain ⟨ts, w1, _⟩ := y6.w
              exact ⟨by rw [w1]; exact fun z => (nomatch z), fun z => npw z.symm⟩
            · intro Hu e9
              exact ⟨_, _, rfl, Exc.refl _, eC.then e9, xD.then e9, xE.then e9, zz5.go (.of e9), by
                have : pushG lot (tn t p) (okR t.length p) c s 0 = [] := rfl
                rw [this, List.append_nil]
                exact y6.ex e9⟩
            · rintro Hu j σ' H9 ⟨_, _, _, z, _⟩
              exact z
            · rintro Hu j σ' Ha Hb ⟨v10, v11, z0, z1, z2, z3, z4, z5, z6⟩ e9
              exact ⟨v10, v11, z0, z1.then e9, z2.then e9, z3.then e9, z4.then e9, z5.go (.of e9), z6.ex e9⟩
            · rintro Hu j y σ' H9 e9 hj ⟨v10, v11, rfl, q1, q2, q3, q4, q5, q6⟩ ⟨qa, yb, rfl, hyb, hqa⟩
              rw [List.length_map] at hj
              obtain ⟨wrd, hwr, rfl⟩ := at_map hyb
              obtain rfl : wrd = wd lot j := Option.some.inj (hwr.symm.trans (wd_at hj))
              have h12 := wd_12 hL hj
              have hps := pushG_succ lot (tn t p) (okR t.length p) c s j
              refine g_pair hqa ?_
              show tIfS _ _ _ _ [some (.ref pl), some (T t), some (.ref pf), some (.int (p : Int)), some (T (tn t p)), some (.ref pt), some (.ref pw), some (.int (i : Int)), some (.ref ca), some (.int (s : Int)), some (.int (j : Int)), some (T (wd lot j))] H9
              have hlw : ∀ {σ : L2.St} {Hc : Hp}, σ[11]? = some (some (T (wd lot j))) → Ev (tCB rLenT (tCons (tVar 11) tNil)) σ Hc (.int ((wd lot j).length : Int)) := fun h0 => ev_cb (ea_cons (ev_var h0) ea_nil) (rc_lenT (by omega))
              have hsw : ∀ {σ : L2.St} {Hc : Hp}, σ[9]? = some (some (.int (s : Int))) → σ[11]? = some (some (T (wd lot j))) → Ev (tOp (rI0 fun i j => .int (i + j)) (tVar 9) (tCB rLenT (tCons (tVar 11) tNil))) σ Hc (.int ((s + (wd lot j).length : Nat) : Int)) := fun h0 h1 => ev_is (ev_op (ev_var h0) (hlw h1) rv_I0) (by congr 1)
              have hpt9 : H9 pt = some (.lst (fitsL lot (tn t p) (okR t.length p))) := q4 _ _ (fun z => z.elim npt.1 npt.2) h3'
              refine s_when (b := goodG lot (tn t p) (okR t.length p) s j) ?_ (fun hg Hb eb => ?_) (fun hg Hb eb => ?_)
              · unfold goodG
                by_cases hle : s + (wd lot j).length ≤ t.length
                · refine et_is (et_andI (a := true) (et_is (et_test (ev_op (hsw rfl rfl) (lenT rfl) rv_I0)) (decide_eq_true (by omega))) fun _ => et_andI (a := decide (((tn t p).drop s).take (wd lot j).length = wd lot j)) (et_is (et_test (ev_op (ev_slT (ev_var rfl) (eo_some (ev_var rfl)) (eo_some (hsw rfl rfl)) (by omega)) (ev_var rfl) rv_eqT)) (by rw [cutT_mid, Nat.add_sub_cancel_left])) fun _ => et_B (ev_op (ev_var rfl) (hsw rfl rfl) (rv_ixL (sq_of hpt9) (atI_nat (fits_at (by omega)))))) ?_
                  rw [Bool.true_and]
                  congr 1
                  unfold stB
                  exact decide_eq_decide.mpr ⟨fun z => ⟨by omega, z⟩, fun z => z.2⟩
                · refine et_is (et_andI (a := false) (b := true) (et_is (et_test (ev_op (hsw rfl rfl) (lenT rfl) rv_I0)) (decide_eq_false (by omega))) fun z => by cases z) ?_
                  unfold stB
                  rw [decide_eq_false (fun z => hle (by have := z.1; omega))]
                  rfl
              · -- pushed
                rw [if_pos hg] at hps
                obtain ⟨ts, w1, w2⟩ := (q6.ex eb).w
                have zc := q5.go (.of eb)
                have hpj := pushG_len lot (tn t p) (okR t.length p) c s j
                refine s_appT (i := 6) rfl w1 ?_
                refine (el_catVN (ev_var rfl) (zc.1) (el_lst (ea_cons (ev_var rfl) ea_nil) (by show 1 ≤ 100000; decide)) (by unfold numV; rw [List.length_map]; show _ + 1 ≤ _; omega) : EvL (tOp rCat (tVar 8) (tLst (tCons (tVar 10) tNil))) [some (.ref pl), some (T t), some (.ref pf), some (.int (p : Int)), some (T (tn t p)), some (.ref pt), some (.ref pw), some (.int (i : Int)), some (.ref ca), some (.int (s : Int)), some (.int (j : Int)), some (T (wd lot j))] Hb (numV c ++ [.int (j : Int)])) Hb (Ex.refl _) _ fun cn Hd hcn ed hd => hsw rfl rfl Hd (Ex.refl _) _ fun Hd2 ed2 => ⟨by show 2 ≤ sizeLine; decide, fun tn' htn => ?_⟩
                have eN := Ex.new (o := HO.tup [.ref cn, .int ((s + (wd lot j).length : Nat) : Int)]) htn
                have eN2 := (ed.trans ed2).trans eN
                have eAll := eb.trans eN2
                have hstk : (stk' ++ pushG lot (tn t p) (okR t.length p) c s j).length ≤ 200000 := by
                  rw [List.length_append]
                  have h1 := mu_len (lot := lot) (u := tn t p) (ok := okR t.length p) (stk := stk') fun e he => (z7' e he).2.2 hft0
                  have h2 := Nat.mul_le_mul (show gN lot (tn t p) (okR t.length p) 0 ≤ 300 from hn0) (show t.length + 1 ≤ 401 by omega)
                  omega
                refine ⟨pw, ts.map V.ref, .ref tn', rfl, rfl, eN2 _ _ w1, Nat.lt_of_le_of_lt (show (ts.map V.ref).length ≤ 200000 by rw [List.length_map, w2.len]; exact hstk) (by decide), ?_⟩
                have hcn0 : H cn = none := by
                  cases hH : H cn with
                  | none => rfl
                  | some o =>
                    have h9 := eb _ _ (q2 _ _ (npf _ _ hH) (kp _ _ hH))
                    rw [hcn] at h9
                    cases h9
                obtain ⟨psx, gg1, _⟩ := (q6.ex eb).f
                have nf : cn ≠ pf := (ne_of_none gg1 hcn).symm
                have nw : cn ≠ pw := (ne_of_none w1 hcn).symm
                have hpile := (q6.ex eAll).more (t := tn') (e := (c ++ [j], s + (wd lot j).length)) nfw ⟨cn, upd_same, by rw [numV_app]; exact (ed2.trans eN) _ _ hd, hcn0, nf, nw⟩ (eN2 _ _ w1)
                refine ⟨_, _, rfl, (q1.then eAll).upd (.inl rfl), (q2.then eAll).upd (.inr hpw'), (q3.then eAll).upd (.inl (.inr rfl)), (q4.then eAll).upd (.inl (.inr rfl)), ?_, ?_⟩
                · exact (q5.go (.of eAll)).go ((Exc.refl _).upd (.inl (.inr rfl)))
                · rw [hps, ← List.append_assoc]
                  exact hpile
              · rw [if_neg (by rw [hg]; exact Bool.false_ne_true), List.append_nil] at hps
                rw [hps]
                exact ⟨_, _, rfl, q1.then eb, q2.then eb, q3.then eb, q4.then eb, q5.go (.of eb), q6.ex eb⟩
            · rintro Hu σ' H9 e9 ⟨v10, v11, rfl, q1, q2, q3, q4, q5, q6⟩
              rw [List.length_map] at q6
              have hrem := pushG_all hWd (c := c) (by omega) hfs
              have hmu := mu_push hWd (c := c) (by omega) hfs
              rw [htl] at hmu
              refine ⟨stk' ++ pushG lot (tn t p) (okR t.length p) c s lot.length, fs, _, _, _, _, _, rfl, q3, q4, q2, q6, ?_, ?_, fun e he => ?_⟩
              · rw [remG_app, hrem]
                exact z5
              · rw [mu_app]
                omega
              · rcases List.mem_append.mp he with z | z
                · exact z7' e z
                · have := pushG_mem (Nat.le_refl _) hWd z
                  exact ⟨by omega, by omega, fun _ => this.2.1⟩
      · rintro Ht σ' H5 e5 ⟨stk, fs, v7, v8, v9, v10, v11, rfl, z1, z2, z3, z4, z5, z6, z7⟩
        exfalso
        have h0 : gN lot (tn t p) (okR t.length p) 0 ≤ 300 := hn0
        have := Nat.mul_le_mul h0 (show t.length + 1 ≤ 401 by omega)
        omega
    · rintro Hs σ' H' e ⟨us, l, v3, v4, v5, v6, v7, v8, v9, v10, v11, rfl, g1, g2, g3, g4, g5⟩
      rw [preR_all] at g5
      refine s_retA (sorted_pairs (ev_var rfl) g3 g4 fun r H2 hr e2 h2 ha => ret r _ H2 ?_ (fun b o hb => e2 _ _ (g2 _ _ (npf b o hb) (e1 _ _ hb))) h2 ?_)
      · cases hH : H r with
        | none => rfl
        | some o =>
          have := g2 _ _ (npf _ _ hH) (e1 _ _ hH)
          rw [hr] at this
          cases this
      · rw [srt_same g5] at ha
        refine ha.mono fun a b z => ?_
        obtain ⟨a1, b1, h1', h2', h3', h4', h5', h6', h7'⟩ := z
        exact ⟨a1, b1, h1', (fun zz => by rw [zz, hr] at h6'; cases h6'), (fun zz => by rw [zz, hr] at h7'; cases h7'), h4', h5', e2 _ _ h6', e2 _ _ h7'⟩
end
end K16
set_option Elab.async false
set_option linter.all false
set_option maxRecDepth 100000
set_option maxHeartbeats 4000000
namespace K16
open PySem PySem.Spec PyProof.Rows L2 Evl Wc Wt Wg We Ws
theorem rc_err {K : PySem.W.Frag} {D a B : Addr} {b : Bool} {H : Hp} (h : PySem.W.kitOne K (.ref D) (.ref B) = some b) : RC (rIsE2 K D a (.ref D) none) [.ref a, .ref B] H (.bl b) := fun H1 _ _ q => is_err h (q H1 (Ex.refl _))
/-- the error and its base -/
structure ErrO (K : PySem.W.Frag) (mg : Str → Option Value) (CE CB : Addr) : Prop where
  xE : Err K mg "TooMany" CE
  iE : ErrI K CE
  gE : ∃ u, mg "TooMany" = some u ∧ RelV (.ref CE) u
  gB : ∃ u, mg "CutError" = some u ∧ RelV (.ref CB) u
  eb : PySem.W.kitOne K (.ref CE) (.ref CB) = some true
abbrev tMany : Tx := [109, 97, 110, 121]
abbrev tTold : Tx := [116, 111, 108, 100]
section
variable {P : Program} {w : World} {K : PySem.W.Frag} {mg : Str → Option Value} {base : Heap}
def sp_law_is : Sp := fun vs H Q _ => ∃ (a b : Int), vs = [.int a, .int b] ∧ RetV (.bl (decide (a = b))) H Q
theorem ok__law_is {f : Addr} {fd : FuncData} (F : Fun K "_law_is" "_law_is" st__law_is f fd) (M : Md K mg) : FnOk P w K mg base CX0 1 f fd ["actual", "due"] sp_law_is := by
  have nd := sc__law_is.nd
  refine F.ok sc__law_is (fun vs H Q E h => ?_) (fun cdv A outer s H vs Q E hr h => ?_)
  · obtain ⟨_, _, rfl, _⟩ := h
    rfl
  · obtain ⟨a, b, rfl, k⟩ := h
    refine ⟨_, (pss_one (ps_ret (pe_and (pe_callB (kcr K (r := rIsiB) cr_isi) (by rfl) M.n_isinstance boot_isinstance (pa_cons (pv 0) (pa_cons (pe_bltn (v := .ty "int") rfl M.n_int boot_int rfl) pa_nil))) (pe_and (pe_not (pe_callB (kcr K (r := rIsiB) cr_isi) (by rfl) M.n_isinstance boot_isinstance (pa_cons (pv 0) (pa_cons (pe_bltn (v := .ty "bool") rfl M.n_bool boot_bool rfl) pa_nil)))) (pe_one (pe_cmpR op_eqI (pv 0) (pv 1) (nomark _))))))), ?_⟩
    exact s_ret (ev_andV (ev_cb (ea_cons (ev_var rfl) (ea_cons ev_c ea_nil)) (rc_isi (fun _ _ => .base (.int _)) k_int_int)) fun _ => ev_andV (ev_notV (ev_cb (ea_cons (ev_var rfl) (ea_cons ev_c ea_nil)) (rc_isi (fun _ _ => .base (.int _)) k_int_bool))) fun _ => ev_op (ev_var rfl) (ev_var rfl) rv_I0) k
theorem ok__law_list {f : Addr} {fd : FuncData} (F : Fun K "_law_list" "_law_list" st__law_list f fd) (M : Md K mg) : FnOk P w K mg base CX0 1 f fd ["actual", "due"] (sp_list_same K) := by
  have nd := sc__law_list.nd
  refine F.ok sc__law_list (fun vs H Q E h => ?_) (fun cdv A outer s H vs Q E hr h => ?_)
  · obtain ⟨_, _, _, rfl, _⟩ := h
    rfl
  · obtain ⟨p, q, xs, rfl, hp, hq, hx, hl, k⟩ := h
    refine ⟨_, (pss_cons (ps_if (PW.pt (pw_or (pt_not (pt_val (pe_callB (kcr K (r := rIsiB) cr_isi) (by rfl) M.n_isinstance boot_isinstance (pa_cons (pv 0) (pa_cons (pe_bltn (v := .ty "list") rfl M.n_list boot_list rfl) pa_nil))))) (pw_or1 (pt_cmpR (kop K (r := rNeD) (op_neD hr.units)) (pv 0) (pv 1) (nomark _)))))
  (pss_one (ps_ret pe_bl))
  pss_nil)
  (pss_one (ps_ret (pe_cmpR (kop K (r := rEqD) (op_eqD hr.units)) (pe_lc (own := [("part", 2)]) rfl nd (kil K (pi_list (pv 0))) (blkOk_by (N := N__law_list) (sc := defScope st__law_list) (by decide +kernel)) (fun _ _ _ _ _ => (pg_name (i := 2) nd rfl (Or.inl rfl))) (fun _ _ _ _ _ => (pts_one (pt_val (pe_callB (kcr K (r := rIsiB) cr_isi) (by rfl) M.n_isinstance boot_isinstance (pa_cons (pv 2) (pa_cons (pe_bltn (v := .ty "bool") rfl M.n_bool boot_bool rfl) pa_nil)))))) (fun _ _ _ _ _ => (pv 2))) (pe_lst pa_nil) (nomark _))))), ?_⟩
    obtain ⟨ds, hd, hlay, hdep⟩ := flat_data (K := K) (H := H) hx
    have hsh : SeqAt.shaped (.list ds) = true := shaped_of hlay (by show PyData.depthAll ds + 1 ≤ 64; omega)
    have hrefl : PyData.eqv (.list ds) (.list ds) = true := SeqAt.eqv_refl _ hlay
    refine q_when (b := false) (et_is (et_or (et_not (et_B (ev_cb (ea_cons (ev_var rfl) (ea_cons ev_c ea_nil)) (rc_isi (b := true) (fun H1 e => .base (.lst (e _ _ hp))) k_list_list)))) fun _ => et_test (ev_op (ev_var rfl) (ev_var rfl) (rv_neD (d := .list ds) (e := .list ds) (b := true) (fun H1 e => .lst (ex_l e (sq_of hp)) (DpAll.ex e hd)) (fun H1 e => .lst (ex_l e hq) (DpAll.ex e hd)) hsh hsh hrefl))) rfl) (fun z => by cases z) (fun _ H1 e1 => ?_)
    have hpart : ∀ v ∈ xs, ∃ t, kitB t "bool" = some false ∧ ∀ H2 : Hp, TyX K H2 v (.type t) := fun v hv => by
      obtain ⟨d, hd⟩ := hx v hv
      cases hd with
      | int i => exact ⟨"int", k_int_bool, fun H2 => .base (.int i)⟩
      | str _ => exact ⟨"str", k_str_bool, fun H2 => .base (.str _)⟩
    refine s_ret (ev_opLL (xs := []) (ys := []) ?_ (el_lst ea_nil (by decide)) (fun p1 q1 H2 h1 h2 e2 => rv_eqD (d := .list []) (e := .list []) (b := true) (fun H3 e3 => .lst (ex_l e3 (sq_of h1)) .nil) (fun H3 e3 => .lst (ex_l e3 (sq_of h2)) .nil) (by decide) (by decide) (by decide))) (RetV.mono k e1)
    have h0 := el_lcX (j := 2) (te := tVar 2) (t := tB (tCB (rIsiB K) (tCons (tVar 2) (tCons (tC (.ty "bool")) tNil)))) (σ := start N__law_list [.ref p, .ref q]) (H := H1) (vs := [2]) (p := fun _ => false) (g := fun v => v) xs (fun a x _ => x = a) (src_list (ev_var rfl : Ev (tVar 0) (start N__law_list [.ref p, .ref q]) H1 (.ref p)) (sq_of (K := K) (e1 _ _ hp))) (by omega) (fun _ => rfl) rfl (fun i x _ hi => ⟨x, hi, rfl⟩) (fun v x H2 e2 hv hr => by
      subst hr
      obtain ⟨t, ht, hty⟩ := hpart x hv
      exact et_B (ev_cb (ea_cons (ev_var rfl) (ea_cons ev_c ea_nil)) (rc_isi (fun H3 _ => hty H3) ht))) (fun _ _ _ _ _ _ z => by cases z)
    rw [List.filter_eq_nil_iff.mpr (fun _ _ z => by cases z)] at h0
    exact h0
theorem flat_num (c : List Nat) : ∀ v ∈ numV c, ∃ d, FlatV v d := fun v hv => by
  obtain ⟨n, _, rfl⟩ := List.mem_map.mp hv
  exact ⟨_, .int _⟩
def sp_told : Sp := fun vs H Q _ => ∃ (pl : Addr) (lot : List Tx) (t : Tx), vs = [.ref pl, T t] ∧ LotAt pl lot H ∧ t.length ≤ 400 ∧ (∀ c ∈ t, abcd c) ∧ t ≠ [] ∧
  (300 < N lot t → ∀ p H', H p = none → Ex H H' → H' p = some (.tup [T tMany, .bl true]) → Q (.ref p) H') ∧
  (N lot t ≤ 300 → ∀ p r us H', H p = none → H r = none → Ex H H' → H' p = some (.tup [T tTold, .ref r]) → H' r = some (.lst us) → All2 (PairN r H H') us (srt (allR lot t)) → Q (.ref p) H')
theorem ok__law_told {f CE CB : Addr} {fd : FuncData} (F : Fun K "_law_told" "_law_told" st__law_told f fd) (M : Md K mg) (X : ErrO K mg CE CB) (S_round_cuts : CalS P w K mg base "round_cuts" st_round_cuts 6 ["lot", "text"] (sp_round_cuts CE)) : FnOk P w K mg base CX0 7 f fd ["lot", "text"] sp_told := by
  have nd := sc__law_told.nd
  refine F.ok sc__law_told (fun vs H Q E h => ?_) (fun cdv A outer s H vs Q E hr h => ?_)
  · obtain ⟨_, _, _, rfl, _⟩ := h
    rfl
  · obtain ⟨pl, lot, t, rfl, hL, h1, h2, h3, k1, k2⟩ := h
    refine ⟨_, pss_cons (ps_set (i := 2) nd rfl (Or.inl rfl) (pe_tup (pa_cons (pe_sT tMany) (pa_cons pe_bl pa_nil))))
      (pss_cons (ps_try_as (i := 3) (tb := fun W => tAsg (tTup (tCons (tC (T tTold)) (tCons (tCallS (sp_round_cuts CE) (WE W) (tCons (tVar 0) (tCons (tVar 1) tNil))) tNil))) (gName 2)) (ts := fun a cls d => tAsg (tTup (tCons (tC (T tMany)) (tCons (tCB (rIsE2 K CE a cls d) (tCons (tVar 3) (tCons (tC (.ref CB)) tNil))) tNil))) (gName 2)) (Wout := fun _ _ _ _ => False) rfl rfl nd rfl rfl ⟨rfl, by decide, Or.inl X.xE.gP⟩ takes0
          (fun W pn xe tk _ => pss_one (ps_set (i := 2) nd rfl (Or.inl rfl) (by exact (pe_tup (pa_cons (pe_sT tTold) (pa_cons (pe_clS S_round_cuts hr tk (by exact (pa_cons (pv 0) (pa_cons (pv 1) pa_nil)))) pa_nil))))))
          (fun a oe cls d pn hz hf => pss_one (ps_set (i := 2) nd rfl (Or.inl rfl) (by exact (pe_tup (pa_cons (pe_sT tMany) (pa_cons (pe_callB (call_isE2 X.iE.cl hz hf) (by rfl) M.n_isinstance boot_isinstance (pa_cons (pv 3) (pa_cons (C8.pe_gc rfl X.gB) pa_nil))) pa_nil)))))))
      (pss_one (ps_ret (pv 2)))), ?_⟩
    refine q_asgU (xs := [T tMany, .bl false]) (eu_tup (ea_cons ev_c (ea_cons ev_c ea_nil)) (by show 2 ≤ 100000; decide)) fun t0 H1 ht0 e1 _ => ?_
    show tSeq _ _ _ [some (.ref pl), some (T t), some (.ref t0), none] H1
    refine ⟨.ref pl, rfl, T t, rfl, pl, lot, t, rfl, hL.ex e1, h1, h2, h3, fun hle r us H2 hr e2 h2' hall => ?_, fun hgt H' e' => ?_⟩
    · exact ⟨by show 2 ≤ sizeLine; decide, fun p hp => ⟨.ref p, rfl, k2 hle p r us _ (fresh_back (e1.trans e2) hp) (fresh_back e1 hr) ((e1.trans e2).trans (Ex.new hp)) upd_same ((Ex.new hp) _ _ h2') (hall.mono fun a b z => (z.back e1).ex (Ex.new hp))⟩⟩
    · refine ⟨true, X.iE.te, fun _ a ha => ?_, fun z => Bool.noConfusion z⟩
      refine s_asgU (xs := [T tMany, .bl true]) (eu_tup (ea_cons ev_c (ea_cons (ev_cb (ea_cons (ev_var rfl) (ea_cons ev_c ea_nil)) (rc_err X.eb)) ea_nil)) (by show 2 ≤ 100000; decide)) fun p H3 hp e3 h3 => ⟨.ref p, rfl, k1 hgt p H3 (fresh_back (e1.trans e') hp) ((e1.trans e').trans e3) h3⟩
/-- a pair (place, list) -/
def PR (H : Hp) (v : V) (q : PC) : Prop := ∃ a b, v = .ref a ∧ H a = some (.tup [.int (q.1 : Int), .ref b]) ∧ H b = some (.lst (numV q.2))
theorem PR.ex {H H1 : Hp} {v : V} {q : PC} (h : PR H v q) (e : Ex H H1) : PR H1 v q := by
  obtain ⟨a, b, h1, h2, h3⟩ := h
  exact ⟨a, b, h1, e _ _ h2, e _ _ h3⟩
theorem PairN.pr {d : Addr} {H0 H : Hp} {v : V} {q : PC} (h : PairN d H0 H v q) : PR H v q := by
  obtain ⟨a, b, h1, h2, h3, h4, h5, h6, h7⟩ := h
  exact ⟨a, b, h1, h6, h7⟩
def sp_same : Sp := fun vs H Q _ => ∃ (pa pd : Addr) (us ws : List V) (l : List PC), vs = [.ref pa, .ref pd] ∧ H pa = some (.lst us) ∧ H pd = some (.lst ws) ∧ All2 (PR H) us l ∧ All2 (PR H) ws l ∧ l.length ≤ 400 ∧ (∀ q ∈ l, q.2.length ≤ 400) ∧ RetV (.bl true) H Q
theorem ok__law_same {f : Addr} {fd : FuncData} (F : Fun K "_law_same" "_law_same" st__law_same f fd) (M : Md K mg) (C__law_is : Cal P w K mg base "_law_is" st__law_is 1 ["actual", "due"] sp_law_is) (C__law_list : Cal P w K mg base "_law_list" st__law_list 1 ["actual", "due"] (sp_list_same K)) : FnOk P w K mg base CX0 2 f fd ["actual", "due"] sp_same := by
  have nd := sc__law_same.nd
  refine F.ok sc__law_same (fun vs H Q E h => ?_) (fun cdv A outer s H vs Q E hr h => ?_)
  · obtain ⟨_, _, _, _, _, rfl, _⟩ := h
    rfl
  · obtain ⟨pa, pd, us, ws, l, rfl, ha, hd, hu, hw, hll, hlc, k⟩ := h
    refine ⟨_, (pss_cons (ps_if (PW.pt (pw_or (pt_not (pt_val (pe_callB (kcr K (r := rIsiB) cr_isi) (by rfl) M.n_isinstance boot_isinstance (pa_cons (pv 0) (pa_cons (pe_bltn (v := .ty "list") rfl M.n_list boot_list rfl) pa_nil))))) (pw_or1 (pt_cmpR op_neI (pe_callB (kcr K (r := rLenS) call_len_seq) (by rfl) M.n_len boot_len (pa_cons (pv 0) pa_nil)) (pe_callB (kcr K (r := rLenS) call_len_seq) (by rfl) M.n_len boot_len (pa_cons (pv 1) pa_nil)) (nomark _)))))
  (pss_one (ps_ret pe_bl))
  pss_nil)
  (pss_cons (ps_for PassesOwn.never rfl (kiz K (pi_zip (by rfl) M.n_zip (pa_cons (pv 0) (pa_cons (pv 1) pa_nil)))) (kgt K (n := 2) (pg_tup rfl (pgs_cons (pg_name (i := 2) nd rfl (Or.inl rfl)) (pgs_cons (pg_name (i := 3) nd rfl (Or.inl rfl)) pgs_nil))))
  (pss_one (ps_if (PW.pt (pw_or (pt_not (pt_val (pe_callB (kcr K (r := rIsiB) cr_isi) (by rfl) M.n_isinstance boot_isinstance (pa_cons (pv 2) (pa_cons (pe_bltn (v := .ty "tuple") rfl M.n_tuple boot_tuple rfl) pa_nil))))) (pw_or (pt_cmpR op_neI (pe_callB (kcr K (r := rLenS) call_len_seq) (by rfl) M.n_len boot_len (pa_cons (pv 2) pa_nil)) pe_int (nomark _)) (pw_or (pt_not (pt_val (pe_cl C__law_is hr (pa_cons (pe_ix (kix K (r := L2.rIxT) ix_tup) (pv 2) pe_int (fun _ _ => rfl)) (pa_cons (pe_ix (kix K (r := L2.rIxT) ix_tup) (pv 3) pe_int (fun _ _ => rfl)) pa_nil))))) (pw_or1 (pt_not (pt_val (pe_cl C__law_list hr (pa_cons (pe_ix (kix K (r := L2.rIxT) ix_tup) (pv 2) pe_int (fun _ _ => rfl)) (pa_cons (pe_ix (kix K (r := L2.rIxT) ix_tup) (pv 3) pe_int (fun _ _ => rfl)) pa_nil))))))))))
  (pss_one (ps_ret pe_bl))
  pss_nil)))
  (pss_one (ps_ret pe_bl)))), ?_⟩
    have hul := hu.len
    have hwl := hw.len
    refine q_when (b := false) (et_is (et_or (a := false) (b := false) (et_is (et_not (et_B (ev_cb (ea_cons (ev_var rfl) (ea_cons ev_c ea_nil)) (rc_isi (b := true) (fun H1 e => .base (.lst (e _ _ ha))) k_list_list)))) rfl) fun _ => et_is (et_test (ev_op (ev_len (ev_var rfl) (sq_of ha)) (ev_len (ev_var rfl) (sq_of hd)) rv_I0)) (by rw [hul, hwl]; simp)) rfl) (fun z => by cases z) (fun _ H1 e1 => ?_)
    refine q_forW (fun _ => False) (src_zip (K := K) (n := l.length) (ev_var rfl) (ev_var rfl) (sq_of (e1 _ _ ha)) (sq_of (e1 _ _ hd)) (by omega)) (fun _ z => z.elim)
      (fun Hs i σ' H' => ∃ v2 v3 : Option V, σ' = [some (.ref pa), some (.ref pd), v2, v3] ∧ Ex Hs H') ?_ ?_ ?_ ?_ ?_
    · intro Hs e
      exact ⟨_, _, rfl, Ex.refl _⟩
    · rintro Hs i σ' H' ⟨_, _, _, h⟩
      exact .of h
    · rintro Hs i σ' Ha Hb ⟨v2, v3, h0, h1⟩ e
      exact ⟨v2, v3, h0, h1.trans e⟩
    · rintro Hs i y σ' H' e hi ⟨v2, v3, rfl, hx⟩ ⟨pz, x, y, rfl, hx1, hy1, hz⟩
      obtain ⟨q, hq⟩ : ∃ q, l[i]? = some q := ⟨_, List.getElem?_eq_getElem hi⟩
      have eX := e1.trans (e.trans hx)
      obtain ⟨x', hx', hx2⟩ := hu.at_ hq
      obtain ⟨y', hy', hy2⟩ := hw.at_ hq
      obtain rfl : x' = x := Option.some.inj (hx'.symm.trans hx1)
      obtain rfl : y' = y := Option.some.inj (hy'.symm.trans hy1)
      obtain ⟨a, b, rfl, ga, gb⟩ := hx2.ex eX
      obtain ⟨a2, b2, rfl, ga2, gb2⟩ := hy2.ex eX
      refine g_pair hz ?_
      show tIfS _ _ _ _ [some (.ref pa), some (.ref pd), some (.ref a), some (.ref a2)] H'
      refine s_when (b := false) (et_is (et_or (a := false) (b := false) (et_is (et_not (et_B (ev_cb (ea_cons (ev_var rfl) (ea_cons ev_c ea_nil)) (rc_isi (b := true) (fun H1 e => .base (.tup (e _ _ ga))) k_tuple_tuple)))) rfl) fun _ => et_is (et_or (a := false) (b := false) (et_is (et_test (ev_op (ev_lenU (ev_var rfl) (st_of ga)) ev_c rv_I0)) rfl) fun _ => et_is (et_or (a := false) (b := false) (et_is (et_not (et_B (ev_call (z := .bl true) (ea_cons (ev_op (ev_var rfl) ev_c (Evl.rv_ixT (st_of ga) (atI_nat (j := 0) rfl))) (ea_cons (ev_op (ev_var rfl) ev_c (Evl.rv_ixT (st_of ga2) (atI_nat (j := 0) rfl))) ea_nil)) fun H2 e2 Q2 q2 E => ⟨_, _, rfl, by rw [decide_eq_true rfl]; exact q2⟩))) rfl) fun _ => et_is (et_not (et_B (ev_call (z := .bl true) (ea_cons (ev_op (ev_var rfl) ev_c (Evl.rv_ixT (st_of ga) (atI_nat (j := 1) rfl))) (ea_cons (ev_op (ev_var rfl) ev_c (Evl.rv_ixT (st_of ga2) (atI_nat (j := 1) rfl))) ea_nil)) fun H2 e2 Q2 q2 E => ⟨b, b2, numV q.2, rfl, e2 _ _ gb, sq_of (e2 _ _ gb2), flat_num _, by rw [numV_len]; have := hlc q (List.mem_of_getElem? hq); omega, q2⟩))) rfl) rfl) rfl) rfl) (fun z => by cases z) (fun _ H2 e2 => ⟨_, _, rfl, hx.trans e2⟩)
    · rintro Hs σ' H' e ⟨v2, v3, rfl, hx⟩
      exact s_ret ev_c (RetV.mono k (e1.trans (e.trans hx)))
end
end K16
set_option Elab.async false
set_option linter.all false
set_option maxRecDepth 100000
set_option maxHeartbeats 4000000
namespace K16
open PySem PySem.Spec PyProof.Rows L2 Evl Wc Wt Wg
/-- cuts of the beginning up to e -/
def preC (lot : List Tx) (text : Tx) (e : Nat) : Nat := Cn lot (text.take e)
def endc (lot : List Tx) (text : Tx) (e i : Nat) : Bool := stB lot (text.take e) (e - (wd lot i).length) i
/-- as many as the first j words give -/
def preJ (lot : List Tx) (text : Tx) (e j : Nat) : Nat := Sm (List.range j) fun i => if endc lot text e i = true then preC lot text (e - (wd lot i).length) else 0
theorem preJ_zero (lot : List Tx) (text : Tx) (e : Nat) : preJ lot text e 0 = 0 := rfl
theorem preJ_succ (lot : List Tx) (text : Tx) (e j : Nat) : preJ lot text e (j + 1) = preJ lot text e j + if endc lot text e j = true then preC lot text (e - (wd lot j).length) else 0 := by
  unfold preJ
  rw [List.range_succ, Sm_app, Sm_cons, Sm_nil, Nat.add_zero]
theorem preJ_all {lot : List Tx} (hL : ∀ i, i < lot.length → wd lot i ≠ []) {text : Tx} {e : Nat} (he : 0 < e) (hn : e ≤ text.length) : preJ lot text e lot.length = preC lot text e := by
  have hl : (text.take e).length = e := by rw [List.length_take]; omega
  unfold preC
  rw [Cn_last hL (fun z => by rw [z] at hl; simp at hl; omega), hl]
  unfold preJ endc preC
  refine Sm_congr fun i _ => ?_
  rw [List.take_take, show min (e - (wd lot i).length) e = e - (wd lot i).length by omega]
theorem pre_first (lot : List Tx) (text : Tx) : preC lot text 0 = 1 := rfl
theorem wd_of {lot : List Tx} {j : Nat} {x : Tx} (h : lot[j]? = some x) : wd lot j = x := Option.some.inj ((wd_at (List.getElem?_eq_some_iff.mp h).1).symm.trans h)
theorem endc_at {lot : List Tx} {text : Tx} {B j : Nat} {wrd : Tx} (h : lot[j]? = some wrd) (hn : B + wrd.length ≤ text.length) : endc lot text (B + wrd.length) j = decide (StAt text wrd B) := by
  unfold endc stB
  rw [wd_of h, Nat.add_sub_cancel]
  refine decide_eq_decide.mpr ?_
  rw [List.length_take, List.drop_take, Nat.add_sub_cancel_left, List.take_take, Nat.min_self]
  exact ⟨fun z => z.2, fun z => ⟨by omega, z⟩⟩
theorem endc_no {lot : List Tx} {text : Tx} {e j : Nat} {wrd : Tx} (h : lot[j]? = some wrd) (hn : ¬ wrd.length ≤ e) : endc lot text e j = false := by
  unfold endc stB
  rw [wd_of h]
  refine decide_eq_false fun z => ?_
  have := z.1
  rw [List.length_take] at this
  omega
/-- texts at p, a tuple or a list of them -/
def SeqT (p : Addr) (ws : List Tx) (H : Hp) : Prop := H p = some (.tup (ws.map T))
section
variable {P : Program} {w : World} {K : PySem.W.Frag} {mg : Str → Option Value} {base : Heap}
def aheadL (lot : List Tx) (text : Tx) : List V := (List.range (text.length + 1)).map fun e => V.int (preC lot text e : Int)
def sp_ahead_ : Sp := fun vs H Q _ => ∃ (pl : Addr) (lot : List Tx) (text : Tx), vs = [.ref pl, T text] ∧ LotAt pl lot H ∧ text.length ≤ 400 ∧ RetL (aheadL lot text) H Q
theorem ok__law_ahead {f : Addr} {fd : FuncData} (F : Fun K "_law_ahead" "_law_ahead" st__law_ahead f fd) (M : Md K mg) : FnOk P w K mg base CX0 1 f fd ["lot", "text"] sp_ahead_ := by
  have nd := sc__law_ahead.nd
  refine F.ok sc__law_ahead (fun vs H Q E h => ?_) (fun cdv A outer s H vs Q E hr h => ?_)
  · obtain ⟨_, _, _, rfl, _⟩ := h
    rfl
  · obtain ⟨pl, lot, text, rfl, ⟨hp, hL⟩, hlen, k⟩ := h
    refine ⟨_, (pss_cons (ps_set (i := 2) nd rfl (Or.inl rfl) (pe_op op_cat (pe_lst (pa_cons pe_int pa_nil)) (pe_op op_rep (pe_lst (pa_cons pe_int pa_nil)) (pe_callB cr_lenT (by rfl) M.n_len boot_len (pa_cons (pv 1) pa_nil)))))
  (pss_cons (ps_for PassesOwn.never rfl (pi_range2 (by rfl) M.n_range (pa_cons pe_int (pa_cons (pe_op op_add (pe_callB cr_lenT (by rfl) M.n_len boot_len (pa_cons (pv 1) pa_nil)) pe_int) pa_nil))) (pg_name (i := 3) nd rfl (Or.inl rfl))
  (pss_one (ps_for PassesOwn.never rfl (kit K (pi_tup (pv 0))) (pg_name (i := 4) nd rfl (Or.inl rfl))
  (pss_cons (ps_set (i := 5) nd rfl (Or.inl rfl) (pe_op op_sub (pv 3) (pe_callB cr_lenT (by rfl) M.n_len boot_len (pa_cons (pv 4) pa_nil))))
  (pss_one (ps_if (PW.pt (pw_and (pt_cmpR op_ge (pv 5) pe_int (nomark _)) (pw_and (pt_cmpR op_gt (pe_ix (kix K (r := L2.rIxL) ix_list) (pv 2) (pv 5) (fun _ _ => rfl)) pe_int (nomark _)) (pw_and1 (pt_cmpR op_eqT (pe_slice sl_T (pv 1) (po_some (pv 5)) (po_some (pv 3))) (pv 4) (nomark _))))))
  (pss_one (ps_asg (pe_op op_add (pe_ix (kix K (r := L2.rIxL) ix_list) (pv 2) (pv 3) (fun _ _ => rfl)) (pe_ix (kix K (r := L2.rIxL) ix_list) (pv 2) (pv 5) (fun _ _ => rfl))) (pg_sub (pv 2) (pv 3) set_list)))
  pss_nil))))))
  (pss_one (ps_ret (pv 2))))), ?_⟩
    have hfew := hL.few
    have hpn : H pl ≠ none := by rw [hp]; exact fun q => nomatch q
    have seqx : ∀ {H1 : Hp}, (∀ o, H pl = some o → H1 pl = some o) → SeqT pl lot H1 := fun h => h _ hp
    have lenT : ∀ {σ : L2.St} {H' : Hp}, σ[1]? = some (some (T text)) → Ev (tCB rLenT (tCons (tVar 1) tNil)) σ H' (.int (text.length : Int)) := fun h0 => ev_cb (ea_cons (ev_var h0) ea_nil) (rc_lenT (by omega))
    refine q_asgL (xs := [V.int 1] ++ List.replicate text.length (V.int 0)) ?_ fun pc H2 fpc eA hpc' => ?_
    · have := el_catNN (el_lst (ea_cons (ev_c (v := V.int 1)) ea_nil) (by show 1 ≤ 100000; decide) : EvL _ (start N__law_ahead [.ref pl, T text]) H [V.int 1]) (el_rep (el_lst (ea_cons (ev_c (v := V.int 0)) ea_nil) (by show 1 ≤ 100000; decide)) (lenT rfl) (by simp; omega) (by omega)) (by rw [rep_one]; simp; omega)
      rw [rep_one] at this
      exact this
    have npl : pl ≠ pc := fun z => hpn (z ▸ fpc)
    show tSeq _ _ _ [some (V.ref pl), some (T text), some (V.ref pc), none, none, none] H2
    refine q_forW (fun c => c = pc) (src_range2 (lo := 1) (hi := (text.length : Int) + 1) (n := text.length) (ea_cons ev_c (ea_cons (ev_op (lenT rfl) ev_c rv_I0) ea_nil)) (by omega) (by omega) (by omega) (by omega) (by omega)) ?_
      (fun Hs i σ' H' => ∃ (vs : List V) (v3 v4 v5 : Option V), σ' = [some (V.ref pl), some (T text), some (V.ref pc), v3, v4, v5] ∧ Exc (fun c => c = pc) Hs H' ∧ H' pc = some (.lst vs) ∧ vs.length = text.length + 1 ∧
        (∀ p, p ≤ i → vs[p]? = some (.int (preC lot text p : Int))) ∧ ∀ p, i < p → p ≤ text.length → vs[p]? = some (.int 0)) ?_ ?_ ?_ ?_ ?_
    · rintro c rfl
      exact ⟨by rw [hpc']; exact fun z => (nomatch z), fun z => z⟩
    · intro Hs e
      refine ⟨_, none, none, none, rfl, Exc.refl _, e _ _ hpc', by simp, fun p h1 => ?_, fun p h1 h2 => ?_⟩
      · have : p = 0 := by omega
        subst this
        rw [pre_first]
        rfl
      · rw [List.getElem?_append_right (by simp; omega), List.getElem?_replicate, if_pos (by simp; omega)]
    · rintro Hs i σ' H' ⟨_, _, _, _, _, h, _⟩
      exact h
    · rintro Hs i σ' Ha Hb ⟨vs, v3, v4, v5, h0, h1, h2, h3⟩ e
      exact ⟨vs, v3, v4, v5, h0, h1.then e, e _ _ h2, h3⟩
    · rintro Hs i y σ' H' e hi ⟨vs, v3, v4, v5, rfl, h1, h2, h3, h6, h7⟩ rfl
      obtain ⟨place, hpl⟩ : ∃ place : Nat, (1 : Int) + (i : Int) = (place : Int) := ⟨i + 1, by omega⟩
      have hplt : place = i + 1 := by omega
      have hp6 : SeqT pl lot H' := seqx fun o ho => h1 _ _ npl (e _ _ (eA _ _ ho))
      show tFor _ _ _ _ [some (.ref pl), some (T text), some (.ref pc), some (.int (1 + (i : Int))), v4, v5] H'
      rw [hpl]
      refine s_forW (fun c => c = pc) (src_tupM (f := T) (xs := lot) (ev_var rfl) (st_of hp6)) ?_
        (fun Ht j σ' H9 => ∃ (us : List V) (v4 v5 : Option V), σ' = [some (V.ref pl), some (T text), some (V.ref pc), some (.int (place : Int)), v4, v5] ∧ Exc (fun c => c = pc) Ht H9 ∧ H9 pc = some (.lst us) ∧ us.length = text.length + 1 ∧ (∀ p, p ≠ place → us[p]? = vs[p]?) ∧ us[place]? = some (.int (preJ lot text place j : Int))) ?_ ?_ ?_ ?_ ?_
      · rintro c rfl
        exact ⟨by rw [h2]; exact fun z => (nomatch z), fun z => npl z.symm⟩
      · intro Ht e9
        exact ⟨vs, _, _, rfl, Exc.refl _, e9 _ _ h2, h3, fun _ _ => rfl, h7 place (by omega) (by omega)⟩
      · rintro Ht j σ' H9 ⟨_, _, _, _, h, _⟩
        exact h
      · rintro Ht j σ' Ha Hb ⟨us, v4, v5, h0, k1, k2, k3⟩ e
        exact ⟨us, v4, v5, h0, k1.then e, e _ _ k2, k3⟩
      · rintro Ht j y σ' H9 e9 hj ⟨us, v4, v5, rfl, k1, k2, k3, k4, k5⟩ hy
        obtain ⟨wrd, hw1, rfl⟩ := at_map hy
        have hwm := List.mem_of_getElem? hw1
        have hlw : wrd.length ≤ 12 := (hL.wd wrd hwm).1
        have hlp : 0 < wrd.length := List.length_pos_iff.mpr (hL.pos wrd hwm)
        show tSeq _ _ _ [some (V.ref pl), some (T text), some (V.ref pc), some (.int (place : Int)), some (T wrd), v5] H9
        refine q_asg (v := .int ((place : Int) - (wrd.length : Int))) (ev_op (ev_var rfl) (ev_cb (ea_cons (ev_var rfl) ea_nil) (rc_lenT (by omega))) rv_I0) fun Ha ea => ?_
        show tIfS _ _ _ _ [some (V.ref pl), some (T text), some (V.ref pc), some (.int (place : Int)), some (T wrd), some (.int ((place : Int) - (wrd.length : Int)))] Ha
        have k2a := ea _ _ k2
        have stay : ∀ {v5 : Option V}, preJ lot text place (j + 1) = preJ lot text place j → ∀ Hb, Ex Ha Hb → ∃ (us : List V) (v4' v5' : Option V), [some (V.ref pl), some (T text), some (V.ref pc), some (.int (place : Int)), some (T wrd), v5] = [some (V.ref pl), some (T text), some (V.ref pc), some (.int (place : Int)), v4', v5'] ∧ Exc (fun c => c = pc) Ht Hb ∧ Hb pc = some (.lst us) ∧ us.length = text.length + 1 ∧ (∀ p, p ≠ place → us[p]? = vs[p]?) ∧ us[place]? = some (.int (preJ lot text place (j + 1) : Int)) := fun hn Hb eb => ⟨us, _, _, rfl, k1.then (ea.trans eb), eb _ _ k2a, k3, k4, by rw [hn]; exact k5⟩
        by_cases hb : wrd.length ≤ place
        · obtain ⟨B, hB⟩ : ∃ B : Nat, B + wrd.length = place := ⟨place - wrd.length, by omega⟩
          rw [show (place : Int) - (wrd.length : Int) = (B : Int) by omega]
          have z1 := h6 B (by omega)
          rw [← k4 _ (by omega)] at z1
          have hsucc := preJ_succ lot text place j
          have hec : endc lot text place j = decide (StAt text wrd B) := by rw [← hB]; exact endc_at hw1 (by omega)
          rw [hec, wd_of hw1, show place - wrd.length = B by omega] at hsucc
          have ge0 : Ev (tOp (rI0 fun i j => .bl (decide (j ≤ i))) (tVar 5) (tC (.int 0))) [some (V.ref pl), some (T text), some (V.ref pc), some (.int (place : Int)), some (T wrd), some (.int (B : Int))] Ha (.bl true) := ev_is (ev_op (ev_var rfl) ev_c rv_I0) (by show V.bl (decide ((0 : Int) ≤ (B : Int))) = _; rw [decide_eq_true (by omega)])
          have ixB : ∀ {Hb : Hp}, Ex Ha Hb → Ev (tOp (L2.rIxL K) (tVar 2) (tVar 5)) [some (V.ref pl), some (T text), some (V.ref pc), some (.int (place : Int)), some (T wrd), some (.int (B : Int))] Hb (.int (preC lot text B : Int)) := fun eb => ev_op (ev_var rfl) (ev_var rfl) (rv_ixL (sq_of (eb _ _ k2a)) (atI_nat z1))
          have ixP : ∀ {Hb : Hp}, Ex Ha Hb → Ev (tOp (L2.rIxL K) (tVar 2) (tVar 3)) [some (V.ref pl), some (T text), some (V.ref pc), some (.int (place : Int)), some (T wrd), some (.int (B : Int))] Hb (.int (preJ lot text place j : Int)) := fun eb => ev_op (ev_var rfl) (ev_var rfl) (rv_ixL (sq_of (eb _ _ k2a)) (atI_nat k5))
          have eqs : Ev (tOp rEqT (tSl Wc.rSlT (tVar 1) (tPart (tVar 5)) (tPart (tVar 3))) (tVar 4)) [some (V.ref pl), some (T text), some (V.ref pc), some (.int (place : Int)), some (T wrd), some (.int (B : Int))] Ha (.bl (decide (StAt text wrd B))) := ev_is (ev_op (ev_slT (ev_var rfl) (eo_some (ev_var rfl)) (eo_some (ev_var rfl)) (by omega)) (ev_var rfl) rv_eqT) (by rw [cutT_mid, show place - B = wrd.length by omega])
          refine s_when (b := decide (0 < preC lot text B ∧ StAt text wrd B)) (et_is (et_andI (b := decide (0 < preC lot text B ∧ StAt text wrd B)) (et_test ge0) fun _ => et_is (et_andI (et_test (ev_op (ixB (Ex.refl _)) ev_c rv_I0)) fun _ => et_test eqs) (by rw [← Bool.decide_and]; exact decide_eq_decide.mpr (and_congr_left fun _ => by omega))) (by simp)) (fun hs Hb eb => ?_) (fun hs Hb eb => stay ?_ Hb eb)
          · obtain ⟨g1, g2⟩ := of_decide_eq_true hs
            rw [decide_eq_true g2, if_pos rfl] at hsucc
            refine (ev_op (ixP eb) (ixB eb) rv_I0 : Ev (tOp (rI0 fun i j => .int (i + j)) (tOp (L2.rIxL K) (tVar 2) (tVar 3)) (tOp (L2.rIxL K) (tVar 2) (tVar 5))) _ Hb (.int ((preJ lot text place j : Int) + (preC lot text B : Int)))) Hb (Ex.refl _) _ fun Hc ec => ?_
            refine ⟨.ref pc, rfl, .int (place : Int), rfl, pc, us, (place : Int), place, rfl, rfl, ec _ _ (eb _ _ k2a), ixN_nat (by omega), ?_⟩
            refine ⟨us.set place (.int ((preJ lot text place j : Int) + (preC lot text B : Int))), _, _, rfl, (k1.then ((ea.trans eb).trans ec)).upd (.inl rfl), upd_same, by rw [List.length_set]; exact k3, fun p hp' => by rw [List.getElem?_set_ne (Ne.symm hp')]; exact k4 p hp', ?_⟩
            rw [List.getElem?_set_self (by omega), hsucc]
            congr 2
          · have hn := of_decide_eq_false hs
            by_cases g2 : StAt text wrd B
            · have : preC lot text B = 0 := by
                by_cases z : 0 < preC lot text B
                · exact absurd ⟨z, g2⟩ hn
                · omega
              rw [decide_eq_true g2, if_pos rfl, this] at hsucc
              exact hsucc
            · rw [decide_eq_false g2, if_neg Bool.false_ne_true] at hsucc
              exact hsucc
        · exact s_when (b := false) (et_is (et_andI (b := false) (et_test (ev_is (ev_op (ev_var rfl) ev_c rv_I0) (by show V.bl (decide ((0 : Int) ≤ _)) = V.bl false; rw [decide_eq_false (by omega)]))) fun h => by cases h) (by simp)) (fun z => by cases z) (fun _ => stay (by rw [preJ_succ, endc_no hw1 hb]; rfl))
      · rintro Ht σ' H9 e9 ⟨us, v4, v5, rfl, k1, k2, k3, k4, k5⟩
        refine ⟨us, _, _, _, rfl, fun b o nb hb => k1 b o nb (e9 b o (h1 b o nb hb)), k2, k3, fun p y1 => ?_, fun p y1 y2 => ?_⟩
        · by_cases hp' : p = place
          · subst hp'
            rw [k5, preJ_all (lot_wd hL) (by omega) (by omega)]
          · rw [k4 p hp']
            exact h6 p (by omega)
        · rw [k4 p (by omega)]
          exact h7 p (by omega) y2
    · rintro Hs σ' H' e ⟨vs, v3, v4, v5, rfl, h1, h2, h3, h6, h7⟩
      refine s_ret (ev_var rfl) fun H3 e3 => k pc H3 fpc ?_ ?_
      · exact fun b o hb => e3 _ _ (h1 _ _ (ne_of_none hb fpc) (e _ _ (eA _ _ hb)))
      · rw [e3 _ _ h2]
        congr 2
        unfold aheadL
        apply List.ext_getElem?
        intro p
        by_cases hp' : p < text.length + 1
        · rw [h6 p (by omega), List.getElem?_map, List.getElem?_range hp']
          rfl
        · rw [List.getElem?_eq_none (by omega), List.getElem?_eq_none (by rw [List.length_map, List.length_range]; omega)]
end
end K16
set_option Elab.async false
set_option linter.all false
set_option maxRecDepth 100000
set_option maxHeartbeats 2000000
namespace K16
open PySem PySem.Spec PyProof.Rows L2 Evl Wc Wt
theorem Wd.mono {m n : Nat} {ws : List Tx} (h : Wd m ws) (hm : m ≤ n) : Wd n ws := fun t ht => ⟨Nat.le_trans (h t ht).1 hm, (h t ht).2⟩
theorem Wd.sub {m : Nat} {ws vs : List Tx} (h : Wd m ws) (hs : ∀ t ∈ vs, t ∈ ws) : Wd m vs := fun t ht => h t (hs t ht)
theorem Wd.app {m : Nat} {ws vs : List Tx} (h : Wd m ws) (h2 : Wd m vs) : Wd m (ws ++ vs) := fun t ht => by
  rcases List.mem_append.mp ht with z | z
  · exact h t z
  · exact h2 t z
section
variable {K : PySem.W.Frag}
def sp_split : Sp := fun vs H Q _ => ∃ (fa : Addr) (s : Tx) (turns : Nat), vs = [.ref fa, T s, .int (turns : Int)] ∧ GF fa turns H ∧ turns ≤ 100 ∧ s ≠ [] ∧ s.length ≤ 4 ∧ (∀ c ∈ s, abcd c) ∧
  ∀ q ws H', ws ≠ [] → ws.length ≤ 13 → Wd 12 ws → H q = none → Rf fa turns H H' → H' q = some (.lst (ws.map T)) → Q (.ref q) H'
def sp_joined : Sp := fun vs H Q _ => ∃ (fa p : Addr) (ws : List Tx) (turns : Nat), vs = [.ref fa, .ref p, .int (turns : Int)] ∧ H p = some (.lst (ws.map T)) ∧ p ≠ fa ∧ GF fa (3 * turns) H ∧ turns ≤ 10 ∧ ws ≠ [] ∧ ws.length ≤ 13 ∧ Wd 12 ws ∧
  ∀ q ws' H', ws' ≠ [] → ws'.length ≤ 30 → Wd 100000 ws' → q ≠ fa → Rf fa (3 * turns) H H' → H' q = some (.lst (ws'.map T)) → Q (.ref q) H'
def sp_made (K : PySem.W.Frag) : Sp := fun vs H Q _ => ∃ (fa c p : Addr) (cs ws : List Tx), vs = [.ref fa, .ref c, .ref p] ∧ GF fa 0 H ∧ H c = some (.lst (cs.map T)) ∧ SqL K H p (ws.map T) ∧ c ≠ fa ∧ p ≠ fa ∧ cs.length ≤ 100 ∧ Wd 10 cs ∧ ws ≠ [] ∧ ws.length ≤ 100 ∧ Wd 1000 ws ∧
  ∀ q vs' H', vs'.length ≤ 100 → Wd 100000 vs' → H q = none → Rf fa 0 H H' → H' q = some (.lst (vs'.map T)) → Q (.ref q) H'
end
section
variable {P : Program} {w : World} {K : PySem.W.Frag} {mg : Str → Option Value} {base : Heap}
theorem ok__law_split {f : Addr} {fd : FuncData} (F : Fun K "_law_split" "_law_split" st__law_split f fd) (M : Md K mg) (C__law_draw : Cal P w K mg base "_law_draw" st__law_draw 1 ["feed", "many"] sp_draw) : FnOk P w K mg base CX0 2 f fd ["feed", "signs", "turns"] sp_split := by
  have nd := sc__law_split.nd
  refine F.ok sc__law_split (fun vs H Q E h => ?_) (fun cdv A outer s H vs Q E hr h => ?_)
  · obtain ⟨_, _, _, rfl, _⟩ := h
    rfl
  · obtain ⟨fa, sg, turns, rfl, G, ht, hs0, hs4, hsc, k⟩ := h
    refine ⟨_, (pss_cons (ps_set (i := 3) nd rfl (Or.inr rfl) (pe_lst (pa_cons (pe_sT []) pa_nil)))
  (pss_cons (ps_for PassesOwn.never rfl (pi_range1 (by rfl) M.n_range (pa_cons (pv 2) pa_nil)) (pg_name (i := 4) nd rfl (Or.inl rfl))
  (pss_cons (ps_set (i := 5) nd rfl (Or.inr rfl) (pe_cl C__law_draw hr (pa_cons (pv 0) (pa_cons (pe_callB (kcr K (r := rLenS) call_len_seq) (by rfl) M.n_len boot_len (pa_cons (pv 3) pa_nil)) pa_nil))))
  (pss_one (ps_if (PW.pt (pw_and (pt_cmpR op_lt (pe_op op_add (pe_callB (kcr K (r := rLenS) call_len_seq) (by rfl) M.n_len boot_len (pa_cons (pv 3) pa_nil)) (pe_callB cr_lenT (by rfl) M.n_len boot_len (pa_cons (pv 1) pa_nil))) pe_int (nomark _)) (pw_and1 (pt_cmpR op_lt (pe_callB cr_lenT (by rfl) M.n_len boot_len (pa_cons (pe_ix (kix K (r := L2.rIxL) ix_list) (pv 3) (pv 5) (fun _ _ => rfl)) pa_nil)) pe_int (nomark _)))))
  (pss_one (ps_set (i := 3) nd rfl (Or.inr rfl) (pe_op op_cat (pe_op op_cat (pe_slice (ksl K (r := rSlL) sl_list) (pv 3) po_none (po_some (pv 5))) (pe_slice (ksl K (r := rSlL) sl_list) (pv 3) (po_some (pe_op op_add (pv 5) pe_int)) po_none)) (pe_lc (own := [("sign", 6)]) rfl nd (pi_str (pv 1)) (blkOk_by (N := N__law_split) (sc := defScope st__law_split) (by decide +kernel)) (fun _ _ _ _ _ => (pg_name (i := 6) nd rfl (Or.inl rfl))) (fun _ _ _ _ _ => pts_nil) (fun _ _ _ _ _ => (pe_op op_addT (pe_ix (kix K (r := L2.rIxL) ix_list) (pv 3) (pv 5) (fun _ _ => rfl)) (pv 6)))))))
  pss_nil))))
  (pss_one (ps_ret (pv 3))))), ?_⟩
    refine q_asgL (xs := [T []]) (el_lst (ea_cons ev_c ea_nil) (by show 1 ≤ 100000; decide)) fun p0 H1 hp0 e1 h1 => ?_
    have n0 : p0 ≠ fa := G.new hp0
    show tSeq _ _ _ [some (.ref fa), some (T sg), some (.int (turns : Int)), some (.ref p0), none, none, none] H1
    refine q_forW (fun c => c = fa) (src_range1 (n := turns) (ea_cons (ev_var rfl) ea_nil) (by omega)) ?_
      (fun Hs i σ' H' => ∃ (p : Addr) (ws : List Tx) (v4 v5 : Option V), σ' = [some (.ref fa), some (T sg), some (.int (turns : Int)), some (.ref p), v4, v5, none] ∧ Exc (fun c => c = fa) Hs H' ∧ Rf fa i H H' ∧ H p = none ∧ H' p = some (.lst (ws.map T)) ∧ ws ≠ [] ∧ ws.length ≤ 13 ∧ Wd 12 ws) ?_ ?_ ?_ ?_ ?_
    · rintro c rfl
      exact ⟨(G.ex e1).is, fun z => z⟩
    · intro Hs e
      exact ⟨p0, [[]], none, none, rfl, Exc.refl _, Rf.of_ex (e1.trans e), hp0, e _ _ h1, by simp, by simp, fun t ht => by simp at ht; subst ht; exact ⟨Nat.zero_le _, fun c hc => nomatch hc⟩⟩
    · rintro Hs i σ' H' ⟨_, _, _, _, _, h, _⟩
      exact h
    · rintro Hs i σ' Ha Hb ⟨p, ws, v4, v5, h0, h2, h3, h4, h5, h6⟩ e
      exact ⟨p, ws, v4, v5, h0, h2.then e, h3.then e, h4, e _ _ h5, h6⟩
    · rintro Hs i x σ' H' e hi ⟨p, ws, v4, v5, rfl, h2, h3, h4, h5, h6, h7, h8⟩ rfl
      have hpos : 0 < ws.length := List.length_pos_iff.mpr h6
      have np : p ≠ fa := G.new h4
      have hlen : ∀ {σ : L2.St} {H' : Hp}, σ[3]? = some (some (.ref p)) → H' p = some (.lst (ws.map T)) → Ev (tCB (rLenS K) (tCons (tVar 3) tNil)) σ H' (.int (ws.length : Int)) := fun h0 hh => ev_is (ev_len (ev_var h0) (sq_of hh)) (by rw [List.length_map])
      show tSeq _ _ _ [some (.ref fa), some (T sg), some (.int (turns : Int)), some (.ref p), some (.int (i : Int)), v5, none] H'
      refine wp_draw (many := (ws.length : Int)) rfl (hlen rfl h5) (G.go h3 (m' := 1) (by omega)) (by omega) (by omega) fun d H3 hd R3 => ?_
      have hd' : d < ws.length := by omega
      have h53 := R3.at_ h5 np
      have h33 : Rf fa (i + 1) H H3 := h3.trans R3
      have hex : Exc (fun c => c = fa) Hs H3 := h2.trans R3.keep
      have hw := h8 ws[d] (List.getElem_mem hd')
      have hix : ∀ {σ : L2.St} {H' : Hp}, σ[3]? = some (some (.ref p)) → σ[5]? = some (some (.int (d : Int))) → H' p = some (.lst (ws.map T)) → Ev (tOp (L2.rIxL K) (tVar 3) (tVar 5)) σ H' (T ws[d]) := fun h0 h1 hh => ev_op (ev_var h0) (ev_var h1) (rv_ixL (sq_of hh) (atI_nat (by rw [List.getElem?_map, List.getElem?_eq_getElem hd']; rfl)))
      refine s_when (σ := [some (.ref fa), some (T sg), some (.int (turns : Int)), some (.ref p), some (.int (i : Int)), some (.int (d : Int)), none]) (et_and (et_test (ev_op (ev_op (hlen rfl h53) (ev_cb (ea_cons (ev_var rfl) ea_nil) (rc_lenT (by omega))) rv_I0) ev_c rv_I0)) fun _ => et_test (ev_op (ev_cb (ea_cons (hix rfl rfl h53) ea_nil) (rc_lenT (by omega))) ev_c rv_I0)) (fun hb H4 e4 => ?_) (fun hb H4 e4 => ?_)
      · rw [Bool.and_eq_true, decide_eq_true_eq, decide_eq_true_eq] at hb
        have h54 := e4 _ _ h53
        have hcat : EvL (tOp rCat (tOp rCat (tSl (rSlL K) (tVar 3) tNoPart (tPart (tVar 5))) (tSl (rSlL K) (tVar 3) (tPart (tOp (rI0 fun i j => .int (i + j)) (tVar 5) (tC (.int 1)))) tNoPart)) (tLc (iStr (tVar 1)) (gName 6) tYes (tOp rAddT (tOp (L2.rIxL K) (tVar 3) (tVar 5)) (tVar 6)) [6])) [some (.ref fa), some (T sg), some (.int (turns : Int)), some (.ref p), some (.int (i : Int)), some (.int (d : Int)), none] H4 ((ws.take d ++ ws.drop (d + 1) ++ sg.map fun c => ws[d] ++ [c]).map T) := by
          have l1 : EvL (tSl (rSlL K) (tVar 3) tNoPart (tPart (tVar 5))) [some (.ref fa), some (T sg), some (.int (turns : Int)), some (.ref p), some (.int (i : Int)), some (.int (d : Int)), none] H4 ((ws.take d).map T) := by
            have := el_sl (K := K) (σ := [some (.ref fa), some (T sg), some (.int (turns : Int)), some (.ref p), some (.int (i : Int)), some (.int (d : Int)), none]) (H := H4) (te := tVar 3) (ev_var rfl) eo_none (eo_some (te := tVar 5) (i := (d : Int)) (ev_var rfl)) (sq_of h54)
            rw [cutV_to, ← List.map_take] at this
            exact this
          have l2 : EvL (tSl (rSlL K) (tVar 3) (tPart (tOp (rI0 fun i j => .int (i + j)) (tVar 5) (tC (.int 1)))) tNoPart) [some (.ref fa), some (T sg), some (.int (turns : Int)), some (.ref p), some (.int (i : Int)), some (.int (d : Int)), none] H4 ((ws.drop (d + 1)).map T) := by
            have := el_sl (K := K) (σ := [some (.ref fa), some (T sg), some (.int (turns : Int)), some (.ref p), some (.int (i : Int)), some (.int (d : Int)), none]) (H := H4) (te := tVar 3) (ev_var rfl) (eo_some (te := tOp (rI0 fun i j => .int (i + j)) (tVar 5) (tC (.int 1))) (i := ((d + 1 : Nat) : Int)) (ev_op (ev_var rfl) ev_c rv_I0)) eo_none (sq_of h54)
            rw [cutV_from, ← List.map_drop] at this
            exact this
          have l3 : EvL (tLc (iStr (tVar 1)) (gName 6) tYes (tOp rAddT (tOp (L2.rIxL K) (tVar 3) (tVar 5)) (tVar 6)) [6]) [some (.ref fa), some (T sg), some (.int (turns : Int)), some (.ref p), some (.int (i : Int)), some (.int (d : Int)), none] H4 (sg.map fun c => T (ws[d] ++ [c])) := el_lcM (j := 6) (vs := [6]) (f := fun c => T [c]) sg (src_str (ev_var rfl)) (by omega) (fun _ => rfl) fun c H5 e5 hc => ev_op (hix rfl rfl (e5 _ _ h54)) (ev_var rfl) (rv_addT (by show _ + 1 ≤ _; omega))
          have := el_catNN (el_catNN l1 l2 (by simp; omega)) l3 (by simp; omega)
          rw [List.map_append, List.map_append, List.map_map]
          exact this
        refine s_asgL hcat fun q H5 hq e5 h5' => ?_
        refine ⟨q, _, _, _, rfl, hex.then (e4.trans e5), (h33.then e4).then e5, ?_, h5', ?_, ?_, ?_⟩
        · exact (h33.then e4).free G.is hq ((G.go (h33.then e4) (m' := 0) (by omega)).is)
        · intro z
          have := congrArg List.length z
          simp at this
          exact hs0 this.2.2
        · simp
          omega
        · refine Wd.app (Wd.app (h8.sub fun t ht => List.mem_of_mem_take ht) (h8.sub fun t ht => List.mem_of_mem_drop ht)) fun t ht => ?_
          obtain ⟨c, hc, rfl⟩ := List.mem_map.mp ht
          refine ⟨by rw [List.length_append]; show _ + 1 ≤ 12; omega, fun c' hc' => ?_⟩
          rcases List.mem_append.mp hc' with z | z
          · exact hw.2 c' z
          · rw [List.mem_singleton.mp z]
            exact hsc c hc
      · exact ⟨p, ws, _, _, rfl, hex.then e4, h33.then e4, h4, e4 _ _ h53, h6, h7, h8⟩
    · rintro Hs σ' H' e ⟨p, ws, v4, v5, rfl, h2, h3, h4, h5, h6, h7, h8⟩
      exact s_ret (ev_var rfl) fun H3 e3 => k p ws H3 h6 h7 h8 h4 (h3.then e3) (e3 _ _ h5)
theorem ok__law_joined {f : Addr} {fd : FuncData} (F : Fun K "_law_joined" "_law_joined" st__law_joined f fd) (M : Md K mg) (C__law_draw : Cal P w K mg base "_law_draw" st__law_draw 1 ["feed", "many"] sp_draw) (C__law_one : Cal P w K mg base "_law_one" st__law_one 2 ["feed", "things"] (sp_one K)) : FnOk P w K mg base CX0 3 f fd ["feed", "words", "turns"] sp_joined := by
  have nd := sc__law_joined.nd
  refine F.ok sc__law_joined (fun vs H Q E h => ?_) (fun cdv A outer s H vs Q E hr h => ?_)
  · obtain ⟨_, _, _, _, rfl, _⟩ := h
    rfl
  · obtain ⟨fa, p0, ws0, turns, rfl, hp0, np0, G, ht, hne0, hl0, hw0, k⟩ := h
    refine ⟨_, (pss_cons (ps_for PassesOwn.never rfl (pi_range1 (by rfl) M.n_range (pa_cons (pv 2) pa_nil)) (pg_name (i := 3) nd rfl (Or.inl rfl))
  (pss_cons (ps_asg (pe_tup (pa_cons (pe_cl C__law_one hr (pa_cons (pv 0) (pa_cons (pv 1) pa_nil))) (pa_cons (pe_cl C__law_one hr (pa_cons (pv 0) (pa_cons (pv 1) pa_nil))) pa_nil))) (kgt K (n := 2) (pg_tup rfl (pgs_cons (pg_name (i := 4) nd rfl (Or.inr rfl)) (pgs_cons (pg_name (i := 5) nd rfl (Or.inl rfl)) pgs_nil)))))
  (pss_cons (ps_set (i := 6) nd rfl (Or.inl rfl) (pe_cl C__law_draw hr (pa_cons (pv 0) (pa_cons pe_int pa_nil))))
  (pss_one (ps_if (pt_cmpR op_eqI (pv 6) pe_int (nomark _))
  (pss_one (ps_set (i := 1) nd rfl (Or.inl rfl) (pe_op op_cat (pv 1) (pe_lst (pa_cons (pe_op op_addT (pv 4) (pv 5)) pa_nil)))))
  (pss_one (ps_if (pt_cmpR op_eqI (pv 6) pe_int (nomark _))
  (pss_one (ps_set (i := 1) nd rfl (Or.inl rfl) (pe_op op_cat (pe_lc (own := [("word", 7)]) rfl nd (kil K (pi_list (pv 1))) (blkOk_by (N := N__law_joined) (sc := defScope st__law_joined) (by decide +kernel)) (fun _ _ _ _ _ => (pg_name (i := 7) nd rfl (Or.inl rfl))) (fun _ _ _ _ _ => (pts_one (pt_cmpR op_neT (pv 7) (pv 4) (nomark _)))) (fun _ _ _ _ _ => (pv 7))) (pe_lst (pa_cons (pe_op op_addT (pv 4) (pv 5)) pa_nil)))))
  (pss_one (ps_if (pt_cmpR op_lt (pe_callB (kcr K (r := rLenS) call_len_seq) (by rfl) M.n_len boot_len (pa_cons (pv 1) pa_nil)) pe_int (nomark _))
  (pss_one (ps_set (i := 1) nd rfl (Or.inl rfl) (pe_op op_cat (pe_lc (own := [("word", 7)]) rfl nd (kil K (pi_list (pv 1))) (blkOk_by (N := N__law_joined) (sc := defScope st__law_joined) (by decide +kernel)) (fun _ _ _ _ _ => (pg_name (i := 7) nd rfl (Or.inl rfl))) (fun _ _ _ _ _ => (pts_one (pt_cmpR op_neT (pv 7) (pv 4) (nomark _)))) (fun _ _ _ _ _ => (pv 7))) (pe_lc (own := [("word", 7)]) rfl nd (kil K (pi_list (pv 1))) (blkOk_by (N := N__law_joined) (sc := defScope st__law_joined) (by decide +kernel)) (fun _ _ _ _ _ => (pg_name (i := 7) nd rfl (Or.inl rfl))) (fun _ _ _ _ _ => pts_nil) (fun _ _ _ _ _ => (pe_op op_addT (pv 4) (pv 7)))))))
  pss_nil)))))))))
  (pss_one (ps_ret (pv 1)))), ?_⟩
    refine q_forW (fun c => c = fa) (src_range1 (n := turns) (ea_cons (ev_var rfl) ea_nil) (by omega)) ?_
      (fun Hs i σ' H' => ∃ (p : Addr) (ws : List Tx) (v3 v4 v5 v6 : Option V), σ' = [some (.ref fa), some (.ref p), some (.int (turns : Int)), v3, v4, v5, v6, none] ∧ Exc (fun c => c = fa) Hs H' ∧ Rf fa (3 * i) H H' ∧ p ≠ fa ∧ H' p = some (.lst (ws.map T)) ∧ ws ≠ [] ∧ ws.length ≤ 13 + i ∧ Wd (12 * 2 ^ i) ws) ?_ ?_ ?_ ?_ ?_
    · rintro c rfl
      exact ⟨G.is, fun z => z⟩
    · intro Hs e
      exact ⟨p0, ws0, none, none, none, none, rfl, Exc.refl _, Rf.of_ex e, np0, e _ _ hp0, hne0, hl0, hw0⟩
    · rintro Hs i σ' H' ⟨_, _, _, _, _, _, _, h, _⟩
      exact h
    · rintro Hs i σ' Ha Hb ⟨p, ws, v3, v4, v5, v6, h0, h2, h3, h4, h5, h6⟩ e
      exact ⟨p, ws, v3, v4, v5, v6, h0, h2.then e, h3.then e, h4, e _ _ h5, h6⟩
    · rintro Hs i x σ' H' e hi ⟨p, ws, v3, v4, v5, v6, rfl, h2, h3, np, h5, h6, h7, h8⟩ rfl
      have hpw : (2 : Nat) ^ i ≤ 1024 := Nat.le_trans (Nat.pow_le_pow_right (by decide) (show i ≤ 10 by omega)) (by decide)
      have hpe : (2 : Nat) ^ (i + 1) = 2 ^ i * 2 := Nat.pow_succ ..
      have hpp : 1 ≤ (2 : Nat) ^ i := Nat.pow_pos (by decide)
      have hxs : ws.map T ≠ [] := fun z => h6 (List.map_eq_nil_iff.mp z)
      have G1 : GF fa 3 H' := G.go h3 (by omega)
      show tSeq _ _ _ [some (.ref fa), some (.ref p), some (.int (turns : Int)), some (.int (i : Int)), v4, v5, v6, none] H'
      refine wp_oneS (xs := ws.map T) rfl (ev_var rfl) (.inl (sq_of h5)) np G1 hxs (by rw [List.length_map]; omega) fun x1 Ha hx1 Ra => wp_oneS (xs := ws.map T) rfl (ev_var rfl) (.inl (sq_of (Ra.at_ h5 np))) np (G1.go Ra (m' := 2) (by omega)) hxs (by rw [List.length_map]; omega) fun x2 Hb hx2 Rb => ⟨by show 2 ≤ sizeLine; decide, fun pt hpt => ⟨pt, _, rfl, st_of upd_same, rfl, x1, [x2], rfl, x2, [], rfl, rfl, ?_⟩⟩
      obtain ⟨a, ha, rfl⟩ := List.mem_map.mp hx1
      obtain ⟨b, hb, rfl⟩ := List.mem_map.mp hx2
      have R2 : Rf fa 2 H' (upd Hb pt (.tup [T a, T b])) := (Ra.trans Rb).then (Ex.new hpt)
      generalize upd Hb pt (.tup [T a, T b]) = H2 at R2 ⊢
      have h52 := R2.at_ h5 np
      show tSeq _ _ _ [some (.ref fa), some (.ref p), some (.int (turns : Int)), some (.int (i : Int)), some (T a), some (T b), v6, none] H2
      refine wp_draw (many := 3) rfl ev_c (G1.go R2 (m' := 1) (by omega)) (by decide) (by decide) fun d H3 hd R3 => ?_
      have h53 := R3.at_ h52 np
      have RR : Rf fa (3 * (i + 1)) H H3 := ((h3.trans R2).trans R3).mono (by omega)
      have XX : Exc (fun c => c = fa) Hs H3 := (h2.trans R2.keep).trans R3.keep
      clear R2 R3 Ra Rb hpt
      have wa := h8 a ha
      have wb := h8 b hb
      have hup : Wd (12 * 2 ^ (i + 1)) ws := h8.mono (by omega)
      have hab : Wd (12 * 2 ^ (i + 1)) [a ++ b] := fun t ht => by
        rw [List.mem_singleton.mp ht]
        exact ⟨by rw [List.length_append]; omega, fun c hc => by
          rcases List.mem_append.mp hc with z | z
          · exact wa.2 c z
          · exact wb.2 c z⟩
      have ab : ∀ {H' : Hp}, EvL (tLst (tCons (tOp rAddT (tVar 4) (tVar 5)) tNil)) [some (.ref fa), some (.ref p), some (.int (turns : Int)), some (.int (i : Int)), some (T a), some (T b), some (.int (d : Int)), none] H' ([a ++ b].map T) := el_lst (ea_cons (ev_op (ev_var rfl) (ev_var rfl) (rv_addT (by omega))) ea_nil) (by show 1 ≤ 100000; decide)
      have but : ∀ {H' : Hp}, H' p = some (.lst (ws.map T)) → EvL (tLc (iList K (tVar 1)) (gName 7) (tTest (tOp rNeT (tVar 7) (tVar 4))) (tVar 7) [7]) [some (.ref fa), some (.ref p), some (.int (turns : Int)), some (.int (i : Int)), some (T a), some (T b), some (.int (d : Int)), none] H' ((ws.filter fun t => !decide (t = a)).map T) := fun hh => el_lcF (j := 7) (vs := [7]) (f := T) (g := T) ws (src_listM (ev_var rfl) (sq_of hh)) (by omega) (fun _ => rfl) (fun t H1 e1 _ => et_test (ev_op (ev_var rfl) (ev_var rfl) rv_neT)) (fun t H1 e1 _ _ => ev_var rfl)
      have hfl := List.length_filter_le (fun t : Tx => !decide (t = a)) ws
      -- a new list of words
      have put : ∀ (vs : List Tx) q H5, Ex H3 H5 → H3 q = none → H5 q = some (.lst (vs.map T)) → vs ≠ [] → vs.length ≤ 13 + (i + 1) → Wd (12 * 2 ^ (i + 1)) vs → ∃ (p' : Addr) (ws' : List Tx) (v3 v4 v5 v6 : Option V), [some (V.ref fa), some (.ref q), some (.int (turns : Int)), some (.int (i : Int)), some (T a), some (T b), some (.int (d : Int)), none] = [some (.ref fa), some (.ref p'), some (.int (turns : Int)), v3, v4, v5, v6, none] ∧ Exc (fun c => c = fa) Hs H5 ∧ Rf fa (3 * (i + 1)) H H5 ∧ p' ≠ fa ∧ H5 p' = some (.lst (ws'.map T)) ∧ ws' ≠ [] ∧ ws'.length ≤ 13 + (i + 1) ∧ Wd (12 * 2 ^ (i + 1)) ws' := fun vs q H5 e5 hq h5' y1 y2 y3 => ⟨q, vs, _, _, _, _, rfl, XX.then e5, RR.then e5, (G.go RR (m' := 0) (by omega)).new hq, h5', y1, y2, y3⟩
      refine s_if (σ := [some (.ref fa), some (.ref p), some (.int (turns : Int)), some (.int (i : Int)), some (T a), some (T b), some (.int (d : Int)), none]) (et_test (ev_op (ev_var rfl) ev_c rv_I0)) (fun hb1 H4 e4 => ?_) (fun hb1 H4 e4 => ?_)
      · have hc := el_catVN (ta := tVar 1) (ev_var (σ := [some (.ref fa), some (.ref p), some (.int (turns : Int)), some (.int (i : Int)), some (T a), some (T b), some (.int (d : Int)), none]) rfl) (e4 _ _ h53) ab (by simp; omega)
        rw [← List.map_append] at hc
        exact s_asgL hc fun q H5 hq e5 h5' => put (ws ++ [a ++ b]) q H5 (e4.trans e5) (fresh_back e4 hq) h5' (by simp) (by simp; omega) (hup.app hab)
      · refine s_if (et_test (ev_op (ev_var rfl) ev_c rv_I0)) (fun hb2 H5 e5 => ?_) (fun hb2 H5 e5 => ?_)
        · have hc := el_catNN (but (e5 _ _ (e4 _ _ h53))) ab (by simp; omega)
          rw [← List.map_append] at hc
          exact s_asgL hc fun q H6 hq e6 h6' => put (ws.filter (fun t => !decide (t = a)) ++ [a ++ b]) q H6 ((e4.trans e5).trans e6) (fresh_back (e4.trans e5) hq) h6' (by simp) (by simp; omega) ((hup.sub fun t ht => (List.mem_filter.mp ht).1).app hab)
        · have h55 := e5 _ _ (e4 _ _ h53)
          refine s_when (et_test (ev_op (ev_len (ev_var rfl) (sq_of h55)) ev_c rv_I0)) (fun hb3 H6 e6 => ?_) (fun hb3 H6 e6 => ?_)
          · have h56 := e6 _ _ h55
            rw [decide_eq_true_eq, List.length_map] at hb3
            have l2 : EvL (tLc (iList K (tVar 1)) (gName 7) tYes (tOp rAddT (tVar 4) (tVar 7)) [7]) [some (.ref fa), some (.ref p), some (.int (turns : Int)), some (.int (i : Int)), some (T a), some (T b), some (.int (d : Int)), none] H6 (ws.map fun t => T (a ++ t)) := el_lcM (j := 7) (vs := [7]) (f := T) ws (src_listM (ev_var rfl) (sq_of h56)) (by omega) (fun _ => rfl) fun t H1 e1 ht => ev_op (ev_var rfl) (ev_var rfl) (rv_addT (by have := (h8 t ht).1; omega))
            have hc := el_catNN (but h56) l2 (by simp; omega)
            have em : ws.map (fun t => T (a ++ t)) = (ws.map fun t => a ++ t).map T := by rw [List.map_map]; rfl
            rw [em, ← List.map_append] at hc
            refine s_asgL hc fun q H7 hq e7 h7' => put _ q H7 (((e4.trans e5).trans e6).trans e7) (fresh_back ((e4.trans e5).trans e6) hq) h7' (fun z => ?_) (by simp; omega) ((hup.sub fun t ht => (List.mem_filter.mp ht).1).app fun t ht => ?_)
            · have := (List.append_eq_nil_iff.mp z).2
              exact h6 (List.map_eq_nil_iff.mp this)
            · obtain ⟨y, hy, rfl⟩ := List.mem_map.mp ht
              have wy := h8 y hy
              exact ⟨by rw [List.length_append]; omega, fun c hc => by
                rcases List.mem_append.mp hc with z | z
                · exact wa.2 c z
                · exact wy.2 c z⟩
          · have h56 := e6 _ _ h55
            exact ⟨p, ws, _, _, _, _, rfl, XX.then ((e4.trans e5).trans e6), RR.then ((e4.trans e5).trans e6), np, h56, h6, by omega, hup⟩
    · rintro Hs σ' H' e ⟨p, ws, v3, v4, v5, v6, rfl, h2, h3, np, h5, h6, h7, h8⟩
      have hpw : (2 : Nat) ^ turns ≤ 1024 := Nat.le_trans (Nat.pow_le_pow_right (by decide) ht) (by decide)
      exact s_ret (ev_var rfl) fun H3 e3 => k p ws H3 h6 (by omega) (h8.mono (by omega)) np (h3.then e3) (e3 _ _ h5)
theorem flat_mem {ts : List Tx} {c : Nat} (h : c ∈ ts.flatten) : ∃ t ∈ ts, c ∈ t := List.mem_flatten.mp h
theorem ok__law_made {f : Addr} {fd : FuncData} (F : Fun K "_law_made" "_law_made" st__law_made f fd) (M : Md K mg) : FnOk P w K mg base CX0 1 f fd ["feed", "code", "words"] (sp_made K) := by
  have nd := sc__law_made.nd
  refine F.ok sc__law_made (fun vs H Q E h => ?_) (fun cdv A outer s H vs Q E hr h => ?_)
  · obtain ⟨_, _, _, _, _, rfl, _⟩ := h
    rfl
  · obtain ⟨fa, pc, pw, cs, ws, rfl, G, hc, hp, nc, np, hcl, hcw, hne, hwl, hww, k⟩ := h
    refine ⟨_, (pss_cons (ps_set (i := 3) nd rfl (Or.inl rfl) (pe_lst pa_nil))
  (pss_cons (ps_for PassesOwn.never rfl (kil K (pi_list (pv 1))) (pg_name (i := 4) nd rfl (Or.inl rfl))
  (pss_one (ps_expr (kbm K (pe_bm PySem.F.plainAttrs_list PySem.F.slot_list_append PySem.F.type_list_append mt_append (pv 3) (pa_cons (kbm K (pe_bm PySem.F.plainAttrs_str PySem.F.slot_str_join PySem.F.type_str_join (kmt K (r := rJoinT) mt_joinT) (pe_sT []) (pa_cons (pe_lc (own := [("sign", 5)]) rfl nd (pi_str (pv 4)) (blkOk_by (N := N__law_made) (sc := defScope st__law_made) (by decide +kernel)) (fun _ _ _ _ _ => (pg_name (i := 5) nd rfl (Or.inl rfl))) (fun _ _ _ _ _ => pts_nil) (fun _ _ _ _ _ => (pe_ix (kix K (r := L2.rIxL) ix_list) (pv 2) (pe_op op_modP (pe_callTy call_int1 (by rfl) M.n_int boot_int (pa_cons (kbm K (pe_bm PySem.F.plainAttrs_str PySem.F.slot_str_find PySem.F.type_str_find mt_findT (pe_sT [97, 98, 99, 100]) (pa_cons (pv 5) pa_nil))) pa_nil)) (pe_callB (kcr K (r := rLenS) call_len_seq) (by rfl) M.n_len boot_len (pa_cons (pv 2) pa_nil))) (fun _ _ => rfl)))) pa_nil))) pa_nil))))))
  (pss_one (ps_ret (pv 3))))), ?_⟩
    have hpos : 0 < ws.length := List.length_pos_iff.mpr hne
    refine q_asgL (xs := []) (el_lst ea_nil (by decide)) fun pm H1 hpm e1 h1 => ?_
    have nm : pm ≠ fa := G.new hpm
    show tSeq _ _ _ [some (.ref fa), some (.ref pc), some (.ref pw), some (.ref pm), none, none] H1
    have nmc : pm ≠ pc := fun z => by rw [z, hc] at hpm; cases hpm
    refine q_forW (fun c => c = fa ∨ c = pm) (own := fun b => b = pc) (n := cs.length) (P := fun i v _ => (cs.map T)[i]? = some v) (src_listM (ev_var rfl) (sq_of (e1 _ _ hc))) ?_
      (fun Hs i σ' H' => ∃ (vs : List Tx) (v4 v5 : Option V), σ' = [some (.ref fa), some (.ref pc), some (.ref pw), some (.ref pm), v4, none] ∧ Exc (fun c => c = fa ∨ c = pm) Hs H' ∧ Rf fa 0 H H' ∧ H' pm = some (.lst (vs.map T)) ∧ vs.length = i ∧ Wd 100000 vs) ?_ ?_ ?_ ?_ ?_
    · rintro c (rfl | rfl)
      · exact ⟨(G.ex e1).is, fun z => nc z.symm⟩
      · exact ⟨by rw [h1]; exact fun z => (nomatch z), nmc⟩
    · intro Hs e
      exact ⟨[], none, none, rfl, Exc.refl _, Rf.of_ex (e1.trans e), e _ _ h1, rfl, fun t ht => nomatch ht⟩
    · rintro Hs i σ' H' ⟨_, _, _, _, h, _⟩
      exact h
    · rintro Hs i σ' Ha Hb ⟨vs, v4, v5, h0, h2, h3, h4, h5⟩ e
      exact ⟨vs, v4, v5, h0, h2.then e, h3.then e, e _ _ h4, h5⟩
    · rintro Hs i x σ' H' e hi ⟨vs, v4, v5, rfl, h2, h3, h4, h5, h6⟩ hx
      obtain ⟨cd, hcd, rfl⟩ := at_map hx
      have hm := hcw cd (List.mem_of_getElem? hcd)
      have G1 : GF fa 0 H' := G.go h3 (by omega)
      have hpw : SqL K H' pw (ws.map T) := h3.l np hp
      show tDrop _ _ [some (.ref fa), some (.ref pc), some (.ref pw), some (.ref pm), some (T cd), none] H'
      refine ⟨.ref pm, rfl, .inl ⟨rfl, vs.map T, sq_of h4⟩, rfl, ?_⟩
      refine lcD (fa := fa) (own := fun _ => False) (n := cd.length) (P := fun i v _ => (cd.map fun c => T [c])[i]? = some v) (fun v => ∃ t, v = T t ∧ (t.length ≤ 1000 ∧ ∀ c ∈ t, abcd c)) 0 G1.is (src_str (ev_var rfl)) (fun z => z) (by omega) (fun _ => rfl) (fun j y H2 hj hy R2 Q2 q2 => ?_) fun p H2 acc hp2 R2 h2' hal hg => ?_
      · obtain ⟨c, hc', rfl⟩ := at_map hy
        have hpw2 := R2.l np hpw
        refine ⟨.ref pw, rfl, rfl, T [c], rfl, _, _, rfl, rfl, fun r hr => .inl ⟨r, rfl, ?_⟩⟩
        refine (ev_len (ev_var rfl) hpw2 : Ev (tCB (rLenS K) (tCons (tVar 2) tNil)) _ H2 _) H2 (Ex.refl _) _ fun H3 e3 => ?_
        rw [List.length_map]
        have h0 : 0 ≤ r % (ws.length : Int) := Int.emod_nonneg _ (by omega)
        have h1 : r % (ws.length : Int) < (ws.length : Int) := Int.emod_lt_of_pos _ (by omega)
        obtain ⟨m, hm'⟩ := Int.eq_ofNat_of_zero_le h0
        have hml : m < ws.length := by omega
        refine ⟨r, _, rfl, rfl, by show (0 : Int) < _; omega, pw, _, _, T ws[m], rfl, rfl, ex_l e3 hpw2, ?_, q2 _ H3 ⟨_, rfl, hww _ (List.getElem_mem hml)⟩ (Rf.of_ex e3)⟩
        rw [hm']
        exact atI_nat (by rw [List.getElem?_map, List.getElem?_eq_getElem hml]; rfl)
      · obtain ⟨ts, rfl, hts⟩ := texts_of hg
        rw [List.length_map] at hal
        have hsum := sum_le (m := 1000) fun t ht => (hts t ht).1
        have hfl : ts.flatten.length ≤ 10000 := by rw [flat_len]; omega
        have h42 := R2.at_ h4 nm
        refine ⟨[], p, ts, rfl, rfl, .inl (sq_of h2'), by simp; omega, ?_⟩
        rw [joinL_nil]
        refine ⟨pm, vs.map T, T ts.flatten, rfl, rfl, h42, sz_lt (by rw [List.length_map]; omega), ?_⟩
        refine ⟨vs ++ [ts.flatten], _, none, rfl, ?_, ((h3.trans R2).upd hpm G.is).mono (by omega), by rw [upd_same, List.map_append]; rfl, by simp [h5], h6.app fun t ht => ?_⟩
        · exact (h2.trans (fun b o nb hb => R2.keep b o (fun z => nb (.inl z)) hb)).upd (.inl (.inr rfl))
        · rw [List.mem_singleton.mp ht]
          refine ⟨by omega, fun c hc' => ?_⟩
          obtain ⟨t, ht, hct⟩ := flat_mem hc'
          exact (hts t ht).2 c hct
    · rintro Hs σ' H' e ⟨vs, v4, v5, rfl, h2, h3, h4, h5, h6⟩
      exact s_ret (ev_var rfl) fun H3 e3 => k pm vs H3 (by omega) h6 hpm (h3.then e3) (e3 _ _ h4)
end
end K16
set_option Elab.async false
set_option linter.all false
set_option maxRecDepth 100000
set_option maxHeartbeats 2000000
namespace K16
open PySem PySem.Spec PyProof.Rows L2 Evl Wc Wt
/-- a displayed list of texts that is good -/
def goodT (v : V) : Bool := match v with
  | .str x => decide (x.cps.toList.length ≤ 5) && x.cps.toList.all fun c => decide (97 ≤ c) && decide (c ≤ 100)
  | _ => false
def goodL (xs : List V) : Bool := decide (1 ≤ xs.length) && decide (xs.length ≤ 6) && xs.all goodT
theorem goodL_is {xs : List V} (h : goodL xs = true) : ∃ ts : List Tx, xs = ts.map T ∧ ts ≠ [] ∧ ts.length ≤ 6 ∧ Wd 5 ts := by
  unfold goodL at h
  rw [Bool.and_eq_true, Bool.and_eq_true, decide_eq_true_eq, decide_eq_true_eq, List.all_eq_true] at h
  obtain ⟨⟨h1, h2⟩, h3⟩ := h
  obtain ⟨ts, rfl, ht⟩ := texts_of (acc := xs) (g := fun t => t.length ≤ 5 ∧ ∀ c ∈ t, abcd c) fun v hv => by
    have hg := h3 v hv
    cases v with
    | str x =>
      have hg' : (decide (x.cps.toList.length ≤ 5) && x.cps.toList.all fun c => decide (97 ≤ c) && decide (c ≤ 100)) = true := hg
      rw [Bool.and_eq_true, decide_eq_true_eq, List.all_eq_true] at hg'
      refine ⟨x.cps.toList, rfl, hg'.1, fun c hc => ?_⟩
      have := hg'.2 c hc
      rw [Bool.and_eq_true, decide_eq_true_eq, decide_eq_true_eq] at this
      exact this
    | _ => exact absurd hg (by simp [goodT])
  rw [List.length_map] at h1 h2
  exact ⟨ts, rfl, fun z => by rw [z] at h1; simp at h1, h2, ht⟩
/-- references to new lists of texts -/
def ListsAt (xs : List V) (H0 H : Hp) : Prop := ∀ v ∈ xs, ∃ (q : Addr) (ts : List Tx), v = .ref q ∧ H q = some (.lst (ts.map T)) ∧ (ts ≠ [] ∧ ts.length ≤ 6 ∧ Wd 5 ts) ∧ H0 q = none
def LA (ta : TA) (σ : L2.St) (n : Nat) : Prop := ∀ H (Q : List V → Hp → Prop), (∀ xs H1, Ex H H1 → xs.length = n → ListsAt xs H H1 → Q xs H1) → ta σ H Q
theorem la_nil {σ : L2.St} : LA tNil σ 0 := fun H Q q => q [] H (Ex.refl _) rfl fun v hv => nomatch hv
theorem la_cons {σ : L2.St} {te : TE} {tr : TA} {xs : List V} {n : Nat} (h : ∀ H, EvL te σ H xs) (hg : goodL xs = true) (hr : LA tr σ n) : LA (tCons te tr) σ (n + 1) := fun H Q q =>
  h H H (Ex.refl _) _ fun p H1 hp e1 h1 => hr H1 _ fun vs H2 e2 hl hA => q _ H2 (e1.trans e2) (by rw [List.length_cons, hl]) fun v hv => by
    rcases List.mem_cons.mp hv with rfl | hv
    · obtain ⟨ts, rfl, hts⟩ := goodL_is hg
      exact ⟨p, ts, rfl, e2 _ _ h1, hts, hp⟩
    · obtain ⟨r, ts, rfl, h3, h4, h5⟩ := hA v hv
      exact ⟨r, ts, rfl, h3, h4, fresh_back e1 h5⟩
theorem LA.lst {σ : L2.St} {ta : TA} {n : Nat} (h : LA ta σ n) (hn : n ≤ 1000) {H : Hp} (Q : VK) (k : ∀ p xs H1, Ex H H1 → xs.length = n → H p = none → H1 p = some (.lst xs) → ListsAt xs H H1 → Q (.ref p) H1) : tLst ta σ H Q :=
  h H _ fun xs H1 e1 hl A => ⟨by rw [hl]; exact sz_of (by omega), fun p hp => k p xs _ (e1.trans (Ex.new hp)) hl (fresh_back e1 hp) upd_same fun v hv => by
    obtain ⟨r, ts, rfl, h3, h4, h5⟩ := A v hv
    exact ⟨r, ts, rfl, Ex.new hp _ _ h3, h4, h5⟩⟩
theorem LA.cat {σ : L2.St} {ta : TA} {n j : Nat} {p : Addr} {xs : List V} (h : LA ta σ n) (hn : n ≤ 1000) (hx : xs.length ≤ 1000) {H : Hp} (h0 : σ[j]? = some (some (.ref p))) (hp : H p = some (.lst xs)) (Q : VK) (k : ∀ q ys H1, Ex H H1 → ys.length = n → H q = none → H1 q = some (.lst (xs ++ ys)) → ListsAt ys H H1 → Q (.ref q) H1) : tOp rCat (tVar j) (tLst ta) σ H Q :=
  ⟨.ref p, h0, h.lst hn _ fun r ys H1 e1 hl hr h1 A => ⟨p, r, xs, ys, rfl, rfl, e1 _ _ hp, h1, by rw [hl]; exact sz_of (by omega), fun q hq => k q ys _ (e1.trans (Ex.new hq)) hl (fresh_back e1 hq) upd_same fun v hv => by
    obtain ⟨r, ts, rfl, h3, h4, h5⟩ := A v hv
    exact ⟨r, ts, rfl, Ex.new hq _ _ h3, h4, h5⟩⟩⟩
theorem ListsAt.go {xs : List V} {H0 H H1 : Hp} (A : ListsAt xs H0 H) (e : Ex H H1) : ListsAt xs H0 H1 := fun v hv => by
  obtain ⟨r, ts, rfl, h3, h4, h5⟩ := A v hv
  exact ⟨r, ts, rfl, e _ _ h3, h4, h5⟩
theorem ListsAt.back {xs : List V} {H0 H1 H : Hp} (A : ListsAt xs H1 H) (e : Ex H0 H1) : ListsAt xs H0 H := fun v hv => by
  obtain ⟨r, ts, rfl, h3, h4, h5⟩ := A v hv
  exact ⟨r, ts, rfl, h3, h4, fresh_back e h5⟩
theorem ListsAt.app {xs ys : List V} {H0 H : Hp} (A : ListsAt xs H0 H) (B : ListsAt ys H0 H) : ListsAt (xs ++ ys) H0 H := fun v hv => (List.mem_append.mp hv).elim (A v) (B v)
theorem q_LA {σ : L2.St} {ta : TA} {n i : Nat} {tz : TS} {D : Ends} {H : Hp} (h : LA ta σ n) (hn : n ≤ 1000) (k : ∀ p xs H1, Ex H H1 → xs.length = n → H p = none → H1 p = some (.lst xs) → ListsAt xs H H1 → tz D (σ.set i (some (.ref p))) H1) : tSeq (tAsg (tLst ta) (gName i)) tz D σ H := h.lst hn (fun v H1 => tz D (σ.set i (some v)) H1) k
theorem q_catLA {σ : L2.St} {ta : TA} {n i j : Nat} {tz : TS} {D : Ends} {H : Hp} {p : Addr} {xs : List V} (h : LA ta σ n) (hn : n ≤ 1000) (hx : xs.length ≤ 1000) (h0 : σ[j]? = some (some (.ref p))) (hp : H p = some (.lst xs)) (k : ∀ q ys H1, Ex H H1 → ys.length = n → H q = none → H1 q = some (.lst (xs ++ ys)) → ListsAt ys H H1 → tz D (σ.set i (some (.ref q))) H1) : tSeq (tAsg (tOp rCat (tVar j) (tLst ta)) (gName i)) tz D σ H := h.cat hn hx h0 hp (fun v H1 => tz D (σ.set i (some v)) H1) k
theorem s_oneLA {K : PySem.W.Frag} {σ : L2.St} {ta : TA} {n i j : Nat} {D : Ends} {H : Hp} {p fa : Addr} {xs : List V} (h : LA ta σ n) (hn : n ≤ 1000) (hx : xs.length ≤ 1000) (hx0 : xs ≠ []) (hf : σ[i]? = some (some (.ref fa))) (h0 : σ[j]? = some (some (.ref p))) (hp : H p = some (.lst xs)) (G : GF fa 1 H) (k : ∀ v ys H1 H2, Ex H H1 → ListsAt ys H H1 → v ∈ xs ++ ys → Rf fa 1 H1 H2 → D.rt v H2) :
    tRet (tCall (sp_one K) [] E0 (tCons (tVar i) (tCons (tOp rCat (tVar j) (tLst ta)) tNil))) D σ H :=
  ⟨.ref fa, hf, h.cat hn hx h0 hp _ fun q ys H1 e1 hl hq h1 A => ⟨fa, G.ex e1, .inr ⟨q, xs ++ ys, rfl, .inl (sq_of h1), G.new hq, fun z => hx0 (List.append_eq_nil_iff.mp z).1, by rw [List.length_append, hl]; omega, fun v H2 hv R => k v ys H1 H2 e1 A hv R⟩⟩⟩
section
variable {P : Program} {w : World} {K : PySem.W.Frag} {mg : Str → Option Value} {base : Heap}
def sp_code : Sp := fun vs H Q _ => ∃ (fa : Addr), vs = [.ref fa] ∧ GF fa 1 H ∧ ∀ q ts H', ts ≠ [] → ts.length ≤ 6 → Wd 5 ts → H q = none → Rf fa 1 H H' → H' q = some (.lst (ts.map T)) → Q (.ref q) H'
theorem ok__law_code {f : Addr} {fd : FuncData} (F : Fun K "_law_code" "_law_code" st__law_code f fd) (M : Md K mg) (C__law_one : Cal P w K mg base "_law_one" st__law_one 2 ["feed", "things"] (sp_one K)) : FnOk P w K mg base CX0 3 f fd ["feed"] sp_code := by
  have nd := sc__law_code.nd
  refine F.ok sc__law_code (fun vs H Q E h => ?_) (fun cdv A outer s H vs Q E hr h => ?_)
  · obtain ⟨_, rfl, _⟩ := h
    rfl
  · obtain ⟨fa, rfl, G, k⟩ := h
    refine ⟨_, (pss_cons (ps_set (i := 1) nd rfl (Or.inl rfl) (pe_lst (pa_cons (pe_lst (pa_cons (pe_sT [97]) (pa_cons (pe_sT [97, 98]) (pa_cons (pe_sT [98, 98]) pa_nil)))) (pa_cons (pe_lst (pa_cons (pe_sT [97]) (pa_cons (pe_sT [97, 98]) (pa_cons (pe_sT [98, 97]) pa_nil)))) (pa_cons (pe_lst (pa_cons (pe_sT [97, 97]) (pa_cons (pe_sT [97, 98]) (pa_cons (pe_sT [98]) pa_nil)))) (pa_cons (pe_lst (pa_cons (pe_sT [97]) (pa_cons (pe_sT [98, 97]) (pa_cons (pe_sT [98, 98]) pa_nil)))) (pa_cons (pe_lst (pa_cons (pe_sT [97]) (pa_cons (pe_sT [97, 98, 97]) (pa_cons (pe_sT [98, 98]) pa_nil)))) (pa_cons (pe_lst (pa_cons (pe_sT [97, 98]) (pa_cons (pe_sT [97, 98, 98]) (pa_cons (pe_sT [98, 97, 97]) pa_nil)))) (pa_cons (pe_lst (pa_cons (pe_sT [97, 97]) (pa_cons (pe_sT [98, 97]) (pa_cons (pe_sT [98, 98]) (pa_cons (pe_sT [98, 97, 97]) (pa_cons (pe_sT [98, 98, 97]) pa_nil)))))) pa_nil)))))))))
  (pss_cons (ps_set (i := 1) nd rfl (Or.inl rfl) (pe_op op_cat (pv 1) (pe_lst (pa_cons (pe_lst (pa_cons (pe_sT [97, 98]) (pa_cons (pe_sT [98, 97]) (pa_cons (pe_sT [97, 97, 98]) (pa_cons (pe_sT [98, 98, 97]) (pa_cons (pe_sT [97, 98, 98, 97]) pa_nil)))))) (pa_cons (pe_lst (pa_cons (pe_sT [97]) (pa_cons (pe_sT [97, 97]) pa_nil))) (pa_cons (pe_lst (pa_cons (pe_sT [97, 97]) (pa_cons (pe_sT [97, 97, 97]) pa_nil))) (pa_cons (pe_lst (pa_cons (pe_sT [97, 98, 99]) (pa_cons (pe_sT [98, 99, 97]) (pa_cons (pe_sT [99]) (pa_cons (pe_sT [97, 98]) pa_nil))))) (pa_cons (pe_lst (pa_cons (pe_sT [97]) (pa_cons (pe_sT [99]) (pa_cons (pe_sT [97, 100]) (pa_cons (pe_sT [97, 98, 98]) (pa_cons (pe_sT [98, 97, 100]) (pa_cons (pe_sT [100, 98, 98]) pa_nil))))))) (pa_cons (pe_lst (pa_cons (pe_sT [98]) (pa_cons (pe_sT [97, 98, 98]) (pa_cons (pe_sT [97, 98, 98, 97]) (pa_cons (pe_sT [98, 98, 97]) pa_nil))))) pa_nil)))))))))
  (pss_one (ps_ret (pe_cl C__law_one hr (pa_cons (pv 0) (pa_cons (pe_op op_cat (pv 1) (pe_lst (pa_cons (pe_lst (pa_cons (pe_sT [97, 98]) (pa_cons (pe_sT [97, 97, 98]) (pa_cons (pe_sT [97, 97, 98, 98]) (pa_cons (pe_sT [98, 98, 97, 97]) (pa_cons (pe_sT [97, 98, 97, 98]) pa_nil)))))) (pa_cons (pe_lst (pa_cons (pe_sT [97]) (pa_cons (pe_sT [98]) (pa_cons (pe_sT [99]) (pa_cons (pe_sT [100]) pa_nil))))) (pa_cons (pe_lst (pa_cons (pe_sT [97]) (pa_cons (pe_sT [98]) (pa_cons (pe_sT [97, 98]) pa_nil)))) (pa_cons (pe_lst (pa_cons (pe_sT [97, 98, 97, 98]) (pa_cons (pe_sT [97, 98]) (pa_cons (pe_sT [98, 97]) pa_nil)))) (pa_cons (pe_lst (pa_cons (pe_sT [97, 97, 98]) (pa_cons (pe_sT [97, 98]) (pa_cons (pe_sT [97, 98, 97, 97, 98]) pa_nil)))) pa_nil))))))) pa_nil))))))), ?_⟩
    have l1 : LA _ (start N__law_code [.ref fa]) 7 := (la_cons (fun _ => el_lst (ea_cons (ev_c (v := T [97])) (ea_cons (ev_c (v := T [97, 98])) (ea_cons (ev_c (v := T [98, 98])) ea_nil))) (by show 3 ≤ 100000; decide)) (by rfl) (la_cons (fun _ => el_lst (ea_cons (ev_c (v := T [97])) (ea_cons (ev_c (v := T [97, 98])) (ea_cons (ev_c (v := T [98, 97])) ea_nil))) (by show 3 ≤ 100000; decide)) (by rfl) (la_cons (fun _ => el_lst (ea_cons (ev_c (v := T [97, 97])) (ea_cons (ev_c (v := T [97, 98])) (ea_cons (ev_c (v := T [98])) ea_nil))) (by show 3 ≤ 100000; decide)) (by rfl) (la_cons (fun _ => el_lst (ea_cons (ev_c (v := T [97])) (ea_cons (ev_c (v := T [98, 97])) (ea_cons (ev_c (v := T [98, 98])) ea_nil))) (by show 3 ≤ 100000; decide)) (by rfl) (la_cons (fun _ => el_lst (ea_cons (ev_c (v := T [97])) (ea_cons (ev_c (v := T [97, 98, 97])) (ea_cons (ev_c (v := T [98, 98])) ea_nil))) (by show 3 ≤ 100000; decide)) (by rfl) (la_cons (fun _ => el_lst (ea_cons (ev_c (v := T [97, 98])) (ea_cons (ev_c (v := T [97, 98, 98])) (ea_cons (ev_c (v := T [98, 97, 97])) ea_nil))) (by show 3 ≤ 100000; decide)) (by rfl) (la_cons (fun _ => el_lst (ea_cons (ev_c (v := T [97, 97])) (ea_cons (ev_c (v := T [98, 97])) (ea_cons (ev_c (v := T [98, 98])) (ea_cons (ev_c (v := T [98, 97, 97])) (ea_cons (ev_c (v := T [98, 98, 97])) ea_nil))))) (by show 5 ≤ 100000; decide)) (by rfl) la_nil)))))))
    refine q_LA l1 (by decide) fun p1 xs H1 e1 n1 hp1 h1 A1 => ?_
    show tSeq _ _ _ [some (.ref fa), some (.ref p1)] H1
    have l2 : LA _ [some (.ref fa), some (.ref p1)] 6 := (la_cons (fun _ => el_lst (ea_cons (ev_c (v := T [97, 98])) (ea_cons (ev_c (v := T [98, 97])) (ea_cons (ev_c (v := T [97, 97, 98])) (ea_cons (ev_c (v := T [98, 98, 97])) (ea_cons (ev_c (v := T [97, 98, 98, 97])) ea_nil))))) (by show 5 ≤ 100000; decide)) (by rfl) (la_cons (fun _ => el_lst (ea_cons (ev_c (v := T [97])) (ea_cons (ev_c (v := T [97, 97])) ea_nil)) (by show 2 ≤ 100000; decide)) (by rfl) (la_cons (fun _ => el_lst (ea_cons (ev_c (v := T [97, 97])) (ea_cons (ev_c (v := T [97, 97, 97])) ea_nil)) (by show 2 ≤ 100000; decide)) (by rfl) (la_cons (fun _ => el_lst (ea_cons (ev_c (v := T [97, 98, 99])) (ea_cons (ev_c (v := T [98, 99, 97])) (ea_cons (ev_c (v := T [99])) (ea_cons (ev_c (v := T [97, 98])) ea_nil)))) (by show 4 ≤ 100000; decide)) (by rfl) (la_cons (fun _ => el_lst (ea_cons (ev_c (v := T [97])) (ea_cons (ev_c (v := T [99])) (ea_cons (ev_c (v := T [97, 100])) (ea_cons (ev_c (v := T [97, 98, 98])) (ea_cons (ev_c (v := T [98, 97, 100])) (ea_cons (ev_c (v := T [100, 98, 98])) ea_nil)))))) (by show 6 ≤ 100000; decide)) (by rfl) (la_cons (fun _ => el_lst (ea_cons (ev_c (v := T [98])) (ea_cons (ev_c (v := T [97, 98, 98])) (ea_cons (ev_c (v := T [97, 98, 98, 97])) (ea_cons (ev_c (v := T [98, 98, 97])) ea_nil)))) (by show 4 ≤ 100000; decide)) (by rfl) la_nil))))))
    refine q_catLA l2 (by decide) (by rw [n1]; decide) rfl h1 fun p3 ys H2 e2 n2 hp3 h3 A2 => ?_
    show tRet _ _ [some (.ref fa), some (.ref p3)] H2
    have l3 : LA _ [some (.ref fa), some (.ref p3)] 5 := (la_cons (fun _ => el_lst (ea_cons (ev_c (v := T [97, 98])) (ea_cons (ev_c (v := T [97, 97, 98])) (ea_cons (ev_c (v := T [97, 97, 98, 98])) (ea_cons (ev_c (v := T [98, 98, 97, 97])) (ea_cons (ev_c (v := T [97, 98, 97, 98])) ea_nil))))) (by show 5 ≤ 100000; decide)) (by rfl) (la_cons (fun _ => el_lst (ea_cons (ev_c (v := T [97])) (ea_cons (ev_c (v := T [98])) (ea_cons (ev_c (v := T [99])) (ea_cons (ev_c (v := T [100])) ea_nil)))) (by show 4 ≤ 100000; decide)) (by rfl) (la_cons (fun _ => el_lst (ea_cons (ev_c (v := T [97])) (ea_cons (ev_c (v := T [98])) (ea_cons (ev_c (v := T [97, 98])) ea_nil))) (by show 3 ≤ 100000; decide)) (by rfl) (la_cons (fun _ => el_lst (ea_cons (ev_c (v := T [97, 98, 97, 98])) (ea_cons (ev_c (v := T [97, 98])) (ea_cons (ev_c (v := T [98, 97])) ea_nil))) (by show 3 ≤ 100000; decide)) (by rfl) (la_cons (fun _ => el_lst (ea_cons (ev_c (v := T [97, 97, 98])) (ea_cons (ev_c (v := T [97, 98])) (ea_cons (ev_c (v := T [97, 98, 97, 97, 98])) ea_nil))) (by show 3 ≤ 100000; decide)) (by rfl) la_nil)))))
    have e12 := e1.trans e2
    refine s_oneLA l3 (by decide) (by rw [List.length_append, n1, n2]; decide) (fun z => by have := congrArg List.length z; rw [List.length_append, n1, n2] at this; cases this) rfl rfl h3 (G.ex e12) fun v zs H3 H4 e3 A3 hv R => ?_
    have AA := (((A1.go e2).app (A2.back e1)).go e3).app (A3.back e12)
    obtain ⟨q, ts, rfl, h4, ⟨h5, h6, h7⟩, h8⟩ := AA v hv
    exact k q ts H4 h5 h6 h7 h8 (.pre (e12.trans e3) R) (R.at_ h4 (G.new h8))
end
end K16
set_option Elab.async false
set_option linter.all false
set_option maxRecDepth 100000
set_option maxHeartbeats 4000000
namespace K16
open PySem PySem.Spec PyProof.Rows L2 Evl Wc Wt
section
variable {K : PySem.W.Frag} {fa : Addr} {m : Nat} {H : Hp} {σ : L2.St}
def sp_lot : Sp := fun vs H Q _ => ∃ (fa : Addr) (most : Nat), vs = [.ref fa, .int (most : Int)] ∧ 1 ≤ most ∧ most ≤ 12 ∧ GF fa 20000 H ∧ ∀ q lot H', IsLot lot → lot.length ≤ most → H q = none → Rf fa 20000 H H' → H' q = some (.tup (lot.map T)) → Q (.ref q) H'
/-- words are made -/
def WL (fa : Addr) (σ : L2.St) (H : Hp) (m : Nat) (te : TE) : Prop := ∀ Q' : VK, (∀ p ws H1, Wd 100000 ws → ws.length ≤ 1000 → p ≠ fa → Rf fa m H H1 → H1 p = some (.lst (ws.map T)) → Q' (.ref p) H1) → te σ H Q'
theorem s_kept {D : Ends} {tw : TE} {most : Nat} (hW : WL fa σ H m tw) (h0 : σ[0]? = some (some (.ref fa))) (h1 : σ[1]? = some (some (.int (most : Int)))) (hm1 : 1 ≤ most) (hm2 : most ≤ 12) (G : GF fa (m + 1000) H)
    (k : ∀ q lot H2, IsLot lot → lot.length ≤ most → H q = none → Rf fa (m + 1000) H H2 → H2 q = some (.tup (lot.map T)) → D.rt (.ref q) H2) : tRet (tCall (sp_kept K) [] E0 (tCons (tVar 0) (tCons tw (tCons (tVar 1) tNil)))) D σ H :=
  ⟨.ref fa, h0, hW _ fun p ws H1 hw hl hp R h1' => ⟨.int (most : Int), h1, fa, p, ws, most, rfl, sq_of h1', hp, hl, hw, hm1, hm2, G.go R (Nat.le_refl _), fun q lot H2 hL hlen hq R2 h2 => k q lot H2 hL hlen (R.free G.is hq (G.go R (m' := 0) (by omega)).is) (R.trans R2) h2⟩⟩
theorem wl_texts {acc : List V} {lo n : Nat} (h : ∀ v ∈ acc, GdT abcd lo n v) (hn : n ≤ 100000) : ∃ ws : List Tx, acc = ws.map T ∧ Wd 100000 ws ∧ ∀ t ∈ ws, lo ≤ t.length ∧ t.length ≤ n := by
  obtain ⟨ws, rfl, hw⟩ := texts_GdT h
  exact ⟨ws, rfl, fun t ht => ⟨by have := (hw t ht).2.1; omega, (hw t ht).2.2⟩, fun t ht => ⟨(hw t ht).1, (hw t ht).2.1⟩⟩
/-- words by a comprehension over a range -/
theorem wl_range {te0 te : TE} {j : Nat} {vs : List Nat} {lo N c m0 lo' n : Nat} (hc : Dw fa σ m0 te0 (GdI (lo : Int) (N : Int))) (hN : N ≤ 1000) (G : GF fa (m0 + N * c) H) (hw : ∀ x, wipe ((wipe σ vs).set j (some x)) vs = wipe σ vs)
    (he : ∀ x k H1, Rf fa k H H1 → GF fa c H1 → ∀ Q' : VK, (∀ y H2, GdT abcd lo' n y → Rf fa c H1 H2 → Q' y H2) → te ((wipe σ vs).set j (some x)) H1 Q') (hn : n ≤ 100000) : WL fa σ H (m0 + N * c) (tLc (iRng1 (tCons te0 tNil)) (gName j) tYes te vs) := fun Q' q' =>
  lcRD (GdT abcd lo' n) hc hN G hw he Q' fun p H2 acc hp R h2 hl1 hl2 hg => by
    obtain ⟨ws, rfl, hws, _⟩ := wl_texts hg hn
    rw [List.length_map] at hl2
    exact q' p ws H2 hws (by omega) (G.new hp) R h2
theorem q_lcRD {D : Ends} {tz : TS} {te te0 : TE} {i j : Nat} {vs : List Nat} {lo N c m0 : Nat} (good : V → Prop) (hc : Dw fa σ m0 te0 (GdI (lo : Int) (N : Int))) (hN : N ≤ 1000) (G : GF fa (m0 + N * c) H) (hw : ∀ x, wipe ((wipe σ vs).set j (some x)) vs = wipe σ vs)
    (he : ∀ x n H1, Rf fa n H H1 → GF fa c H1 → ∀ Q' : VK, (∀ y H2, good y → Rf fa c H1 H2 → Q' y H2) → te ((wipe σ vs).set j (some x)) H1 Q')
    (k : ∀ p H2 acc, H p = none → Rf fa (m0 + N * c) H H2 → H2 p = some (.lst acc) → lo ≤ acc.length → acc.length ≤ N → (∀ v ∈ acc, good v) → tz D (σ.set i (some (.ref p))) H2) : tSeq (tAsg (tLc (iRng1 (tCons te0 tNil)) (gName j) tYes te vs) (gName i)) tz D σ H :=
  lcRD good hc hN G hw he (fun v H1 => tz D (σ.set i (some v)) H1) k
theorem WL.mono {te : TE} {m' : Nat} (h : WL fa σ H m te) (hm : m ≤ m') : WL fa σ H m' te := fun Q' q' => h Q' fun p ws H1 a b c R d => q' p ws H1 a b c (R.mono hm) d
theorem dw_at {te : TE} {c : Nat} {g : V → Prop} (h : Dw fa σ c te g) : ∀ k H1, Rf fa k H H1 → GF fa c H1 → ∀ Q' : VK, (∀ y H2, g y → Rf fa c H1 H2 → Q' y H2) → te σ H1 Q' := fun _ H1 _ G Q' q' => h H1 G Q' q'
end
section
variable {P : Program} {w : World} {K : PySem.W.Frag} {mg : Str → Option Value} {base : Heap}
/-- the scope of the outer comprehension of the last way -/
abbrev sc_place : Scope := { kind := .function, names := [(".0", .local), ("turn", .local), ("range", .globalImplicit), ("feed", .cell), ("long", .cell), ("signs", .cell)], isGenerator := false, isCoroutine := false }
theorem ok__law_lot {f : Addr} {fd : FuncData} (F : Fun K "_law_lot" "_law_lot" st__law_lot f fd) (M : Md K mg) (C__law_draw : Cal P w K mg base "_law_draw" st__law_draw 1 ["feed", "many"] sp_draw) (C__law_one : Cal P w K mg base "_law_one" st__law_one 2 ["feed", "things"] (sp_one K)) (C__law_text : Cal P w K mg base "_law_text" st__law_text 3 ["feed", "signs", "most"] sp_text) (C__law_kept : Cal P w K mg base "_law_kept" st__law_kept 3 ["feed", "words", "most"] (sp_kept K)) (C__law_split : Cal P w K mg base "_law_split" st__law_split 2 ["feed", "signs", "turns"] sp_split) (C__law_joined : Cal P w K mg base "_law_joined" st__law_joined 3 ["feed", "words", "turns"] sp_joined) (C__law_made : Cal P w K mg base "_law_made" st__law_made 1 ["feed", "code", "words"] (sp_made K)) (C__law_code : Cal P w K mg base "_law_code" st__law_code 3 ["feed"] sp_code) : FnOk P w K mg base CX0 4 f fd ["feed", "most"] sp_lot := by
  have nd := sc__law_lot.nd
  refine F.ok sc__law_lot (fun vs H Q E h => ?_) (fun cdv A outer s H vs Q E hr h => ?_)
  · obtain ⟨_, _, rfl, _⟩ := h
    rfl
  · obtain ⟨fa, most, rfl, hm1, hm2, G, k⟩ := h
    refine ⟨_, (pss_cons (ps_asg (pe_tup (pa_cons (pe_slice sl_T (pe_sT [97, 98, 99, 100]) po_none (po_some (pe_cl C__law_one hr (pa_cons (pv 0) (pa_cons (pe_lst (pa_cons pe_int (pa_cons pe_int (pa_cons pe_int (pa_cons pe_int (pa_cons pe_int (pa_cons pe_int pa_nil))))))) pa_nil))))) (pa_cons (pe_cl C__law_draw hr (pa_cons (pv 0) (pa_cons pe_int pa_nil))) pa_nil))) (kgt K (n := 2) (pg_tup rfl (pgs_cons (pg_name (i := 2) nd rfl (Or.inr rfl)) (pgs_cons (pg_name (i := 3) nd rfl (Or.inl rfl)) pgs_nil)))))
  (pss_cons (ps_if (pt_cmpR op_lt (pv 3) pe_int (nomark _))
  (pss_cons (ps_set (i := 4) nd rfl (Or.inr rfl) (pe_cl C__law_one hr (pa_cons (pv 0) (pa_cons (pe_lst (pa_cons pe_int (pa_cons pe_int (pa_cons pe_int (pa_cons pe_int (pa_cons pe_int pa_nil)))))) pa_nil))))
  (pss_one (ps_ret (pe_cl C__law_kept hr (pa_cons (pv 0) (pa_cons (pe_lc (own := [("turn", 5)]) rfl nd (pi_range1 (by rfl) M.n_range (pa_cons (pe_op op_add pe_int (pe_cl C__law_draw hr (pa_cons (pv 0) (pa_cons (pv 1) pa_nil)))) pa_nil)) (blkOk_by (N := N__law_lot) (sc := defScope st__law_lot) (by decide +kernel)) (fun _ _ _ _ _ => (pg_name (i := 5) nd rfl (Or.inl rfl))) (fun _ _ _ _ _ => pts_nil) (fun _ _ _ _ _ => (pe_op op_addT (pe_cl C__law_one hr (pa_cons (pv 0) (pa_cons (pv 2) pa_nil))) (pe_cl C__law_text hr (pa_cons (pv 0) (pa_cons (pv 2) (pa_cons (pe_op op_sub (pv 4) pe_int) pa_nil))))))) (pa_cons (pv 1) pa_nil)))))))
  pss_nil)
  (pss_cons (ps_if (pt_cmpR op_eqI (pv 3) pe_int (nomark _))
  (pss_one (ps_ret (pe_cl C__law_kept hr (pa_cons (pv 0) (pa_cons (pe_lc (own := [("word", 6)]) rfl nd (kil K (pi_list (pe_cl C__law_split hr (pa_cons (pv 0) (pa_cons (pv 2) (pa_cons (pe_cl C__law_draw hr (pa_cons (pv 0) (pa_cons pe_int pa_nil))) pa_nil)))))) (blkOk_by (N := N__law_lot) (sc := defScope st__law_lot) (by decide +kernel)) (fun _ _ _ _ _ => (pg_name (i := 6) nd rfl (Or.inl rfl))) (fun _ _ _ _ _ => (pts_one (pt_cmpR op_gt (pe_cl C__law_draw hr (pa_cons (pv 0) (pa_cons pe_int pa_nil))) pe_int (nomark _)))) (fun _ _ _ _ _ => (pv 6))) (pa_cons (pv 1) pa_nil))))))
  pss_nil)
  (pss_cons (ps_if (pt_cmpR op_eqI (pv 3) pe_int (nomark _))
  (pss_one (ps_ret (pe_cl C__law_kept hr (pa_cons (pv 0) (pa_cons (pe_lc (own := [("word", 6)]) rfl nd (kil K (pi_list (pe_cl C__law_split hr (pa_cons (pv 0) (pa_cons (pv 2) (pa_cons (pe_op op_add pe_int (pe_cl C__law_draw hr (pa_cons (pv 0) (pa_cons pe_int pa_nil)))) pa_nil)))))) (blkOk_by (N := N__law_lot) (sc := defScope st__law_lot) (by decide +kernel)) (fun _ _ _ _ _ => (pg_name (i := 6) nd rfl (Or.inl rfl))) (fun _ _ _ _ _ => pts_nil) (fun _ _ _ _ _ => (pe_revT (pv 6)))) (pa_cons (pv 1) pa_nil))))))
  pss_nil)
  (pss_cons (ps_if (pt_cmpR op_eqI (pv 3) pe_int (nomark _))
  (pss_one (ps_ret (pe_cl C__law_kept hr (pa_cons (pv 0) (pa_cons (pe_cl C__law_joined hr (pa_cons (pv 0) (pa_cons (pe_cl C__law_split hr (pa_cons (pv 0) (pa_cons (pv 2) (pa_cons (pe_op op_add pe_int (pe_cl C__law_draw hr (pa_cons (pv 0) (pa_cons pe_int pa_nil)))) pa_nil)))) (pa_cons (pe_op op_add pe_int (pe_cl C__law_draw hr (pa_cons (pv 0) (pa_cons pe_int pa_nil)))) pa_nil)))) (pa_cons (pv 1) pa_nil))))))
  pss_nil)
  (pss_cons (ps_if (pt_cmpR op_eqI (pv 3) pe_int (nomark _))
  (pss_cons (ps_set (i := 7) nd rfl (Or.inr rfl) (pe_op op_addT (pe_cl C__law_one hr (pa_cons (pv 0) (pa_cons (pv 2) pa_nil))) (pe_cl C__law_text hr (pa_cons (pv 0) (pa_cons (pv 2) (pa_cons (pe_cl C__law_one hr (pa_cons (pv 0) (pa_cons (pe_lst (pa_cons pe_int (pa_cons pe_int (pa_cons pe_int (pa_cons pe_int pa_nil))))) pa_nil))) pa_nil))))))
  (pss_one (ps_ret (pe_cl C__law_kept hr (pa_cons (pv 0) (pa_cons (pe_lc (own := [("turn", 5)]) rfl nd (pi_range1 (by rfl) M.n_range (pa_cons (pe_op op_add pe_int (pe_cl C__law_draw hr (pa_cons (pv 0) (pa_cons pe_int pa_nil)))) pa_nil)) (blkOk_by (N := N__law_lot) (sc := defScope st__law_lot) (by decide +kernel)) (fun _ _ _ _ _ => (pg_name (i := 5) nd rfl (Or.inl rfl))) (fun _ _ _ _ _ => pts_nil) (fun _ _ _ _ _ => (pe_op op_mulT (pv 7) (pe_op op_add pe_int (pe_cl C__law_draw hr (pa_cons (pv 0) (pa_cons (pe_op op_fdivW pe_int (pe_callB cr_lenT (by rfl) M.n_len boot_len (pa_cons (pv 7) pa_nil))) pa_nil))))))) (pa_cons (pv 1) pa_nil)))))))
  pss_nil)
  (pss_cons (ps_if (pt_cmpR op_eqI (pv 3) pe_int (nomark _))
  (pss_cons (ps_set (i := 8) nd rfl (Or.inr rfl) (pe_lc (own := [("turn", 5)]) rfl nd (pi_range1 (by rfl) M.n_range (pa_cons pe_int pa_nil)) (blkOk_by (N := N__law_lot) (sc := defScope st__law_lot) (by decide +kernel)) (fun _ _ _ _ _ => (pg_name (i := 5) nd rfl (Or.inl rfl))) (fun _ _ _ _ _ => pts_nil) (fun _ _ _ _ _ => (pe_cl C__law_text hr (pa_cons (pv 0) (pa_cons (pv 2) (pa_cons pe_int pa_nil)))))))
  (pss_one (ps_ret (pe_cl C__law_kept hr (pa_cons (pv 0) (pa_cons (pe_lc (own := [("turn", 5)]) rfl nd (pi_range1 (by rfl) M.n_range (pa_cons (pe_op op_add pe_int (pe_cl C__law_draw hr (pa_cons (pv 0) (pa_cons (pv 1) pa_nil)))) pa_nil)) (blkOk_by (N := N__law_lot) (sc := defScope st__law_lot) (by decide +kernel)) (fun _ _ _ _ _ => (pg_name (i := 5) nd rfl (Or.inl rfl))) (fun _ _ _ _ _ => pts_nil) (fun _ _ _ _ _ => (pe_op op_addT (pe_op op_addT (pe_cl C__law_one hr (pa_cons (pv 0) (pa_cons (pv 8) pa_nil))) (pe_cl C__law_text hr (pa_cons (pv 0) (pa_cons (pv 2) (pa_cons pe_int pa_nil))))) (pe_cl C__law_one hr (pa_cons (pv 0) (pa_cons (pv 8) pa_nil)))))) (pa_cons (pv 1) pa_nil)))))))
  pss_nil)
  (pss_cons (ps_if (pt_cmpR op_eqI (pv 3) pe_int (nomark _))
  (pss_one (ps_ret (pe_cl C__law_kept hr (pa_cons (pv 0) (pa_cons (pe_cl C__law_code hr (pa_cons (pv 0) pa_nil)) (pa_cons (pv 1) pa_nil))))))
  pss_nil)
  (pss_cons (ps_if (pt_cmpR op_eqI (pv 3) pe_int (nomark _))
  (pss_cons (ps_setLc (i := 9) (own := [("turn", 5)]) rfl nd rfl rfl (sw_true rfl rfl rfl (by decide +kernel)) (pi_range1 (by rfl) M.n_range (pa_cons pe_int pa_nil)) (blkOk_by (N := N__law_lot) (sc := defScope st__law_lot) (by decide +kernel)) (fun _ _ _ _ _ => (pg_name (i := 5) nd rfl (Or.inl rfl))) (fun _ _ _ _ _ => pts_nil) (fun _ _ _ _ _ => (pe_op op_addT (pe_cl C__law_one hr (pa_cons (pv 0) (pa_cons (pe_sT [97, 98, 99, 100]) pa_nil))) (pe_cl C__law_text hr (pa_cons (pv 0) (pa_cons (pv 2) (pa_cons pe_int pa_nil)))))))
  (pss_one (ps_ret (pe_cl C__law_kept hr (pa_cons (pv 0) (pa_cons (pe_cl C__law_made hr (pa_cons (pv 0) (pa_cons (pe_cl C__law_code hr (pa_cons (pv 0) pa_nil)) (pa_cons (pv 9) pa_nil)))) (pa_cons (pv 1) pa_nil)))))))
  pss_nil)
  (pss_cons (ps_if (pt_cmpR op_eqI (pv 3) pe_int (nomark _))
  (pss_one (ps_ret (pe_cl C__law_kept hr (pa_cons (pv 0) (pa_cons (pe_cl C__law_made hr (pa_cons (pv 0) (pa_cons (pe_cl C__law_code hr (pa_cons (pv 0) pa_nil)) (pa_cons (pe_lc (own := [("word", 6)]) rfl nd (kil K (pi_list (pe_cl C__law_code hr (pa_cons (pv 0) pa_nil)))) (blkOk_by (N := N__law_lot) (sc := defScope st__law_lot) (by decide +kernel)) (fun _ _ _ _ _ => (pg_name (i := 6) nd rfl (Or.inl rfl))) (fun _ _ _ _ _ => pts_nil) (fun _ _ _ _ _ => (pv 6))) pa_nil)))) (pa_cons (pv 1) pa_nil))))))
  pss_nil)
  (pss_cons (ps_set (i := 4) nd rfl (Or.inr rfl) (pe_op op_add pe_int (pe_cl C__law_draw hr (pa_cons (pv 0) (pa_cons pe_int pa_nil)))))
  (pss_one (ps_ret (pe_cl C__law_kept hr (pa_cons (pv 0) (pa_cons (pe_lc (own := [("turn", 5)]) rfl nd (pi_range1 (by rfl) M.n_range (pa_cons (pe_op op_add pe_int (pe_cl C__law_draw hr (pa_cons (pv 0) (pa_cons (pv 1) pa_nil)))) pa_nil)) (blkOk_by (N := N__law_lot) (sc := defScope st__law_lot) (by decide +kernel)) (fun _ _ _ _ _ => (pg_name (i := 5) nd rfl (Or.inl rfl))) (fun _ _ _ _ _ => pts_nil) (fun _ _ _ _ _ => (kbm K (pe_bm PySem.F.plainAttrs_str PySem.F.slot_str_join PySem.F.type_str_join (kmt K (r := rJoinT) mt_joinT) (pe_sT []) (pa_cons (pe_lc (own := [("place", 10)]) rfl nd (pi_range1 (by rfl) M.n_range (pa_cons (pv 4) pa_nil)) (blkOk_by (N := N__law_lot) (sc := sc_place) (by decide +kernel)) (fun _ _ _ _ _ => (pg_name (i := 10) nd rfl (Or.inl rfl))) (fun _ _ _ _ _ => pts_nil) (fun _ _ _ _ _ => (pe_cl C__law_one hr (pa_cons (pv 0) (pa_cons (pv 2) pa_nil))))) pa_nil))))) (pa_cons (pv 1) pa_nil))))))))))))))))), ?_⟩
    -- signs, way
    have hsg : Dw fa (start N__law_lot [.ref fa, .int (most : Int)]) 1 (tSl rSlT (tC (T [97, 98, 99, 100])) tNoPart (tPart (tCall (sp_one K) [] E0 (tCons (tVar 0) (tCons (tLst (tCons (tC (.int 1)) (tCons (tC (.int 2)) (tCons (tC (.int 2)) (tCons (tC (.int 2)) (tCons (tC (.int 3)) (tCons (tC (.int 4)) tNil))))))) tNil))))) (GdT abcd 1 4) := fun H G Q q =>
      dI_oneL (ns := [1, 2, 2, 2, 3, 4]) (lo := 1) (hi := 4) rfl (fun H => el_lst (ea_cons ev_c (ea_cons ev_c (ea_cons ev_c (ea_cons ev_c (ea_cons ev_c (ea_cons ev_c ea_nil)))))) (by show 6 ≤ 100000; decide)) (by decide) (by simp) (by decide) H G _ fun v H' ⟨i, hi, h1, h2⟩ R => by
        obtain ⟨n, rfl⟩ := Int.eq_ofNat_of_zero_le (show 0 ≤ i by omega)
        subst hi
        have hn : n = 1 ∨ n = 2 ∨ n = 3 ∨ n = 4 := by omega
        refine ⟨(n : Int), rfl, _, rfl, by show 4 ≤ 16777216; decide, q _ H' ⟨_, rfl, ?_, ?_, ?_⟩ R⟩
        · rw [cutT_to]
          rcases hn with rfl | rfl | rfl | rfl <;> decide
        · rw [cutT_to]
          rcases hn with rfl | rfl | rfl | rfl <;> decide
        · intro c hc
          have := cutT_mem hc
          simp at this
          unfold abcd
          omega
    refine hsg H (G.mono (by omega)) _ fun v1 H1 ⟨sg, hv1, hs1, hs2, hs3⟩ R1 => (dI_draw (lo := 11) (hi := 11) rfl dI_c : Dw fa (start N__law_lot [.ref fa, .int (most : Int)]) _ _ _) H1 (G.go R1 (m' := 1) (by omega)) _ fun v2 H2 ⟨way, hv2, hw1, hw2⟩ R2 => ⟨by show 2 ≤ sizeLine; decide, fun pt hpt => ⟨pt, _, rfl, st_of upd_same, rfl, v1, [v2], rfl, v2, [], rfl, rfl, ?_⟩⟩
    subst hv1 hv2
    have RA : Rf fa 2 H (upd H2 pt (.tup [T sg, .int way])) := (R1.trans R2).then (Ex.new hpt)
    generalize upd H2 pt (.tup [T sg, .int way]) = H3 at RA
    clear R1 R2 hpt hsg
    have hsn : sg ≠ [] := fun z => by rw [z] at hs1; simp at hs1
    show tSeq _ _ _ [some (.ref fa), some (.int (most : Int)), some (T sg), some (.int way), none, none, none, none, none, none, none] H3
    have dsg : ∀ {σ : L2.St}, σ[2]? = some (some (T sg)) → Dw fa σ 0 (tVar 2) (GdT abcd 1 4) := fun h0 => dT_var h0 hs1 hs2 hs3
    have dmo : ∀ {σ : L2.St}, σ[1]? = some (some (.int (most : Int))) → Dw fa σ 0 (tVar 1) (GdI 1 12) := fun h0 => dI_var h0 (by omega) (by omega)
    have fin : ∀ {m0 m : Nat} {HA : Hp}, Rf fa m0 H HA → m0 + (m + 1000) ≤ 20000 → ∀ q lot H2, IsLot lot → lot.length ≤ most → HA q = none → Rf fa (m + 1000) HA H2 → H2 q = some (.tup (lot.map T)) → Q (.ref q) H2 := fun {m0 m HA} RB hb q lot H2 hL hlen hq R2 h2 => k q lot H2 hL hlen (RB.free G.is hq (G.go RB (m' := 0) (by omega)).is) ((RB.trans R2).mono hb) h2
    -- way < 2
    refine q_when (et_test (ev_op (ev_var rfl) ev_c rv_I0)) (fun hb H4 e4 => ?_) (fun hb H4 e4 => ?_)
    · have RB := RA.then e4
      refine q_dw (dI_oneL (ns := [2, 3, 4, 6, 12]) (lo := 2) (hi := 12) rfl (fun H => el_lst (ea_cons ev_c (ea_cons ev_c (ea_cons ev_c (ea_cons ev_c (ea_cons ev_c ea_nil))))) (by show 5 ≤ 100000; decide)) (by decide) (by simp) (by decide)) (G.go RB (m' := 10000) (by omega)) fun v H5 ⟨long, hv, hl1, hl2⟩ R5 => ?_
      subst hv
      have RC := RB.trans R5
      show tRet _ _ [some (.ref fa), some (.int (most : Int)), some (T sg), some (.int way), some (.int long), none, none, none, none, none, none] H5
      refine s_kept (m := 1000) (WL.mono (wl_range (lo := 1) (N := 12) (c := 13) (lo' := 1) (n := 12) (dI_add dI_c (dI_draw rfl (dmo rfl))) (by decide) (G.go RC (by omega)) (fun _ => rfl) (fun x => dw_at (dT_add (dT_one rfl (dsg rfl)) (dT_text (c := 11) rfl (dsg rfl) (dI_wk (dI_sub (dI_var rfl hl1 hl2) dI_c))))) (by decide)) (by decide)) rfl rfl hm1 hm2 (G.go RC (by omega)) (fin RC (by omega))
    have RB : Rf fa 2 H H4 := RA.then e4
    clear RA e4 hb
    -- way == 2
    refine q_when (et_test (ev_op (ev_var rfl) ev_c rv_I0)) (fun hb H5 e5 => ?_) (fun hb H5 e5 => ?_)
    · have RC := RB.then e5
      have GC : GF fa 10000 H5 := G.go RC (by omega)
      refine s_kept (m := 1000) (fun Q' q' => lc_of ?_) rfl rfl hm1 hm2 (G.go RC (by omega)) (fin RC (by omega))
      refine ⟨.ref fa, rfl, T sg, rfl, (dI_draw (lo := 5) (hi := 5) rfl dI_c : Dw fa [some (.ref fa), some (.int (most : Int)), some (T sg), some (.int way), none, none, none, none, none, none, none] _ _ _) H5 (GC.mono (by omega)) _ fun v H6 ⟨tn, hv, ht1, ht2⟩ R6 => ?_⟩
      obtain ⟨tn, rfl⟩ := Int.eq_ofNat_of_zero_le ht1
      subst hv
      refine ⟨fa, sg, tn, rfl, GC.go R6 (by omega), by omega, hsn, hs2, hs3, fun q ws H7 hne hlen hwd hq R7 h7 => ?_⟩
      have R67 : Rf fa 10 H5 H7 := (R6.trans R7).mono (by omega)
      have G7 : GF fa 100 H7 := GC.go R67 (by omega)
      refine lcDT (fa := fa) (n := ws.length) (own := fun b => b = q) (P := fun i v _ => (ws.map T)[i]? = some v) (GdT abcd 0 12) 1 G7.is (src_listM (tl := fun _ H' Q' => Q' (.ref q) H') (fun H2 e2 Q2 q2 => q2 H2 (Ex.refl _)) (sq_of h7)) (fun z => ((GC.go R6 (m' := 0) (by omega)).new hq) z.symm) (by omega) (fun _ => rfl) (fun i x H8 hi hx R8 Q2 q2 => ?_) (fun i x H8 H9 hi hx R9 Q2 q2 => ?_) fun p H8 acc hp R8 h8 hl hg => ?_
      · refine dw_test (m1 := 1) (m2 := 0) (dI_draw (lo := 6) (hi := 6) rfl dI_c) dI_c (G7.go R8 (m' := 1) (by omega)) Q2 (fun b H9 R9 => q2 b H9 R9)
      · obtain ⟨t, ht, rfl⟩ := at_map hx
        have := hwd t (List.mem_of_getElem? ht)
        exact ⟨T t, rfl, q2 _ H9 ⟨t, rfl, Nat.zero_le _, this.1, this.2⟩ (Ex.refl _)⟩
      · obtain ⟨vs, rfl, hvs, _⟩ := wl_texts hg (by decide)
        rw [List.length_map] at hl
        exact q' p vs H8 hvs (by omega) (G7.new hp) ((R67.trans R8).mono (by omega)) h8
    have RC : Rf fa 2 H H5 := RB.then e5
    clear RB e5 hb
    have spl : ∀ {σ : L2.St} {HA : Hp} {te0 : TE} {m0 : Nat}, σ[0]? = some (some (.ref fa)) → σ[2]? = some (some (T sg)) → Dw fa σ m0 te0 (GdI 0 10) → GF fa (m0 + 10) HA → ∀ Q' : VK, (∀ q ws H1, ws ≠ [] → ws.length ≤ 13 → Wd 12 ws → HA q = none → Rf fa (m0 + 10) HA H1 → H1 q = some (.lst (ws.map T)) → Q' (.ref q) H1) → tCall sp_split [] E0 (tCons (tVar 0) (tCons (tVar 2) (tCons te0 tNil))) σ HA Q' := fun {σ HA te0 m0} h0 h2 hd GA Q' q' =>
      ⟨.ref fa, h0, T sg, h2, hd HA (GA.mono (by omega)) _ fun v H6 ⟨tn, hv, ht1, ht2⟩ R6 => by
        obtain ⟨tn, rfl⟩ := Int.eq_ofNat_of_zero_le ht1
        subst hv
        exact ⟨fa, sg, tn, rfl, GA.go R6 (by omega), by omega, hsn, hs2, hs3, fun q ws H7 hne hlen hwd hq R7 h7 => q' q ws H7 hne hlen hwd (R6.free GA.is hq (GA.go R6 (m' := 0) (by omega)).is) ((R6.trans R7).mono (by omega)) h7⟩⟩
    have cod : ∀ {σ : L2.St} {HA : Hp}, σ[0]? = some (some (.ref fa)) → GF fa 1 HA → ∀ Q' : VK, (∀ q ts H', ts ≠ [] → ts.length ≤ 6 → Wd 5 ts → HA q = none → Rf fa 1 HA H' → H' q = some (.lst (ts.map T)) → Q' (.ref q) H') → tCall sp_code [] E0 (tCons (tVar 0) tNil) σ HA Q' := fun h0 GA Q' q' => ⟨.ref fa, h0, fa, rfl, GA, q'⟩
    -- way == 3
    refine q_when (et_test (ev_op (ev_var rfl) ev_c rv_I0)) (fun hb H6 e6 => ?_) (fun hb H6 e6 => ?_)
    · have RD := RC.then e6
      have GD : GF fa 10000 H6 := G.go RD (by omega)
      refine s_kept (m := 1000) (fun Q' q' => lc_of (spl (m0 := 1) rfl rfl (dI_wk (dI_add dI_c (dI_draw (lo := 5) (hi := 5) rfl dI_c))) (GD.mono (by omega)) _ fun q ws H7 hne hlen hwd hq R7 h7 => ?_)) rfl rfl hm1 hm2 (G.go RD (by omega)) (fin RD (by omega))
      have G7 : GF fa 100 H7 := GD.go R7 (by omega)
      refine lcD (fa := fa) (n := ws.length) (own := fun b => b = q) (P := fun i v _ => (ws.map T)[i]? = some v) (GdT abcd 0 12) 0 G7.is (src_listM (tl := fun _ H' Q' => Q' (.ref q) H') (fun H2 e2 Q2 q2 => q2 H2 (Ex.refl _)) (sq_of h7)) (fun z => (GD.new hq) z.symm) (by omega) (fun _ => rfl) (fun i x H8 hi hx R8 Q2 q2 => ?_) fun p H8 acc hp R8 h8 hl hg => ?_
      · obtain ⟨t, ht, rfl⟩ := at_map hx
        have := hwd t (List.mem_of_getElem? ht)
        exact ⟨T t, rfl, t, rfl, by omega, q2 _ H8 ⟨t.reverse, rfl, Nat.zero_le _, by rw [List.length_reverse]; exact this.1, fun c hc => this.2 c (List.mem_reverse.mp hc)⟩ (Rf.refl _)⟩
      · obtain ⟨vs, rfl, hvs, _⟩ := wl_texts hg (by decide)
        rw [List.length_map] at hl
        exact q' p vs H8 hvs (by omega) (G7.new hp) ((R7.trans R8).mono (by omega)) h8
    have RD : Rf fa 2 H H6 := RC.then e6
    clear RC e6 hb
    -- way == 4
    refine q_when (et_test (ev_op (ev_var rfl) ev_c rv_I0)) (fun hb H7 e7 => ?_) (fun hb H7 e7 => ?_)
    · have RE := RD.then e7
      have GE : GF fa 10000 H7 := G.go RE (by omega)
      refine s_kept (m := 1000) (fun Q' q' => ⟨.ref fa, rfl, spl (m0 := 1) rfl rfl (dI_wk (dI_add dI_c (dI_draw (lo := 3) (hi := 3) rfl dI_c))) (GE.mono (by omega)) _ fun q ws H8 hne hlen hwd hq R8 h8 => (dI_add dI_c (dI_draw (lo := 3) (hi := 3) rfl dI_c) : Dw fa [some (.ref fa), some (.int (most : Int)), some (T sg), some (.int way), none, none, none, none, none, none, none] _ _ _) H8 (GE.go R8 (m' := 1) (by omega)) _ fun v H9 ⟨tn, hv, ht1, ht2⟩ R9 => ?_⟩) rfl rfl hm1 hm2 (G.go RE (by omega)) (fin RE (by omega))
      obtain ⟨tn, rfl⟩ := Int.eq_ofNat_of_zero_le (show 0 ≤ tn by omega)
      subst hv
      have nq : q ≠ fa := GE.new hq
      exact ⟨fa, q, ws, tn, rfl, R9.at_ h8 nq, nq, (GE.go R8 (m' := 1000) (by omega)).go R9 (by omega), by omega, hne, hlen, hwd, fun p ws' H10 hne' hl' hw' hp' R10 h10 => q' p ws' H10 hw' (by omega) hp' (((R8.trans R9).trans R10).mono (by omega)) h10⟩
    have RE : Rf fa 2 H H7 := RD.then e7
    clear RD e7 hb
    -- way == 5
    refine q_when (et_test (ev_op (ev_var rfl) ev_c rv_I0)) (fun hb H8 e8 => ?_) (fun hb H8 e8 => ?_)
    · have RF := RE.then e8
      refine q_dw (dT_add (dT_one rfl (dsg rfl)) (dT_text (c := 3) rfl (dsg rfl) (dI_oneL (ns := [0, 0, 1, 3]) (lo := 0) (hi := 3) rfl (fun H => el_lst (ea_cons ev_c (ea_cons ev_c (ea_cons ev_c (ea_cons ev_c ea_nil)))) (by show 4 ≤ 100000; decide)) (by decide) (by simp) (by decide)))) (G.go RF (m' := 10000) (by omega)) fun v H9 ⟨root, hv, hr1, hr2, hr3⟩ R9 => ?_
      subst hv
      have RG : Rf fa 100 H H9 := (RF.trans R9).mono (by omega)
      show tRet _ _ [some (.ref fa), some (.int (most : Int)), some (T sg), some (.int way), none, none, none, some (T root), none, none, none] H9
      have dro : ∀ {σ : L2.St}, σ[7]? = some (some (T root)) → Dw fa σ 0 (tVar 7) (GdT abcd 1 4) := fun h0 => dT_var h0 (by omega) (by omega) hr3
      have dfl : ∀ {σ : L2.St}, σ[7]? = some (some (T root)) → Dw fa σ 0 (tOp (rI CDivW fun i j => .int (i / j)) (tC (.int 12)) (tCB rLenT (tCons (tVar 7) tNil))) (GdI 1 12) := fun h0 H' G' Q' q' => ⟨T root, h0, root, rfl, by omega, 12, (root.length : Int), rfl, rfl, divW (by omega) (by omega), q' _ H' ⟨12 / (root.length : Int), rfl, by
          have h4 : root.length = 1 ∨ root.length = 2 ∨ root.length = 3 ∨ root.length = 4 := by omega
          rcases h4 with h | h | h | h <;> rw [h] <;> decide, by
          have h4 : root.length = 1 ∨ root.length = 2 ∨ root.length = 3 ∨ root.length = 4 := by omega
          rcases h4 with h | h | h | h <;> rw [h] <;> decide⟩ (Rf.refl _)⟩
      refine s_kept (m := 1000) (WL.mono (wl_range (lo := 1) (N := 4) (c := 1) (lo' := 1) (n := 48) (dI_add dI_c (dI_draw (lo := 4) (hi := 4) rfl dI_c)) (by decide) (G.go RG (by omega)) (fun _ => rfl) (fun x => dw_at (dw_mono (dT_wk (dT_mul (c := 1) (d := 12) (dro rfl) (dI_wk (dI_add dI_c (dI_draw rfl (dfl rfl)))))) (by omega))) (by decide)) (by decide)) rfl rfl hm1 hm2 (G.go RG (by omega)) (fin RG (by omega))
    have RF : Rf fa 2 H H8 := RE.then e8
    clear RE e8 hb
    -- way == 6
    refine q_when (et_test (ev_op (ev_var rfl) ev_c rv_I0)) (fun hb H9 e9 => ?_) (fun hb H9 e9 => ?_)
    · have RG := RF.then e9
      have GG : GF fa 10000 H9 := G.go RG (by omega)
      refine q_lcRD (lo := 3) (N := 3) (c := 4) (m0 := 0) (GdT abcd 0 3) (dI_c (x := 3)) (by decide) (GG.mono (by omega)) (fun _ => rfl) (fun x => dw_at (dT_text (c := 3) rfl (dsg rfl) (dI_wk dI_c))) fun pe H10 acc hpe R10 h10 hl1 hl2 hg => ?_
      obtain ⟨ends, rfl, hws, hwl⟩ := wl_texts hg (by decide)
      rw [List.length_map] at hl1 hl2
      have npe : pe ≠ fa := GG.new hpe
      have RH : Rf fa 100 H H10 := (RG.trans R10).mono (by omega)
      show tRet _ _ [some (.ref fa), some (.int (most : Int)), some (T sg), some (.int way), none, none, none, none, some (.ref pe), none, none] H10
      have one : ∀ {σ : L2.St} (kk : Nat) (H11 : Hp), σ[0]? = some (some (.ref fa)) → σ[8]? = some (some (.ref pe)) → Rf fa kk H10 H11 → GF fa 1 H11 → ∀ Q' : VK, (∀ y H12, GdT abcd 0 3 y → Rf fa 1 H11 H12 → Q' y H12) → tCall (sp_one K) [] E0 (tCons (tVar 0) (tCons (tVar 8) tNil)) σ H11 Q' := fun {σ} kk H11 h0 h8 R11 G11 Q' q' =>
        wp_oneS (xs := ends.map T) h0 (ev_var h8) (.inl (sq_of (R11.at_ h10 npe))) npe G11 (fun z => by have := congrArg List.length z; rw [List.length_map] at this; simp at this; rw [this] at hl1; simp at hl1) (by rw [List.length_map]; omega) fun v H12 hv R12 => by
          obtain ⟨t, ht, rfl⟩ := List.mem_map.mp hv
          exact q' _ H12 ⟨t, rfl, Nat.zero_le _, (hwl t ht).2, (hws t ht).2⟩ R12
      refine s_kept (m := 1000) (WL.mono (wl_range (lo := 2) (N := 13) (c := 5) (lo' := 0) (n := 8) (dI_wk (dI_add dI_c (dI_draw rfl (dmo rfl)))) (by decide) (G.go RH (by omega)) (fun _ => rfl) (fun x kk H11 R11 G11 Q' q' => ?_) (by decide)) (by decide)) rfl rfl hm1 hm2 (G.go RH (by omega)) (fin RH (by omega))
      refine one kk H11 rfl rfl R11 (G11.mono (by omega)) _ fun y1 H12 ⟨s1, hy1, a1, a2, a3⟩ R12 => (dT_text (c := 2) rfl (dsg rfl) (dI_wk dI_c) : Dw fa ((wipe [some (.ref fa), some (.int (most : Int)), some (T sg), some (.int way), none, none, none, none, some (.ref pe), none, none] [5]).set 5 (some x)) _ _ _) H12 (G11.go R12 (m' := 3) (by omega)) _ fun y2 H13 ⟨s2, hy2, b1, b2, b3⟩ R13 => ⟨s1, s2, hy1, hy2, by omega, one (kk + 1 + 3) H13 rfl rfl ((R11.trans R12).trans R13) (G11.go (R12.trans R13) (m' := 1) (by omega)) _ fun y3 H14 ⟨s3, hy3, c1, c2, c3⟩ R14 => ⟨s1 ++ s2, s3, rfl, hy3, by rw [List.length_append]; omega, q' _ H14 ⟨s1 ++ s2 ++ s3, rfl, Nat.zero_le _, by rw [List.length_append, List.length_append]; omega, fun c hc => ?_⟩ (((R12.trans R13).trans R14).mono (by omega))⟩⟩
      rcases List.mem_append.mp hc with z | z
      · rcases List.mem_append.mp z with z | z
        · exact a3 c z
        · exact b3 c z
      · exact c3 c z
    have RG : Rf fa 2 H H9 := RF.then e9
    clear RF e9 hb
    -- way == 7
    refine q_when (et_test (ev_op (ev_var rfl) ev_c rv_I0)) (fun hb H10 e10 => ?_) (fun hb H10 e10 => ?_)
    · have RH := RG.then e10
      have GH : GF fa 10000 H10 := G.go RH (by omega)
      exact s_kept (m := 1000) (fun Q' q' => cod rfl (GH.mono (by omega)) _ fun q ts H11 hne hlen hwd hq R11 h11 => q' q ts H11 (hwd.mono (by decide)) (by omega) (GH.new hq) (R11.mono (by omega)) h11) rfl rfl hm1 hm2 (G.go RH (by omega)) (fin RH (by omega))
    have RH : Rf fa 2 H H10 := RG.then e10
    clear RG e10 hb
    -- way == 8
    refine q_when (et_test (ev_op (ev_var rfl) ev_c rv_I0)) (fun hb H11 e11 => ?_) (fun hb H11 e11 => ?_)
    · have RI := RH.then e11
      have GI : GF fa 10000 H11 := G.go RI (by omega)
      refine q_lcRD (lo := 4) (N := 4) (c := 5) (m0 := 0) (GdT abcd 1 4) (dI_c (x := 4)) (by decide) (GI.mono (by omega)) (fun _ => rfl) (fun x => dw_at (dT_add (dT_one (lo := 4) (n := 4) rfl (dT_c (ok := abcd) (s := [97, 98, 99, 100]) (fun c hc => by simp at hc; unfold abcd; omega))) (dT_text (c := 3) rfl (dsg rfl) (dI_wk dI_c)))) fun pw H12 acc hpw R12 h12 hl1 hl2 hg => ?_
      obtain ⟨ws, rfl, hws, hwl⟩ := wl_texts hg (by decide)
      rw [List.length_map] at hl1 hl2
      have npw : pw ≠ fa := GI.new hpw
      have RJ : Rf fa 100 H H12 := (RI.trans R12).mono (by omega)
      have GJ : GF fa 9000 H12 := G.go RJ (by omega)
      show tRet _ _ [some (.ref fa), some (.int (most : Int)), some (T sg), some (.int way), none, none, none, none, none, some (.ref pw), none] H12
      exact s_kept (m := 1000) (fun Q' q' => ⟨.ref fa, rfl, cod rfl (GJ.mono (by omega)) _ fun q ts H13 hne hlen hwd hq R13 h13 => ⟨.ref pw, rfl, fa, q, pw, ts, ws, rfl, GJ.go R13 (by omega), h13, sq_of (R13.at_ h12 npw), GJ.new hq, npw, by omega, hwd.mono (by decide), fun z => by rw [z] at hl1; simp at hl1, by omega, fun t ht => ⟨by have := (hwl t ht).2; omega, (hws t ht).2⟩, fun p vs H14 hvl hvw hp R14 h14 => q' p vs H14 hvw (by omega) ((GJ.go R13 (m' := 0) (by omega)).new hp) ((R13.trans R14).mono (by omega)) h14⟩⟩) rfl rfl hm1 hm2 (G.go RJ (by omega)) (fin RJ (by omega))
    have RI : Rf fa 2 H H11 := RH.then e11
    clear RH e11 hb
    -- way == 9
    refine q_when (et_test (ev_op (ev_var rfl) ev_c rv_I0)) (fun hb H12 e12 => ?_) (fun hb H12 e12 => ?_)
    · have RJ := RI.then e12
      have GJ : GF fa 9000 H12 := G.go RJ (by omega)
      refine s_kept (m := 1000) (fun Q' q' => ⟨.ref fa, rfl, cod rfl (GJ.mono (by omega)) _ fun q ts H13 hne hlen hwd hq R13 h13 => lc_of (cod rfl (GJ.go R13 (m' := 1) (by omega)) _ fun r us H14 hne2 hlen2 hwd2 hr R14 h14 => ?_)⟩) rfl rfl hm1 hm2 (G.go RJ (by omega)) (fin RJ (by omega))
      have nq : q ≠ fa := GJ.new hq
      have GK : GF fa 100 H14 := GJ.go (R13.trans R14) (by omega)
      refine (el_lcM (j := 6) (vs := [6]) (f := T) (g := T) us (src_listM (tl := fun _ H' Q' => Q' (.ref r) H') (fun H2 e2 Q2 q2 => q2 H2 (Ex.refl _)) (sq_of h14)) (by omega) (fun _ => rfl) fun t H15 e15 ht => ev_var rfl : EvL (tLc (iList K (fun _ H' Q' => Q' (.ref r) H')) (gName 6) tYes (tVar 6) [6]) [some (.ref fa), some (.int (most : Int)), some (T sg), some (.int way), none, none, none, none, none, none, none] H14 (us.map T)) H14 (Ex.refl _) _ fun pw H15 hpw e15 h15 => ?_
      have npw : pw ≠ fa := GK.new hpw
      exact ⟨fa, q, pw, ts, us, rfl, (GK.ex e15).mono (by omega), e15 _ _ (R14.at_ h13 nq), sq_of h15, nq, npw, by omega, hwd.mono (by decide), hne2, by omega, hwd2.mono (by decide), fun p vs H16 hvl hvw hp R16 h16 => q' p vs H16 hvw (by omega) ((GK.ex e15).new hp) ((((R13.trans R14).then e15).trans R16).mono (by omega)) h16⟩
    have RJ : Rf fa 2 H H12 := RI.then e12
    clear RI e12 hb
    refine q_dw (dI_add dI_c (dI_draw (lo := 5) (hi := 5) rfl dI_c)) (G.go RJ (m' := 10000) (by omega)) fun v H13 ⟨long, hv, hl1, hl2⟩ R13 => ?_
    subst hv
    have RK := RJ.trans R13
    show tRet _ _ [some (.ref fa), some (.int (most : Int)), some (T sg), some (.int way), some (.int long), none, none, none, none, none, none] H13
    refine s_kept (m := 1000) (WL.mono (wl_range (lo := 1) (N := 12) (c := 5) (lo' := 0) (n := 5) (dI_add dI_c (dI_draw rfl (dmo rfl))) (by decide) (G.go RK (by omega)) (fun _ => rfl) (fun x kk H14 R14 G14 Q' q' => ?_) (by decide)) (by decide)) rfl rfl hm1 hm2 (G.go RK (by omega)) (fin RK (by omega))
    refine ⟨rfl, lcRD (lo := 1) (N := 5) (c := 1) (m0 := 0) (GdT abcd 1 1) (dI_wk (dI_var rfl hl1 hl2)) (by decide) (G14.mono (by omega)) (fun _ => rfl) (fun x => dw_at (dT_one rfl (dsg rfl))) _ fun p H15 acc hp R15 h15 hl1 hl2 hg => ?_⟩
    obtain ⟨ws, rfl, hws, hwl⟩ := wl_texts hg (by decide)
    rw [List.length_map] at hl2
    have hsum := sum_le (m := 1) fun t ht => (hwl t ht).2
    refine ⟨[], p, ws, rfl, rfl, .inl (sq_of h15), by simp; omega, ?_⟩
    rw [joinL_nil]
    refine q' _ H15 ⟨ws.flatten, rfl, Nat.zero_le _, by rw [flat_len]; omega, fun c hc => ?_⟩ (R15.mono (by omega))
    obtain ⟨t, ht, hct⟩ := flat_mem hc
    exact (hws t ht).2 c hct
end
end K16
set_option Elab.async false
set_option linter.all false
set_option maxRecDepth 100000
set_option maxHeartbeats 4000000
namespace K16
open PySem PySem.Spec PyProof.Rows L2 Evl Wc Wt
section
variable {P : Program} {w : World} {K : PySem.W.Frag} {mg : Str → Option Value} {base : Heap}
def sp_put : Sp := fun vs H Q _ => ∃ (fa p : Addr) (lot : List Tx) (most : Nat), vs = [.ref fa, .ref p, .int (most : Int)] ∧ most ≤ 100 ∧ GF fa (most + 1) H ∧ H p = some (.tup (lot.map T)) ∧ IsLot lot ∧ ∀ t H', t.length ≤ 400 → (∀ c ∈ t, abcd c) → Rf fa (most + 1) H H' → Q (T t) H'
def sp_near_text : Sp := fun vs H Q _ => ∃ (fa p : Addr) (lot : List Tx) (most : Nat), vs = [.ref fa, .ref p, .int (most : Int)] ∧ most ≤ 100 ∧ GF fa 500 H ∧ H p = some (.tup (lot.map T)) ∧ IsLot lot ∧ ∀ t H', t.length ≤ 400 → (∀ c ∈ t, abcd c) → Rf fa 500 H H' → Q (T t) H'
theorem IsLot.sum {lot : List Tx} (h : IsLot lot) : lot.flatten.length ≤ 144 ∧ 1 ≤ lot.flatten.length := by
  have h1 := sum_le (m := 12) fun t ht => (h.wd t ht).1
  have h2 := h.few
  refine ⟨by rw [flat_len]; omega, ?_⟩
  cases lot with
  | nil => exact absurd rfl h.ne
  | cons a l =>
    have := List.length_pos_iff.mpr (h.pos a List.mem_cons_self)
    simp
    omega
theorem ok__law_put {f : Addr} {fd : FuncData} (F : Fun K "_law_put" "_law_put" st__law_put f fd) (M : Md K mg) (C__law_draw : Cal P w K mg base "_law_draw" st__law_draw 1 ["feed", "many"] sp_draw) (C__law_one : Cal P w K mg base "_law_one" st__law_one 2 ["feed", "things"] (sp_one K)) : FnOk P w K mg base CX0 3 f fd ["feed", "lot", "most"] sp_put := by
  have nd := sc__law_put.nd
  refine F.ok sc__law_put (fun vs H Q E h => ?_) (fun cdv A outer s H vs Q E hr h => ?_)
  · obtain ⟨_, _, _, _, rfl, _⟩ := h
    rfl
  · obtain ⟨fa, p, lot, most, rfl, hm, G, hp, hL, k⟩ := h
    refine ⟨_, (pss_one (ps_ret (pe_slice sl_T (kbm K (pe_bm PySem.F.plainAttrs_str PySem.F.slot_str_join PySem.F.type_str_join (kmt K (r := rJoinT) mt_joinT) (pe_sT []) (pa_cons (pe_lc (own := [("turn", 3)]) rfl nd (pi_range1 (by rfl) M.n_range (pa_cons (pe_cl C__law_draw hr (pa_cons (pv 0) (pa_cons (pe_op op_add (pv 2) pe_int) pa_nil))) pa_nil)) (blkOk_by (N := N__law_put) (sc := defScope st__law_put) (by decide +kernel)) (fun _ _ _ _ _ => (pg_name (i := 3) nd rfl (Or.inl rfl))) (fun _ _ _ _ _ => pts_nil) (fun _ _ _ _ _ => (pe_cl C__law_one hr (pa_cons (pv 0) (pa_cons (pv 1) pa_nil))))) pa_nil))) po_none (po_some pe_int)))), ?_⟩
    have np : p ≠ fa := G.ofTup hp
    refine ⟨rfl, ?_⟩
    refine lcRD (lo := 0) (N := most) (c := 1) (m0 := 1) (GdT abcd 1 12) (dI_wk (dI_draw rfl (dI_add (dI_var rfl (Int.le_refl (most : Int)) (Int.le_refl _)) dI_c) (by omega) (Int.le_trans (show (most : Int) + 1 ≤ 1000 by omega) (by decide)))) (by omega) (G.mono (by omega)) (fun _ => rfl) (fun x kk H1 R1 G1 Q' q' => ?_) _ fun pl H1 acc hpl R1 h1 hl1 hl2 hg => ?_
    · refine wp_oneS (xs := lot.map T) rfl (ev_var rfl) (.inr (st_of (R1.at_ hp np))) np G1 (fun z => hL.ne (List.map_eq_nil_iff.mp z)) (by rw [List.length_map]; have := hL.few; omega) fun v H2 hv R2 => ?_
      obtain ⟨t, ht, rfl⟩ := List.mem_map.mp hv
      exact q' _ H2 ⟨t, rfl, List.length_pos_iff.mpr (hL.pos t ht), (hL.wd t ht).1, (hL.wd t ht).2⟩ R2
    · obtain ⟨ws, rfl, hws, hwl⟩ := wl_texts hg (by decide)
      rw [List.length_map] at hl2
      have hsum := sum_le (m := 12) fun t ht => (hwl t ht).2
      have hfl : ws.flatten.length ≤ 1200 := by rw [flat_len]; omega
      refine ⟨[], pl, ws, rfl, rfl, .inl (sq_of h1), by simp; omega, ?_⟩
      rw [joinL_nil]
      refine ⟨400, rfl, ws.flatten, rfl, by omega, k _ H1 ?_ (fun c hc => ?_) (R1.mono (by omega))⟩
      · rw [show (400 : Int) = ((400 : Nat) : Int) from rfl, cutT_to, List.length_take]
        omega
      · obtain ⟨t, ht, hct⟩ := flat_mem (cutT_mem hc)
        exact (hws t ht).2 c hct
theorem ok__law_near_text {f : Addr} {fd : FuncData} (F : Fun K "_law_near_text" "_law_near_text" st__law_near_text f fd) (M : Md K mg) (C__law_draw : Cal P w K mg base "_law_draw" st__law_draw 1 ["feed", "many"] sp_draw) (C__law_one : Cal P w K mg base "_law_one" st__law_one 2 ["feed", "things"] (sp_one K)) (C__law_text : Cal P w K mg base "_law_text" st__law_text 3 ["feed", "signs", "most"] sp_text) (C__law_put : Cal P w K mg base "_law_put" st__law_put 3 ["feed", "lot", "most"] sp_put) : FnOk P w K mg base CX0 4 f fd ["feed", "lot", "most"] sp_near_text := by
  have nd := sc__law_near_text.nd
  refine F.ok sc__law_near_text (fun vs H Q E h => ?_) (fun cdv A outer s H vs Q E hr h => ?_)
  · obtain ⟨_, _, _, _, rfl, _⟩ := h
    rfl
  · obtain ⟨fa, p, lot, most, rfl, hm, G, hp, hL, k⟩ := h
    refine ⟨_, (pss_cons (ps_par (i := 3) (j := 4) rfl nd rfl rfl (by decide) rfl rfl (pa_cons (pe_cl C__law_put hr (pa_cons (pv 0) (pa_cons (pv 1) (pa_cons (pv 2) pa_nil)))) (pa_cons (pe_cl C__law_draw hr (pa_cons (pv 0) (pa_cons pe_int pa_nil))) pa_nil)) (by rfl))
  (pss_cons (ps_par (i := 5) (j := 6) rfl nd rfl rfl (by decide) rfl rfl (pa_cons (pe_cl C__law_draw hr (pa_cons (pv 0) (pa_cons (pe_op op_add (pe_callB cr_lenT (by rfl) M.n_len boot_len (pa_cons (pv 3) pa_nil)) pe_int) pa_nil))) (pa_cons (pe_cl C__law_one hr (pa_cons (pv 0) (pa_cons (pe_ifExp (pt_cmpR op_eqI (pe_cl C__law_draw hr (pa_cons (pv 0) (pa_cons pe_int pa_nil))) pe_int (nomark _)) (pe_sT [97, 98, 99, 100]) (kbm K (pe_bm PySem.F.plainAttrs_str PySem.F.slot_str_join PySem.F.type_str_join (kmt K (r := rJoinT) mt_joinT) (pe_sT []) (pa_cons (pv 1) pa_nil)))) pa_nil))) pa_nil)) (by rfl))
  (pss_cons (ps_set (i := 7) nd rfl (Or.inl rfl) (pe_lst (pa_cons (pe_op op_addT (pe_op op_addT (pe_slice sl_T (pv 3) po_none (po_some (pv 5))) (pv 6)) (pe_slice sl_T (pv 3) (po_some (pe_op op_add (pv 5) pe_int)) po_none)) (pa_cons (pe_op op_addT (pe_op op_addT (pe_slice sl_T (pv 3) po_none (po_some (pv 5))) (pv 6)) (pe_slice sl_T (pv 3) (po_some (pv 5)) po_none)) (pa_cons (pe_op op_addT (pe_slice sl_T (pv 3) po_none (po_some (pv 5))) (pe_slice sl_T (pv 3) (po_some (pe_op op_add (pv 5) pe_int)) po_none)) (pa_cons (pe_cl C__law_text hr (pa_cons (pv 0) (pa_cons (kbm K (pe_bm PySem.F.plainAttrs_str PySem.F.slot_str_join PySem.F.type_str_join (kmt K (r := rJoinT) mt_joinT) (pe_sT []) (pa_cons (pv 1) pa_nil))) (pa_cons (pv 2) pa_nil)))) pa_nil))))))
  (pss_one (ps_ret (pe_ifExp (pt_cmpR op_lt (pv 4) pe_int (nomark _)) (pv 3) (pe_slice sl_T (pe_ix (kix K (r := L2.rIxL) ix_list) (pv 7) (pe_op op_sub (pv 4) pe_int) (fun _ _ => rfl)) po_none (po_some pe_int)))))))), ?_⟩
    have np : p ≠ fa := G.ofTup hp
    have hLs := hL.sum
    have hLc : ∀ c ∈ lot.flatten, abcd c := fun c hc => by
      obtain ⟨t, ht, hct⟩ := flat_mem hc
      exact (hL.wd t ht).2 c hct
    have hsum : (lot.map List.length).sum ≤ 144 := by rw [← flat_len]; exact hLs.1
    have hjoin : ∀ {σ : L2.St} {H' : Hp}, σ[1]? = some (some (.ref p)) → H' p = some (.tup (lot.map T)) → Ev (tBM K "str" (rJoinT K) (tC (T [])) (tCons (tVar 1) tNil)) σ H' (T lot.flatten) := fun h1 hh => ev_bmT ev_c (ea_cons (ev_var h1) ea_nil) (rm_join (.inr (st_of hh)) (by omega))
    -- text, way
    refine ⟨.ref fa, rfl, .ref p, rfl, .int (most : Int), rfl, fa, p, lot, most, rfl, hm, G.mono (by omega), hp, hL, fun text H1 ht1 ht2 R1 => (dI_draw (lo := 8) (hi := 8) rfl dI_c : Dw fa (start N__law_near_text [.ref fa, .ref p, .int (most : Int)]) _ _ _) H1 (G.go R1 (m' := 1) (by omega)) _ fun v2 H2 ⟨way, hv2, hw1, hw2⟩ R2 => ⟨_, _, rfl, ?_⟩⟩
    subst hv2
    have RA : Rf fa 102 H H2 := (R1.trans R2).mono (by omega)
    have GA : GF fa 398 H2 := G.go RA (by omega)
    have hpA := RA.at_ hp np
    clear R1 R2
    show tSeq _ _ _ [some (.ref fa), some (.ref p), some (.int (most : Int)), some (T text), some (.int way), none, none, none] H2
    have dte : ∀ {σ : L2.St}, σ[3]? = some (some (T text)) → Dw fa σ 0 (tVar 3) (GdT abcd 0 400) := fun h0 => dT_var h0 (Nat.zero_le _) ht1 ht2
    -- at, sign
    have hsign : ∀ (H4 : Hp), H4 p = some (.tup (lot.map T)) → GF fa 2 H4 → ∀ Q' : VK, (∀ sg H5, sg.length = 1 → (∀ c ∈ sg, abcd c) → Rf fa 2 H4 H5 → Q' (T sg) H5) → tCall (sp_one K) [] E0 (tCons (tVar 0) (tCons (tIf (tTest (tOp (rI0 fun i j => .bl (decide (i = j))) (tCall sp_draw [] E0 (tCons (tVar 0) (tCons (tC (.int 3)) tNil))) (tC (.int 0)))) (tC (T [97, 98, 99, 100])) (tBM K "str" (rJoinT K) (tC (T [])) (tCons (tVar 1) tNil))) tNil)) [some (.ref fa), some (.ref p), some (.int (most : Int)), some (T text), some (.int way), none, none, none] H4 Q' := fun H4 hp4 G4 Q' q' => by
      refine ⟨.ref fa, rfl, ?_⟩
      refine dw_test (m1 := 1) (m2 := 0) (dI_draw (lo := 3) (hi := 3) rfl dI_c) dI_c G4 _ fun b H5 R5 => ?_
      have hp5 := R5.at_ hp4 np
      have G5 : GF fa 1 H5 := G4.go R5 (by omega)
      cases b with
      | true => exact ⟨fa, G5, .inl ⟨[97, 98, 99, 100], rfl, by simp, by simp, fun c H6 hc R6 => q' [c] H6 rfl (fun d hd => by
          rw [List.mem_singleton.mp hd]
          simp at hc
          unfold abcd
          omega) ((R5.trans R6).mono (by omega))⟩⟩
      | false => exact (hjoin rfl hp5 : Ev _ [some (.ref fa), some (.ref p), some (.int (most : Int)), some (T text), some (.int way), none, none, none] H5 _) H5 (Ex.refl _) _ fun H6 e6 => ⟨fa, G5.ex e6, .inl ⟨lot.flatten, rfl, fun z => by rw [z] at hLs; simp at hLs, by omega, fun c H7 hc R7 => q' [c] H7 rfl (fun d hd => by
          rw [List.mem_singleton.mp hd]
          exact hLc c hc) (((R5.then e6).trans R7).mono (by omega))⟩⟩
    refine (dI_draw rfl (dI_wk (c := 1) (d := 401) (dI_add (dI_len (dte rfl)) dI_c)) : Dw fa [some (.ref fa), some (.ref p), some (.int (most : Int)), some (T text), some (.int way), none, none, none] _ _ _) H2 (GA.mono (by omega)) _ fun v3 H3 ⟨at_, hv3, ha1, ha2⟩ R3 => hsign H3 (R3.at_ hpA np) (GA.go R3 (m' := 2) (by omega)) _ fun sign H4 hsl hsc R4 => ⟨_, _, rfl, ?_⟩
    subst hv3
    have RB : Rf fa 105 H H4 := (RA.trans (R3.trans R4)).mono (by omega)
    have GB : GF fa 395 H4 := G.go RB (by omega)
    have hpB := RB.at_ hp np
    clear R3 R4 RA GA hpA hsign
    show tSeq _ _ _ [some (.ref fa), some (.ref p), some (.int (most : Int)), some (T text), some (.int way), some (.int at_), some (T sign), none] H4
    have dsi : ∀ {σ : L2.St}, σ[6]? = some (some (T sign)) → Dw fa σ 0 (tVar 6) (GdT abcd 1 1) := fun h0 => dT_var h0 (by omega) (by omega) hsc
    have dat : ∀ {σ : L2.St}, σ[5]? = some (some (.int at_)) → Dw fa σ 0 (tVar 5) (GdI 0 400) := fun h0 => dI_var h0 (by omega) (by omega)
    have lo_ : ∀ {σ : L2.St}, σ[3]? = some (some (T text)) → σ[5]? = some (some (.int at_)) → Dw fa σ 0 (tSl rSlT (tVar 3) tNoPart (tPart (tVar 5))) (GdT abcd 0 400) := fun h3 h5 => dw_mono (dT_sl (dte h3) do_none (do_some (dat h5))) (by omega)
    have hi1 : ∀ {σ : L2.St}, σ[3]? = some (some (T text)) → σ[5]? = some (some (.int at_)) → Dw fa σ 0 (tSl rSlT (tVar 3) (tPart (tOp (rI0 fun i j => .int (i + j)) (tVar 5) (tC (.int 1)))) tNoPart) (GdT abcd 0 400) := fun h3 h5 => dw_mono (dT_sl (dte h3) (do_some (dI_add (dat h5) dI_c)) do_none) (by omega)
    have hi0 : ∀ {σ : L2.St}, σ[3]? = some (some (T text)) → σ[5]? = some (some (.int at_)) → Dw fa σ 0 (tSl rSlT (tVar 3) (tPart (tVar 5)) tNoPart) (GdT abcd 0 400) := fun h3 h5 => dw_mono (dT_sl (dte h3) (do_some (dat h5)) do_none) (by omega)
    -- near
    refine (dT_add (dT_add (lo_ rfl rfl) (dsi rfl)) (hi1 rfl rfl) : Dw fa [some (.ref fa), some (.ref p), some (.int (most : Int)), some (T text), some (.int way), some (.int at_), some (T sign), none] _ _ _) H4 (GB.mono (by omega)) _ fun w1 H5 g1 R5 => (dT_add (dT_add (lo_ rfl rfl) (dsi rfl)) (hi0 rfl rfl) : Dw fa [some (.ref fa), some (.ref p), some (.int (most : Int)), some (T text), some (.int way), some (.int at_), some (T sign), none] _ _ _) H5 (GB.go R5 (m' := 0) (by omega)) _ fun w2 H6 g2 R6 => (dT_add (lo_ rfl rfl) (hi1 rfl rfl) : Dw fa [some (.ref fa), some (.ref p), some (.int (most : Int)), some (T text), some (.int way), some (.int at_), some (T sign), none] _ _ _) H6 (GB.go (R5.trans R6) (m' := 0) (by omega)) _ fun w3 H7 g3 R7 => ⟨.ref fa, rfl, (hjoin rfl ((((R5.trans R6).trans R7)).at_ hpB np) : Ev _ [some (.ref fa), some (.ref p), some (.int (most : Int)), some (T text), some (.int way), some (.int at_), some (T sign), none] H7 _) H7 (Ex.refl _) _ fun H8 e8 => ⟨.int (most : Int), rfl, fa, lot.flatten, most, rfl, (GB.go (((R5.trans R6).trans R7).then e8) (m' := most + 1) (by omega)), by omega, fun z => by rw [z] at hLs; simp at hLs, by omega, fun t4 H9 ht4 hc4 R9 => ⟨by show 4 ≤ sizeLine; decide, fun pn hpn => ?_⟩⟩⟩
    have R59 : Rf fa (most + 1) H4 H9 := ((((R5.trans R6).trans R7).then e8).trans R9).mono (by omega)
    have RC : Rf fa 500 H (upd H9 pn (.lst [w1, w2, w3, T t4])) := ((RB.trans R59).mono (by omega)).then (Ex.new hpn)
    have hn : (upd H9 pn (.lst [w1, w2, w3, T t4])) pn = some (.lst [w1, w2, w3, T t4]) := upd_same
    generalize upd H9 pn (.lst [w1, w2, w3, T t4]) = HC at RC hn
    have g4 : GdT abcd 0 900 (T t4) := ⟨t4, rfl, Nat.zero_le _, by omega, fun c hc => hLc c (hc4 c hc)⟩
    have wk : ∀ {v : V} {a b : Nat}, GdT abcd a b v → b ≤ 900 → GdT abcd 0 900 v := fun ⟨s, h1, h2, h3, h4⟩ hb => ⟨s, h1, Nat.zero_le _, by omega, h4⟩
    have gall : ∀ v ∈ [w1, w2, w3, T t4], GdT abcd 0 900 v := fun v hv => by
      simp only [List.mem_cons, List.not_mem_nil, or_false] at hv
      rcases hv with rfl | rfl | rfl | rfl
      · exact wk g1 (by omega)
      · exact wk g2 (by omega)
      · exact wk g3 (by omega)
      · exact g4
    refine s_retIf (σ := [some (.ref fa), some (.ref p), some (.int (most : Int)), some (T text), some (.int way), some (.int at_), some (T sign), some (.ref pn)]) (H := HC) (et_test (ev_op (ev_var rfl) ev_c rv_I0)) (fun hb HD eD => s_ret (ev_var rfl) fun HE eE => k text HE ht1 ht2 ((RC.then eD).then eE)) (fun hb HD eD => ?_)
    have hw4 : ¬ way < 4 := by simpa using hb
    obtain ⟨j, hj⟩ := Int.eq_ofNat_of_zero_le (show 0 ≤ way - 4 by omega)
    have hj4 : j < [w1, w2, w3, T t4].length := by show j < 4; omega
    obtain ⟨s, hs, _, hs2, hs3⟩ := gall _ (List.getElem_mem hj4)
    refine s_ret (v := T (s.take 400)) (ev_is (ev_slT (a := s) (ev_op (ev_var rfl) (ev_op (ev_var rfl) ev_c rv_I0) (rv_ixL (sq_of (eD _ _ hn)) (by rw [hj, ← hs]; exact atI_nat (List.getElem?_eq_getElem hj4)))) eo_none (eo_some ev_c) (by omega)) (by rw [show (400 : Int) = ((400 : Nat) : Int) from rfl, cutT_to])) fun HE eE => k _ HE (by rw [List.length_take]; omega) (fun c hc => hs3 c (List.mem_of_mem_take hc)) ((RC.then eD).then eE)
end
end K16
set_option Elab.async false
set_option linter.all false
set_option maxRecDepth 100000
set_option maxHeartbeats 4000000
namespace K16
open PySem PySem.Spec PyProof.Rows L2 Evl Wc Wt Wg We
theorem tn_mem {t : Tx} {n : Nat} {c : Nat} (h : c ∈ tn t n) : c ∈ t := (List.mem_append.mp h).elim List.mem_of_mem_drop List.mem_of_mem_take
theorem tn_ne {t : Tx} {n : Nat} (h : t ≠ []) : tn t n ≠ [] := fun z => by
  have := tn_len t n
  rw [z] at this
  exact h (List.length_eq_zero_iff.mp this.symm)
section
variable {P : Program} {w : World} {K : PySem.W.Frag} {mg : Str → Option Value} {base : Heap}
def sp_round_text : Sp := fun vs H Q _ => ∃ (fa p : Addr) (lot : List Tx), vs = [.ref fa, .ref p] ∧ GF fa 600 H ∧ LotAt p lot H ∧ ∀ t H', t.length ≤ 90 → t ≠ [] → (∀ c ∈ t, abcd c) → Rf fa 600 H H' → Q (T t) H'
theorem ok__law_round_text {f : Addr} {fd : FuncData} (F : Fun K "_law_round_text" "_law_round_text" st__law_round_text f fd) (M : Md K mg) (C__law_draw : Cal P w K mg base "_law_draw" st__law_draw 1 ["feed", "many"] sp_draw) (C__law_one : Cal P w K mg base "_law_one" st__law_one 2 ["feed", "things"] (sp_one K)) (C__law_near_text : Cal P w K mg base "_law_near_text" st__law_near_text 4 ["feed", "lot", "most"] sp_near_text) : FnOk P w K mg base CX0 5 f fd ["feed", "lot"] sp_round_text := by
  have nd := sc__law_round_text.nd
  refine F.ok sc__law_round_text (fun vs H Q E h => ?_) (fun cdv A outer s H vs Q E hr h => ?_)
  · obtain ⟨_, _, _, rfl, _⟩ := h
    rfl
  · obtain ⟨fa, p, lot, rfl, G, ⟨hp, hL⟩, k⟩ := h
    refine ⟨_, (pss_cons (ps_par (i := 2) (j := 3) rfl nd rfl rfl (by decide) rfl rfl (pa_cons (pe_slice sl_T (pe_cl C__law_near_text hr (pa_cons (pv 0) (pa_cons (pv 1) (pa_cons (pe_cl C__law_one hr (pa_cons (pv 0) (pa_cons (pe_lst (pa_cons pe_int (pa_cons pe_int (pa_cons pe_int (pa_cons pe_int (pa_cons pe_int pa_nil)))))) pa_nil))) pa_nil)))) po_none (po_some pe_int)) (pa_cons (pe_cl C__law_draw hr (pa_cons (pv 0) (pa_cons pe_int pa_nil))) pa_nil)) (by rfl))
  (pss_cons (ps_if (pt_cmpR op_eqI (pv 3) pe_int (nomark _))
  (pss_one (ps_set (i := 2) nd rfl (Or.inl rfl) (pe_slice sl_T (pe_op op_mulT (pv 2) pe_int) po_none (po_some pe_int))))
  (pss_one (ps_if (pt_cmpR op_eqI (pv 3) pe_int (nomark _))
  (pss_one (ps_set (i := 2) nd rfl (Or.inl rfl) (pe_slice sl_T (pe_op op_mulT (pv 2) pe_int) po_none (po_some pe_int))))
  pss_nil)))
  (pss_cons (ps_if (pt_cmpR op_eqT (pv 2) (pe_sT []) (nomark _))
  (pss_one (ps_set (i := 2) nd rfl (Or.inl rfl) (pe_ix (kix K (r := L2.rIxT) ix_tup) (pv 1) pe_int (fun _ _ => rfl))))
  pss_nil)
  (pss_cons (ps_set (i := 4) nd rfl (Or.inl rfl) (pe_cl C__law_draw hr (pa_cons (pv 0) (pa_cons (pe_callB cr_lenT (by rfl) M.n_len boot_len (pa_cons (pv 2) pa_nil)) pa_nil))))
  (pss_one (ps_ret (pe_ifExp (pt_cmpR op_gt (pe_cl C__law_draw hr (pa_cons (pv 0) (pa_cons pe_int pa_nil))) pe_int (nomark _)) (pe_op op_addT (pe_slice sl_T (pv 2) (po_some (pv 4)) po_none) (pe_slice sl_T (pv 2) po_none (po_some (pv 4)))) (pv 2)))))))), ?_⟩
    have np : p ≠ fa := G.ofTup hp
    refine q_par2 ⟨.ref fa, rfl, .ref p, rfl, ?_⟩
    refine (dI_oneL (ns := [1, 2, 3, 6, 12]) (lo := 1) (hi := 12) rfl (fun H => el_lst (ea_cons ev_c (ea_cons ev_c (ea_cons ev_c (ea_cons ev_c (ea_cons ev_c ea_nil))))) (by show 5 ≤ 100000; decide)) (by decide) (by simp) (by decide) : Dw fa (start N__law_round_text [.ref fa, .ref p]) _ _ _) H (G.mono (by omega)) _ fun v2 H2 ⟨long, hv2, hw1, hw2⟩ R2 => ?_
    subst hv2
    obtain ⟨n, rfl⟩ := Int.eq_ofNat_of_zero_le (show 0 ≤ long by omega)
    refine ⟨fa, p, lot, n, rfl, by omega, G.go R2 (by omega), R2.at_ hp np, hL, fun t0 H3 ht0 hc0 R3 => ?_⟩
    refine eo_none H3 (Ex.refl _) _ fun Ha ea => eo_some ev_c Ha (Ex.refl _) _ fun Hb eb => ⟨t0, rfl, by omega, ?_⟩
    have hcut : cutT t0 none (some 90) = t0.take 90 := cutT_to t0 90
    rw [hcut]
    have RA : Rf fa 501 H Hb := ((R2.trans R3).then (ea.trans eb)).mono (by omega)
    refine (dI_draw (lo := 8) (hi := 8) rfl dI_c : Dw fa (start N__law_round_text [.ref fa, .ref p]) _ _ _) Hb (G.go RA (m' := 1) (by omega)) _ fun v3 H4 ⟨way, hv3, hw3, hw4⟩ R4 => ⟨_, _, rfl, ?_⟩
    subst hv3
    have RB : Rf fa 502 H H4 := (RA.trans R4).mono (by omega)
    have ht1 : (t0.take 90).length ≤ 90 := by rw [List.length_take]; omega
    have hc1 : ∀ c ∈ t0.take 90, abcd c := fun c hc => hc0 c (List.mem_of_mem_take hc)
    generalize t0.take 90 = t1 at ht1 hc1
    clear hcut hc0 ht0 R2 R3 R4 RA ea eb
    show tSeq _ _ _ [some (.ref fa), some (.ref p), some (T t1), some (.int way), none] H4
    -- behind the first two statements
    have rest2 : ∀ (t : Tx) (H5 : Hp), t.length ≤ 90 → t ≠ [] → (∀ c ∈ t, abcd c) → Rf fa 502 H H5 → tSeq (tAsg (tCall sp_draw [] E0 (tCons (tVar 0) (tCons (tCB rLenT (tCons (tVar 2) tNil)) tNil))) (gName 4)) (tRet (tIf (tTest (tOp (rI0 fun i j => .bl (decide (j < i))) (tCall sp_draw [] E0 (tCons (tVar 0) (tCons (tC (.int 3)) tNil))) (tC (.int 0)))) (tOp rAddT (tSl rSlT (tVar 2) (tPart (tVar 4)) tNoPart) (tSl rSlT (tVar 2) tNoPart (tPart (tVar 4)))) (tVar 2))) { nx := fun _ H' => Q .non H', rt := Q } [some (.ref fa), some (.ref p), some (T t), some (.int way), none] H5 := by
      intro t H5 ht hne hc R5
      have hpos := List.length_pos_iff.mpr hne
      refine q_dw (B := 90) (dI_draw rfl (dI_len (dT_var (lo := t.length) (n := t.length) (ok := abcd) rfl (Nat.le_refl _) (Nat.le_refl _) hc)) (by omega) (Int.le_trans (show (t.length : Int) ≤ 90 by omega) (by decide))) (G.go R5 (by omega)) fun v H6 ⟨at_, hv, ha1, ha2⟩ R6 => ?_
      subst hv
      obtain ⟨a, rfl⟩ := Int.eq_ofNat_of_zero_le ha1
      show tRet _ _ [some (.ref fa), some (.ref p), some (T t), some (.int way), some (.int (a : Int))] H6
      have R56 : Rf fa 503 H H6 := (R5.trans R6).mono (by omega)
      refine s_retIfD (B := 5) (dI_draw (lo := 3) (hi := 3) rfl dI_c) dI_c (G.go R56 (by omega)) (fun H7 R7 => ?_) (fun H7 R7 => ?_)
      · refine s_ret (v := T (tn t a)) (ev_is (ev_op (ev_slT (lo := some (a : Int)) (ev_var rfl) (eo_some (ev_var rfl)) eo_none (by omega)) (ev_slT (hi := some (a : Int)) (ev_var rfl) eo_none (eo_some (ev_var rfl)) (by omega)) (rv_addT (by rw [cutT_from, cutT_to, List.length_drop, List.length_take]; omega))) (by rw [cutT_from, cutT_to]; rfl)) fun H8 e8 => k _ H8 (by rw [tn_len]; exact ht) (tn_ne hne) (fun c h => hc c (tn_mem h)) (((R56.trans R7).then e8).mono (by omega))
      · exact s_ret (ev_var rfl) fun H8 e8 => k _ H8 ht hne hc (((R56.trans R7).then e8).mono (by omega))
    have rest1 : ∀ (t : Tx) (H5 : Hp), t.length ≤ 90 → (∀ c ∈ t, abcd c) → Rf fa 502 H H5 → tSeq (tIfS (tTest (tOp rEqT (tVar 2) (tC (T [])))) (tAsg (tOp (L2.rIxT K) (tVar 1) (tC (.int 0))) (gName 2)) tNext) (tSeq (tAsg (tCall sp_draw [] E0 (tCons (tVar 0) (tCons (tCB rLenT (tCons (tVar 2) tNil)) tNil))) (gName 4)) (tRet (tIf (tTest (tOp (rI0 fun i j => .bl (decide (j < i))) (tCall sp_draw [] E0 (tCons (tVar 0) (tCons (tC (.int 3)) tNil))) (tC (.int 0)))) (tOp rAddT (tSl rSlT (tVar 2) (tPart (tVar 4)) tNoPart) (tSl rSlT (tVar 2) tNoPart (tPart (tVar 4)))) (tVar 2)))) { nx := fun _ H' => Q .non H', rt := Q } [some (.ref fa), some (.ref p), some (T t), some (.int way), none] H5 := by
      intro t H5 ht hc R5
      have hl0 : 0 < lot.length := List.length_pos_iff.mpr hL.ne
      refine q_when (b := decide (t = [])) (et_test (ev_op (ev_var rfl) ev_c rv_eqT)) (fun hb H6 e6 => ?_) (fun hb H6 e6 => rest2 t H6 ht (of_decide_eq_false hb) hc (R5.then e6))
      refine s_asg (v := T (wd lot 0)) (ev_op (ev_var rfl) ev_c (Evl.rv_ixT (st_of ((R5.then e6).at_ hp np)) (atI_nat (j := 0) (by rw [List.getElem?_map, wd_at hl0]; rfl)))) fun H7 e7 => ?_
      exact rest2 (wd lot 0) H7 (by have := wd_12 hL hl0; omega) (lot_wd hL 0 hl0) (hL.wd _ (List.mem_of_getElem? (wd_at hl0))).2 ((R5.then e6).then e7)
    refine (show tIfS _ _ _ _ _ _ from s_if (b := decide (way = 0)) (et_test (ev_op (ev_var rfl) ev_c rv_I0)) (fun hb H5 e5 => ?_) (fun hb H5 e5 => s_when (b := decide (way = 1)) (et_test (ev_op (ev_var rfl) ev_c rv_I0)) (fun hb2 H6 e6 => ?_) (fun hb2 H6 e6 => rest1 t1 H6 ht1 hc1 (RB.then (e5.trans e6)))))
    · refine s_asg (v := T ((repT 3 t1).take 90)) (ev_is (ev_slT (hi := some 90) (ev_op (ev_var rfl) ev_c (rv_mulT (n := 3) (by decide) (by decide) (by show t1.length * 3 ≤ _; omega))) eo_none (eo_some ev_c) (by rw [repT_len]; show 3 * _ ≤ _; omega)) (by rw [show (some (90 : Int)) = some ((90 : Nat) : Int) from rfl, cutT_to]; rfl)) fun H7 e7 => rest1 _ H7 (by rw [List.length_take]; omega) (fun c hc => hc1 c (repT_mem (List.mem_of_mem_take hc))) (RB.then (e5.trans e7))
    · refine s_asg (v := T ((repT 2 t1).take 90)) (ev_is (ev_slT (hi := some 90) (ev_op (ev_var rfl) ev_c (rv_mulT (n := 2) (by decide) (by decide) (by show t1.length * 2 ≤ _; omega))) eo_none (eo_some ev_c) (by rw [repT_len]; show 2 * _ ≤ _; omega)) (by rw [show (some (90 : Int)) = some ((90 : Nat) : Int) from rfl, cutT_to]; rfl)) fun H7 e7 => rest1 _ H7 (by rw [List.length_take]; omega) (fun c hc => hc1 c (repT_mem (List.mem_of_mem_take hc))) (RB.then ((e5.trans e6).trans e7))
end
end K16
set_option Elab.async false
set_option linter.all false
set_option maxRecDepth 100000
set_option maxHeartbeats 4000000
namespace K16
open PySem PySem.Spec PyProof.Rows L2 Evl Wc Wt Wg We
/-- the rooms of the words from 0 to below j -/
def rmsJ (lot : List Tx) (j : Nat) : List Rm := none :: (List.range j).flatMap fun i => (List.range' 1 ((wd lot i).length - 1)).map fun q => some (i, q)
theorem rmsJ_all (lot : List Tx) : rmsJ lot lot.length = rooms lot := rfl
theorem rmsJ_succ (lot : List Tx) (j : Nat) : rmsJ lot (j + 1) = rmsJ lot j ++ (List.range' 1 ((wd lot j).length - 1)).map fun q => some (j, q) := by
  unfold rmsJ
  rw [List.range_succ, List.flatMap_append, List.flatMap_cons, List.flatMap_nil, List.append_nil]
  rfl
theorem rmsJ_len {lot : List Tx} (h : IsLot lot) : ∀ j, j ≤ lot.length → (rmsJ lot j).length ≤ 1 + 12 * j
  | 0, _ => by unfold rmsJ; simp
  | j + 1, hj => by
    rw [rmsJ_succ, List.length_append, List.length_map, List.length_range']
    have := rmsJ_len h j (by omega)
    have := wd_12 h (i := j) (by omega)
    omega
theorem perm_snd {R : V → Rm → Prop} {us : List V} {l : List Rm} (h : All2 R us l) : ∃ l' : List Rm, l'.Perm l ∧ All2 R (((us.zip l).mergeSort (PySem.W.dataLe false fun z : V × Rm => encM z.2)).map Prod.fst) l' := by
  refine ⟨((us.zip l).mergeSort (PySem.W.dataLe false fun z : V × Rm => encM z.2)).map Prod.snd, ?_, all2_of fun z hz => all2_zip h z ((List.mergeSort_perm _ _).mem_iff.mp hz)⟩
  have := (List.mergeSort_perm (us.zip l) (PySem.W.dataLe false fun z : V × Rm => encM z.2)).map Prod.snd
  rw [zip_snd h.len] at this
  exact this
section
variable {P : Program} {w : World} {K : PySem.W.Frag} {mg : Str → Option Value} {base : Heap}
def sp_rooms : Sp := fun vs H Q _ => ∃ (pl : Addr) (lot : List Tx), vs = [.ref pl] ∧ LotAt pl lot H ∧ ∀ l us rs H', Ex H H' → H' l = some (.lst us) → rs.Perm (rooms lot) → All2 (RmAt H') us rs → Q (.ref l) H'
theorem ok__law_rooms {f : Addr} {fd : FuncData} (F : Fun K "_law_rooms" "_law_rooms" st__law_rooms f fd) (M : Md K mg) : FnOk P w K mg base CX0 1 f fd ["lot"] sp_rooms := by
  have nd := sc__law_rooms.nd
  refine F.ok sc__law_rooms (fun vs H Q E h => ?_) (fun cdv A outer s H vs Q E hr h => ?_)
  · obtain ⟨_, _, rfl, _⟩ := h
    rfl
  · obtain ⟨pl, lot, rfl, ⟨hp, hL⟩, k⟩ := h
    refine ⟨_, (pss_cons (ps_set (i := 1) nd rfl (Or.inl rfl) (pe_lst (pa_cons (pe_tup (pa_cons (pe_un un_neg pe_int) (pa_cons pe_int pa_nil))) pa_nil)))
  (pss_cons (ps_for PassesOwn.never rfl (kiet K (pi_enumT (by rfl) M.n_enumerate (pa_cons (pv 0) pa_nil))) (kgt K (n := 2) (pg_tup rfl (pgs_cons (pg_name (i := 2) nd rfl (Or.inr rfl)) (pgs_cons (pg_name (i := 3) nd rfl (Or.inl rfl)) pgs_nil))))
  (pss_one (ps_expr (kbm K (pe_bm PySem.F.plainAttrs_list PySem.F.slot_list_extend PySem.F.type_list_extend mt_extend (pv 1) (pa_cons (pe_lc (own := [("place", 4)]) rfl nd (pi_range2 (by rfl) M.n_range (pa_cons pe_int (pa_cons (pe_callB cr_lenT (by rfl) M.n_len boot_len (pa_cons (pv 3) pa_nil)) pa_nil))) (blkOk_by (N := N__law_rooms) (sc := defScope st__law_rooms) (by decide +kernel)) (fun _ _ _ _ _ => (pg_name (i := 4) nd rfl (Or.inl rfl))) (fun _ _ _ _ _ => pts_nil) (fun _ _ _ _ _ => (pe_tup (pa_cons (pv 2) (pa_cons (pv 4) pa_nil))))) pa_nil))))))
  (pss_one (ps_ret (pe_callB (Wf.ksortDD (K := K) hr.units) (by rfl) M.n_sorted boot_sorted (pa_cons (pv 1) pa_nil)))))), ?_⟩
    have hfew := hL.few
    refine q_asgA (l_lst (a_any (l_tup (a_ev ev_neg1 fun Ha ea => a_c (a_nil ⟨by show 2 ≤ sizeLine; decide, fun pg hpg => a_nil ⟨by show 1 ≤ sizeLine; decide, fun pf hpf => ?_⟩⟩)))))
    have ex := (ea.trans (Ex.new (o := HO.tup [.int (-1), .int 0]) hpg)).trans (Ex.new (o := HO.lst [.ref pg]) hpf)
    have hpf0 : H pf = none := fresh_back (ea.trans (Ex.new (o := HO.tup [.int (-1), .int 0]) hpg)) hpf
    have hg1 : RmAt (upd (upd Ha pg (.tup [.int (-1), .int 0])) pf (.lst [.ref pg])) (.ref pg) none := ⟨pg, rfl, (Ex.new (o := HO.lst [.ref pg]) hpf) _ _ upd_same⟩
    have h1 : (upd (upd Ha pg (.tup [.int (-1), .int 0])) pf (.lst [.ref pg])) pf = some (.lst [.ref pg]) := upd_same
    generalize upd (upd Ha pg (.tup [.int (-1), .int 0])) pf (.lst [.ref pg]) = H1 at ex hg1 h1
    have hp1 := ex _ _ hp
    have npl : pl ≠ pf := ne_of_none hp hpf0
    show tSeq _ _ _ [some (.ref pl), some (.ref pf), none, none, none] H1
    refine q_forW (fun b => b = pf) (src_enumT (K := K) (xs := lot.map T) (ev_var rfl) (st_of hp1)) ?_
      (fun Hs i σ' H' => ∃ (fs : List V) (v2 v3 v4 : Option V), σ' = [some (.ref pl), some (.ref pf), v2, v3, none] ∧ Exc (fun b => b = pf) Hs H' ∧ H' pf = some (.lst fs) ∧ All2 (RmAt H') fs (rmsJ lot i)) ?_ ?_ ?_ ?_ ?_
    · rintro b rfl
      exact ⟨by rw [h1]; exact fun z => (nomatch z), fun z => npl z.symm⟩
    · intro Hs e
      exact ⟨[.ref pg], none, none, none, rfl, Exc.refl _, e _ _ h1, .one (hg1.ex e)⟩
    · rintro Hs i σ' H' ⟨_, _, _, _, _, h, _⟩
      exact h
    · rintro Hs i σ' Ha Hb ⟨fs, v2, v3, v4, g0, g1, g2, g3⟩ e
      exact ⟨fs, v2, v3, v4, g0, g1.then e, e _ _ g2, g3.mono fun a b z => z.ex e⟩
    · rintro Hs i y σ' H' e hi ⟨fs, v2, v3, v4, rfl, g1, g2, g3⟩ ⟨q, y2, rfl, hy, hq⟩
      rw [List.length_map] at hi
      obtain ⟨wrd, hwr, rfl⟩ := at_map hy
      obtain rfl : wrd = wd lot i := Option.some.inj (hwr.symm.trans (wd_at hi))
      have h12 := wd_12 hL hi
      have hpos := List.length_pos_iff.mpr (lot_wd hL i hi)
      refine g_pair hq ?_
      show tDrop _ _ [some (.ref pl), some (.ref pf), some (.int (i : Int)), some (T (wd lot i)), none] H'
      have hfl : fs.length ≤ 200 := by
        rw [g3.len]
        have := rmsJ_len hL i (by omega)
        omega
      refine ⟨.ref pf, rfl, .inl ⟨rfl, fs, sq_of g2⟩, ?_⟩
      refine lcN (σ := [some (.ref pl), some (.ref pf), some (.int (i : Int)), some (T (wd lot i)), none]) (n := (wd lot i).length - 1) (fun q => .tup (rmV (some (i, 1 + q)))) (src_range2 (lo := 1) (hi := ((wd lot i).length : Int)) (n := (wd lot i).length - 1) (ea_cons ev_c (ea_cons (ev_cb (ea_cons (ev_var rfl) ea_nil) (rc_lenT (by omega))) ea_nil)) (by omega) (by omega) (by omega) (by omega) (by omega)) (by omega) (fun _ => rfl) (fun j x H3 hj hx e3 Q' q' => ?_) fun l H3 ps hl e3 h3 hpl hn3 hnl => ?_
      · obtain rfl := hx
        exact l_tup (a_ev (ev_var rfl) fun Hc ec => a_ev (ev_var rfl) fun Hd ed => a_nil ⟨by show 2 ≤ sizeLine; decide, fun p hp => q' p _ (fresh_back (ec.trans ed) hp) ((ec.trans ed).trans (Ex.new hp)) upd_same⟩)
      · have h2 := e3 _ _ g2
        refine ⟨pf, l, fs, ps.map V.ref, rfl, rfl, h2, h3, Nat.le_trans (show fs.length + (ps.map V.ref).length ≤ 1000 by rw [List.length_map]; omega) (by decide), fs ++ ps.map V.ref, _, _, none, rfl, (g1.then e3).upd (.inl rfl), upd_same, ?_⟩
        rw [rmsJ_succ]
        refine (g3.mono fun a b z => (z.ex e3).upd h2).app ?_
        generalize fs ++ ps.map V.ref = fz
        have hgen : ∀ (ps : List Addr) (s : Nat), (∀ i' p, ps[i']? = some p → H3 p = some (.tup (rmV (some (i, s + i'))))) → All2 (RmAt (upd H3 pf (.lst fz))) (ps.map V.ref) ((List.range' s ps.length).map fun q => some (i, q)) := fun ps => by
          induction ps with
          | nil => intro s h; exact .nil
          | cons p ps ih =>
            intro s h
            exact .cons (RmAt.upd ⟨p, rfl, h 0 p rfl⟩ h2) (ih (s + 1) fun i' q hq => by
              have := h (i' + 1) q hq
              rw [this, show s + 1 + i' = s + (i' + 1) by omega])
        have := hgen ps 1 (fun i' p hp => hn3.at_ i' p hp)
        rw [hpl] at this
        exact this
    · rintro Hs σ' H' e ⟨fs, v2, v3, v4, rfl, g1, g2, g3⟩
      rw [List.length_map, rmsJ_all] at g3
      obtain ⟨rs, hrs, hall⟩ := perm_snd g3
      have eH : Ex H H' := fun b o hb => g1 _ _ (ne_of_none hb hpf0) (e _ _ (ex _ _ hb))
      exact s_retA ((ev_var rfl : Ev (tVar 1) [some (.ref pl), some (.ref pf), v2, v3, none] H' (.ref pf)) H' (Ex.refl _) _ fun H1' e1 => ⟨V × Rm, pf, fs.zip (rooms lot), Prod.fst, fun z => encM z.2, rfl, by rw [zip_fst g3.len]; exact sq_of (e1 _ _ g2), fun z hz => dp_rm ((all2_zip g3 z hz).ex e1), alike_M _, sortable_M _, fun z _ => depth_M z.2, fun r hr => k r _ rs _ ((eH.trans e1).trans (Ex.new hr)) upd_same hrs (hall.mono fun a b z => (z.ex e1).ex (Ex.new hr))⟩)
end
end K16
set_option Elab.async false
set_option linter.all false
set_option maxRecDepth 100000
set_option maxHeartbeats 4000000
/-! dicts with tuples as keys: {pair: v}, list(d.items()), d == {} -/
namespace Wf
open PySem PySem.Spec PyProof.Rows L2 L2.DX Evl Wc Wt
section
variable {X : Cx}
/-- {k: v}, k a tuple -/
def tDisp1T (tk tv : TE) : TE := fun σ H Q => ∀ p, H p = none → tk σ (upd H p (.dT [])) fun x H1 => tv σ H1 fun y H2 => ∃ (ks : List L2.Key) (b : Addr), x = .ref b ∧ H2 b = some (.tup (ks.map kV)) ∧ H2 p = some (.dT []) ∧ Q (.ref p) (upd H2 p (.dT (putK [] ks y)))
theorem pe_disp1T {pos : Pos} {k v : Expr} {tk tv : TE} (hu : X.A.units + 1 < cLine) (hk : PE X k tk) (hv : PE X v tv) : PE X (.Dict [some k] [v] pos) (tDisp1T tk tv) := by
  refine ⟨fun pins s σ H Q I q => ?_⟩
  have hn := I.hok.fresh (Nat.le_refl s.heap.objs.size)
  have I1 := I.laid (a := s.heap.objs.size) (o := .dT []) (h' := s.heap.push { cls := .type "dict", data := .dict #[] }) (t' := s.toks) (fun _ _ q => Heap.get?_push_of_some _ q) (Nat.le_refl _) (dt_empty s.heap I.big)
  refine wpAny_Dict_any rfl rfl (by simp) (by show 1 ≤ 15; decide) (pairTrees_cons_walk (thn (hk.run pins _ σ _ _ I1 (q _ hn)) fun u s1 ⟨x, H1, I1', rx, q1⟩ => thn (hv.run pins s1 σ H1 _ I1' q1) fun w2 s2 ⟨y, H2, I2, ry, q2⟩ => pairTrees_nil_walk ?_))
  obtain ⟨ks, b, rfl, hb, hp, q3⟩ := q2
  cases (show u = Value.ref b from rx)
  obtain ⟨z, hd, xs, rel, dd⟩ := dt_of I2.hok hp
  have hz : xs.length ≤ sizeLine := by rw [← Paired.length rel]; exact z
  unfold storeAll
  rw [List.forIn_cons]
  refine wpAny_bind (wpAny_bind (wpAny_dictSet_heap (hsz := hz) (by show X.A.units < cLine; omega) (key_of I2.hok hb) dd fun h' dd' hs => wpAny_pure ?_))
  dsimp only
  rw [List.forIn_nil]
  obtain ⟨o, es, ep, ho, h2, h3, h4, _, h5⟩ := dd'
  have hl : (putK ([] : List (List L2.Key × V)) ks y).length ≤ sizeLine := by
    have := length_putK ([] : List (List L2.Key × V)) ks y
    rw [List.length_nil] at this
    rw [sizeLine_eq]
    omega
  refine wpAny_pure ⟨.ref s.heap.objs.size, upd H2 s.heap.objs.size (.dT (putK [] ks y)), d_write I2 (by rw [hp]; exact True.intro) hs ⟨o, ho⟩ ⟨hl, hd, _, (rel.put ks hb ry).keeps fun c ys ec => ?_, o, es, ep, ho, h2, h3, h4, h5⟩, rfl, q3⟩
  rw [upd_ne (ne_of ec hp (fun z => nomatch z))]
  exact ec
/-- d == {} -/
def rEqT0 : R2 := fun x y H Q => ∃ (a b : Addr) (kvs : List (List L2.Key × V)), x = .ref a ∧ y = .ref b ∧ H a = some (.dT kvs) ∧ H b = some (.dT []) ∧ Q (.bl (decide (kvs = []))) H
theorem op_eqT0 (hu : X.A.units < cLine) : OpR X (compareOp .Eq) rEqT0 := by
  intro pins s σ H x y v u Q I rx ry h
  obtain ⟨a, b, kvs, rfl, rfl, ha, hb, q⟩ := h
  cases (show v = Value.ref a from rx)
  cases (show u = Value.ref b from ry)
  obtain ⟨_, ya, xa, ra, oa, es, ep, hoa, hca, hda, hea, _, _⟩ := dt_of I.hok ha
  obtain ⟨_, yb, xb, rb, ob, es', ep', hob, hcb, hdb, heb, _, _⟩ := dt_of I.hok hb
  have l1 : es.size = kvs.length := by rw [size_of_entries hea, ← Paired.length ra]
  have l2 : es'.size = 0 := by rw [size_of_entries heb, ← Paired.length rb]; rfl
  have tya : s.TypeIs (.ref a) "dict" := ⟨oa, hoa, hca.1⟩
  have tyb : s.TypeIs (.ref b) "dict" := ⟨ob, hob, hcb.1⟩
  show wpAny (model X.prog X.w) X.A (richCompare .Eq (.ref a) (.ref b)) _ _ s
  refine wpAny_richCompare_same_room (op := .Eq) tya tyb PySem.F.slot_dict_eq (wpAny_call_entry PySem.F.slot_dict_eq tya PySem.F.entry_dict_eq ?_ (PySem.F.args_dict_eq_2 _ _)) hu
  show wpAny _ _ (Builtin.Dict.dictSlotArgs "__eq__" ⟨[.ref a, .ref b], []⟩ >>= _) _ _ s
  refine wpAny_bind ?_
  unfold Builtin.Dict.dictSlotArgs
  refine wpAny_bind (wpAny_notOrdered_dict tya ?_)
  show wpAny _ _ (pure (Value.ref a, Value.ref b)) _ _ s
  refine wpAny_pure ?_
  refine wpAny_bind (wpAny_isInstance (T := "dict") tyb PySem.F.sub_dict_dict ?_)
  simp only [Bool.not_true, Bool.false_eq_true, if_false]
  refine wpAny_bind (wpAny_pure (wpAny_bind (wpAny_pure ?_)))
  have fin : ∀ c : Bool, c = decide (kvs = []) → ∃ x H1, Inv X pins σ H1 s ∧ RelV x (Value.bool c) ∧ Q x H1 := fun c hc => ⟨.bl c, H, I, rfl, by rw [hc]; exact q⟩
  refine wpAny_bind ?_
  unfold Builtin.Dict.samePairs Builtin.Dict.showsAll
  rw [if_neg (show ¬ (a == sysModules) = true by rw [ya]; exact Bool.false_ne_true), if_neg (show ¬ (b == sysModules) = true by rw [yb]; exact Bool.false_ne_true)]
  refine wpAny_bind (wpAny_pure (wpAny_bind (wpAny_pure ?_)))
  refine wpAny_bind (wpAny_dictEntries hoa hda ?_)
  dsimp only
  refine wpAny_bind (wpAny_dictEntries hob hdb ?_)
  by_cases hsz : es.size = es'.size
  case neg =>
    rw [if_pos (by simpa using hsz)]
    refine wpAny_bind (wpAny_rule (wpAny_pure ?_))
    refine wpAny_pure ⟨_, rfl, ?_, ?_⟩
    · exact fun x => nomatch x
    · exact fin false (decide_eq_false (fun z => by rw [z] at l1; exact hsz (by rw [l1, l2]; rfl))).symm
  case pos =>
    have h0 : kvs = [] := List.length_eq_zero_iff.mp (by omega)
    have he0 : es.size = 0 := by omega
    rw [if_neg (by rw [hsz]; simp)]
    refine wpAny_bind (wpAny_dictEpoch hoa hda ?_)
    refine wpAny_bind ?_
    rw [Std.Legacy.Range.forIn_eq_forIn_range']
    simp only [Std.Legacy.Range.size, Nat.sub_zero, Nat.add_sub_cancel, Nat.div_one, he0, List.range'_zero, List.forIn_nil]
    refine wpAny_pure (wpAny_pure ?_)
    refine wpAny_pure ⟨_, rfl, ?_, ?_⟩
    · exact fun x => nomatch x
    · exact fin true (decide_eq_true h0).symm
/-- list(d.items()) -/
def rListIt : List V → Hp → VK → Prop := fun vs H Q => ∃ (p a : Addr) (kvs : List (List L2.Key × V)), vs = [.ref p] ∧ H p = some (itemsO p a) ∧ H a = some (.dT kvs) ∧
  ∀ (H' : Hp) (l : Addr) (ps : List Addr), Ex H H' → H l = none → H' l = some (.lst (ps.map V.ref)) → ps.length = kvs.length → (∀ (j : Nat) (q : Addr), ps[j]? = some q → ∃ (kv : List L2.Key × V) (b : Addr), kvs[j]? = some kv ∧ H' q = some (.tup [.ref b, kv.2]) ∧ H b = some (.tup (kv.1.map kV))) → Q (.ref l) H'
theorem cr_listIt (hc : X.calm = true) : CallR X (.type "list") rListIt := by
  intro pins s σ H xs us Q I r h
  obtain ⟨p, a, kvs, rfl, hp, ha, q⟩ := h
  obtain rfl := Vals.ref1 r
  have view : s.heap.IsItemsView p a := (show ObjOk X.prog X.w H s.heap p (itemsO p a) from I.hok p _ hp).1
  obtain ⟨z, hd, xs', rel, o, es, ep, ho, hx, hdat, hes, his, hn⟩ := dt_of I.hok ha
  have l1 : kvs.length = xs'.length := Paired.length rel
  have l2 : es.size = xs'.length := size_of_entries hes
  refine PySem.W.dil_call (es := es) (ep := ep) (I.ok.hd hc) view ⟨o, ho, hx, hdat⟩ (by omega) fun h' tk acc c as hk hS' hl hG hacc => ?_
  have hnS : H s.heap.objs.size = none := I.hok.fresh (Nat.le_refl _)
  have nd : as.Nodup := List.Pairwise.imp (fun h => Nat.ne_of_lt h) hG.rise
  have I1 : Inv X pins σ (upd H s.heap.objs.size (.lst (as.map V.ref))) { s with heap := h', toks := tk } := I.laid (t' := tk) (o := .lst (as.map V.ref)) hk (Nat.le_refl _) ⟨by rw [List.length_map]; omega, acc.toList, c, by rw [hacc]; exact vals_refs _, by rw [Array.toArray_toList]; exact hS'⟩
  obtain ⟨H2, I2, g, t⟩ := takeT (P := fun b vs => ∃ (j : Nat) (kv : List L2.Key × V) (kq : Addr), as[j]? = some b ∧ kvs[j]? = some kv ∧ vs = [.ref kq, kv.2] ∧ H kq = some (.tup (kv.1.map kV))) I as _ I1 nd fun b hb => by
    obtain ⟨j, hj⟩ := List.mem_iff_getElem?.mp hb
    obtain ⟨hjs, e2⟩ := hG.pairs j b hj
    have hlt := hG.above b hb
    have hxj : xs'[j]? = some xs'[j] := List.getElem?_eq_getElem (by omega)
    have een : entryOfKey (tupleKind (mixKind X.prog X.w)) xs'[j] = es[j] := by
      have h1 := entry_at hes j
      rw [hxj, Array.getElem?_eq_getElem hjs] at h1
      exact (Option.some.inj h1).symm
    obtain ⟨kv, hkv, r1, r2, r3⟩ := pget rel hxj
    refine ⟨Nat.le_of_lt hlt, ?_, [.ref xs'[j].2.1, kv.2], ⟨j, kv, _, hj, hkv, rfl, r2⟩, fun H2 => ⟨by show 2 ≤ sizeLine; decide, [.ref xs'[j].2.1, xs'[j].2.2], .cons rfl (.cons r3 .nil), _, e2, rfl, 0, ?_⟩⟩
    · rw [upd_ne (Nat.ne_of_gt hlt)]
      exact I.hok.fresh (Nat.le_of_lt hlt)
    · rw [← een]
      rfl
  refine ⟨.ref s.heap.objs.size, H2, I2, rfl, q H2 _ as (fun b ob e => g b ob (Ex.new hnS b ob e)) hnS (g _ _ upd_same) (by omega) fun j b hj => ?_⟩
  obtain ⟨vs, ⟨j', kv, kq, hj', hkv, rfl, hkq⟩, hb⟩ := t b (List.mem_of_getElem? hj)
  have : j' = j := (List.getElem?_inj (List.getElem?_eq_some_iff.mp hj').1 nd).mp (hj'.trans hj.symm)
  subst this
  exact ⟨kv, kq, hkv, hb, hkq⟩
end
end Wf
set_option Elab.async false
set_option linter.all false
set_option maxRecDepth 100000
set_option maxHeartbeats 4000000
namespace K16
open PySem PySem.Spec PyProof.Rows L2 Evl Wc Wt Wg We Wf _root_.Wd
/-! dicts of rooms -/
abbrev DR := List (Rm × Nat)
def rmK : Rm → List L2.Key
  | none => [.inl (-1), .inl 0]
  | some (i, q) => [.inl (i : Int), .inl (q : Int)]
theorem rmK_V (r : Rm) : (rmK r).map kV = rmV r := by
  cases r with
  | none => rfl
  | some r => rfl
theorem rmK_inj {a b : Rm} (h : rmK a = rmK b) : a = b := by
  cases a with
  | none => cases b with
    | none => rfl
    | some b =>
      obtain ⟨i, q⟩ := b
      unfold rmK at h
      have := Sum.inl.inj (List.cons.inj h).1
      omega
  | some a =>
    obtain ⟨i, q⟩ := a
    cases b with
    | none =>
      unfold rmK at h
      have := Sum.inl.inj (List.cons.inj h).1
      omega
    | some b =>
      obtain ⟨j, p⟩ := b
      unfold rmK at h
      have h1 := Sum.inl.inj (List.cons.inj h).1
      have h2 := Sum.inl.inj (List.cons.inj (List.cons.inj h).2).1
      rw [Int.ofNat_inj.mp h1, Int.ofNat_inj.mp h2]
def drV (D : DR) : List (List L2.Key × V) := D.map fun e => (rmK e.1, V.int ((e.2 : Nat) : Int))
theorem drV_len (D : DR) : (drV D).length = D.length := List.length_map _
def getR : DR → Rm → Nat
  | [], _ => 0
  | e :: D, r => if e.1 = r then e.2 else getR D r
def addR : DR → Rm → Nat → DR
  | [], r, m => [(r, m)]
  | e :: D, r, m => if e.1 = r then (e.1, e.2 + m) :: D else e :: addR D r m
theorem get_dr : ∀ (D : DR) (r : Rm), (valV (drV D) (rmK r)).getD (.int 0) = .int ((getR D r : Nat) : Int)
  | [], r => rfl
  | e :: D, r => by
    show (valV ((rmK e.1, V.int ((e.2 : Nat) : Int)) :: drV D) (rmK r)).getD (.int 0) = _
    unfold getR
    by_cases h : e.1 = r
    · rw [if_pos h, valV_pos (p := (rmK e.1, V.int ((e.2 : Nat) : Int))) (by rw [h])]
      rfl
    · rw [if_neg h, valV_neg (p := (rmK e.1, V.int ((e.2 : Nat) : Int))) (fun z => h (rmK_inj z)), get_dr D r]
theorem putK_pos {κ : Type} [DecidableEq κ] {p : κ × V} {r : List (κ × V)} {k : κ} {v : V} (e : p.1 = k) (hn : ∀ x ∈ r, x.1 ≠ k) : putK (p :: r) k v = (p.1, v) :: r := by
  unfold putK
  rw [List.any_cons, decide_eq_true e, Bool.true_or, if_pos rfl, List.map_cons, if_pos e]
  congr 1
  conv => rhs; rw [← List.map_id r]
  exact List.map_congr_left fun x hx => if_neg (hn x hx)
theorem putK_neg {κ : Type} [DecidableEq κ] {p : κ × V} {r : List (κ × V)} {k : κ} {v : V} (e : ¬ p.1 = k) : putK (p :: r) k v = p :: putK r k v := by
  unfold putK
  rw [List.any_cons, decide_eq_false e, Bool.false_or]
  split
  · rw [List.map_cons, if_neg e]
  · rfl
theorem put_dr : ∀ (D : DR) (r : Rm) (m : Nat), (D.map Prod.fst).Nodup → putK (drV D) (rmK r) (.int ((getR D r + m : Nat) : Int)) = drV (addR D r m)
  | [], r, m, _ => by
    unfold getR
    rw [Nat.zero_add]
    rfl
  | e :: D, r, m, hn => by
    rw [List.map_cons, List.nodup_cons] at hn
    show putK ((rmK e.1, V.int ((e.2 : Nat) : Int)) :: drV D) (rmK r) _ = _
    unfold getR addR
    by_cases h : e.1 = r
    · rw [if_pos h, if_pos h, putK_pos (by rw [h]) (fun x hx z => ?_)]
      · rfl
      · obtain ⟨y, hy, rfl⟩ := List.mem_map.mp hx
        have := rmK_inj z
        exact hn.1 (List.mem_map.mpr ⟨y, hy, by rw [this, h]⟩)
    · rw [if_neg h, if_neg h, putK_neg (fun z => h (rmK_inj z)), put_dr D r m hn.2]
      rfl
theorem addR_keys : ∀ (D : DR) (r : Rm) (m : Nat), (addR D r m).map Prod.fst = if r ∈ D.map Prod.fst then D.map Prod.fst else D.map Prod.fst ++ [r]
  | [], r, m => rfl
  | e :: D, r, m => by
    unfold addR
    by_cases h : e.1 = r
    · rw [if_pos h, if_pos (by rw [List.map_cons, h]; exact List.mem_cons_self), List.map_cons, List.map_cons]
    · rw [if_neg h, List.map_cons, addR_keys D r m, List.map_cons]
      by_cases hr : r ∈ D.map Prod.fst
      · rw [if_pos hr, if_pos (List.mem_cons_of_mem _ hr)]
      · rw [if_neg hr, if_neg (fun z => (List.mem_cons.mp z).elim (fun q => h q.symm) hr)]
        rfl
/-- rooms, none twice -/
structure KD (lot : List Tx) (D : DR) : Prop where
  nd : (D.map Prod.fst).Nodup
  rm : ∀ r ∈ D.map Prod.fst, IsRm lot r
theorem KD.add {lot : List Tx} {D : DR} {r : Rm} {m : Nat} (h : KD lot D) (hr : IsRm lot r) : KD lot (addR D r m) := by
  refine ⟨?_, fun x hx => ?_⟩
  · rw [addR_keys]
    split
    · exact h.nd
    · rename_i hn
      refine List.nodup_append.mpr ⟨h.nd, List.nodup_cons.mpr ⟨fun z => (nomatch z), List.nodup_nil⟩, fun a ha b hb z => ?_⟩
      rw [List.mem_singleton.mp hb] at z
      exact hn (z ▸ ha)
  · rw [addR_keys] at hx
    split at hx
    · exact h.rm x hx
    · rcases List.mem_append.mp hx with z | z
      · exact h.rm x z
      · rw [List.mem_singleton.mp z]
        exact hr
def Lw (D : DR) (g : Rm → Nat) : Nat := Sm D fun e => e.2 * g e.1
theorem Lw_add (g : Rm → Nat) : ∀ (D : DR) (r : Rm) (m : Nat), Lw (addR D r m) g = Lw D g + m * g r
  | [], r, m => by
    show Sm [(r, m)] (fun e : Rm × Nat => e.2 * g e.1) = Sm [] (fun e : Rm × Nat => e.2 * g e.1) + m * g r
    rw [Sm_cons, Sm_nil, Nat.add_zero, Nat.zero_add]
  | e :: D, r, m => by
    unfold addR Lw
    by_cases h : e.1 = r
    · rw [if_pos h, Sm_cons, Sm_cons, ← h]
      show (e.2 + m) * g e.1 + _ = _
      rw [Nat.add_mul]
      omega
    · rw [if_neg h, Sm_cons, Sm_cons]
      have := Lw_add g D r m
      unfold Lw at this
      omega
theorem get_Lw : ∀ (D : DR) (r : Rm), (D.map Prod.fst).Nodup → Lw D (fun m => if m = r then 1 else 0) = getR D r
  | [], r, _ => rfl
  | e :: D, r, hn => by
    rw [List.map_cons, List.nodup_cons] at hn
    unfold Lw getR
    rw [Sm_cons]
    show e.2 * (if e.1 = r then 1 else 0) + Sm D (fun e => e.2 * (if e.1 = r then 1 else 0)) = _
    by_cases h : e.1 = r
    · rw [if_pos h, if_pos h, Nat.mul_one, Sm_zero fun x hx => ?_, Nat.add_zero]
      rw [if_neg fun z => hn.1 (List.mem_map.mpr ⟨x, hx, by rw [z, h]⟩), Nat.mul_zero]
    · rw [if_neg h, if_neg h, Nat.mul_zero, Nat.zero_add]
      exact get_Lw D r hn.2
theorem nd_le {α : Type} [DecidableEq α] : ∀ {l m : List α}, l.Nodup → (∀ a ∈ l, a ∈ m) → l.length ≤ m.length
  | [], m, _, _ => Nat.zero_le _
  | a :: l, m, hn, h => by
    rw [List.nodup_cons] at hn
    have ha := h a List.mem_cons_self
    have h1 := List.length_erase_of_mem ha
    have h2 := nd_le (l := l) (m := m.erase a) hn.2 fun b hb => (List.mem_erase_of_ne (fun z : b = a => hn.1 (by rw [← z]; exact hb))).mpr (h b (List.mem_cons_of_mem _ hb))
    have h3 : 0 < m.length := List.length_pos_of_mem ha
    rw [List.length_cons]
    omega
theorem KD.len {lot : List Tx} (hL : IsLot lot) {D : DR} (h : KD lot D) : D.length ≤ 200 := by
  have h1 := nd_le h.nd fun r hr => mem_rooms.mpr (h.rm r hr)
  have h2 := rmsJ_len hL lot.length (Nat.le_refl _)
  have := hL.few
  rw [rmsJ_all] at h2
  rw [List.length_map] at h1
  omega
theorem Sm_perm {α : Type} {l m : List α} {f : α → Nat} (h : l.Perm m) : Sm l f = Sm m f := by
  induction h with
  | nil => rfl
  | cons a _ ih => rw [Sm_cons, Sm_cons, ih]
  | swap a b l => rw [Sm_cons, Sm_cons, Sm_cons, Sm_cons]; omega
  | trans _ _ h1 h2 => rw [h1, h2]
theorem Sm_succ {α : Type} {l : List α} {f : α → Nat} {i : Nat} {a : α} (h : l[i]? = some a) : Sm (l.take (i + 1)) f = Sm (l.take i) f + f a := by
  rw [List.take_add_one, h, Sm_app]
  show _ + Sm [a] f = _
  rw [Sm_cons, Sm_nil, Nat.add_zero]
/-- an entry of the list of items -/
def ItAt (H : Hp) (v : V) (e : Rm × Nat) : Prop := ∃ q b, v = .ref q ∧ H q = some (.tup [.ref b, .int ((e.2 : Nat) : Int)]) ∧ H b = some (.tup (rmV e.1))
theorem RmAt.exc {H H1 : Hp} {v : V} {r : Rm} {p : Addr} {kvs : List (List L2.Key × V)} (h : RmAt H v r) (hp : H p = some (.dT kvs)) (e : Exc (fun b => b = p) H H1) : RmAt H1 v r := by
  obtain ⟨a, h1, h2⟩ := h
  exact ⟨a, h1, e _ _ (fun z : a = p => by rw [z, hp] at h2; cases h2) h2⟩
theorem s_forOf {K : PySem.W.Frag} {σ : L2.St} {H : Hp} {te0 : TE} {g : TG} {tb : TS} {D : Ends} (h : te0 σ H fun v H1 => tFor (iList K (fun _ H' Q' => Q' v H')) g tb D σ H1) : tFor (iList K te0) g tb D σ H := h
theorem wp_items {K : PySem.W.Frag} {σ : L2.St} {H : Hp} {i : Nat} {d : Addr} {D : DR} {Q : VK} (h0 : σ[i]? = some (some (.ref d))) (hd : H d = some (.dT (drV D))) (k : ∀ l us H1, Ex H H1 → H l = none → H1 l = some (.lst us) → All2 (ItAt H1) us D → Q (.ref l) H1) : tCB rListIt (tCons (tBM0 K "dict" L2.DX.rItemsT (tVar i)) tNil) σ H Q :=
  ⟨.ref d, h0, .inr (.inr (.inl ⟨rfl, .inr ⟨_, hd⟩⟩)), d, drV D, rfl, rfl, hd, fun p hp => ⟨p, d, drV D, rfl, upd_same, (Ex.new hp) _ _ hd, fun H' l ps e hl h1 h2 h3 => k l _ H' ((Ex.new hp).trans e) (fresh_back (Ex.new hp) hl) h1 (by
    rw [drV_len] at h2
    have hgen : ∀ (ps : List Addr) (D : DR), ps.length = D.length → (∀ (j : Nat) (q : Addr), ps[j]? = some q → ∃ (kv : List L2.Key × V) (b : Addr), (drV D)[j]? = some kv ∧ H' q = some (.tup [.ref b, kv.2]) ∧ H' b = some (.tup (kv.1.map kV))) → All2 (ItAt H') (ps.map V.ref) D := fun ps => by
      induction ps with
      | nil =>
        intro D hl _
        rw [List.length_eq_zero_iff.mp hl.symm]
        exact .nil
      | cons q ps ih =>
        intro D hl h
        cases D with
        | nil => cases hl
        | cons e D =>
          refine .cons ?_ (ih D (by simpa using hl) fun j q' hj => h (j + 1) q' hj)
          obtain ⟨kv, b, g1, g2, g3⟩ := h 0 q rfl
          obtain rfl : (rmK e.1, V.int ((e.2 : Nat) : Int)) = kv := Option.some.inj g1
          exact ⟨q, b, rfl, g2, by rw [← rmK_V]; exact g3⟩
    exact hgen ps D h2 fun j q hj => by
      obtain ⟨kv, b, g1, g2, g3⟩ := h3 j q hj
      exact ⟨kv, b, g1, g2, e _ _ g3⟩)⟩⟩
section
variable {P : Program} {w : World} {K : PySem.W.Frag} {mg : Str → Option Value} {base : Heap}
def sp_number_of : Sp := fun vs H Q _ => ∃ (pl : Addr) (lot : List Tx) (t : Tx), vs = [.ref pl, T t] ∧ LotAt pl lot H ∧ t.length ≤ 400 ∧ RetV (.int ((N lot t : Nat) : Int)) H Q
theorem ok__law_number {f : Addr} {fd : FuncData} (F : Fun K "_law_number" "_law_number" st__law_number f fd) (M : Md K mg) (C__law_rooms : Cal P w K mg base "_law_rooms" st__law_rooms 1 ["lot"] sp_rooms) (C__law_doors : Cal P w K mg base "_law_doors" st__law_doors 1 ["lot", "room", "sign"] sp_doors) : FnOk P w K mg base CX0 2 f fd ["lot", "text"] sp_number_of := by
  have nd := sc__law_number.nd
  refine F.ok sc__law_number (fun vs H Q E h => ?_) (fun cdv A outer s H vs Q E hr h => ?_)
  · obtain ⟨_, _, _, rfl, _⟩ := h
    rfl
  · obtain ⟨pl, lot, t, rfl, hLA, hlen, ret⟩ := h
    refine ⟨_, (pss_cons (ps_set (i := 2) nd rfl (Or.inl rfl) pe_int)
  (pss_cons (ps_for PassesOwn.never rfl (kil K (pi_list (pe_cl C__law_rooms hr (pa_cons (pv 0) pa_nil)))) (pg_name (i := 3) nd rfl (Or.inl rfl))
  (pss_cons (ps_set (i := 4) nd rfl (Or.inl rfl) (Wf.pe_disp1T (hu1 hr.units) (pv 3) pe_int))
  (pss_cons (ps_for PassesOwn.never rfl (pi_str (pv 1)) (pg_name (i := 5) nd rfl (Or.inl rfl))
  (pss_cons (ps_set (i := 6) nd rfl (Or.inl rfl) pe_dnewT)
  (pss_cons (ps_for PassesOwn.never rfl (kil K (pi_list (pe_callTy (Wf.cr_listIt rfl) (by rfl) M.n_list boot_list (pa_cons (kbm0 K (pe_bm0 PySem.F.plainAttrs_dict PySem.F.slot_dict_items PySem.F.type_dict_items L2.DX.mt_itemsT (pv 4))) pa_nil)))) (kgt K (n := 2) (pg_tup rfl (pgs_cons (pg_name (i := 7) nd rfl (Or.inl rfl)) (pgs_cons (pg_name (i := 8) nd rfl (Or.inl rfl)) pgs_nil))))
  (pss_one (ps_for PassesOwn.never rfl (kil K (pi_list (pe_cl C__law_doors hr (pa_cons (pv 0) (pa_cons (pv 7) (pa_cons (pv 5) pa_nil)))))) (pg_name (i := 9) nd rfl (Or.inl rfl))
  (pss_one (ps_dput (hu1 hr.units) (pv 6) (pv 9) (pe_op op_add (pe_dget2 (hu1 hr.units) (pv 6) (pv 9) pe_int ⟨rfl, rfl, rfl, rfl⟩) (pv 8)) (by rfl))))))
  (pss_cons (ps_set (i := 4) nd rfl (Or.inl rfl) (pv 6))
  (pss_one (ps_if (pt_cmpR (Wf.op_eqT0 (Nat.lt_of_succ_lt (hu1 hr.units))) (pv 4) pe_dnewT (nomark _))
  (pss_one ps_break)
  pss_nil))))))
  (pss_one (ps_set (i := 2) nd rfl (Or.inl rfl) (pe_op op_add (pv 2) (pe_dget2 (hu1 hr.units) (pv 4) (pv 3) pe_int ⟨rfl, rfl, rfl, rfl⟩)))))))
  (pss_one (ps_ret (pv 2))))), ?_⟩
    have hL := hLA.2
    refine q_asg (v := .int ((0 : Nat) : Int)) ev_c fun H1 e1 => ?_
    show tSeq _ _ _ [some (.ref pl), some (T t), some (.int ((0 : Nat) : Int)), none, none, none, none, none, none, none] H1
    refine q_forOf ⟨.ref pl, rfl, pl, lot, rfl, hLA.ex e1, fun l us rs H2 e2 h2 hrs hus => ?_⟩
    have e12 := e1.trans e2
    refine q_forW (fun _ => False) (src_list (K := K) ev_it (sq_of h2)) (fun _ z => z.elim)
      (fun Hs j σ' H' => ∃ (v3 v4 v5 v6 v7 v8 v9 : Option V), σ' = [some (.ref pl), some (T t), some (.int ((Sm (rs.take j) (fun r => W lot r r t) : Nat) : Int)), v3, v4, v5, v6, v7, v8, v9] ∧ Ex Hs H') ?_ ?_ ?_ ?_ ?_
    · intro Hs e
      exact ⟨_, _, _, _, _, _, _, rfl, Ex.refl _⟩
    · rintro Hs i σ' H' ⟨_, _, _, _, _, _, _, _, h⟩
      exact .of h
    · rintro Hs i σ' Ha Hb ⟨v3, v4, v5, v6, v7, v8, v9, h0, h1⟩ e
      exact ⟨v3, v4, v5, v6, v7, v8, v9, h0, h1.trans e⟩
    · rintro Hs j y σ' H' e hj ⟨v3, v4, v5, v6, v7, v8, v9, rfl, hx⟩ hy
      have hjl : j < rs.length := by rw [← hus.len]; exact hj
      obtain ⟨r, hr⟩ : ∃ r, rs[j]? = some r := ⟨_, List.getElem?_eq_getElem hjl⟩
      obtain ⟨y', hy', hyr⟩ := hus.at_ hr
      obtain rfl : y' = y := Option.some.inj (hy'.symm.trans hy)
      have hrm : IsRm lot r := mem_rooms.mp (hrs.mem_iff.mp (List.mem_of_getElem? hr))
      have eA := e.trans hx
      obtain ⟨ar, rfl, har⟩ := hyr.ex eA
      have hLA' := hLA.ex (e12.trans eA)
      rw [Sm_succ hr]
      generalize Sm (rs.take j) (fun r => W lot r r t) = s0
      show tSeq _ _ _ [some (.ref pl), some (T t), some (.int ((s0 : Nat) : Int)), some (.ref ar), v4, v5, v6, v7, v8, v9] H'
      refine q_asgA fun d0 hd0 => ⟨.ref ar, rfl, rmK r, ar, rfl, by rw [rmK_V]; exact (Ex.new hd0) _ _ har, upd_same, ?_⟩
      have eB : Ex H' (upd (upd H' d0 (.dT [])) d0 (.dT (putK [] (rmK r) (.int 1)))) := Ex.mut (Ex.new hd0) hd0
      have h0d : (upd (upd H' d0 (.dT [])) d0 (.dT (putK [] (rmK r) (.int 1)))) d0 = some (.dT (drV [(r, 1)])) := upd_same
      generalize upd (upd H' d0 (.dT [])) d0 (.dT (putK [] (rmK r) (.int 1))) = H3 at eB h0d
      show tSeq _ _ _ [some (.ref pl), some (T t), some (.int ((s0 : Nat) : Int)), some (.ref ar), some (.ref d0), v5, v6, v7, v8, v9] H3
      have fin : ∀ {D : Ends} {H4 : Hp} {d : Addr} {Dd : DR} {v5 v6 v7 v8 v9 : Option V}, (∀ H5, Ex H4 H5 → D.nx [some (.ref pl), some (T t), some (.int ((s0 + W lot r r t : Nat) : Int)), some (.ref ar), some (.ref d), v5, v6, v7, v8, v9] H5) → Ex H' H4 → H4 d = some (.dT (drV Dd)) → getR Dd r = W lot r r t → tAsg (tOp (rI0 fun i j => .int (i + j)) (tVar 2) (tDGet2 (tVar 4) (tVar 3) (tC (.int 0)))) (gName 2) D [some (.ref pl), some (T t), some (.int ((s0 : Nat) : Int)), some (.ref ar), some (.ref d), v5, v6, v7, v8, v9] H4 := fun {D H4 d Dd v5 v6 v7 v8 v9} kk ex hd hg => by
        have hget : Ev (tDGet2 (tVar 4) (tVar 3) (tC (.int 0))) [some (.ref pl), some (T t), some (.int ((s0 : Nat) : Int)), some (.ref ar), some (.ref d), v5, v6, v7, v8, v9] H4 (.int ((W lot r r t : Nat) : Int)) := fun H5 e5 Q q => ⟨.ref d, rfl, d, rfl, .inr ⟨_, .inl (e5 _ _ hd)⟩, .ref ar, rfl, _, DGet.t (k := rmK r) (e5 _ _ hd) (by rw [rmK_V]; exact e5 _ _ (ex _ _ har)), by
          rw [get_dr, hg]
          exact q H5 (Ex.refl _)⟩
        exact s_asg (v := .int ((s0 + W lot r r t : Nat) : Int)) (ev_is (ev_op (ev_var rfl) hget rv_I0) (by congr 1)) fun H5 e5 => kk H5 e5
      refine q_forW (fun _ => False) (src_str (ev_var rfl)) (fun _ z => z.elim)
        (fun Ht i σ' H4 => ∃ (d : Addr) (D : DR) (v5 v6 v7 v8 v9 : Option V), σ' = [some (.ref pl), some (T t), some (.int ((s0 : Nat) : Int)), some (.ref ar), some (.ref d), v5, v6, v7, v8, v9] ∧ Ex Ht H4 ∧ H4 d = some (.dT (drV D)) ∧ KD lot D ∧ Lw D (fun m => W lot m r (t.drop i)) = W lot r r t) ?_ ?_ ?_ ?_ ?_
      · intro Ht e4
        refine ⟨d0, [(r, 1)], _, _, _, _, _, rfl, Ex.refl _, e4 _ _ h0d, ⟨List.nodup_cons.mpr ⟨fun z => (nomatch z), List.nodup_nil⟩, fun x hx => by rw [List.mem_singleton.mp hx]; exact hrm⟩, ?_⟩
        show Sm [(r, 1)] (fun e => e.2 * W lot e.1 r t) = _
        rw [Sm_cons, Sm_nil, Nat.add_zero, Nat.one_mul]
      · rintro Ht i σ' H4 ⟨_, _, _, _, _, _, _, _, h, _⟩
        exact .of h
      · rintro Ht i σ' Ha Hb ⟨d, D, v5, v6, v7, v8, v9, g0, g1, g2, g3⟩ e4
        exact ⟨d, D, v5, v6, v7, v8, v9, g0, g1.trans e4, e4 _ _ g2, g3⟩
      · rintro Ht i y σ' H4 e4 hi ⟨d, D, v5, v6, v7, v8, v9, rfl, g1, g2, g3, g4⟩ hy
        obtain ⟨c, hc, rfl⟩ := at_map hy
        have hdr : t.drop i = c :: t.drop (i + 1) := by
          obtain ⟨hl, h3⟩ := List.getElem?_eq_some_iff.mp hc
          rw [← h3]
          exact List.drop_eq_getElem_cons hl
        have e34 := e4.trans g1
        show tSeq _ _ _ [some (.ref pl), some (T t), some (.int ((s0 : Nat) : Int)), some (.ref ar), some (.ref d), some (T [c]), v6, v7, v8, v9] H4
        refine q_asgA fun dl hdl => ?_
        have e45 : Ex H4 (upd H4 dl (.dT [])) := Ex.new hdl
        have h5l : (upd H4 dl (.dT [])) dl = some (.dT (drV [])) := upd_same
        generalize upd H4 dl (.dT []) = H5 at e45 h5l
        have ndl : ∀ {b : Addr} {o : HO}, H4 b = some o → b ≠ dl := fun hb => ne_of_none hb hdl
        show tSeq _ _ _ [some (.ref pl), some (T t), some (.int ((s0 : Nat) : Int)), some (.ref ar), some (.ref d), some (T [c]), some (.ref dl), v7, v8, v9] H5
        refine q_forOf (wp_items (i := 4) rfl (e45 _ _ g2) fun li us2 H6 e56 hli h6 hit => ?_)
        have nli : dl ≠ li := ne_of_none h5l hli
        have h6l := e56 _ _ h5l
        have hLA6 : LotAt pl lot H6 := hLA'.ex (((eB.trans e34).trans e45).trans e56)
        have npl : pl ≠ dl := ndl ((eB.trans e34) _ _ hLA'.1)
        refine q_forW (fun b => b = dl) (src_list (K := K) ev_it (sq_of h6)) ?_
          (fun Hu jj σ' H7 => ∃ (D' : DR) (v7 v8 v9 : Option V), σ' = [some (.ref pl), some (T t), some (.int ((s0 : Nat) : Int)), some (.ref ar), some (.ref d), some (T [c]), some (.ref dl), v7, v8, v9] ∧ Exc (fun b => b = dl) Hu H7 ∧ H7 dl = some (.dT (drV D')) ∧ KD lot D' ∧ ∀ g : Rm → Nat, Lw D' g = Sm (D.take jj) (fun e => e.2 * Sm (doors lot e.1 c) g)) ?_ ?_ ?_ ?_ ?_
        · rintro b rfl
          exact ⟨by rw [h6l]; exact fun z => (nomatch z), nli⟩
        · intro Hu e7
          exact ⟨[], _, _, _, rfl, Exc.refl _, e7 _ _ h6l, ⟨List.nodup_nil, fun x hx => nomatch hx⟩, fun g => rfl⟩
        · rintro Hu i' σ' H7 ⟨_, _, _, _, _, h, _⟩
          exact h
        · rintro Hu i' σ' Ha Hb ⟨D', v7, v8, v9, q0, q1, q2, q3⟩ e7
          exact ⟨D', v7, v8, v9, q0, q1.then e7, e7 _ _ q2, q3⟩
        · rintro Hu jj y σ' H7 e7 hjj ⟨D', v7, v8, v9, rfl, q1, q2, q3, q4⟩ hy2
          have hjD : jj < D.length := by rw [← hit.len]; exact hjj
          obtain ⟨en, hen⟩ : ∃ en, D[jj]? = some en := ⟨_, List.getElem?_eq_getElem hjD⟩
          obtain ⟨y2, hy2', qa, b, hyq, hqa, hb⟩ := hit.at_ hen
          obtain rfl : y2 = y := Option.some.inj (hy2'.symm.trans hy2)
          subst hyq
          have isr : IsRm lot en.1 := g3.rm _ (List.mem_map.mpr ⟨en, List.mem_of_getElem? hen, rfl⟩)
          have tupk : ∀ {a : Addr} {xs : List V}, H6 a = some (.tup xs) → H7 a = some (.tup xs) := fun {a xs} h => q1 _ _ (fun z : a = dl => by rw [z, h6l] at h; cases h) (e7 _ _ h)
          refine g_pair (tupk hqa) ?_
          show tFor _ _ _ _ [some (.ref pl), some (T t), some (.int ((s0 : Nat) : Int)), some (.ref ar), some (.ref d), some (T [c]), some (.ref dl), some (.ref b), some (.int ((en.2 : Nat) : Int)), v9] H7
          refine s_forOf ⟨.ref pl, rfl, .ref b, rfl, T [c], rfl, pl, .ref b, lot, en.1, c, rfl, ⟨tupk hLA6.1, hL⟩, ⟨b, rfl, tupk hb⟩, isr, fun l2 us3 H8 hl2 e8 h8 hall => ?_⟩
          have h8l := e8 _ _ q2
          have nl2 : dl ≠ l2 := ne_of_none q2 hl2
          refine s_forW (fun b => b = dl) (src_list (K := K) ev_it (sq_of h8)) ?_
            (fun Hw m σ' H9 => ∃ (D2 : DR) (v9 : Option V), σ' = [some (.ref pl), some (T t), some (.int ((s0 : Nat) : Int)), some (.ref ar), some (.ref d), some (T [c]), some (.ref dl), some (.ref b), some (.int ((en.2 : Nat) : Int)), v9] ∧ Exc (fun b => b = dl) Hw H9 ∧ H9 dl = some (.dT (drV D2)) ∧ KD lot D2 ∧ ∀ g : Rm → Nat, Lw D2 g = Lw D' g + en.2 * Sm ((doors lot en.1 c).take m) g) ?_ ?_ ?_ ?_ ?_
          · rintro b rfl
            exact ⟨by rw [h8l]; exact fun z => (nomatch z), nl2⟩
          · intro Hw e9
            exact ⟨D', _, rfl, Exc.refl _, e9 _ _ h8l, q3, fun g => by rw [List.take_zero, Sm_nil, Nat.mul_zero, Nat.add_zero]⟩
          · rintro Hw i' σ' H9 ⟨_, _, _, h, _⟩
            exact h
          · rintro Hw i' σ' Ha Hb ⟨D2, v9, z0, z1, z2, z3⟩ e9
            exact ⟨D2, v9, z0, z1.then e9, e9 _ _ z2, z3⟩
          · rintro Hw m y σ' H9 e9 hm ⟨D2, v9, rfl, z1, z2, z3, z4⟩ hy3
            have hmd : m < (doors lot en.1 c).length := by rw [← hall.len]; exact hm
            obtain ⟨to, hto⟩ : ∃ to, (doors lot en.1 c)[m]? = some to := ⟨_, List.getElem?_eq_getElem hmd⟩
            obtain ⟨y3, hy3', hyt⟩ := hall.at_ hto
            obtain rfl : y3 = y := Option.some.inj (hy3'.symm.trans hy3)
            obtain ⟨at_, rfl, hat⟩ := (hyt.ex e9).exc (e9 _ _ h8l) z1
            have isto : IsRm lot to := doors_is isr to (List.mem_of_getElem? hto)
            show sDPut _ _ _ _ [some (.ref pl), some (T t), some (.int ((s0 : Nat) : Int)), some (.ref ar), some (.ref d), some (T [c]), some (.ref dl), some (.ref b), some (.int ((en.2 : Nat) : Int)), some (.ref at_)] H9
            have hget : Ev (tDGet2 (tVar 6) (tVar 9) (tC (.int 0))) [some (.ref pl), some (T t), some (.int ((s0 : Nat) : Int)), some (.ref ar), some (.ref d), some (T [c]), some (.ref dl), some (.ref b), some (.int ((en.2 : Nat) : Int)), some (.ref at_)] H9 (.int ((getR D2 to : Nat) : Int)) := fun H5 e5 Q q => ⟨.ref dl, rfl, dl, rfl, .inr ⟨_, .inl (e5 _ _ z2)⟩, .ref at_, rfl, _, DGet.t (k := rmK to) (e5 _ _ z2) (by rw [rmK_V]; exact e5 _ _ hat), by
              rw [get_dr]
              exact q H5 (Ex.refl _)⟩
            have hsum : Ev (tOp (rI0 fun i j => .int (i + j)) (tDGet2 (tVar 6) (tVar 9) (tC (.int 0))) (tVar 8)) [some (.ref pl), some (T t), some (.int ((s0 : Nat) : Int)), some (.ref ar), some (.ref d), some (T [c]), some (.ref dl), some (.ref b), some (.int ((en.2 : Nat) : Int)), some (.ref at_)] H9 (.int ((getR D2 to + en.2 : Nat) : Int)) := ev_is (ev_op hget (ev_var rfl) rv_I0) (by congr 1)
            refine hsum H9 (Ex.refl _) _ fun Ha ea => ⟨.ref dl, rfl, .ref at_, rfl, dl, _, rfl, DPut.t (k := rmK to) (ea _ _ z2) (by rw [rmK_V]; exact ea _ _ hat) (sz_lt (by rw [drV_len]; have := z3.len hL; omega)), ?_⟩
            rw [put_dr D2 to en.2 z3.nd]
            exact ⟨addR D2 to en.2, _, rfl, (z1.then ea).upd (.inl rfl), upd_same, z3.add isto, fun g => by
              rw [Lw_add, z4, Sm_succ hto, Nat.mul_add]
              omega⟩
          · rintro Hw σ' H9 e9 ⟨D2, v9, rfl, z1, z2, z3, z4⟩
            rw [hall.len, List.take_length] at z4
            exact ⟨D2, _, _, v9, rfl, fun b' o nb hb' => z1 _ _ nb (e9 _ _ (e8 _ _ (q1 _ _ nb hb'))), z2, z3, fun g => by rw [z4, q4, Sm_succ hen]⟩
        · rintro Hu σ' H7 e7 ⟨D', v7, v8, v9, rfl, q1, q2, q3, q4⟩
          rw [hit.len, List.take_length] at q4
          have eX : Ex H4 H7 := fun b o hb => q1 _ _ (ndl hb) (e7 _ _ (e56 _ _ (e45 _ _ hb)))
          have hW : Lw D' (fun m => W lot m r (t.drop (i + 1))) = W lot r r t := by
            rw [q4, ← g4]
            unfold Lw
            rw [hdr]
            exact Sm_congr fun e _ => by
              show e.2 * Sm (doors lot e.1 c) _ = e.2 * W lot e.1 r (c :: t.drop (i + 1))
              rw [W_cons]
          refine q_asg (ev_var rfl) fun H8 e8 => ?_
          show tIfS _ _ _ _ [some (.ref pl), some (T t), some (.int ((s0 : Nat) : Int)), some (.ref ar), some (.ref dl), some (T [c]), some (.ref dl), v7, v8, v9] H8
          have q28 := e8 _ _ q2
          have hnil : Ev (tOp rEqT0 (tVar 4) tDNewT) [some (.ref pl), some (T t), some (.int ((s0 : Nat) : Int)), some (.ref ar), some (.ref dl), some (T [c]), some (.ref dl), v7, v8, v9] H8 (.bl (decide (drV D' = []))) := fun H9 e9 Q q => ⟨.ref dl, rfl, fun p hp => ⟨dl, p, drV D', rfl, rfl, (Ex.new hp) _ _ (e9 _ _ q28), upd_same, q _ (Ex.new hp)⟩⟩
          refine s_when (et_test hnil) (fun hb H9 e9 => ?_) (fun hb H9 e9 => ?_)
          · have hD : D' = [] := List.map_eq_nil_iff.mp (of_decide_eq_true hb)
            refine fin (Dd := D') (fun H10 e10 => ⟨_, _, _, _, _, _, _, rfl, hx.trans (eB.trans (e34.trans (eX.trans (e8.trans (e9.trans e10)))))⟩) (eB.trans (e34.trans (eX.trans (e8.trans e9)))) (e9 _ _ q28) ?_
            rw [hD] at hW ⊢
            exact hW
          · exact ⟨dl, D', _, _, _, _, _, rfl, g1.trans (eX.trans (e8.trans e9)), e9 _ _ q28, q3, hW⟩
      · rintro Ht σ' H4 e4 ⟨d, D, v5, v6, v7, v8, v9, rfl, g1, g2, g3, g4⟩
        rw [List.drop_length] at g4
        refine fin (Dd := D) (fun H10 e10 => ⟨_, _, _, _, _, _, _, rfl, hx.trans (eB.trans ((e4.trans g1).trans e10))⟩) (eB.trans (e4.trans g1)) g2 ?_
        rw [← g4, ← get_Lw D r g3.nd]
        unfold Lw
        exact Sm_congr fun e _ => by
          show e.2 * W lot e.1 r [] = e.2 * (if e.1 = r then 1 else 0)
          rw [W_nil]
    · rintro Hs σ' H' e ⟨v3, v4, v5, v6, v7, v8, v9, rfl, hx⟩
      rw [hus.len, List.take_length, Sm_perm hrs]
      exact s_ret (ev_var rfl) (RetV.mono ret (e12.trans (e.trans hx)))
end
end K16
set_option Elab.async false
set_option linter.all false
set_option maxRecDepth 100000
set_option maxHeartbeats 4000000
namespace K16
open PySem PySem.Spec PyProof.Rows L2 Evl Wc Wt Wg We Ws
theorem kb_count_round_cuts_1_0 : KB "count_round_cuts" st_count_round_cuts 0 ["lot", "text"] ["text", "lot"] (sw2 true) (sw2 true) := kb2 true rfl (fun _ _ _ _ _ _ a b => rfl)
theorem kb_round_cuts_1_0 : KB "round_cuts" st_round_cuts 0 ["lot", "text"] ["text", "lot"] (sw2 true) (sw2 true) := kb2 true rfl (fun _ _ _ _ _ _ a b => rfl)
theorem rv_anyT {K : PySem.W.Frag} {H : Hp} {a : Addr} {xs : List V} {j : Int} {v : V} (h : SqT K H a xs) (hj : atI xs j = some v) : RV (rIxAny K) (.ref a) (.int j) H v := fun H1 e Q q => .inl (.inr (Evl.rv_ixT h hj H1 e Q q))
theorem rv_anyL {K : PySem.W.Frag} {H : Hp} {a : Addr} {xs : List V} {j : Int} {v : V} (h : SqL K H a xs) (hj : atI xs j = some v) : RV (rIxAny K) (.ref a) (.int j) H v := fun H1 e Q q => .inl (.inl (Evl.rv_ixL h hj H1 e Q q))
theorem q_tss {K : PySem.W.Frag} {P : Program} {w : World} {tl : TE} {i : Nat} {tz : TS} {D : Ends} {σ : L2.St} {H : Hp} (h : tl σ H fun v1 H1 => rSetTx K P w [v1] H1 fun v4 H4 => rSortX K P w [v4] H4 fun v5 H5 => rTupS K [v5] H5 fun v6 H6 => tz D (σ.set i (some v6)) H6) : tSeq (tAsg (tCB (rTupS K) (tCons (tCB (rSortX K P w) (tCons (tCB (rSetTx K P w) (tCons tl tNil)) tNil)) tNil)) (gName i)) tz D σ H := h
theorem sortSetAt {K : PySem.W.Frag} {P : Program} {w : World} {p : Addr} {xs : List Tx} {H : Hp} {Q : VK} (hp : H p = some (.lst (xs.map T))) (hl : xs.length ≤ 4000) (k : ∀ r zs H3, Uniq xs zs → zs.length ≤ xs.length → H r = none → Ex H H3 → H3 r = some (.lst ((sortT zs).map T)) → Q (.ref r) H3) : rSetTx K P w [.ref p] H fun s H2 => rSortX K P w [s] H2 Q :=
  ⟨p, xs, rfl, sq_of hp, hl, fun q ys u hly hq => .inr ⟨q, ys, rfl, upd_same, fun zs r pz hr => by
    have hr1 : H r = none := fresh_back (Ex.new hq) hr
    exact k r zs _ ⟨pz.nodup_iff.mpr u.nd, fun x => (pz.mem_iff).trans (u.mem x)⟩ (by rw [pz.length_eq]; exact hly) hr1 ((Ex.new hq).trans (Ex.new hr)) upd_same⟩⟩
theorem lay_R (q : PC) : (encR q).canLay0 = true := by
  show PyData.canLayAll0 [PyData.int (q.1 : Int), .list ((zs q.2).map PyData.int)] = true
  show ((PyData.int (q.1 : Int)).canLay0 && ((PyData.list ((zs q.2).map PyData.int)).canLay0 && true)) = true
  rw [lay_list fun _ _ => rfl]
  rfl
theorem dpth_R (q : PC) : (encR q).depth ≤ 3 := by
  show PyData.depthAll [PyData.int (q.1 : Int), .list ((zs q.2).map PyData.int)] + 1 ≤ 3
  have : PyData.depthAll ((zs q.2).map PyData.int) ≤ 0 := depth_all fun _ _ => Nat.le_refl _
  show max 0 (max (PyData.depthAll ((zs q.2).map PyData.int) + 1) 0) + 1 ≤ 3
  omega
theorem dp_pr {K : PySem.W.Frag} {H : Hp} {v : V} {q : PC} (h : PR H v q) : Dp K H v (encR q) := by
  obtain ⟨a, b, rfl, h6, h7⟩ := h
  refine .tup (st_of h6) (.cons (.int _) (.cons (.lst (sq_of h7) ?_) .nil))
  unfold numV zs
  rw [List.map_map]
  generalize q.2 = c
  induction c with
  | nil => exact .nil
  | cons n c ih => exact .cons (.int _) ih
theorem dp_prs {K : PySem.W.Frag} {H : Hp} {us : List V} {l : List PC} (h : All2 (PR H) us l) : DpAll K H us (l.map encR) := by
  induction h with
  | nil => exact .nil
  | cons r _ ih => exact .cons (dp_pr r) ih
theorem ahead_last (lot : List Tx) (t : Tx) : atI (aheadL lot t) (-1) = some (.int ((Cn lot t : Nat) : Int)) := by
  unfold aheadL
  rw [List.range_succ, List.map_append, List.map_singleton, atI_last]
  unfold preC
  rw [List.take_length]
theorem srt_len (lot : List Tx) (t : Tx) : (srt (allR lot t)).length = (allR lot t).length := (srt_perm _).length_eq
theorem all_len {lot : List Tx} (hL : IsLot lot) {t : Tx} (ht : t.length ≤ 400) : ∀ q ∈ srt (allR lot t), q.2.length ≤ 400 := fun q hq => by
  have h1 := (srt_perm _).mem_iff.mp hq
  obtain ⟨p, hp, h2⟩ := List.mem_flatMap.mp h1
  obtain ⟨c, hc, rfl⟩ := List.mem_map.mp h2
  exact Nat.le_trans (rd_len (lot_wd hL) t.length 0 (by rw [tn_len]; omega) c hc) ht
section
variable {P : Program} {w : World} {K : PySem.W.Frag} {mg : Str → Option Value} {base : Heap}
def sp_law_right : Sp := fun vs H Q _ => ∃ (fa : Addr), vs = [.ref fa] ∧ GF fa 22000 H ∧ ∀ H', Rf fa 22000 H H' → Q (.bl true) H'
theorem ok__law_right {f CE : Addr} {fd : FuncData} (F : Fun K "_law_right" "_law_right" st__law_right f fd) (M : Md K mg) (C__law_draw : Cal P w K mg base "_law_draw" st__law_draw 1 ["feed", "many"] sp_draw) (C__law_one : Cal P w K mg base "_law_one" st__law_one 2 ["feed", "things"] (sp_one K)) (C__law_lot : Cal P w K mg base "_law_lot" st__law_lot 4 ["feed", "most"] sp_lot) (C__law_round_text : Cal P w K mg base "_law_round_text" st__law_round_text 5 ["feed", "lot"] sp_round_text) (C__law_is : Cal P w K mg base "_law_is" st__law_is 1 ["actual", "due"] sp_law_is) (C__law_number : Cal P w K mg base "_law_number" st__law_number 2 ["lot", "text"] sp_number_of) (C__law_ahead : Cal P w K mg base "_law_ahead" st__law_ahead 1 ["lot", "text"] sp_ahead_) (C__law_told : Cal P w K mg base "_law_told" st__law_told 7 ["lot", "text"] sp_told) (C__law_tried : Cal P w K mg base "_law_tried" st__law_tried 2 ["lot", "text"] sp_tried) (C__law_same : Cal P w K mg base "_law_same" st__law_same 2 ["actual", "due"] sp_same)
    (C_count_round_cuts : Cal P w K mg base "count_round_cuts" st_count_round_cuts 6 ["lot", "text"] sp_count) (C_round_cuts : Cal P w K mg base "round_cuts" st_round_cuts 6 ["lot", "text"] (calm (sp_round_cuts CE))) : FnOk P w K mg base CX0 8 f fd ["feed"] sp_law_right := by
  have nd := sc__law_right.nd
  refine F.ok sc__law_right (fun vs H Q E h => ?_) (fun cdv A outer s H vs Q E hr h => ?_)
  · obtain ⟨_, rfl, _⟩ := h
    rfl
  · obtain ⟨fa, rfl, G, k⟩ := h
    refine ⟨_, (pss_cons (ps_set (i := 1) nd rfl (Or.inl rfl) (pe_cl C__law_lot hr (pa_cons (pv 0) (pa_cons pe_int pa_nil))))
  (pss_cons (ps_set (i := 2) nd rfl (Or.inl rfl) (pe_cl C__law_round_text hr (pa_cons (pv 0) (pa_cons (pv 1) pa_nil))))
  (pss_cut (ps_if (pt_cmpR op_eqI (pe_cl C__law_draw hr (pa_cons (pv 0) (pa_cons pe_int pa_nil))) pe_int (nomark _))
  (pss_cons (ps_set (i := 1) nd rfl (Or.inl rfl) (pe_callTy (kcr K (r := rTupS) call_tuple_of) (by rfl) M.n_tuple boot_tuple (pa_cons (pe_callB (ksorted P w K hr.units) (by rfl) M.n_sorted boot_sorted (pa_cons (pe_callTy (kset P w K) (by rfl) M.n_set boot_set (pa_cons (pe_lc (own := [("turn", 3)]) rfl nd (pi_range1 (by rfl) M.n_range (pa_cons (pe_op op_add pe_int (pe_cl C__law_draw hr (pa_cons (pv 0) (pa_cons pe_int pa_nil)))) pa_nil)) (blkOk_by (N := N__law_right) (sc := defScope st__law_right) (by decide +kernel)) (fun _ _ _ _ _ => (pg_name (i := 3) nd rfl (Or.inl rfl))) (fun _ _ _ _ _ => pts_nil) (fun _ _ _ _ _ => (pe_op op_mulT (pe_sT [97]) (pe_op op_add pe_int (pe_cl C__law_draw hr (pa_cons (pv 0) (pa_cons pe_int pa_nil))))))) pa_nil)) pa_nil)) pa_nil)))
  (pss_one (ps_set (i := 2) nd rfl (Or.inl rfl) (pe_op op_mulT (pe_sT [97]) (pe_op op_add pe_int (pe_cl C__law_draw hr (pa_cons (pv 0) (pa_cons (pe_cl C__law_one hr (pa_cons (pv 0) (pa_cons (pe_lst (pa_cons pe_int (pa_cons pe_int (pa_cons pe_int pa_nil)))) pa_nil))) pa_nil))))))))
  pss_nil)
  (pss_cons (ps_set (i := 4) nd rfl (Or.inl rfl) (pe_cl C__law_number hr (pa_cons (pv 1) (pa_cons (pv 2) pa_nil))))
  (pss_cons (ps_if (PW.pt (pw_or (pt_not (pt_val (pe_cl C__law_is hr (pa_cons (pe_cl C_count_round_cuts hr (pa_cons (pv 1) (pa_cons (pv 2) pa_nil))) (pa_cons (pv 4) pa_nil))))) (pw_or1 (pt_not (pt_val (pe_cl C__law_is hr (pa_cons (pe_clK0 C_count_round_cuts (kb_count_round_cuts_1_0) hr (pk_cons (pv 2) (pk_cons (pv 1) pk_nil))) (pa_cons (pv 4) pa_nil))))))))
  (pss_one (ps_ret pe_bl))
  pss_nil)
  (pss_cons (ps_set (i := 5) nd rfl (Or.inl rfl) (pe_cl C__law_draw hr (pa_cons (pv 0) (pa_cons (pe_callB cr_lenT (by rfl) M.n_len boot_len (pa_cons (pv 2) pa_nil)) pa_nil))))
  (pss_cons (ps_if (PW.pt (pw_or (pt_not (pt_val (pe_cl C__law_is hr (pa_cons (pe_cl C_count_round_cuts hr (pa_cons (pv 1) (pa_cons (pe_op op_addT (pe_slice sl_T (pv 2) (po_some (pv 5)) po_none) (pe_slice sl_T (pv 2) po_none (po_some (pv 5)))) pa_nil))) (pa_cons (pv 4) pa_nil))))) (pw_or1 (pt_cmpR op_gt (pe_ix (kix K (r := L2.rIxL) ix_list) (pe_cl C__law_ahead hr (pa_cons (pv 1) (pa_cons (pv 2) pa_nil))) (pe_un un_neg pe_int) (fun _ _ => rfl)) (pv 4) (nomark _)))))
  (pss_one (ps_ret pe_bl))
  pss_nil)
  (pss_cons (ps_set (i := 6) nd rfl (Or.inl rfl) (pe_cl C__law_told hr (pa_cons (pv 1) (pa_cons (pv 2) pa_nil))))
  (pss_cons (ps_if (pt_cmpR op_gt (pv 4) pe_int (nomark _))
  (pss_one (ps_ret (pe_cmpR (kop K (r := rEqD) (op_eqD hr.units)) (pv 6) (pe_tup (pa_cons (pe_sT [109, 97, 110, 121]) (pa_cons pe_bl pa_nil))) (nomark _))))
  pss_nil)
  (pss_cons (ps_set (i := 7) nd rfl (Or.inl rfl) (pe_cl C__law_tried hr (pa_cons (pv 1) (pa_cons (pv 2) pa_nil))))
  (pss_cons (ps_if (PW.pt (pw_or (pt_cmpR op_neI (pe_callB (kcr K (r := rLenS) call_len_seq) (by rfl) M.n_len boot_len (pa_cons (pv 7) pa_nil)) (pv 4) (nomark _)) (pw_or (pt_cmpR (kop K (r := rNeD) (op_neD hr.units)) (pe_ix (kix K (r := rIxAny) ix_any) (pv 6) pe_int (fun _ _ => rfl)) (pe_sT [116, 111, 108, 100]) (nomark _)) (pw_or1 (pt_not (pt_val (pe_cl C__law_same hr (pa_cons (pe_ix (kix K (r := rIxAny) ix_any) (pv 6) pe_int (fun _ _ => rfl)) (pa_cons (pv 7) pa_nil)))))))))
  (pss_one (ps_ret pe_bl))
  pss_nil)
  (pss_cut (ps_if (pt_cmpR (kop K (r := rNeD) (op_neD hr.units)) (pv 7) (pe_lst pa_nil) (nomark _))
  (pss_one (ps_expr (kbm K (pe_bm PySem.F.plainAttrs_list PySem.F.slot_list_append PySem.F.type_list_append mt_append (pe_ix (kix K (r := rIxAny) ix_any) (pe_ix (kix K (r := rIxAny) ix_any) (pe_ix (kix K (r := rIxAny) ix_any) (pv 6) pe_int (fun _ _ => rfl)) pe_int (fun _ _ => rfl)) pe_int (fun _ _ => rfl)) (pa_cons (pe_sT [115, 112, 111, 105, 108, 116]) pa_nil)))))
  pss_nil)
  (pss_cons (ps_expr (kbm K (pe_bm PySem.F.plainAttrs_list PySem.F.slot_list_append PySem.F.type_list_append mt_append (pe_ix (kix K (r := rIxAny) ix_any) (pv 6) pe_int (fun _ _ => rfl)) (pa_cons (pe_sT [115, 112, 111, 105, 108, 116]) pa_nil))))
  (pss_one (ps_ret (pe_cl C__law_same hr (pa_cons (pe_clK0 C_round_cuts (kb_round_cuts_1_0) hr (pk_cons (pv 2) (pk_cons (pv 1) pk_nil))) (pa_cons (pv 7) pa_nil)))))))))))))))))), ?_⟩
    refine ⟨.ref fa, rfl, fa, 12, rfl, by decide, by decide, G.mono (by omega), fun pl0 lot0 H1 hL0 hlen0 hpl0 R1 hp1 => ?_⟩
    have npl0 : pl0 ≠ fa := (G.go R1 (m' := 1) (by omega)).ofTup hp1
    show tSeq _ _ _ [some (.ref fa), some (.ref pl0), none, none, none, none, none, none] H1
    refine ⟨.ref fa, rfl, .ref pl0, rfl, fa, pl0, lot0, rfl, G.go R1 (by omega), ⟨hp1, hL0⟩, fun t0 H2 ht0 hne0 hc0 R2 => ?_⟩
    have RA : Rf fa 20600 H H2 := (R1.trans R2).mono (by omega)
    have hp2 := R2.at_ hp1 npl0
    clear R1 R2 hp1
    show tCut _ _ _ [some (.ref fa), some (.ref pl0), some (T t0), none, none, none, none, none] H2
    refine q_cut (M := fun σ' H' => ∃ (pl : Addr) (lot : List Tx) (t : Tx), σ' = [some (.ref fa), some (.ref pl), some (T t), none, none, none, none, none] ∧ LotAt pl lot H' ∧ t.length ≤ 90 ∧ t ≠ [] ∧ (∀ c ∈ t, abcd c) ∧ Rf fa 20700 H H') ?_ fun σ' H' hM => ?_
    · refine (show tIfS _ _ _ _ _ _ from s_dif (m := 1) (fun Q' q' => dw_test (m1 := 1) (m2 := 0) (dI_draw (lo := 8) (hi := 8) rfl dI_c) dI_c (G.go RA (m' := 1) (by omega)) Q' q') fun b H3 R3 => ?_)
      have RB : Rf fa 20601 H H3 := RA.trans R3
      cases b with
      | false =>
        rw [if_neg Bool.false_ne_true]
        exact ⟨pl0, lot0, t0, rfl, ⟨R3.at_ hp2 npl0, hL0⟩, ht0, hne0, hc0, RB.mono (by omega)⟩
      | true =>
        rw [if_pos rfl]
        show tSeq _ _ _ [some (.ref fa), some (.ref pl0), some (T t0), none, none, none, none, none] H3
        refine q_tss ?_
        refine lcRD (lo := 1) (N := 3) (c := 1) (m0 := 1) (GdT abcd 1 4) (dI_wk (dI_add dI_c (dI_draw (lo := 3) (hi := 3) rfl dI_c))) (by omega) (G.go RB (m' := 4) (by omega)) (fun _ => rfl) (fun x kk H6 R6 G6 Q' q' => ?_) _ fun pc H6 acc hpc R6 h6 hl1 hl2 hg => ?_
        · exact (dT_wk (dT_mul (c := 1) (d := 4) (a := 1) (b := 1) (dT_c (s := [97]) fun c hc => by simp at hc; unfold abcd; omega) (dI_wk (dI_add dI_c (dI_draw (lo := 4) (hi := 4) rfl dI_c)))) : Dw fa [some (.ref fa), some (.ref pl0), some (T t0), some x, none, none, none, none] 1 _ (GdT abcd 1 4)) H6 G6 Q' q'
        · obtain ⟨ws, rfl, hws, hwl⟩ := wl_texts hg (by decide)
          rw [List.length_map] at hl1 hl2
          refine sortSetAt h6 (by omega) fun r zs H8 u hzl hr e8 h8 => ⟨r, _, rfl, .inl ⟨sq_of h8, fun l hl => ?_⟩⟩
          have hgood : ∀ t ∈ zs, 1 ≤ t.length ∧ t.length ≤ 12 ∧ ∀ c ∈ t, abcd c := fun t ht => by
            have z := (u.mem t).mp ht
            have := hwl t z
            exact ⟨this.1, by omega, (hws t z).2⟩
          have hzne : sortT zs ≠ [] := fun z => by
            have h0 := sortT_len zs
            rw [z] at h0
            have h1 : zs = [] := List.length_eq_zero_iff.mp h0.symm
            cases ws with
            | nil => simp at hl1
            | cons x ws =>
              have := (u.mem x).mpr List.mem_cons_self
              rw [h1] at this
              cases this
          have hIs : IsLot (sortT zs) := ⟨hzne, by rw [sortT_len]; omega, fun t ht => ⟨(hgood t (sortT_mem.mp ht)).2.1, (hgood t (sortT_mem.mp ht)).2.2⟩, (fun t ht z => by
            have := (hgood t (sortT_mem.mp ht)).1
            rw [z] at this
            simp at this), pw_lt (sortT_pw zs) ((sortT_perm zs).nodup_iff.mpr u.nd)⟩
          have RC : Rf fa 20610 H (upd H8 l (.tup ((sortT zs).map T))) := (((RB.trans R6).then e8).then (Ex.new hl)).mono (by omega)
          have hlz : (upd H8 l (.tup ((sortT zs).map T))) l = some (.tup ((sortT zs).map T)) := upd_same
          generalize upd H8 l (.tup ((sortT zs).map T)) = H9 at RC hlz
          have G9 : GF fa 100 H9 := G.go RC (by omega)
          have nl : l ≠ fa := G9.ofTup hlz
          show tAsg _ _ _ [some (.ref fa), some (.ref l), some (T t0), none, none, none, none, none] H9
          have hone : Dw fa [some (.ref fa), some (.ref l), some (T t0), none, none, none, none, none] 1 (tCall (sp_one K) [] E0 (tCons (tVar 0) (tCons (tLst (tCons (tC (.int 9)) (tCons (tC (.int 14)) (tCons (tC (.int 90)) tNil)))) tNil))) (GdI 9 90) := dI_oneL (ns := [9, 14, 90]) (lo := 9) (hi := 90) rfl (fun H => el_lst (ea_cons ev_c (ea_cons ev_c (ea_cons ev_c ea_nil))) (by show 3 ≤ 100000; decide)) (by decide) (by simp) (by decide)
          refine (dT_mul (ok := abcd) (c := 1) (d := 90) (a := 1) (b := 1) (dT_c (s := [97]) fun c hc => by simp at hc; unfold abcd; omega) (dI_wk (dI_add dI_c (dI_draw (lo := 9) (hi := 90) rfl hone))) : Dw fa [some (.ref fa), some (.ref l), some (T t0), none, none, none, none, none] _ _ _) H9 (G9.mono (by omega)) _ fun v H10 ⟨t, hv, hv1, hv2, hv3⟩ R10 => ?_
          subst hv
          exact ⟨l, sortT zs, t, rfl, ⟨R10.at_ hlz nl, hIs⟩, by omega, (fun z => by rw [z] at hv1; simp at hv1), hv3, (RC.trans R10).mono (by omega)⟩
    obtain ⟨pl, lot, t, rfl, hLA, ht, hne, hc, RM⟩ := hM
    have hL := hLA.2
    have hWd := lot_wd hL
    have GM : GF fa 1000 H' := G.go RM (by omega)
    have npl : pl ≠ fa := GM.ofTup hLA.1
    have ht4 : t.length ≤ 400 := by omega
    clear hp2 npl0 hL0 hc0 hne0 ht0 RA
    have cnt : ∀ {σ : L2.St} {Ha Hb : Hp} {tt : TE} {u : Tx}, LotAt pl lot Hb → σ[1]? = some (some (.ref pl)) → Ev tt σ Hb (T u) → u.length ≤ 400 → (∀ c ∈ u, abcd c) → u ≠ [] → Ev (tCall sp_count [] E0 (tCons (tVar 1) (tCons tt tNil))) σ Hb (.int ((N lot u : Nat) : Int)) := fun hl h1 h2 hu1 hu2 hu3 => ev_call (ea_cons (ev_var h1) (ea_cons h2 ea_nil)) fun H1 e1 Q q E => ⟨pl, lot, _, rfl, hl.ex e1, hu1, hu2, hu3, q⟩
    refine q_asg (v := .int ((N lot t : Nat) : Int)) (ev_call (ea_cons (ev_var rfl) (ea_cons (ev_var rfl) ea_nil)) fun H1 e1 Q q E => ⟨pl, lot, t, rfl, hLA.ex e1, ht4, q⟩) fun H4 e4 => ?_
    show tSeq _ _ _ [some (.ref fa), some (.ref pl), some (T t), none, some (.int ((N lot t : Nat) : Int)), none, none, none] H4
    have hL4 := hLA.ex e4
    refine q_when (b := false) (et_is (et_or (a := false) (b := false) (et_is (et_not (et_B (ev_call (z := .bl true) (ea_cons (cnt (Ha := H4) hL4 rfl (ev_var rfl) ht4 hc hne) (ea_cons (ev_var rfl) ea_nil)) fun H2 e2 Q2 q2 E => ⟨_, _, rfl, by rw [decide_eq_true rfl]; exact q2⟩))) rfl) fun _ => et_is (et_not (et_B (ev_call (z := .bl true) (ea_cons (ev_callK0 (z := .int ((N lot t : Nat) : Int)) (ea_cons (ev_var rfl) (ea_cons (ev_var rfl) ea_nil)) fun H1 e1 Q q E => ⟨pl, lot, t, rfl, hL4.ex e1, ht4, hc, hne, q⟩) (ea_cons (ev_var rfl) ea_nil)) fun H2 e2 Q2 q2 E => ⟨_, _, rfl, by rw [decide_eq_true rfl]; exact q2⟩))) rfl) rfl) (fun z => by cases z) (fun _ H5 e5 => ?_)
    have hpos := List.length_pos_iff.mpr hne
    refine q_dw (B := 90) (dI_draw rfl (dI_len (dT_var (lo := t.length) (n := t.length) (ok := abcd) rfl (Nat.le_refl _) (Nat.le_refl _) hc)) (by omega) (Int.le_trans (show (t.length : Int) ≤ 90 by omega) (by decide))) ((GM.ex (e4.trans e5)).mono (by omega)) fun v H6 ⟨at_, hv, ha1, ha2⟩ R6 => ?_
    subst hv
    obtain ⟨a, rfl⟩ := Int.eq_ofNat_of_zero_le ha1
    have RN : Rf fa 20710 H H6 := ((RM.then (e4.trans e5)).trans R6).mono (by omega)
    have hL6 : LotAt pl lot H6 := ⟨R6.at_ (hL4.ex e5).1 npl, hL⟩
    clear R6 hL4 e4 e5 hLA GM RM
    show tSeq _ _ _ [some (.ref fa), some (.ref pl), some (T t), none, some (.int ((N lot t : Nat) : Int)), some (.int (a : Int)), none, none] H6
    have hah : Ev (tOp (L2.rIxL K) (tCall sp_ahead_ [] E0 (tCons (tVar 1) (tCons (tVar 2) tNil))) (tUn (rU fun i => .int (-i)) (tC (.int 1)))) [some (.ref fa), some (.ref pl), some (T t), none, some (.int ((N lot t : Nat) : Int)), some (.int (a : Int)), none, none] H6 (.int ((Cn lot t : Nat) : Int)) := fun Ha ea Q q => (el_call (xs := aheadL lot t) (ea_cons (ev_var rfl) (ea_cons (ev_var rfl) ea_nil)) fun H1 e1 Q q E => ⟨pl, lot, t, rfl, hL6.ex e1, ht4, q⟩ : EvL (tCall sp_ahead_ [] E0 (tCons (tVar 1) (tCons (tVar 2) tNil))) [some (.ref fa), some (.ref pl), some (T t), none, some (.int ((N lot t : Nat) : Int)), some (.int (a : Int)), none, none] H6 (aheadL lot t)) Ha ea _ fun pz Hb hpz eb hb => (ev_neg1 : Ev (tUn (rU fun i => .int (-i)) (tC (.int 1))) [some (.ref fa), some (.ref pl), some (T t), none, some (.int ((N lot t : Nat) : Int)), some (.int (a : Int)), none, none] Hb _) Hb (Ex.refl _) _ fun Hc ec => Evl.rv_ixL (sq_of (ec _ _ hb)) (ahead_last lot t) Hc (Ex.refl _) _ fun Hd ed => q Hd ((eb.trans ec).trans ed)
    refine q_when (b := false) (et_is (et_or (a := false) (b := false) (et_is (et_not (et_B (ev_call (z := .bl true) (ea_cons (ev_is (cnt (Ha := H6) (u := tn t a) hL6 rfl (ev_is (ev_op (ev_slT (lo := some (a : Int)) (ev_var rfl) (eo_some (ev_var rfl)) eo_none (by omega)) (ev_slT (hi := some (a : Int)) (ev_var rfl) eo_none (eo_some (ev_var rfl)) (by omega)) (rv_addT (by rw [cutT_from, cutT_to, List.length_drop, List.length_take]; omega))) (by rw [cutT_from, cutT_to]; rfl)) (by rw [tn_len]; exact ht4) (fun c h => hc c (tn_mem h)) (tn_ne hne)) (by rw [N_tn])) (ea_cons (ev_var rfl) ea_nil)) fun H2 e2 Q2 q2 E => ⟨_, _, rfl, by rw [decide_eq_true rfl]; exact q2⟩))) rfl) fun _ => et_is (et_test (ev_op hah (ev_var rfl) rv_I0)) (decide_eq_false (by have := Cn_le hWd hne; omega))) rfl) (fun z => by cases z) (fun _ H7 e7 => ?_)
    have hL7 := hL6.ex e7
    have RO := RN.then e7
    clear hah
    refine q_asgA (l_call (a_ev (ev_var rfl) fun Ha ea => a_ev (ev_var rfl) fun Hb eb => a_nil ⟨pl, lot, t, rfl, (hL7.ex ea).ex eb, ht4, hc, hne, fun hgt p H8 hp e8 h8 => ?_, fun hle p r us H8 hp hr e8 h8 h8r hall => ?_⟩))
    · -- many
      show tSeq _ _ _ [some (.ref fa), some (.ref pl), some (T t), none, some (.int ((N lot t : Nat) : Int)), some (.int (a : Int)), some (.ref p), none] H8
      refine q_when (b := true) (et_is (et_test (ev_op (ev_var rfl) ev_c rv_I0)) (decide_eq_true (by omega))) (fun _ H9 e9 => ?_) (fun z => by cases z)
      refine s_ret (ev_eqDB (b := true) (d := .tuple [dT tMany, .bool true]) (e := .tuple [dT tMany, .bool true]) (evd_var rfl fun H3 e3 => .tup (st_of ((e9.trans e3) _ _ h8)) (.cons (.str _) (.cons (.bl _) .nil))) (evd_tup2 (evd_c fun _ => .str _) (evd_c fun _ => .bl _)) (by decide +kernel) (by decide +kernel) (by decide +kernel)) fun H10 e10 => k H10 ((RO.then (((ea.trans eb).trans e8).trans (e9.trans e10))).mono (by omega))
    · have eX := (ea.trans eb).trans e8
      have RT := RO.then (ea.trans eb)
      have hL8 := hL7.ex eX
      have RP := RO.then eX
      show tSeq _ _ _ [some (.ref fa), some (.ref pl), some (T t), none, some (.int ((N lot t : Nat) : Int)), some (.int (a : Int)), some (.ref p), none] H8
      refine q_when (b := false) (et_is (et_test (ev_op (ev_var rfl) ev_c rv_I0)) (decide_eq_false (by omega))) (fun z => by cases z) (fun _ H9 e9 => ?_)
      have hL9 := hL8.ex e9
      refine q_asgA (l_call (a_ev (ev_var rfl) fun Hc ec => a_ev (ev_var rfl) fun Hd ed => a_nil ⟨pl, lot, t, rfl, (hL9.ex ec).ex ed, ht4, hne, hle, fun d ws H10 hd e10 h10 hdue => ?_⟩))
      have eY := e9.trans ((ec.trans ed).trans e10)
      show tSeq _ _ _ [some (.ref fa), some (.ref pl), some (T t), none, some (.int ((N lot t : Nat) : Int)), some (.int (a : Int)), some (.ref p), some (.ref d)] H10
      have hllen : (srt (allR lot t)).length = N lot t := by rw [srt_len]; exact allR_len hWd hne
      have hwlen : ws.length = N lot t := by rw [hdue.len, hllen]
      have hulen : us.length = N lot t := by rw [hall.len, hllen]
      have hlc := all_len hL ht4 (lot := lot) (t := t)
      have hp10 := eY _ _ h8
      have hr10 := eY _ _ h8r
      have huP : All2 (PR H10) us (srt (allR lot t)) := hall.mono fun a b z => (z.ex eY).pr
      have hwP : All2 (PR H10) ws (srt (allR lot t)) := hdue.mono fun a b z => z.pr
      refine q_when (b := false) (et_is (et_or (a := false) (b := false) (et_is (et_test (ev_op (ev_len (ev_var rfl) (sq_of h10)) (ev_var rfl) rv_I0)) (by rw [hwlen]; simp)) fun _ => et_is (et_or (a := false) (b := false) (et_is (et_test (ev_op (ev_op (ev_var rfl) ev_c (rv_anyT (st_of hp10) (atI_nat (j := 0) rfl))) ev_c (rv_neD (d := dT tTold) (e := dT tTold) (b := true) (fun H1 _ => .str _) (fun H1 _ => .str _) (by decide +kernel) (by decide +kernel) (by decide +kernel)))) rfl) fun _ => et_is (et_not (et_B (ev_call (z := .bl true) (ea_cons (ev_op (ev_var rfl) ev_c (rv_anyT (st_of hp10) (atI_nat (j := 1) rfl))) (ea_cons (ev_var rfl) ea_nil)) fun H2 e2 Q2 q2 E => ⟨r, d, us, ws, _, rfl, e2 _ _ hr10, e2 _ _ h10, huP.mono fun a b z => z.ex e2, hwP.mono fun a b z => z.ex e2, by omega, hlc, q2⟩))) rfl) rfl) rfl) (fun z => by cases z) (fun _ H11 e11 => ?_)
      show tCut _ _ _ [some (.ref fa), some (.ref pl), some (T t), none, some (.int ((N lot t : Nat) : Int)), some (.int (a : Int)), some (.ref p), some (.ref d)] H11
      have hp8x : H8 d = none := fresh_back (e9.trans (ec.trans ed)) hd
      have nrd : r ≠ d := ne_of_none h8r hp8x
      have npa : pl ≠ d := ne_of_none hL8.1 hp8x
      refine q_cut (M := fun σ' H' => σ' = [some (.ref fa), some (.ref pl), some (T t), none, some (.int ((N lot t : Nat) : Int)), some (.int (a : Int)), some (.ref p), some (.ref d)] ∧ LotAt pl lot H' ∧ H' p = some (.tup [T tTold, .ref r]) ∧ H' r = some (.lst us) ∧ H' d = some (.lst ws) ∧ All2 (fun v q => ∃ a b, (v = .ref a ∧ H' a = some (.tup [.int (q.1 : Int), .ref b]) ∧ H' b = some (.lst (numV q.2))) ∧ b ≠ r) ws (srt (allR lot t)) ∧ Rf fa 20710 H H') ?_ fun σ' H' hM => ?_
      · have hw11 : All2 (PR H11) ws (srt (allR lot t)) := hwP.mono fun a b z => z.ex e11
        have h11 := e11 _ _ h10
        have hrel : Ev (tOp (rNeD K) (tVar 7) (tLst tNil)) [some (.ref fa), some (.ref pl), some (T t), none, some (.int ((N lot t : Nat) : Int)), some (.int (a : Int)), some (.ref p), some (.ref d)] H11 (.bl (!decide (srt (allR lot t) = []))) := fun H3 e3 Q3 q3 => ⟨.ref d, rfl, by decide, fun pe hpe => by
          refine rv_neD (b := decide (srt (allR lot t) = [])) (d := .list ((srt (allR lot t)).map encR)) (e := .list []) (fun H4 e4 => .lst (sq_of (((e3.trans (Ex.new hpe)).trans e4) _ _ h11)) (dp_prs (hw11.mono fun a b z => z.ex ((e3.trans (Ex.new hpe)).trans e4)))) (fun H4 e4 => .lst (sq_of (e4 _ _ upd_same)) .nil) (shaped_list (m := 3) (fun x _ => lay_R x) (fun x _ => dpth_R x) (by decide)) (by decide) ?_ _ (Ex.refl _) _ fun H4 e4 => q3 H4 ((Ex.new hpe).trans e4)
          cases srt (allR lot t) <;> rfl⟩
        refine (show tIfS _ _ _ _ _ _ from s_when (b := !decide (srt (allR lot t) = [])) (et_test hrel) (fun hb H12 e12 => ?_) (fun hb H12 e12 => ⟨rfl, (hL8.ex (eY.trans e11)).ex e12, (e11.trans e12) _ _ hp10, (e11.trans e12) _ _ hr10, (e11.trans e12) _ _ h10, hdue.mono fun v q z => ?_, ((RP.then (eY.trans e11)).then e12).mono (by omega)⟩))
        rotate_left
        · obtain ⟨a1, b1, z1, z2, z3, z4, z5, z6, z7⟩ := z
          exact ⟨a1, b1, ⟨z1, (e11.trans e12) _ _ z6, (e11.trans e12) _ _ z7⟩, (ne_of_none h8r (fresh_back ((e9.trans ec).trans ed) z5)).symm⟩
        have hne2 : srt (allR lot t) ≠ [] := by simpa using hb
        obtain ⟨q0, hq0⟩ : ∃ q0, (srt (allR lot t))[0]? = some q0 := ⟨_, List.getElem?_eq_getElem (List.length_pos_iff.mpr hne2)⟩
        obtain ⟨u0, hu0, ua, ub, rfl, na, nb, hz1, hz2, hga, hgb⟩ := hall.at_ hq0
        have eZ := eY.trans (e11.trans e12)
        have hgb12 := eZ _ _ hgb
        refine s_app (l := ub) (xs := numV q0.2) (v := T [115, 112, 111, 105, 108, 116]) hgb12 (ev_op (ev_op (ev_op (ev_var rfl) ev_c (rv_anyT (st_of (eZ _ _ h8)) (atI_nat (j := 1) rfl))) ev_c (rv_anyL (sq_of (eZ _ _ h8r)) (atI_nat (j := 0) hu0))) ev_c (rv_anyT (st_of (eZ _ _ hga)) (atI_nat (j := 1) rfl))) ev_c (by rw [numV_len]; have := hlc q0 (List.mem_of_getElem? hq0); omega) fun H13 e13 => ?_
        have e0 := eZ.trans e13
        have x1 : Exc (fun c => c = ub) H13 (upd H13 ub (.lst (numV q0.2 ++ [T [115, 112, 111, 105, 108, 116]]))) := (Exc.refl H13).upd (.inl rfl)
        have nub : ∀ {b : Addr} {xs : List V}, H8 b = some (.tup xs) → b ≠ ub := fun {b xs} h z => by rw [z, hgb] at h; cases h
        have hH8b : ∀ {b : Addr}, H8 b = none → b ≠ ub := fun {b} h z => by rw [z, hgb] at h; cases h
        have nubfa : ub ≠ fa := fun z => (G.go RT (m' := 1) (by omega)).is (by rw [← z]; exact hz2)
        refine ⟨rfl, ⟨x1 _ _ (nub hL8.1) (e0 _ _ hL8.1), hL⟩, x1 _ _ (nub h8) (e0 _ _ h8), x1 _ _ (fun z => nb z.symm) (e0 _ _ h8r), x1 _ _ (fun z => (hH8b hp8x) z) (((e11.trans e12).trans e13) _ _ h10), hdue.mono fun v q z => ?_, ((RP.then e0).exc x1 (RT.free G.is hz2 (G.go RT (m' := 1) (by omega)).is) nubfa).mono (by omega)⟩
        · obtain ⟨a1, b1, z1, z2, z3, z4, z5, z6, z7⟩ := z
          exact ⟨a1, b1, ⟨z1, x1 _ _ (hH8b (fresh_back ((e9.trans ec).trans ed) z4)) (((e11.trans e12).trans e13) _ _ z6), x1 _ _ (hH8b (fresh_back ((e9.trans ec).trans ed) z5)) (((e11.trans e12).trans e13) _ _ z7)⟩, (ne_of_none h8r (fresh_back ((e9.trans ec).trans ed) z5)).symm⟩
      · obtain ⟨rfl, hLx, hpx, hrx, hdx, hwx, Rx⟩ := hM
        show tSeq _ _ _ [some (.ref fa), some (.ref pl), some (T t), none, some (.int ((N lot t : Nat) : Int)), some (.int (a : Int)), some (.ref p), some (.ref d)] H'
        refine q_app (l := r) (xs := us) (v := T [115, 112, 111, 105, 108, 116]) hrx (ev_op (ev_var rfl) ev_c (rv_anyT (st_of hpx) (atI_nat (j := 1) rfl))) ev_c (by omega) fun H13 e13 => ?_
        have x1 : Exc (fun c => c = r) H13 (upd H13 r (.lst (us ++ [T [115, 112, 111, 105, 108, 116]]))) := (Exc.refl H13).upd (.inl rfl)
        have nrt : ∀ {b : Addr} {xs : List V}, H' b = some (.tup xs) → b ≠ r := fun {b xs} h z => by rw [z, hrx] at h; cases h
        have nrfa : r ≠ fa := fun z => (G.go RT (m' := 1) (by omega)).is (by rw [← z]; exact hr)
        have Ry : Rf fa 20710 H (upd H13 r (.lst (us ++ [T [115, 112, 111, 105, 108, 116]]))) := (Rx.then e13).exc x1 (RT.free G.is hr (G.go RT (m' := 1) (by omega)).is) nrfa
        have hLy : LotAt pl lot (upd H13 r (.lst (us ++ [T [115, 112, 111, 105, 108, 116]]))) := ⟨x1 _ _ (nrt hLx.1) (e13 _ _ hLx.1), hL⟩
        have hdy := x1 _ _ nrd.symm (e13 _ _ hdx)
        have hwy : All2 (PR (upd H13 r (.lst (us ++ [T [115, 112, 111, 105, 108, 116]])))) ws (srt (allR lot t)) := hwx.mono fun v q z => by
          obtain ⟨a1, b1, ⟨z1, z2, z3⟩, nb1⟩ := z
          exact ⟨a1, b1, z1, x1 _ _ (nrt z2) (e13 _ _ z2), x1 _ _ nb1 (e13 _ _ z3)⟩
        generalize upd H13 r (.lst (us ++ [T [115, 112, 111, 105, 108, 116]])) = H14 at Ry hLy hdy hwy
        exact s_retA (l_call (a_any (a_ev (ev_var rfl) fun Hp ep => a_ev (ev_var rfl) fun Hq eq => a_nil ⟨pl, lot, t, rfl, (hLy.ex ep).ex eq, ht4, hc, hne, fun _ r2 us2 H15 hr2 e15 h15 hall2 => a_ev (ev_var rfl) fun H16 e16 => a_nil ⟨r2, d, us2, ws, _, rfl, e16 _ _ h15, (((ep.trans eq).trans e15).trans e16) _ _ hdy, hall2.mono fun a b z => (z.ex e16).pr, hwy.mono fun a b z => z.ex (((ep.trans eq).trans e15).trans e16), by omega, hlc, fun H17 e17 => k H17 ((Ry.then ((((ep.trans eq).trans e15).trans e16).trans e17)).mono (by omega))⟩, fun z => absurd z (by omega)⟩)))
end
end K16
set_option Elab.async false
set_option linter.all false
set_option maxRecDepth 100000
set_option maxHeartbeats 2000000
set_option exponentiation.threshold 5000
namespace K16
open PySem PySem.Spec PyProof.Rows L2 Evl Wc
section
variable {P : Program} {w : World} {K : PySem.W.Frag} {mg : Str → Option Value} {base : Heap}
theorem ok__law_feed {f : Addr} {fd : FuncData} (F : Fun K "_law_feed" "_law_feed" st__law_feed f fd) (M : Md K mg) : FnOk P w K mg base CX0 1 f fd ["script", "k"] (sp_feed K) := by
  have nd := sc__law_feed.nd
  refine F.ok sc__law_feed (fun vs H Q E h => ?_) (fun cdv A outer s H vs Q E hr h => ?_)
  · obtain ⟨_, _, _, _, rfl, _⟩ := h
    rfl
  · obtain ⟨a, ns, k, e, rfl, hS, hk, he1, he2, hz, kk⟩ := h
    refine ⟨_, (pss_cons (ps_set (i := 2) nd rfl (Or.inl rfl) (pe_op op_add (pe_op op_mulB pe_int (pv 1)) (pe_callB (kcr K (r := rSum) (cr_sum rfl)) (by rfl) M.n_sum boot_sum (pa_cons (pe_slice (ksl K (r := rSlL) sl_list) (pv 0) po_none (po_some pe_int)) pa_nil))))
  (pss_cons (ps_if (pt_cmpR op_lt (pv 1) (pe_callB (kcr K (r := rLenS) call_len_seq) (by rfl) M.n_len boot_len (pa_cons (pv 0) pa_nil)) (nomark _))
  (pss_one (ps_set (i := 2) nd rfl (Or.inl rfl) (pe_ix (kix K (r := L2.rIxL) ix_list) (pv 0) (pv 1) (fun _ _ => rfl))))
  pss_nil)
  (pss_one (ps_ret (pe_lst (pa_cons (pe_callB (call_max2 rfl) (by rfl) M.n_max boot_max (pa_cons pe_int (pa_cons (pe_op op_sub (pv 2) (pe_op op_pow pe_int pe_int)) pa_nil))) (pa_cons (pe_op op_modP (pe_callTy call_int1 (by rfl) M.n_int boot_int (pa_cons (pe_op op_add (pe_op op_mulB (pv 2) pe_int) (pe_op op_mulB pe_int (pv 1))) pa_nil)) (pe_op op_add (pe_op op_pow pe_int pe_int) pe_int)) (pa_cons pe_int pa_nil)))))))), ?_⟩
    have hsum : Ev (tCB (rSum K) (tCons (tSl (rSlL K) (tVar 0) tNoPart (tPart (tC (.int 1)))) tNil)) (start N__law_feed [.ref a, .int (k : Int)]) H (.int (ns.take 1).sum) := by
      refine ev_cbL (el_sl (ev_var rfl) eo_none (eo_some ev_c) hS) fun p H1 hp e1 => rc_sum (ns := ns.take 1) (sq_of ?_)
      have ec : cutV (ns.map V.int) none (some 1) = (ns.take 1).map V.int := by
        rw [List.map_take]
        exact cutV_to _ 1
      rw [hp, ec]
    have hs1 : (ns.take 1).sum.natAbs < 2 ^ e := by
      cases ns with
      | nil => exact Nat.pow_pos (by decide)
      | cons z r =>
        have := hz z List.mem_cons_self
        simpa using this
    refine q_asg (ev_op (ev_op ev_c (ev_var rfl) (rv_I (mulB (a := 20) (b := 20) (by decide) (by simp; omega) (by decide) (by decide) (by decide)))) hsum rv_I0) fun H1 e1 => ?_
    -- what cell is behind the if
    have rest : ∀ (cell : Int) H2, Ex H H2 → cell.natAbs < 2 ^ (e + 72) → ∀ {tz : TS}, (∀ {te : TE}, EvL te [some (.ref a), some (.int (k : Int)), some (.int cell)] H2 [.int (if cell - 10 ^ (18 : Int).toNat > 0 then cell - 10 ^ (18 : Int).toNat else 0), .int ((cell * 19 + 7 * (k : Int)) % (10 ^ (39 : Int).toNat + 23)), .int 0] → tRet te { nx := fun _ H' => Q .non H', rt := Q } [some (.ref a), some (.int (k : Int)), some (.int cell)] H2) := fun cell H2 e2 hc {tz te} h => by
      refine s_retL h fun fa H3 nfa e3 hfa => kk fa H3 (fresh_back e2 nfa) (e2.trans e3) ?_
      have hd : (cell + -(10 : Int) ^ (18 : Int).toNat).natAbs < 2 ^ (e + 72 + 72) := pow_add_small hc (by decide)
      refine ⟨_, _, _, e + 144, hfa, ?_, by omega, by omega, ?_, Int.emod_nonneg _ (by decide), Int.lt_trans (Int.emod_lt_of_pos _ (by decide)) (by decide), Int.le_refl _, Int.le_refl _⟩
      · split
        · omega
        · exact Int.le_refl _
      · split
        · rw [Int.sub_eq_add_neg]
          exact hd
        · exact Nat.pow_pos (by decide)
    have hfin : ∀ (cell : Int) H2, Ex H H2 → cell.natAbs < 2 ^ (e + 72) → EvL _ [some (.ref a), some (.int (k : Int)), some (.int cell)] H2 [.int (if cell - 10 ^ (18 : Int).toNat > 0 then cell - 10 ^ (18 : Int).toNat else 0), .int ((cell * 19 + 7 * (k : Int)) % (10 ^ (39 : Int).toNat + 23)), .int 0] := fun cell H2 e2 hc =>
      el_lst (ea_cons (ev_max2 ev_c (ev_op (ev_var (i := 2) rfl) (ev_op ev_c ev_c (rv_I (C := CPow) (g := fun i j => .int (i ^ j.toNat)) ⟨by decide, by decide, by decide⟩)) (rv_I0 (g := fun i j => .int (i - j))))) (ea_cons (ev_op (ev_cb (ea_cons (ev_op (ev_op (ev_var (i := 2) rfl) ev_c (rv_I (C := CMulB) (g := fun i j => .int (i * j)) (mulB hc (b := 10) (by decide) (by omega) (by decide) (by omega)))) (ev_op ev_c (ev_var (i := 1) rfl) (rv_I (C := CMulB) (g := fun i j => .int (i * j)) (mulB (a := 20) (b := 20) (by decide) (by simp; omega) (by decide) (by decide) (by decide)))) (rv_I0 (g := fun i j => .int (i + j)))) ea_nil) rc_int)
        (ev_op (ev_op ev_c ev_c (rv_I (C := CPow) (g := fun i j => .int (i ^ j.toNat)) ⟨by decide, by decide, by decide⟩)) ev_c (rv_I0 (g := fun i j => .int (i + j)))) (rv_I (C := fun _ j => 0 < j) (g := fun i j => .int (i % j)) (by decide))) (ea_cons ev_c ea_nil))) (by show 3 ≤ 100000; decide)
    refine q_when (et_test (ev_op (ev_var rfl) (ev_len (ev_var rfl) (ex_l e1 hS)) rv_I0)) (fun hb H2 e2 => ?_) (fun hb H2 e2 => ?_)
    · have hlt : k < ns.length := by
        have := of_decide_eq_true hb
        rw [List.length_map] at this
        omega
      refine s_asg (v := .int ns[k]) (ev_op (ev_var rfl) (ev_var rfl) (rv_ixL (ex_l (e1.trans e2) hS) (atI_nat (by rw [List.getElem?_map, List.getElem?_eq_getElem hlt]; rfl)))) fun H3 e3 => ?_
      exact rest ns[k] H3 ((e1.trans e2).trans e3) (Nat.lt_of_lt_of_le (hz _ (List.getElem_mem hlt)) (Nat.pow_le_pow_right (by decide) (by omega))) (tz := tNext) (hfin ns[k] H3 ((e1.trans e2).trans e3) (Nat.lt_of_lt_of_le (hz _ (List.getElem_mem hlt)) (Nat.pow_le_pow_right (by decide) (by omega))))
    · have hc : (977 * (k : Int) + (ns.take 1).sum).natAbs < 2 ^ (e + 72) := by
        rw [Int.add_comm]
        refine pow_add_small hs1 (Nat.le_trans (show (977 * (k : Int)).natAbs ≤ 1000000 by omega) (by decide))
      exact rest _ H2 (e1.trans e2) hc (tz := tNext) (hfin _ H2 (e1.trans e2) hc)
end
end K16
set_option Elab.async false
set_option linter.all false
set_option maxRecDepth 100000
set_option maxHeartbeats 2000000
namespace K16
open PySem PySem.Spec PyProof.Rows L2 Evl Wc Wt Wg Ws
section
variable {P : Program} {w : World} {K : PySem.W.Frag} {mg : Str → Option Value} {base : Heap}
def sp_law (K : PySem.W.Frag) : Sp := fun vs H Q _ => ∃ (a : Addr) (ns : List Int) (e : Nat), vs = [.ref a] ∧ SqL K H a (ns.map V.int) ∧ ns.length ≤ 63 ∧ 1 ≤ e ∧ e ≤ 1100000 ∧ (∀ z ∈ ns, z.natAbs < 2 ^ e) ∧ ∀ H', Q (.bl true) H'
theorem ok_law {f : Addr} {fd : FuncData} (F : Fun K "law" "law" st_law f fd) (M : Md K mg) (C__law_feed : Cal P w K mg base "_law_feed" st__law_feed 1 ["script", "k"] (sp_feed K)) (C__law_right : Cal P w K mg base "_law_right" st__law_right 8 ["feed"] sp_law_right) : FnOkG P w K mg base 9 f fd ["script"] (sp_law K) := by
  have nd := sc_law.nd
  refine Fun.okG F sc_law (fun vs H Q E h => ?_) (fun cdv A outer s H vs Q E hr hgd h => ?_)
  · obtain ⟨_, _, _, rfl, _⟩ := h
    rfl
  · obtain ⟨a, ns, e, rfl, hS, hlen, he1, he2, hz, k⟩ := h
    refine ⟨_, (pss_cons (ps_for PassesOwn.never rfl (pi_range1 (by rfl) M.n_range (pa_cons (pe_callB (call_max2 rfl) (by rfl) M.n_max boot_max (pa_cons pe_int (pa_cons (pe_callB (call_min2 rfl) (by rfl) M.n_min boot_min (pa_cons (pe_callB (kcr K (r := rLenS) call_len_seq) (by rfl) M.n_len boot_len (pa_cons (pv 0) pa_nil)) (pa_cons pe_int pa_nil))) pa_nil))) pa_nil)) (pg_name (i := 1) nd rfl (Or.inl rfl))
  (pss_one (ps_if (pt_not (pt_val (pe_cl C__law_right hr (pa_cons (pe_cl C__law_feed hr (pa_cons (pv 0) (pa_cons (pv 1) pa_nil))) pa_nil))))
  (pss_one (ps_ret pe_bl))
  pss_nil)))
  (pss_one (ps_ret pe_bl))), ?_⟩
    obtain ⟨n, hn6, hn⟩ : ∃ n : Nat, n ≤ 5 ∧ (if (if (5 : Int) < ((ns.map V.int).length : Int) then (5 : Int) else ((ns.map V.int).length : Int)) > 1 then (if (5 : Int) < ((ns.map V.int).length : Int) then (5 : Int) else ((ns.map V.int).length : Int)) else 1) = (n : Int) := by
      refine ⟨max 1 (min ns.length 5), by omega, ?_⟩
      rw [List.length_map]
      split <;> split <;> omega
    have hcnt : EvA (tCons (tCB rMax2 (tCons (tC (.int 1)) (tCons (tCB rMin2 (tCons (tCB (rLenS K) (tCons (tVar 0) tNil)) (tCons (tC (.int 5)) tNil))) tNil))) tNil) (start N_law [.ref a]) H [.int (n : Int)] :=
      ea_cons (ev_is (ev_max2 ev_c (ev_min2 (ev_len (ev_var rfl) hS) ev_c)) (by rw [hn])) ea_nil
    refine q_forW (fun _ => False) (src_range1 (n := n) hcnt (by omega)) (fun _ z => z.elim)
      (fun Hs i σ' H' => ∃ v1 : Option V, σ' = [some (.ref a), v1] ∧ Ex Hs H') ?_ ?_ ?_ ?_ ?_
    · intro Hs e
      exact ⟨none, rfl, Ex.refl _⟩
    · rintro Hs i σ' H' ⟨_, _, h1⟩
      exact .of h1
    · rintro Hs i σ' Ha Hb ⟨v1, h0, h1⟩ e
      exact ⟨v1, h0, h1.trans e⟩
    · rintro Hs i x σ' H' e0 hi ⟨v1, rfl, h1⟩ rfl
      have eA : Ex H H' := e0.trans h1
      show tIfS _ _ _ _ [some (.ref a), some (.int (i : Int))] H'
      refine ⟨.ref a, rfl, .int (i : Int), rfl, a, ns, i, e, rfl, ex_l eA hS, by omega, he1, he2, hz, fun fa H2 hfa e2 hF => ?_⟩
      have G0 : GF fa 22000 H2 := ⟨0, by decide, hF⟩
      exact ⟨fa, rfl, G0, fun H3 R3 => ⟨true, rfl, ⟨_, rfl, h1.trans (ex_of_exc e2 hfa R3.keep)⟩⟩⟩
    · rintro Hs σ' H' e0 ⟨v1, rfl, h1⟩
      exact s_ret ev_c fun H2 e2 => k H2
end
end K16
set_option Elab.async false
set_option linter.all false
set_option maxRecDepth 100000
set_option maxHeartbeats 2000000
namespace K16
open PySem PySem.Spec PyProof.Rows L2 Evl Wc Wt Wg Ws We _root_.Wd
/-- a def of the top, as it stands -/
def Top (K : PySem.W.Frag) (x : Str) (st : Stmt) : Prop := ∃ (f : Addr) (oc : Value) (od an : Option Addr) (osl : Array (Option Value)) (kV doc pm cdv ct : Value), PySem.W.nsIn K mainGlobals x = some (some (.ref f)) ∧ K.lookup f = some ⟨oc, od, .func (PySem.W.fnOf x x (defArgs st) (defBody st) (defScope st) .none kV doc pm an cdv ct), osl⟩ ∧ PySem.W.codeIn K cdv x = true ∧ PySem.W.keepIn K (.ref f) = true
theorem top_mk {K : PySem.W.Frag} {x : Str} {st : Stmt} {f : Addr} {oc : Value} {od an : Option Addr} {osl : Array (Option Value)} {kV doc pm cdv ct : Value} (a : PySem.W.nsIn K mainGlobals x = some (some (.ref f))) (l : K.lookup f = some ⟨oc, od, .func (PySem.W.fnOf x x (defArgs st) (defBody st) (defScope st) .none kV doc pm an cdv ct), osl⟩) (c : PySem.W.codeIn K cdv x = true) (k : PySem.W.keepIn K (.ref f) = true) : Top K x st := ⟨f, oc, od, an, osl, kV, doc, pm, cdv, ct, a, l, c, k⟩
section
variable {P : Program} {w : World} {K : PySem.W.Frag} {mg : Str → Option Value} {base h : Heap} {x : Str} {st : Stmt} {k : Nat} {ps : List Str} {sp : Sp}
theorem Top.cal (T : Top K x st) (X : K.In h) (G : h.Ns mainGlobals mg)
    (hb : ∀ (kV doc pm : Value) (an : Option Addr) (cdv ct : Value) (us : List Value), us.length = ps.length → bindArgs (PySem.W.fnOf x x (defArgs st) (defBody st) (defScope st) .none kV doc pm an cdv ct) ⟨us, []⟩ = pure (ps.zip us))
    (ok : ∀ f fd, Fun K x x st f fd → FnOk P w K mg base CX0 k f fd ps sp) : Cal P w K mg base x st k ps sp := by
  obtain ⟨f, oc, od, an, osl, kV, doc, pm, cdv, ct, a, l, c, k⟩ := T
  have F := fun_mk (st := st) l c k
  exact ⟨f, _, ok _ _ F, PySem.W.mg_of X G a, F, F.binds hb⟩
theorem Top.calG (T : Top K x st) (X : K.In h) (G : h.Ns mainGlobals mg)
    (hb : ∀ (kV doc pm : Value) (an : Option Addr) (cdv ct : Value) (us : List Value), us.length = ps.length → bindArgs (PySem.W.fnOf x x (defArgs st) (defBody st) (defScope st) .none kV doc pm an cdv ct) ⟨us, []⟩ = pure (ps.zip us))
    (ok : ∀ f fd, Fun K x x st f fd → FnOkG P w K mg base k f fd ps sp) : CalG P w K mg base x st k ps sp := by
  obtain ⟨f, oc, od, an, osl, kV, doc, pm, cdv, ct, a, l, c, k⟩ := T
  have F := fun_mk (st := st) l c k
  exact ⟨f, _, ok _ _ F, PySem.W.mg_of X G a, F, F.binds hb⟩
theorem Top.calS (T : Top K x st) (X : K.In h) (G : h.Ns mainGlobals mg)
    (hb : ∀ (kV doc pm : Value) (an : Option Addr) (cdv ct : Value) (us : List Value), us.length = ps.length → bindArgs (PySem.W.fnOf x x (defArgs st) (defBody st) (defScope st) .none kV doc pm an cdv ct) ⟨us, []⟩ = pure (ps.zip us))
    (ok : ∀ f fd, Fun K x x st f fd → FnOk P w K mg base (L2.CX P w) k f fd ps sp) : CalS P w K mg base x st k ps sp := by
  obtain ⟨f, oc, od, an, osl, kV, doc, pm, cdv, ct, a, l, c, k⟩ := T
  have F := fun_mk (st := st) l c k
  exact ⟨f, _, ok _ _ F, PySem.W.mg_of X G a, F, F.binds hb⟩
/-- .. by its address, its name a value -/
theorem Top.at_ (T : Top K x st) (X : K.In h) (G : h.Ns mainGlobals mg)
    (hb : ∀ (kV doc pm : Value) (an : Option Addr) (cdv ct : Value) (us : List Value), us.length = ps.length → bindArgs (PySem.W.fnOf x x (defArgs st) (defBody st) (defScope st) .none kV doc pm an cdv ct) ⟨us, []⟩ = pure (ps.zip us))
    (ok : ∀ f fd, Fun K x x st f fd → FnOk P w K mg base CX0 k f fd ps sp) : ∃ f, C8.CalAt P w K mg base k f sp ∧ ∃ u, mg x = some u ∧ RelV (.ref f) u := by
  obtain ⟨f, oc, od, an, osl, kV, doc, pm, cdv, ct, a, l, c, k⟩ := T
  have F := fun_mk (st := st) l c k
  exact ⟨f, ⟨_, ps, ok _ _ F, k, F.binds hb⟩, _, PySem.W.mg_of X G a, rfl⟩
/-- .. whatever its context -/
theorem Top.fn {CX : CXT} (T : Top K x st) (X : K.In h) (G : h.Ns mainGlobals mg)
    (hb : ∀ (kV doc pm : Value) (an : Option Addr) (cdv ct : Value) (us : List Value), us.length = ps.length → bindArgs (PySem.W.fnOf x x (defArgs st) (defBody st) (defScope st) .none kV doc pm an cdv ct) ⟨us, []⟩ = pure (ps.zip us))
    (ok : ∀ f fd, Fun K x x st f fd → FnOk P w K mg base CX k f fd ps sp) : ∃ f fd, FnOk P w K mg base CX k f fd ps sp ∧ Binds K fd ps [] ∧ mg x = some (.ref f) ∧ PySem.W.keepIn K (.ref f) = true := by
  obtain ⟨f, oc, od, an, osl, kV, doc, pm, cdv, ct, a, l, c, k⟩ := T
  have F := fun_mk (st := st) l c k
  exact ⟨f, _, ok _ _ F, F.binds hb, PySem.W.mg_of X G a, k⟩
/-- a method, as it stands -/
def TopM (K : PySem.W.Frag) (C : Addr) (m q : Str) (st : Stmt) : Prop := ∃ (f : Addr) (oc : Value) (od an : Option Addr) (osl : Array (Option Value)) (kV doc pm cdv ct : Value), PySem.W.findIn K (.ref C) m = some (some (.ref f)) ∧ PySem.W.isFn K (.ref f) = true ∧ K.lookup f = some ⟨oc, od, .func (PySem.W.fnOf m q (defArgs st) (defBody st) (defScope st) .none kV doc pm an cdv ct), osl⟩ ∧ PySem.W.codeIn K cdv q = true ∧ PySem.W.keepIn K (.ref f) = true
theorem topm_mk {C : Addr} {m q : Str} {f : Addr} {oc : Value} {od an : Option Addr} {osl : Array (Option Value)} {kV doc pm cdv ct : Value} (a : PySem.W.findIn K (.ref C) m = some (some (.ref f))) (i : PySem.W.isFn K (.ref f) = true) (l : K.lookup f = some ⟨oc, od, .func (PySem.W.fnOf m q (defArgs st) (defBody st) (defScope st) .none kV doc pm an cdv ct), osl⟩) (c : PySem.W.codeIn K cdv q = true) (k : PySem.W.keepIn K (.ref f) = true) : TopM K C m q st := ⟨f, oc, od, an, osl, kV, doc, pm, cdv, ct, a, i, l, c, k⟩
theorem TopM.met {C : Addr} {m q : Str} (T : TopM K C m q st) (cl : Cls K C)
    (hb : ∀ (kV doc pm : Value) (an : Option Addr) (cdv ct : Value) (us : List Value), us.length = ps.length → bindArgs (PySem.W.fnOf m q (defArgs st) (defBody st) (defScope st) .none kV doc pm an cdv ct) ⟨us, []⟩ = pure (ps.zip us))
    (ok : ∀ f fd, Fun K m q st f fd → FnOk P w K mg base CX0 k f fd ps sp) : C8.Met P w K mg base k C m sp [] := by
  obtain ⟨f, oc, od, an, osl, kV, doc, pm, cdv, ct, a, i, l, c, k⟩ := T
  have F := fun_mk (st := st) l c k
  exact ⟨f, _, ps, [], cl, ⟨a, i, k⟩, ok _ _ F, F.binds hb, .nil⟩
theorem TopM.mak {C : Addr} {q : Str} (T : TopM K C "__init__" q st) (X : K.In h) (G : h.Ns mainGlobals mg) (n : PySem.W.nsIn K mainGlobals x = some (some (.ref C))) (mk : PySem.W.makesIn K C = true) (kc : PySem.W.keepIn K (.ref C) = true)
    (hb : ∀ (kV doc pm : Value) (an : Option Addr) (cdv ct : Value) (us : List Value), us.length = ps.length → bindArgs (PySem.W.fnOf "__init__" q (defArgs st) (defBody st) (defScope st) .none kV doc pm an cdv ct) ⟨us, []⟩ = pure (ps.zip us))
    (ok : ∀ f fd, Fun K "__init__" q st f fd → FnOk P w K mg base CX0 k f fd ps sp) : Mak P w K mg base k C x sp := by
  obtain ⟨f, oc, od, an, osl, kV, doc, pm, cdv, ct, a, i, l, c, k⟩ := T
  have F := fun_mk (st := st) l c k
  exact ⟨f, _, ps, ⟨mk, a, i, kc⟩, ok _ _ F, F.binds hb, PySem.W.mg_of X G n⟩
end
theorem all_mk {l : PySem.W.OpenLaw} {w : World} {K : PySem.W.Frag} {h : Heap} {mg : Str → Option Value} {fa : Addr} (X : K.In h) (G : h.Ns mainGlobals mg) (hfa : mg "law" = some (.ref fa))
    (n_ValueError : PySem.W.nsIn K mainGlobals "ValueError" = some none)
    (n_all : PySem.W.nsIn K mainGlobals "all" = some none)
    (n_bool : PySem.W.nsIn K mainGlobals "bool" = some none)
    (n_enumerate : PySem.W.nsIn K mainGlobals "enumerate" = some none)
    (n_int : PySem.W.nsIn K mainGlobals "int" = some none)
    (n_isinstance : PySem.W.nsIn K mainGlobals "isinstance" = some none)
    (n_len : PySem.W.nsIn K mainGlobals "len" = some none)
    (n_list : PySem.W.nsIn K mainGlobals "list" = some none)
    (n_max : PySem.W.nsIn K mainGlobals "max" = some none)
    (n_min : PySem.W.nsIn K mainGlobals "min" = some none)
    (n_range : PySem.W.nsIn K mainGlobals "range" = some none)
    (n_reversed : PySem.W.nsIn K mainGlobals "reversed" = some none)
    (n_set : PySem.W.nsIn K mainGlobals "set" = some none)
    (n_sorted : PySem.W.nsIn K mainGlobals "sorted" = some none)
    (n_str : PySem.W.nsIn K mainGlobals "str" = some none)
    (n_sum : PySem.W.nsIn K mainGlobals "sum" = some none)
    (n_tuple : PySem.W.nsIn K mainGlobals "tuple" = some none)
    (n_zip : PySem.W.nsIn K mainGlobals "zip" = some none)
    {t_c_SIGNS : Tok} (c_SIGNS : PySem.W.nsIn K mainGlobals "SIGNS" = some (some (.str (Str.ofString "abcd") t_c_SIGNS)))
    {t_c_MOST_SIGNS : Tok} (c_MOST_SIGNS : PySem.W.nsIn K mainGlobals "MOST_SIGNS" = some (some (.int 400 t_c_MOST_SIGNS)))
    {t_c_MOST_LETTERS : Tok} (c_MOST_LETTERS : PySem.W.nsIn K mainGlobals "MOST_LETTERS" = some (some (.int 12 t_c_MOST_LETTERS)))
    {t_c_MOST_WORDS : Tok} (c_MOST_WORDS : PySem.W.nsIn K mainGlobals "MOST_WORDS" = some (some (.int 12 t_c_MOST_WORDS)))
    {t_c_MOST_TOLD : Tok} (c_MOST_TOLD : PySem.W.nsIn K mainGlobals "MOST_TOLD" = some (some (.int 300 t_c_MOST_TOLD)))
    {C CE CB : Addr}
    (aW : PySem.W.nsIn K mainGlobals "Round" = some (some (.ref C)))
    (aB : PySem.W.nsIn K mainGlobals "CutError" = some (some (.ref CB)))
    (w1 : PySem.W.plainGet K C Str.empty = true)
    (w2 : PySem.W.hasDictIn K C = true)
    (w3 : PySem.W.plainOver K C = true)
    (w4 : PySem.W.findIn K (.ref C) "__setattr__" = some (some (.builtin "object.__setattr__")))
    (w5 : PySem.W.findIn K (.ref C) "lot" = some none)
    (w6 : PySem.W.findIn K (.ref C) "text" = some none)
    (w9 : PySem.W.makesIn K C = true)
    (wA : PySem.W.keepIn K (.ref C) = true)
    (aE : PySem.W.nsIn K mainGlobals "TooMany" = some (some (.ref CE)))
    (Ex1 : PySem.W.excIn K CE [.type "ValueError", .type "Exception", .type "BaseException", .type "object"] "ValueError.__new__" = true)
    (Ex2 : PySem.W.keepIn K (.ref CE) = true)
    (Ex3 : PySem.W.subIn K (.ref CE) (.type "BaseException") = some true)
    (Ex4 : PySem.W.typeIn K (.ref CE) = some (.type "type"))
    (Ex5 : PySem.W.subIn K (.ref CE) (.ref CE) = some true)
    (Ey1 : PySem.W.findIn K (.ref CE) "__getattribute__" = some (some (.builtin "BaseException.__getattribute__")))
    (Ey2 : PySem.W.findIn K (.ref CE) "__getattr__" = some none)
    (Ey3 : PySem.W.hasDictIn K CE = true)
    (Ey4 : PySem.W.findIn K (.ref CE) "__class__" = some (some (.builtin "object.__class__")))
    (Ey5 : PySem.W.specialIn K (.builtin "object.__class__") "__get__" = some (some (.builtin "getset_descriptor.__get__")))
    (Ey6 : PySem.W.takesIn K (.builtin "object.__class__") = some true)
    (Ey7 : PySem.W.mroIn K CE (.type "object") = some true)
    (keb : PySem.W.kitOne K (.ref CE) (.ref CB) = some true)
    (TM_init : TopM K C "__init__" "Round.__init__" st_Round_init)
    (TM_turned : TopM K C "turned" "Round.turned" st_Round_turned)
    (TM_counts_from : TopM K C "counts_from" "Round.counts_from" st_Round_counts_from)
    (TM_count_behind : TopM K C "count_behind" "Round.count_behind" st_Round_count_behind)
    (TM_number : TopM K C "number" "Round.number" st_Round_number)
    (TM_cut_from : TopM K C "cut_from" "Round.cut_from" st_Round_cut_from)
    (TM_cuts : TopM K C "cuts" "Round.cuts" st_Round_cuts)
    (T__law_draw : Top K "_law_draw" st__law_draw)
    (T__law_one : Top K "_law_one" st__law_one)
    (T__law_text : Top K "_law_text" st__law_text)
    (T__law_feed : Top K "_law_feed" st__law_feed)
    (T__law_mixed : Top K "_law_mixed" st__law_mixed)
    (T__law_kept : Top K "_law_kept" st__law_kept)
    (T__law_split : Top K "_law_split" st__law_split)
    (T__law_joined : Top K "_law_joined" st__law_joined)
    (T__law_made : Top K "_law_made" st__law_made)
    (T__law_code : Top K "_law_code" st__law_code)
    (T__law_lot : Top K "_law_lot" st__law_lot)
    (T__law_put : Top K "_law_put" st__law_put)
    (T__law_near_text : Top K "_law_near_text" st__law_near_text)
    (T_are_signs : Top K "are_signs" st_are_signs)
    (T_is_text : Top K "is_text" st_is_text)
    (T_need_some_text : Top K "need_some_text" st_need_some_text)
    (T_is_word : Top K "is_word" st_is_word)
    (T_is_ascending : Top K "is_ascending" st_is_ascending)
    (T_is_lot_form : Top K "is_lot_form" st_is_lot_form)
    (T_need_lot : Top K "need_lot" st_need_lot)
    (T_need_round : Top K "need_round" st_need_round)
    (T_count_round_cuts : Top K "count_round_cuts" st_count_round_cuts)
    (T_round_cuts : Top K "round_cuts" st_round_cuts)
    (T__law_doors : Top K "_law_doors" st__law_doors)
    (T__law_rooms : Top K "_law_rooms" st__law_rooms)
    (T__law_number : Top K "_law_number" st__law_number)
    (T__law_fits : Top K "_law_fits" st__law_fits)
    (T__law_tried : Top K "_law_tried" st__law_tried)
    (T__law_is : Top K "_law_is" st__law_is)
    (T__law_list : Top K "_law_list" st__law_list)
    (T__law_told : Top K "_law_told" st__law_told)
    (T__law_same : Top K "_law_same" st__law_same)
    (T__law_ahead : Top K "_law_ahead" st__law_ahead)
    (T__law_round_text : Top K "_law_round_text" st__law_round_text)
    (T__law_right : Top K "_law_right" st__law_right)
    (T_law : Top K "law" st_law)
    : ∃ fd : FuncData, (∀ (s : Shared) (v : Value), BindsTo s fd ⟨[v], []⟩ [("script", v)]) ∧ ∀ base : Heap, K.In base → base.Ns mainGlobals mg → FnOkG l.prog w K mg base 9 fa fd ["script"] (sp_law K) := by
  have M : Md K mg := ⟨PySem.W.mg_none_of X G n_ValueError, PySem.W.mg_none_of X G n_all, PySem.W.mg_none_of X G n_bool, PySem.W.mg_none_of X G n_enumerate, PySem.W.mg_none_of X G n_int, PySem.W.mg_none_of X G n_isinstance, PySem.W.mg_none_of X G n_len, PySem.W.mg_none_of X G n_list, PySem.W.mg_none_of X G n_max, PySem.W.mg_none_of X G n_min, PySem.W.mg_none_of X G n_range, PySem.W.mg_none_of X G n_reversed, PySem.W.mg_none_of X G n_set, PySem.W.mg_none_of X G n_sorted, PySem.W.mg_none_of X G n_str, PySem.W.mg_none_of X G n_sum, PySem.W.mg_none_of X G n_tuple, PySem.W.mg_none_of X G n_zip, ⟨_, PySem.W.mg_of X G c_SIGNS⟩, ⟨_, PySem.W.mg_of X G c_MOST_SIGNS⟩, ⟨_, PySem.W.mg_of X G c_MOST_LETTERS⟩, ⟨_, PySem.W.mg_of X G c_MOST_WORDS⟩, ⟨_, PySem.W.mg_of X G c_MOST_TOLD⟩⟩
  have W : RW K C := ⟨⟨w1, w2, w3, w4⟩, w5, w6⟩
  have E_TooMany : Err K mg "TooMany" CE := ⟨PySem.W.mg_of X G aE, Ex1, Ex2, Ex3, Ex4⟩
  have I_TooMany : ErrI K CE := ⟨PySem.W.exm_ref Ex3 Ey3 Ex4 Ex5, ⟨Ey1, Ey2, Ex3, Ey3, Ey4, Ey5, Ey6, Ey7⟩⟩
  have EO : ErrO K mg CE CB := ⟨E_TooMany, I_TooMany, ⟨_, PySem.W.mg_of X G aE, rfl⟩, ⟨_, PySem.W.mg_of X G aB, rfl⟩, keb⟩
  obtain ⟨f, oc, od, an, osl, kV, doc, pm, cdv, ct, a, lk, c, k⟩ := T_law
  have e := hfa.symm.trans (PySem.W.mg_of X G a)
  cases e
  have F := fun_mk (st := st_law) lk c k
  refine ⟨PySem.W.fnOf "law" "law" (defArgs st_law) (defBody st_law) (defScope st_law) .none kV doc pm an cdv ct, fun s v => .of_eq rfl, fun base _ _ => ?_⟩
  have C__law_draw : Cal l.prog w K mg base "_law_draw" st__law_draw 1 ["feed", "many"] sp_draw := T__law_draw.cal X G (fun _ _ _ _ _ _ us hl => match us, hl with | [_, _], _ => rfl) fun _ _ F => ok__law_draw F M
  have C__law_one : Cal l.prog w K mg base "_law_one" st__law_one 2 ["feed", "things"] (sp_one K) := T__law_one.cal X G (fun _ _ _ _ _ _ us hl => match us, hl with | [_, _], _ => rfl) fun _ _ F => ok__law_one F M C__law_draw
  have C__law_text : Cal l.prog w K mg base "_law_text" st__law_text 3 ["feed", "signs", "most"] sp_text := T__law_text.cal X G (fun _ _ _ _ _ _ us hl => match us, hl with | [_, _, _], _ => rfl) fun _ _ F => ok__law_text F M C__law_draw C__law_one
  have C__law_feed : Cal l.prog w K mg base "_law_feed" st__law_feed 1 ["script", "k"] (sp_feed K) := T__law_feed.cal X G (fun _ _ _ _ _ _ us hl => match us, hl with | [_, _], _ => rfl) fun _ _ F => ok__law_feed F M
  have C__law_mixed : Cal l.prog w K mg base "_law_mixed" st__law_mixed 2 ["feed", "things"] (sp_mixed K) := T__law_mixed.cal X G (fun _ _ _ _ _ _ us hl => match us, hl with | [_, _], _ => rfl) fun _ _ F => ok__law_mixed F M C__law_draw
  have C__law_kept : Cal l.prog w K mg base "_law_kept" st__law_kept 3 ["feed", "words", "most"] (sp_kept K) := T__law_kept.cal X G (fun _ _ _ _ _ _ us hl => match us, hl with | [_, _, _], _ => rfl) fun _ _ F => ok__law_kept F M C__law_mixed
  have C__law_split : Cal l.prog w K mg base "_law_split" st__law_split 2 ["feed", "signs", "turns"] sp_split := T__law_split.cal X G (fun _ _ _ _ _ _ us hl => match us, hl with | [_, _, _], _ => rfl) fun _ _ F => ok__law_split F M C__law_draw
  have C__law_joined : Cal l.prog w K mg base "_law_joined" st__law_joined 3 ["feed", "words", "turns"] sp_joined := T__law_joined.cal X G (fun _ _ _ _ _ _ us hl => match us, hl with | [_, _, _], _ => rfl) fun _ _ F => ok__law_joined F M C__law_draw C__law_one
  have C__law_made : Cal l.prog w K mg base "_law_made" st__law_made 1 ["feed", "code", "words"] (sp_made K) := T__law_made.cal X G (fun _ _ _ _ _ _ us hl => match us, hl with | [_, _, _], _ => rfl) fun _ _ F => ok__law_made F M
  have C__law_code : Cal l.prog w K mg base "_law_code" st__law_code 3 ["feed"] sp_code := T__law_code.cal X G (fun _ _ _ _ _ _ us hl => match us, hl with | [_], _ => rfl) fun _ _ F => ok__law_code F M C__law_one
  have C__law_lot : Cal l.prog w K mg base "_law_lot" st__law_lot 4 ["feed", "most"] sp_lot := T__law_lot.cal X G (fun _ _ _ _ _ _ us hl => match us, hl with | [_, _], _ => rfl) fun _ _ F => ok__law_lot F M C__law_draw C__law_one C__law_text C__law_kept C__law_split C__law_joined C__law_made C__law_code
  have C__law_put : Cal l.prog w K mg base "_law_put" st__law_put 3 ["feed", "lot", "most"] sp_put := T__law_put.cal X G (fun _ _ _ _ _ _ us hl => match us, hl with | [_, _, _], _ => rfl) fun _ _ F => ok__law_put F M C__law_draw C__law_one
  have C__law_near_text : Cal l.prog w K mg base "_law_near_text" st__law_near_text 4 ["feed", "lot", "most"] sp_near_text := T__law_near_text.cal X G (fun _ _ _ _ _ _ us hl => match us, hl with | [_, _, _], _ => rfl) fun _ _ F => ok__law_near_text F M C__law_draw C__law_one C__law_text C__law_put
  have C_are_signs : Cal l.prog w K mg base "are_signs" st_are_signs 1 ["thing", "most"] sp_are_signs := T_are_signs.cal X G (fun _ _ _ _ _ _ us hl => match us, hl with | [_, _], _ => rfl) fun _ _ F => ok_are_signs F M
  have C_is_text : Cal l.prog w K mg base "is_text" st_is_text 2 ["thing"] sp_is_text := T_is_text.cal X G (fun _ _ _ _ _ _ us hl => match us, hl with | [_], _ => rfl) fun _ _ F => ok_is_text F M C_are_signs
  have C_need_some_text : Cal l.prog w K mg base "need_some_text" st_need_some_text 3 ["text"] sp_need_some := T_need_some_text.cal X G (fun _ _ _ _ _ _ us hl => match us, hl with | [_], _ => rfl) fun _ _ F => ok_need_some_text F M C_is_text
  have C_is_word : Cal l.prog w K mg base "is_word" st_is_word 2 ["thing"] sp_is_word := T_is_word.cal X G (fun _ _ _ _ _ _ us hl => match us, hl with | [_], _ => rfl) fun _ _ F => ok_is_word F M C_are_signs
  have C_is_ascending : Cal l.prog w K mg base "is_ascending" st_is_ascending 1 ["things"] sp_ascending := T_is_ascending.cal X G (fun _ _ _ _ _ _ us hl => match us, hl with | [_], _ => rfl) fun _ _ F => ok_is_ascending F M
  have C_is_lot_form : Cal l.prog w K mg base "is_lot_form" st_is_lot_form 3 ["thing"] sp_lot_form := T_is_lot_form.cal X G (fun _ _ _ _ _ _ us hl => match us, hl with | [_], _ => rfl) fun _ _ F => ok_is_lot_form F M C_is_word C_is_ascending
  have C_need_lot : Cal l.prog w K mg base "need_lot" st_need_lot 4 ["lot"] sp_need_lot := T_need_lot.cal X G (fun _ _ _ _ _ _ us hl => match us, hl with | [_], _ => rfl) fun _ _ F => ok_need_lot F M C_is_lot_form
  have C_need_round : Cal l.prog w K mg base "need_round" st_need_round 5 ["lot", "text"] sp_need_round := T_need_round.cal X G (fun _ _ _ _ _ _ us hl => match us, hl with | [_, _], _ => rfl) fun _ _ F => ok_need_round F M C_need_lot C_need_some_text
  have MT_Round_turned : C8.Met l.prog w K mg base 1 C "turned" (sp_turned C) [] := TM_turned.met W.cl (fun _ _ _ _ _ _ us hl => match us, hl with | [_, _], _ => rfl) fun _ _ F => ok_Round_turned F M W
  have MT_Round_count_behind : C8.Met l.prog w K mg base 1 C "count_behind" (sp_behind C) [] := TM_count_behind.met W.cl (fun _ _ _ _ _ _ us hl => match us, hl with | [_, _, _, _, _], _ => rfl) fun _ _ F => ok_Round_count_behind F M W
  have MT_Round_counts_from : C8.Met l.prog w K mg base 2 C "counts_from" (sp_counts C) [] := TM_counts_from.met W.cl (fun _ _ _ _ _ _ us hl => match us, hl with | [_, _], _ => rfl) fun _ _ F => ok_Round_counts_from F M W MT_Round_turned MT_Round_count_behind
  have MT_Round_number : C8.Met l.prog w K mg base 3 C "number" (sp_number C) [] := TM_number.met W.cl (fun _ _ _ _ _ _ us hl => match us, hl with | [_], _ => rfl) fun _ _ F => ok_Round_number F M W MT_Round_counts_from
  have MT_Round_cut_from : C8.Met l.prog w K mg base 2 C "cut_from" (sp_cut_from C) [] := TM_cut_from.met W.cl (fun _ _ _ _ _ _ us hl => match us, hl with | [_, _, _, _], _ => rfl) fun _ _ F => ok_Round_cut_from F M W MT_Round_turned MT_Round_count_behind
  have MT_Round_cuts : C8.Met l.prog w K mg base 3 C "cuts" (sp_cuts C) [] := TM_cuts.met W.cl (fun _ _ _ _ _ _ us hl => match us, hl with | [_], _ => rfl) fun _ _ F => ok_Round_cuts F M W MT_Round_counts_from MT_Round_cut_from
  have MK_Round : Mak l.prog w K mg base 1 C "Round" (sp_Round C) := TM_init.mak X G aW w9 wA (fun _ _ _ _ _ _ us hl => match us, hl with | [_, _, _], _ => rfl) fun _ _ F => ok_Round_init F M W
  have C_count_round_cuts : Cal l.prog w K mg base "count_round_cuts" st_count_round_cuts 6 ["lot", "text"] sp_count := T_count_round_cuts.cal X G (fun _ _ _ _ _ _ us hl => match us, hl with | [_, _], _ => rfl) fun _ _ F => ok_count_round_cuts F M W C_need_round MK_Round MT_Round_number
  have S_round_cuts : CalS l.prog w K mg base "round_cuts" st_round_cuts 6 ["lot", "text"] (sp_round_cuts CE) := T_round_cuts.calS X G (fun _ _ _ _ _ _ us hl => match us, hl with | [_, _], _ => rfl) fun _ _ F => ok_round_cuts F M W E_TooMany C_need_round MK_Round MT_Round_number MT_Round_cuts
  have C_round_cuts : Cal l.prog w K mg base "round_cuts" st_round_cuts 6 ["lot", "text"] (calm (sp_round_cuts CE)) := S_round_cuts.calm
  have C__law_doors : Cal l.prog w K mg base "_law_doors" st__law_doors 1 ["lot", "room", "sign"] sp_doors := T__law_doors.cal X G (fun _ _ _ _ _ _ us hl => match us, hl with | [_, _, _], _ => rfl) fun _ _ F => ok__law_doors F M
  have C__law_rooms : Cal l.prog w K mg base "_law_rooms" st__law_rooms 1 ["lot"] sp_rooms := T__law_rooms.cal X G (fun _ _ _ _ _ _ us hl => match us, hl with | [_], _ => rfl) fun _ _ F => ok__law_rooms F M
  have C__law_number : Cal l.prog w K mg base "_law_number" st__law_number 2 ["lot", "text"] sp_number_of := T__law_number.cal X G (fun _ _ _ _ _ _ us hl => match us, hl with | [_, _], _ => rfl) fun _ _ F => ok__law_number F M C__law_rooms C__law_doors
  have C__law_fits : Cal l.prog w K mg base "_law_fits" st__law_fits 1 ["lot", "turned", "place"] sp_fits := T__law_fits.cal X G (fun _ _ _ _ _ _ us hl => match us, hl with | [_, _, _], _ => rfl) fun _ _ F => ok__law_fits F M
  have C__law_tried : Cal l.prog w K mg base "_law_tried" st__law_tried 2 ["lot", "text"] sp_tried := T__law_tried.cal X G (fun _ _ _ _ _ _ us hl => match us, hl with | [_, _], _ => rfl) fun _ _ F => ok__law_tried F M C__law_fits
  have C__law_is : Cal l.prog w K mg base "_law_is" st__law_is 1 ["actual", "due"] sp_law_is := T__law_is.cal X G (fun _ _ _ _ _ _ us hl => match us, hl with | [_, _], _ => rfl) fun _ _ F => ok__law_is F M
  have C__law_list : Cal l.prog w K mg base "_law_list" st__law_list 1 ["actual", "due"] (sp_list_same K) := T__law_list.cal X G (fun _ _ _ _ _ _ us hl => match us, hl with | [_, _], _ => rfl) fun _ _ F => ok__law_list F M
  have C__law_told : Cal l.prog w K mg base "_law_told" st__law_told 7 ["lot", "text"] sp_told := T__law_told.cal X G (fun _ _ _ _ _ _ us hl => match us, hl with | [_, _], _ => rfl) fun _ _ F => ok__law_told F M EO S_round_cuts
  have C__law_same : Cal l.prog w K mg base "_law_same" st__law_same 2 ["actual", "due"] sp_same := T__law_same.cal X G (fun _ _ _ _ _ _ us hl => match us, hl with | [_, _], _ => rfl) fun _ _ F => ok__law_same F M C__law_is C__law_list
  have C__law_ahead : Cal l.prog w K mg base "_law_ahead" st__law_ahead 1 ["lot", "text"] sp_ahead_ := T__law_ahead.cal X G (fun _ _ _ _ _ _ us hl => match us, hl with | [_, _], _ => rfl) fun _ _ F => ok__law_ahead F M
  have C__law_round_text : Cal l.prog w K mg base "_law_round_text" st__law_round_text 5 ["feed", "lot"] sp_round_text := T__law_round_text.cal X G (fun _ _ _ _ _ _ us hl => match us, hl with | [_, _], _ => rfl) fun _ _ F => ok__law_round_text F M C__law_draw C__law_one C__law_near_text
  have C__law_right : Cal l.prog w K mg base "_law_right" st__law_right 8 ["feed"] sp_law_right := T__law_right.cal X G (fun _ _ _ _ _ _ us hl => match us, hl with | [_], _ => rfl) fun _ _ F => ok__law_right F M C__law_draw C__law_one C__law_lot C__law_round_text C__law_is C__law_number C__law_ahead C__law_told C__law_tried C__law_same C_count_round_cuts C_round_cuts
  exact ok_law F M C__law_feed C__law_right
theorem walk {l : PySem.W.OpenLaw} {q : Program} {loose : List Str} {XP : (Str → Option Value) → Heap → Prop} {YP : World → Heap → Prop} {d : DefRec} {K : Params → PySem.W.Frag} (hn : l.most = some 63) (hdf : d.params.defaults = [])
    (hY : ∀ (w : World) (h : Heap), YP w h → (K w.params).In h)
    (F : ∀ (w : World) (mg : Str → Option Value) (fa : Addr) (h : Heap), (K w.params).In h → h.Ns mainGlobals mg → mg d.name = some (.ref fa) →
      ∃ fd : FuncData, (∀ (s : Shared) (u : Value), BindsTo s fd ⟨[u], []⟩ [("script", u)]) ∧ ∀ base : Heap, (K w.params).In base → base.Ns mainGlobals mg → FnOkG l.prog w (K w.params) mg base 9 fa fd ["script"] (sp_law (K w.params))) :
    PySem.W.WalkO q loose XP YP l.row.toRowW d [] (fun f vs => PySem.call f vs) :=
  Wg.walk_ofG (n := 63) (k := 9) (x := "script") (sp := fun w => sp_law (K w.params)) hn (by decide) hdf ⟨rfl, by decide, by decide⟩ hY F (fun _ _ a ns hl hb _ hS => ⟨a, ns, 1048576, rfl, hS, hl, by decide, by decide, fun z hz => PySem.intBits_le_iff.mp (hb z hz), fun _ => rfl⟩)
end K16
open PySem PySem.W PyProof.Rows
set_option maxRecDepth 100000 in
set_option maxHeartbeats 0 in
theorem PySem.Challenge.cw_wordscut_k16_whole_cuts_of_rounds_holds : PySem.Challenge.rw_wordscut_k16_whole_cuts_of_rounds.Holds := by
  w_on; o_law; k_head; (case hw => w_witness2)
  k_fill
  refine K16.walk (l := PySem.Challenge.rw_wordscut_k16_whole_cuts_of_rounds) rfl rfl (fun w h Y => PySem.W.kIn_of Y) ?F
  case F =>
    intro w mg fa h KX G hmg
    refine' K16.all_mk KX G hmg ?n_ValueError ?n_all ?n_bool ?n_enumerate ?n_int ?n_isinstance ?n_len ?n_list ?n_max ?n_min ?n_range ?n_reversed ?n_set ?n_sorted ?n_str ?n_sum ?n_tuple ?n_zip ?c_SIGNS ?c_MOST_SIGNS ?c_MOST_LETTERS ?c_MOST_WORDS ?c_MOST_TOLD ?aW ?aB ?w1 ?w2 ?w3 ?w4 ?w5 ?w6 ?w9 ?wA ?aE ?Ex1 ?Ex2 ?Ex3 ?Ex4 ?Ex5 ?Ey1 ?Ey2 ?Ey3 ?Ey4 ?Ey5 ?Ey6 ?Ey7 ?keb ?TM_init ?TM_turned ?TM_counts_from ?TM_count_behind ?TM_number ?TM_cut_from ?TM_cuts ?T__law_draw ?T__law_one ?T__law_text ?T__law_feed ?T__law_mixed ?T__law_kept ?T__law_split ?T__law_joined ?T__law_made ?T__law_code ?T__law_lot ?T__law_put ?T__law_near_text ?T_are_signs ?T_is_text ?T_need_some_text ?T_is_word ?T_is_ascending ?T_is_lot_form ?T_need_lot ?T_need_round ?T_count_round_cuts ?T_round_cuts ?T__law_doors ?T__law_rooms ?T__law_number ?T__law_fits ?T__law_tried ?T__law_is ?T__law_list ?T__law_told ?T__law_same ?T__law_ahead ?T__law_round_text ?T__law_right ?T_law
    (case n_ValueError => k_is)
    (case n_all => k_is)
    (case n_bool => k_is)
    (case n_enumerate => k_is)
    (case n_int => k_is)
    (case n_isinstance => k_is)
    (case n_len => k_is)
    (case n_list => k_is)
    (case n_max => k_is)
    (case n_min => k_is)
    (case n_range => k_is)
    (case n_reversed => k_is)
    (case n_set => k_is)
    (case n_sorted => k_is)
    (case n_str => k_is)
    (case n_sum => k_is)
    (case n_tuple => k_is)
    (case n_zip => k_is)
    (case c_SIGNS => k_is)
    (case c_MOST_SIGNS => k_is)
    (case c_MOST_LETTERS => k_is)
    (case c_MOST_WORDS => k_is)
    (case c_MOST_TOLD => k_is)
    (case aW => k_is)
    (case aB => k_is)
    (case w1 => k_is)
    (case w2 => k_is)
    (case w3 => k_is)
    (case w4 => k_is)
    (case w5 => k_is)
    (case w6 => k_is)
    (case w9 => k_is)
    (case wA => k_is)
    (case aE => k_is)
    (case Ex1 => k_exc)
    (case Ex2 => k_is)
    (case Ex3 => k_is)
    (case Ex4 => k_is)
    (case Ex5 => first | rfl | k_is)
    (case Ey1 => k_is)
    (case Ey2 => k_is)
    (case Ey3 => k_is)
    (case Ey4 => k_is)
    (case Ey5 => k_is)
    (case Ey6 => k_is)
    (case Ey7 => k_is)
    (case keb => kit_is)
    (case TM_init => refine' K16.topm_mk ?a ?i ?l ?c ?k; (case a => k_is); (case i => k_is); (case l => k_is); (case c => k_is); (case k => k_is))
    (case TM_turned => refine' K16.topm_mk ?a ?i ?l ?c ?k; (case a => k_is); (case i => k_is); (case l => k_is); (case c => k_is); (case k => k_is))
    (case TM_counts_from => refine' K16.topm_mk ?a ?i ?l ?c ?k; (case a => k_is); (case i => k_is); (case l => k_is); (case c => k_is); (case k => k_is))
    (case TM_count_behind => refine' K16.topm_mk ?a ?i ?l ?c ?k; (case a => k_is); (case i => k_is); (case l => k_is); (case c => k_is); (case k => k_is))
    (case TM_number => refine' K16.topm_mk ?a ?i ?l ?c ?k; (case a => k_is); (case i => k_is); (case l => k_is); (case c => k_is); (case k => k_is))
    (case TM_cut_from => refine' K16.topm_mk ?a ?i ?l ?c ?k; (case a => k_is); (case i => k_is); (case l => k_is); (case c => k_is); (case k => k_is))
    (case TM_cuts => refine' K16.topm_mk ?a ?i ?l ?c ?k; (case a => k_is); (case i => k_is); (case l => k_is); (case c => k_is); (case k => k_is))
    (case T__law_draw => refine' K16.top_mk ?a ?l ?c ?k; (case a => k_is); (case l => k_is); (case c => k_is); (case k => k_is))
    (case T__law_one => refine' K16.top_mk ?a ?l ?c ?k; (case a => k_is); (case l => k_is); (case c => k_is); (case k => k_is))
    (case T__law_text => refine' K16.top_mk ?a ?l ?c ?k; (case a => k_is); (case l => k_is); (case c => k_is); (case k => k_is))
    (case T__law_feed => refine' K16.top_mk ?a ?l ?c ?k; (case a => k_is); (case l => k_is); (case c => k_is); (case k => k_is))
    (case T__law_mixed => refine' K16.top_mk ?a ?l ?c ?k; (case a => k_is); (case l => k_is); (case c => k_is); (case k => k_is))
    (case T__law_kept => refine' K16.top_mk ?a ?l ?c ?k; (case a => k_is); (case l => k_is); (case c => k_is); (case k => k_is))
    (case T__law_split => refine' K16.top_mk ?a ?l ?c ?k; (case a => k_is); (case l => k_is); (case c => k_is); (case k => k_is))
    (case T__law_joined => refine' K16.top_mk ?a ?l ?c ?k; (case a => k_is); (case l => k_is); (case c => k_is); (case k => k_is))
    (case T__law_made => refine' K16.top_mk ?a ?l ?c ?k; (case a => k_is); (case l => k_is); (case c => k_is); (case k => k_is))
    (case T__law_code => refine' K16.top_mk ?a ?l ?c ?k; (case a => k_is); (case l => k_is); (case c => k_is); (case k => k_is))
    (case T__law_lot => refine' K16.top_mk ?a ?l ?c ?k; (case a => k_is); (case l => k_is); (case c => k_is); (case k => k_is))
    (case T__law_put => refine' K16.top_mk ?a ?l ?c ?k; (case a => k_is); (case l => k_is); (case c => k_is); (case k => k_is))
    (case T__law_near_text => refine' K16.top_mk ?a ?l ?c ?k; (case a => k_is); (case l => k_is); (case c => k_is); (case k => k_is))
    (case T_are_signs => refine' K16.top_mk ?a ?l ?c ?k; (case a => k_is); (case l => k_is); (case c => k_is); (case k => k_is))
    (case T_is_text => refine' K16.top_mk ?a ?l ?c ?k; (case a => k_is); (case l => k_is); (case c => k_is); (case k => k_is))
    (case T_need_some_text => refine' K16.top_mk ?a ?l ?c ?k; (case a => k_is); (case l => k_is); (case c => k_is); (case k => k_is))
    (case T_is_word => refine' K16.top_mk ?a ?l ?c ?k; (case a => k_is); (case l => k_is); (case c => k_is); (case k => k_is))
    (case T_is_ascending => refine' K16.top_mk ?a ?l ?c ?k; (case a => k_is); (case l => k_is); (case c => k_is); (case k => k_is))
    (case T_is_lot_form => refine' K16.top_mk ?a ?l ?c ?k; (case a => k_is); (case l => k_is); (case c => k_is); (case k => k_is))
    (case T_need_lot => refine' K16.top_mk ?a ?l ?c ?k; (case a => k_is); (case l => k_is); (case c => k_is); (case k => k_is))
    (case T_need_round => refine' K16.top_mk ?a ?l ?c ?k; (case a => k_is); (case l => k_is); (case c => k_is); (case k => k_is))
    (case T_count_round_cuts => refine' K16.top_mk ?a ?l ?c ?k; (case a => k_is); (case l => k_is); (case c => k_is); (case k => k_is))
    (case T_round_cuts => refine' K16.top_mk ?a ?l ?c ?k; (case a => k_is); (case l => k_is); (case c => k_is); (case k => k_is))
    (case T__law_doors => refine' K16.top_mk ?a ?l ?c ?k; (case a => k_is); (case l => k_is); (case c => k_is); (case k => k_is))
    (case T__law_rooms => refine' K16.top_mk ?a ?l ?c ?k; (case a => k_is); (case l => k_is); (case c => k_is); (case k => k_is))
    (case T__law_number => refine' K16.top_mk ?a ?l ?c ?k; (case a => k_is); (case l => k_is); (case c => k_is); (case k => k_is))
    (case T__law_fits => refine' K16.top_mk ?a ?l ?c ?k; (case a => k_is); (case l => k_is); (case c => k_is); (case k => k_is))
    (case T__law_tried => refine' K16.top_mk ?a ?l ?c ?k; (case a => k_is); (case l => k_is); (case c => k_is); (case k => k_is))
    (case T__law_is => refine' K16.top_mk ?a ?l ?c ?k; (case a => k_is); (case l => k_is); (case c => k_is); (case k => k_is))
    (case T__law_list => refine' K16.top_mk ?a ?l ?c ?k; (case a => k_is); (case l => k_is); (case c => k_is); (case k => k_is))
    (case T__law_told => refine' K16.top_mk ?a ?l ?c ?k; (case a => k_is); (case l => k_is); (case c => k_is); (case k => k_is))
    (case T__law_same => refine' K16.top_mk ?a ?l ?c ?k; (case a => k_is); (case l => k_is); (case c => k_is); (case k => k_is))
    (case T__law_ahead => refine' K16.top_mk ?a ?l ?c ?k; (case a => k_is); (case l => k_is); (case c => k_is); (case k => k_is))
    (case T__law_round_text => refine' K16.top_mk ?a ?l ?c ?k; (case a => k_is); (case l => k_is); (case c => k_is); (case k => k_is))
    (case T__law_right => refine' K16.top_mk ?a ?l ?c ?k; (case a => k_is); (case l => k_is); (case c => k_is); (case k => k_is))
    (case T_law => refine' K16.top_mk ?a ?l ?c ?k; (case a => k_is); (case l => k_is); (case c => k_is); (case k => k_is))
