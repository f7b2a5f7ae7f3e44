import PyProof.Rows.All
import Wide.All
import OpenK.AllK
import Wide.FinOn
import HandS.ForMost
import HandS.Walk
import HandS.IsInst
import HandS.Gcd
import HandS.Wide
import HandS.StrMore
import HandS.Codes
import HandS.EndBits
import HandS.TryOnly
import HandS.Style
import HandS.SortKw
import HandS.TupAny
import KE.SortKeyHeap
import KE.SortData
import HandS.Evl
import HandS.Set
import HandS.SetFor
import KE.GoesEnum
import HandS.Zip
import HandS.Strs
import HandS.TupLe
import PyProof.ReprRoads
import HandS.RevRange
import HandS.ForExc
import HandS.ExcIs
import HandS.Dict
import HandS.DictComp
import HandS.Conv
import HandS.More
import HandS.SortInts
import HandS.SetBool
import PyProof.TupleOfSeq
import HandS.Replace
import KE.IntBitsLaws
import KE.RegKIsAll
import PySem.Challenge.RW_wordscut_k21_whole_letters_replaced
set_option Elab.async false
set_option linter.all false
set_option maxRecDepth 100000
set_option maxHeartbeats 2000000
/-! rules over texts as lists of code points; called defs as bundles -/
namespace Wc
open PySem PySem.Spec PyProof.Rows L2

abbrev Tx := List Nat
/-- a text as a value -/
abbrev T (l : Tx) : V := .str (SX.S l)
theorem T_inj {a b : Tx} (h : T a = T b) : a = b := SX.S_inj (V.str.inj h)
theorem T_str (x : Str) : V.str x = T x.cps.toList := congrArg V.str (SX.S_tl x).symm
theorem dec_T (a b : Tx) : decide (T a = T b) = decide (a = b) := by
  by_cases h : a = b
  · subst h
    rw [decide_eq_true rfl, decide_eq_true rfl]
  · rw [decide_eq_false h, decide_eq_false fun e => h (T_inj e)]
theorem S_length (a : Tx) : (SX.S a).length = a.length := SX.S_len a

/-- text + text -/
def rAddT : R2 := fun x y H Q => ∃ a b : Tx, x = T a ∧ y = T b ∧ a.length + b.length ≤ 16777216 ∧ Q (T (a ++ b)) H
theorem op_addT {X : Cx} : OpR X (binaryOp .Add) rAddT := by
  intro pins s σ H x y v u Q I rx ry h
  obtain ⟨a, b, rfl, rfl, hl, q⟩ := h
  refine op_add_str pins s σ H _ _ v u Q I rx ry ⟨_, _, rfl, rfl, ?_, ?_⟩
  · rw [S_length, S_length]
    exact hl
  · rw [SX.S_cat]
    exact q
/-- text * int -/
def repT (n : Nat) (a : Tx) : Tx := (List.replicate n a).flatten
theorem repT_zero (a : Tx) : repT 0 a = [] := rfl
theorem repT_succ (n : Nat) (a : Tx) : repT (n + 1) a = a ++ repT n a := by
  unfold repT
  rw [List.replicate_succ, List.flatten_cons]
theorem repT_len (n : Nat) (a : Tx) : (repT n a).length = n * a.length := by
  induction n with
  | zero => simp [repT]
  | succ n ih => rw [repT_succ, List.length_append, ih, Nat.succ_mul]; omega
theorem fold_app : ∀ (l : List (Array Nat)) (acc : Array Nat), (l.foldl (· ++ ·) acc).toList = acc.toList ++ (l.map Array.toList).flatten
  | [], acc => by simp
  | x :: l, acc => by
    show (l.foldl (· ++ ·) (acc ++ x)).toList = _
    rw [fold_app l (acc ++ x)]
    simp
theorem mul_S (a : Tx) (n : Int) : Txt.mul (SX.S a) n = SX.S (repT n.toNat a) := by
  unfold Txt.mul
  by_cases h1 : n < 1
  · rw [if_pos h1]
    have e : n.toNat = 0 := by omega
    rw [e]
    rfl
  · rw [if_neg h1]
    by_cases h2 : (n == 1 || (SX.S a).length == 0) = true
    · rw [if_pos h2]
      rw [Bool.or_eq_true] at h2
      rcases h2 with h2 | h2
      · have e : n.toNat = 1 := by
          have := eq_of_beq h2
          omega
        rw [e]
        simp [repT]
      · have e := eq_of_beq h2
        rw [S_length] at e
        have e2 := List.length_eq_zero_iff.mp e
        subst e2
        have : repT n.toNat [] = [] := List.length_eq_zero_iff.mp (by rw [repT_len]; simp)
        rw [this]
    · rw [if_neg h2]
      refine TL.ext_tl ?_
      show (List.foldl (· ++ ·) #[] (List.replicate n.toNat a.toArray)).toList = repT n.toNat a
      rw [fold_app]
      simp [repT, List.map_replicate]
def rMulT : R2 := fun x y H Q => ∃ (a : Tx) (n : Int), x = T a ∧ y = .int n ∧ -1000000000 ≤ n ∧ n ≤ 1000000000 ∧ a.length * n.toNat ≤ 16777216 ∧ Q (T (repT n.toNat a)) H
theorem mulOk {a : Tx} {n : Int} (h0 : -1000000000 ≤ n) (h1 : n ≤ 1000000000) (h : a.length * n.toNat ≤ 16777216) : MulOk (SX.S a) n := by
  refine ⟨?_, fun hn _ => ?_, fun hn _ => ?_⟩
  · rw [Bool.or_eq_false_iff]
    exact ⟨decide_eq_false (by omega), decide_eq_false (by omega)⟩
  · rw [S_length]
    intro hgt
    have h2 : (a.length : Int) ≤ 16777216 := by
      have : a.length * 1 ≤ a.length * n.toNat := Nat.mul_le_mul_left _ (by omega)
      omega
    have h3 : (16777216 : Int) ≤ (2 ^ 63 - 1) / n := by
      rw [Int.le_ediv_iff_mul_le (by omega)]
      have : (16777216 : Int) * n ≤ 16777216 * 1000000000 := Int.mul_le_mul_of_nonneg_left h1 (by decide)
      omega
    omega
  · rw [S_length]
    unfold Builtin.Str.tooLong
    have : ¬ (a.length * n.toNat > 16777216) := by omega
    exact decide_eq_false (by first | exact this | (simp; omega))
theorem op_mulT {X : Cx} : OpR X (binaryOp .Mult) rMulT := by
  intro pins s σ H x y v u Q I rx ry h
  obtain ⟨a, n, rfl, rfl, h0, h1, hl, q⟩ := h
  obtain ⟨t, rfl⟩ := rx
  obtain ⟨t', rfl⟩ := ry
  refine SB.mul (mulOk h0 h1 hl) fun t2 k => ?_
  rw [mul_S]
  exact ⟨T (repT n.toNat a), H, I.tok _, ⟨_, rfl⟩, q⟩

/-! ### subscripts, slices, length, comparisons -/
def rIxT : R2 := fun x y H Q => ∃ (a : Tx) (i : Int) (c : Nat), x = T a ∧ y = .int i ∧ a.length ≤ 16777216 ∧ atI a i = some c ∧ Q (T [c]) H
theorem ix_T {X : Cx} : IxR X rIxT := by
  intro value slice pins s σ H x y v u Q I rx ry h hs
  obtain ⟨a, i, c, rfl, rfl, hl, ha, q⟩ := h
  exact ix_str value slice pins s σ H _ _ v u Q I rx ry ⟨_, i, c, rfl, rfl, by rw [S_length]; exact hl, ha, q⟩ hs
def cutT (a : Tx) (lo hi : Option Int) : Tx := (a.drop (HT.sIx a.length 0 lo)).take (HT.sIx a.length a.length hi - HT.sIx a.length 0 lo)
theorem cutS_T (a : Tx) (lo hi : Option Int) : cutS (SX.S a) lo hi = SX.S (cutT a lo hi) := by
  unfold cutS cutT
  rw [S_length]
def rSlT : V → Option Int → Option Int → Hp → VK → Prop := fun x lo hi H Q => ∃ a : Tx, x = T a ∧ a.length ≤ 16777216 ∧ Q (T (cutT a lo hi)) H
theorem sl_T {X : Cx} : SlR X rSlT := by
  intro pins s σ H x v vl vu lo hi sl Q I rx hs pl pu h
  obtain ⟨a, rfl, hl, q⟩ := h
  refine sl_str pins s σ H _ v vl vu lo hi sl Q I rx hs pl pu ⟨_, rfl, by rw [S_length]; exact hl, ?_⟩
  rw [cutS_T]
  exact q
theorem cutT_to (a : Tx) (n : Nat) : cutT a none (some (n : Int)) = a.take n := by
  unfold cutT
  rw [HT.sIx_none, HT.sIx_nat, List.drop_zero, Nat.sub_zero]
  by_cases h : n ≤ a.length
  · rw [Nat.min_eq_left h]
  · rw [Nat.min_eq_right (by omega), List.take_of_length_le (Nat.le_refl _), List.take_of_length_le (by omega)]
theorem cutT_from (a : Tx) (n : Nat) : cutT a (some (n : Int)) none = a.drop n := by
  unfold cutT
  rw [HT.sIx_none, HT.sIx_nat]
  by_cases h : n ≤ a.length
  · rw [Nat.min_eq_left h]
    exact List.take_of_length_le (by rw [List.length_drop]; exact Nat.le_refl _)
  · rw [Nat.min_eq_right (by omega), List.drop_eq_nil_of_le (Nat.le_refl _), List.drop_eq_nil_of_le (by omega), List.take_nil]
theorem cutT_mid (a : Tx) (m n : Nat) : cutT a (some (m : Int)) (some (n : Int)) = (a.drop m).take (n - m) := by
  unfold cutT
  rw [HT.sIx_nat, HT.sIx_nat]
  by_cases h : m ≤ a.length
  · rw [Nat.min_eq_left h]
    by_cases h2 : n ≤ a.length
    · rw [Nat.min_eq_left h2]
    · rw [Nat.min_eq_right (by omega), List.take_of_length_le (by rw [List.length_drop]; exact Nat.le_refl _), List.take_of_length_le (by rw [List.length_drop]; omega)]
  · rw [Nat.min_eq_right (show a.length ≤ m by omega), List.drop_eq_nil_of_le (Nat.le_refl _), List.drop_eq_nil_of_le (show a.length ≤ m by omega), List.take_nil, List.take_nil]
/-- without the last so many -/
theorem cutT_but (a : Tx) (k : Nat) : cutT a none (some (-((k : Int) + 1))) = a.take (a.length - (k + 1)) := by
  unfold cutT
  rw [HT.sIx_none, List.drop_zero, Nat.sub_zero]
  have e : HT.sIx a.length a.length (some (-((k : Int) + 1))) = a.length - (k + 1) := by
    show (if (-((k : Int) + 1)) < 0 then ((-((k : Int) + 1)) + (a.length : Int)).toNat else min (-((k : Int) + 1)).toNat a.length) = _
    rw [if_pos (by omega)]
    omega
  rw [e]
/-- the last so many -/
theorem cutT_last (a : Tx) (k : Nat) : cutT a (some (-((k : Int) + 1))) none = a.drop (a.length - (k + 1)) := by
  unfold cutT
  rw [HT.sIx_none]
  have e : HT.sIx a.length 0 (some (-((k : Int) + 1))) = a.length - (k + 1) := by
    show (if (-((k : Int) + 1)) < 0 then ((-((k : Int) + 1)) + (a.length : Int)).toNat else min (-((k : Int) + 1)).toNat a.length) = _
    rw [if_pos (by omega)]
    omega
  rw [e]
  exact List.take_of_length_le (by rw [List.length_drop]; exact Nat.le_refl _)
theorem cutT_len (a : Tx) (lo hi : Option Int) : (cutT a lo hi).length ≤ a.length := by
  unfold cutT
  rw [List.length_take, List.length_drop]
  omega
theorem cutT_mem {a : Tx} {lo hi : Option Int} {c : Nat} (h : c ∈ cutT a lo hi) : c ∈ a := List.mem_of_mem_drop (List.mem_of_mem_take h)
def rLenT : List V → Hp → VK → Prop := fun vs H Q => ∃ a : Tx, vs = [T a] ∧ a.length ≤ 16777216 ∧ Q (.int (a.length : Int)) H
theorem cr_lenT {X : Cx} : CallR X (.builtin "len") rLenT := by
  intro pins s σ H vs us Q I r h
  obtain ⟨a, rfl, hl, q⟩ := h
  refine call_len_str pins s σ H _ us Q I r ⟨_, rfl, by rw [S_length]; exact hl, ?_⟩
  rw [S_length]
  exact q
def rEqT : R2 := fun x y H Q => ∃ a b : Tx, x = T a ∧ y = T b ∧ Q (.bl (decide (a = b))) H
theorem op_eqT {X : Cx} : OpR X (compareOp .Eq) rEqT := by
  intro pins s σ H x y v u Q I rx ry h
  obtain ⟨a, b, rfl, rfl, q⟩ := h
  refine op_eq pins s σ H _ _ v u Q I rx ry ⟨rfl, ?_⟩
  rw [dec_T]
  exact q
def rNeT : R2 := fun x y H Q => ∃ a b : Tx, x = T a ∧ y = T b ∧ Q (.bl (!decide (a = b))) H
theorem op_neT {X : Cx} : OpR X (compareOp .NotEq) rNeT := by
  intro pins s σ H x y v u Q I rx ry h
  obtain ⟨a, b, rfl, rfl, q⟩ := h
  refine op_ne pins s σ H _ _ v u Q I rx ry ⟨rfl, ?_⟩
  rw [dec_T]
  exact q
theorem dec_int (i j : Int) : decide (V.int i = V.int j) = decide (i = j) := by
  by_cases h : i = j
  · subst h
    rw [decide_eq_true rfl, decide_eq_true rfl]
  · rw [decide_eq_false h, decide_eq_false fun e => h (V.int.inj e)]
theorem dec_bl (i j : Bool) : decide (V.bl i = V.bl j) = decide (i = j) := by
  cases i <;> cases j <;> decide
theorem op_eqI {X : Cx} : OpR X (compareOp .Eq) (rI0 fun i j => .bl (decide (i = j))) := by
  intro pins s σ H x y v u Q I rx ry h
  obtain ⟨i, j, rfl, rfl, q⟩ := h
  refine op_eq pins s σ H _ _ v u Q I rx ry ⟨rfl, ?_⟩
  rw [dec_int]
  exact q
theorem op_neI {X : Cx} : OpR X (compareOp .NotEq) (rI0 fun i j => .bl (!decide (i = j))) := by
  intro pins s σ H x y v u Q I rx ry h
  obtain ⟨i, j, rfl, rfl, q⟩ := h
  refine op_ne pins s σ H _ _ v u Q I rx ry ⟨rfl, ?_⟩
  rw [dec_int]
  exact q
def rB0 (g : Bool → Bool → Bool) : R2 := fun x y H Q => ∃ i j, x = .bl i ∧ y = .bl j ∧ Q (.bl (g i j)) H
theorem op_eqB {X : Cx} : OpR X (compareOp .Eq) (rB0 fun i j => decide (i = j)) := by
  intro pins s σ H x y v u Q I rx ry h
  obtain ⟨i, j, rfl, rfl, q⟩ := h
  refine op_eq pins s σ H _ _ v u Q I rx ry ⟨rfl, ?_⟩
  rw [dec_bl]
  exact q
def rInT : R2 := fun x y H Q => ∃ (c : Nat) (z : Tx), x = T [c] ∧ y = T z ∧ Q (.bl (decide (c ∈ z))) H
theorem op_inT {X : Cx} : OpR X (compareOp .In) rInT := by
  intro pins s σ H x y v u Q I rx ry h
  obtain ⟨c, z, rfl, rfl, q⟩ := h
  exact op_in_sign pins s σ H _ _ v u Q I rx ry ⟨c, SX.S z, rfl, rfl, q⟩
def rLtT : R2 := fun x y H Q => ∃ a b : Tx, x = T a ∧ y = T b ∧ Q (.bl (decide (a < b))) H
theorem op_ltT' {X : Cx} : OpR X (compareOp .Lt) rLtT := by
  intro pins s σ H x y v u Q I rx ry h
  obtain ⟨a, b, rfl, rfl, q⟩ := h
  exact op_lt_str pins s σ H _ _ v u Q I rx ry ⟨_, _, rfl, rfl, q⟩
/-! ### % and // by a positive number -/
theorem op_modP {X : Cx} : OpR X (binaryOp .Mod) (rI (fun _ j => 0 < j) fun i j => .int (i % j)) := op_mod
/-- * of any two whose bits together are below the line -/
def CMulB (i j : Int) : Prop := i.natAbs.log2 + j.natAbs.log2 < 100000000
theorem CMulB.ok {i j : Int} (h : CMulB i j) : IntMulOk i j := by
  have b : ∀ x : Int, Builtin.Int.intBits x ≤ x.natAbs.log2 + 1 := fun x => by
    unfold Builtin.Int.intBits
    split <;> omega
  have h1 := b i
  have h2 := b j
  have h3 : i.natAbs.log2 + j.natAbs.log2 < 100000000 := h
  have e : bitsLine = 134217728 := by decide
  unfold IntMulOk
  intro z
  rw [Bool.and_eq_true] at z
  have z2 := z.2
  unfold Builtin.Int.intTooBig at z2
  have z3 := of_decide_eq_true z2
  rw [e] at z3
  omega
theorem op_mulB {X : Cx} : OpR X (binaryOp .Mult) (rI CMulB fun i j => .int (i * j)) := opI fun _ _ _ _ _ _ _ hc q => mul_int q hc.ok
theorem mulB {i j : Int} {a b : Nat} (ha : i.natAbs < 2 ^ a) (hb : j.natAbs < 2 ^ b) (h0 : 0 < a) (h1 : 0 < b) (h : a + b ≤ 100000000) : CMulB i j := by
  have x := PySem.Flt.log2_lt_of h0 ha
  have y := PySem.Flt.log2_lt_of h1 hb
  unfold CMulB
  omega
/-! ### str.join, find, startswith -/
def rJoinT (K : PySem.W.Frag) : V → List V → Hp → VK → Prop := fun x xs H Q => ∃ (a : Tx) (p : Addr) (ys : List Tx), x = T a ∧ xs = [.ref p] ∧ (SqL K H p (ys.map T) ∨ SqT K H p (ys.map T)) ∧ (ys.map List.length).sum + ys.length * a.length ≤ 16777216 ∧ Q (T (TL.joinL a ys)) H
theorem mt_joinT {X : Cx} : MtR X "str.join" (rJoinT X.K) := by
  intro pins s σ H x xs v us Q I rx r h
  obtain ⟨a, p, ys, rfl, rfl, hs, hl, q⟩ := h
  have em : ys.map T = (ys.map SX.S).map V.str := by rw [List.map_map]; rfl
  rw [em] at hs
  refine mt_join pins s σ H _ _ v us Q I rx r ⟨_, p, ys.map SX.S, rfl, rfl, hs, ?_, ?_⟩
  · rw [SX.lens, List.length_map, S_length]
    exact hl
  · rw [SX.join_S]
    exact q
theorem joinL_nil : ∀ ys : List Tx, TL.joinL [] ys = ys.flatten
  | [] => rfl
  | [p] => by simp [TL.joinL]
  | p :: q :: r => by
    show p ++ ([] ++ TL.joinL [] (q :: r)) = _
    rw [joinL_nil (q :: r)]
    rfl
/-- b stands in a at i -/
abbrev StAt (a b : Tx) (i : Nat) : Prop := (a.drop i).take b.length = b
theorem subAt_T (a b : Tx) (i : Nat) : Builtin.Str.subAt (SX.S a) (SX.S b) i = decide (StAt a b i) := by
  rw [StrLaws.subAt_eq, S_length]
  show ((a.drop i).take b.length == b) = decide _
  by_cases h : StAt a b i
  · rw [decide_eq_true h]
    exact beq_iff_eq.mpr h
  · rw [decide_eq_false h]
    exact beq_eq_false_iff_ne.mpr h
/-- where b stands first in a, from i on -/
inductive FindT (a b : Tx) (i : Nat) : Int → Prop where
  | at_ (k : Nat) : i ≤ k → k + b.length ≤ a.length → StAt a b k → (∀ j, i ≤ j → j < k → ¬ StAt a b j) → FindT a b i (k : Int)
  | no : (∀ j, i ≤ j → j + b.length ≤ a.length → ¬ StAt a b j) → FindT a b i (-1)
theorem fromIndex_nat (n i : Nat) : fromIndex n (i : Int) = i := by
  unfold fromIndex
  rw [if_neg (by omega)]
  omega
theorem range'_pre {s n : Nat} {pre post : List Nat} {a : Nat} (h : List.range' s n = pre ++ a :: post) : s ≤ a ∧ ∀ k, s ≤ k → k < a → k ∈ pre := by
  have hl : n = pre.length + (post.length + 1) := by
    have e := congrArg List.length h
    simpa using e
  have ha : s + pre.length = a := by
    have h1 : (List.range' s n)[pre.length]? = some a := by rw [h]; simp
    rw [List.getElem?_range' (by omega)] at h1
    have := Option.some.inj h1
    omega
  refine ⟨by omega, fun k h1 h2 => ?_⟩
  have h3 : (List.range' s n)[k - s]? = some k := by
    rw [List.getElem?_range' (by omega)]
    congr 1
    omega
  rw [h, List.getElem?_append_left (by omega)] at h3
  exact List.mem_of_getElem? h3
theorem find3_spec (a b : Tx) (i : Nat) : FindT a b i (Txt.find3 (SX.S a) (SX.S b) (i : Int)) := by
  have hAt : ∀ j, StrLaws.At (SX.S a) (SX.S b) a.length j ↔ (j + b.length ≤ a.length ∧ StAt a b j) := fun j => by
    unfold StrLaws.At
    rw [subAt_T, S_length, decide_eq_true_eq]
  unfold Txt.find3
  rw [S_length, fromIndex_nat, StrLaws.occ_eq]
  rcases StrLaws.occ_first (SX.S a) (SX.S b) a.length 1 (Nat.le_refl _) (List.range' i (a.length + 1 - i)) i (fun k hk => (List.mem_range'_1.mp hk).1) with ⟨h0, hn⟩ | ⟨pre, k, post, e, h0, hk, hn⟩
  · rw [h0]
    refine .no fun j h1 h2 h3 => hn j ?_ ((hAt j).mpr ⟨h2, h3⟩)
    exact List.mem_range'_1.mpr ⟨h1, by omega⟩
  · have hp := range'_pre e
    have hk' := (hAt k).mp hk
    generalize hL : (forIn (List.range' i (a.length + 1 - i)) ((#[] : Array Nat), i) (StrLaws.occBody (SX.S a) (SX.S b) a.length 1)).run.fst = L at h0 ⊢
    have e2 : ∃ r, L.toList = k :: r := by
      have h1 : L.toList[0]? = some k := by rw [Array.getElem?_toList]; exact h0
      cases hh : L.toList with
      | nil => rw [hh] at h1; simp at h1
      | cons y r => rw [hh] at h1; exact ⟨r, by rw [show y = k from Option.some.inj h1]⟩
    obtain ⟨r, e2⟩ := e2
    rw [e2]
    exact .at_ k hp.1 hk'.1 hk'.2 fun j h1 h2 h3 => hn j (hp.2 j h1 h2) ((hAt j).mpr ⟨by omega, h3⟩)
def rFind3T : V → List V → Hp → VK → Prop := fun x xs H Q => ∃ (a b : Tx) (i : Nat), x = T a ∧ xs = [T b, .int (i : Int)] ∧ ∀ r, FindT a b i r → Q (.int r) H
theorem mt_find3T {X : Cx} : MtR X "str.find" rFind3T := by
  intro pins s σ H x xs v us Q I rx r h
  obtain ⟨a, b, i, rfl, rfl, q⟩ := h
  exact mt_find3 pins s σ H _ _ v us Q I rx r ⟨_, _, _, rfl, rfl, q _ (find3_spec a b i)⟩
def rFindT : V → List V → Hp → VK → Prop := fun x xs H Q => ∃ (a b : Tx), x = T a ∧ xs = [T b] ∧ ∀ r, FindT a b 0 r → Q (.int r) H
theorem find_spec (a b : Tx) : FindT a b 0 (Txt.find (SX.S a) (SX.S b)) := by
  have h := find3_spec a b 0
  unfold Txt.find3 at h
  rw [S_length, fromIndex_nat] at h
  unfold Txt.find
  rw [S_length]
  exact h
theorem mt_findT {X : Cx} : MtR X "str.find" rFindT := by
  intro pins s σ H x xs v us Q I rx r h
  obtain ⟨a, b, rfl, rfl, q⟩ := h
  exact mt_find pins s σ H _ _ v us Q I rx r ⟨_, _, rfl, rfl, q _ (find_spec a b)⟩
def rStart3T : V → List V → Hp → VK → Prop := fun x xs H Q => ∃ (a b : Tx) (i : Nat), x = T a ∧ xs = [T b, .int (i : Int)] ∧ Q (.bl (decide (i + b.length ≤ a.length ∧ StAt a b i))) H
theorem mt_start3T {X : Cx} : MtR X "str.startswith" rStart3T := by
  intro pins s σ H x xs v us Q I rx r h
  obtain ⟨a, b, i, rfl, rfl, q⟩ := h
  refine mt_startswith3 pins s σ H _ _ v us Q I rx r ⟨_, _, _, rfl, rfl, ?_⟩
  unfold Txt.startswith3
  rw [S_length, S_length, fromIndex_nat, subAt_T, ← Bool.decide_and]
  exact q
end Wc
set_option Elab.async false
set_option linter.all false
set_option maxRecDepth 100000
set_option maxHeartbeats 2000000
namespace Wc
open PySem PySem.Spec PyProof.Rows L2
/-! ### constants -/
theorem pe_sT {X : Cx} (l : Tx) {x : Str} {j pos} (e : x = SX.S l := by decide +kernel) : PE X (.Constant (.str x) j pos) (tC (T l)) := by
  rw [e]
  exact pe_str
theorem pe_gT {X : Cx} {x : Str} {z : Str} {pos : Pos} (h : ∃ t, X.mg x = some (.str z t)) (l : Tx) (hg : Gl X x := by rfl) (e : z = SX.S l := by decide +kernel) (hd : (x == ("__debug__" : Str)) = false := by decide) : PE X (.Name x pos) (tC (T l)) := by
  obtain ⟨t, h⟩ := h
  subst e
  exact pe_glob hg h ⟨t, rfl⟩ hd
theorem pe_gI {X : Cx} {x : Str} {i : Int} {pos : Pos} (h : ∃ t, X.mg x = some (.int i t)) (hg : Gl X x := by rfl) (hd : (x == ("__debug__" : Str)) = false := by decide) : PE X (.Name x pos) (tC (.int i)) := by
  obtain ⟨t, h⟩ := h
  exact pe_glob hg h ⟨t, rfl⟩ hd
/-! ### a def that is called -/
structure Cal (P : Program) (w : World) (K : PySem.W.Frag) (mg : Str → Option Value) (base : Heap) (x : Str) (st : Stmt) (k : Nat) (ps : List Str) (sp : Sp) : Prop where
  ex : ∃ f fd, FnOk P w K mg base CX0 k f fd ps sp ∧ mg x = some (.ref f) ∧ Fun K x x st f fd ∧ Binds K fd ps []
section
variable {X : Cx} {x : Str} {st : Stmt} {k n : Nat} {ps ks : List Str} {sp : Sp} {p pos : Pos} {e : Expr} {es : List Expr} {kws : List Keyword} {t tk : TA}
theorem pe_cl (C : Cal X.prog X.w X.K X.mg X.base x st k ps sp) (hr : Room n X.A) (ha : PA X (e :: es) t) (hkn : k ≤ n := by decide) (hg : Gl X x := by rfl) (hdb : (x == ("__debug__" : Str)) = false := by decide)
    (he : starEach (e :: es) X.env = (false, eval e X.env) :: starEach es X.env := by rfl) (hpl : (backTo pos (starEach es X.env)).any (·.1) = false := by rfl) : PE X (.Call (.Name x p) (e :: es) [] pos) (tCall sp [] E0 t) := by
  obtain ⟨f, fd, F, hm, hF, hb⟩ := C.ex
  exact pe_call F (hr.mono hkn) hg hm hF.kp hb .nil pass0 ha hdb he hpl
theorem pe_cl0 (C : Cal X.prog X.w X.K X.mg X.base x st k ps sp) (hr : Room n X.A) (hkn : k ≤ n := by decide) (hg : Gl X x := by rfl) (hdb : (x == ("__debug__" : Str)) = false := by decide) : PE X (.Call (.Name x p) [] [] pos) (tCall sp [] E0 tNil) := by
  obtain ⟨f, fd, F, hm, hF, hb⟩ := C.ex
  exact pe_call0 F (hr.mono hkn) hg hm hF.kp hb .nil pass0 hdb
/-- the values of the parameters out of the named ones -/
def KB (x : Str) (st : Stmt) (n : Nat) (ps ks : List Str) (g : List Value → List Value → List Value) (gV : List V → List V → List V) : Prop :=
  ∀ (K : PySem.W.Frag) (f : Addr) (fd : FuncData), Fun K x x st f fd → KBinds K fd ps ks g gV
def tCallK0 (sp : Sp) (gV : List V → List V → List V) (tk : TA) : TE := fun σ H Q => tk σ H fun zs H2 => sp (gV [] zs) H2 Q E0
theorem pe_clK0 {g : List Value → List Value → List Value} {gV : List V → List V → List V} (C : Cal X.prog X.w X.K X.mg X.base x st k ps sp) (kb : KB x st 0 ps ks g gV) (hr : Room n X.A) (hkw : PK X kws tk) (hkn : k ≤ n := by decide) (hg : Gl X x := by rfl) (hdb : (x == ("__debug__" : Str)) = false := by decide)
    (hall : (backToKw pos (keywordEach kws X.env)).all (·.1.isSome) = true := by rfl) (hks : (backToKw pos (keywordEach kws X.env)).filterMap (·.1) = ks := by rfl)
    (hpl : ((backTo pos (starEach [] X.env)).any (·.1) || (backToKw pos (keywordEach kws X.env)).any (·.1.isNone)) = false := by rfl) : PE X (.Call (.Name x p) [] kws pos) (tCallK0 sp gV tk) := by
  obtain ⟨f, fd, F, hm, hF, hb⟩ := C.ex
  refine ⟨fun pins s σ H Q I h => ?_⟩
  refine wpAny_Call_Name_kw (ld_glob I hg hm ?_ hdb)
  refine PySem.W.callWith_KW0 (h₀ := X.base) I.ok.mod.kin hF.kp hall (thn (hkw.run pos pins s σ H _ I h) fun ws s2 ⟨zs, H2, I2, rz, q2⟩ => ⟨I2.kIn, ?_⟩) hpl
  rw [hks]
  exact run_fnk (us := []) (vs := []) F (hr.mono hkn) (kb _ _ _ hF) pass0 I2 .nil rz q2
theorem pe_clK {g : List Value → List Value → List Value} {gV : List V → List V → List V} (C : Cal X.prog X.w X.K X.mg X.base x st k ps sp) (kb : KB x st 0 ps ks g gV) (hr : Room n X.A) (ha : PA X (e :: es) t) (hkw : PK X kws tk) (hkn : k ≤ n := by decide) (hg : Gl X x := by rfl)
    (hall : (backToKw pos (keywordEach kws X.env)).all (·.1.isSome) = true := by rfl) (hks : (backToKw pos (keywordEach kws X.env)).filterMap (·.1) = ks := by rfl)
    (hdb : (x == ("__debug__" : Str)) = false := by decide) (he : starEach (e :: es) X.env = (false, eval e X.env) :: starEach es X.env := by rfl)
    (hpl : ((backTo pos (starEach (e :: es) X.env)).any (·.1) || (backToKw pos (keywordEach kws X.env)).any (·.1.isNone)) = false := by rfl) : PE X (.Call (.Name x p) (e :: es) kws pos) (tCallK sp gV E0 t tk) := by
  obtain ⟨f, fd, F, hm, hF, hb⟩ := C.ex
  exact pe_callK F (hr.mono hkn) hg hm hF.kp (kb _ _ _ hF) pass0 ha hkw hall hks hdb he hpl
end
/-- two named values, in their sequence, or turned -/
def sw2 {α : Type} (turn : Bool) : List α → List α → List α
  | [], [a, b] => if turn then [b, a] else [a, b]
  | _, _ => []
theorem sw2_rel {turn : Bool} {vs zs : List V} {us ws : List Value} (r : Vals vs us) (rz : Vals zs ws) : Vals (sw2 turn vs zs) (sw2 turn us ws) := by
  cases r with
  | cons => exact .nil
  | nil =>
    cases rz with
    | nil => exact .nil
    | cons h1 r1 =>
      cases r1 with
      | nil => exact .nil
      | cons h2 r2 =>
        cases r2 with
        | cons => exact .nil
        | nil => cases turn with
          | true => exact .cons h2 (.cons h1 .nil)
          | false => exact .cons h1 (.cons h2 .nil)
theorem kb2 {x : Str} {st : Stmt} {ps ks : List Str} (turn : Bool) (hp : ps.length = 2)
    (h : ∀ (kV doc pm : Value) (an : Option Addr) (cdv ct a b : Value), bindArgs (PySem.W.fnOf x x (defArgs st) (defBody st) (defScope st) .none kV doc pm an cdv ct) ⟨[], ks.zip [a, b]⟩ = pure (ps.zip (sw2 turn [] [a, b]))) : KB x st 0 ps ks (sw2 turn) (sw2 turn) := by
  intro K f fd F
  obtain ⟨oc, od, kV, doc, pm, an, cdv, ct, osl, rfl, lk, hcd⟩ := F.ex
  refine ⟨fun s us ws _ hl => ?_, fun r rz => sw2_rel r rz⟩
  rw [hp] at hl
  match us, ws, hl with
  | [], [a, b], _ => exact .of_eq (h kV doc pm an cdv ct a b)
  | [], [], hl => exact absurd hl (by simp [sw2])
  | [], [_], hl => exact absurd hl (by simp [sw2])
  | [], _ :: _ :: _ :: _, hl => exact absurd hl (by simp [sw2])
  | _ :: _, ws, hl => exact absurd hl (by simp [sw2])

/-! ### isinstance with a built-in class -/
def rIsiB (K : PySem.W.Frag) : List V → Hp → VK → Prop := fun vs H Q => ∃ (x : V) (n t : String) (b : Bool), vs = [x, .ty n] ∧ TyX K H x (.type t) ∧ kitB t n = some b ∧ Q (.bl b) H
theorem cr_isi {X : Cx} : CallR X (.builtin "isinstance") (rIsiB X.K) := by
  intro pins s σ H vs us Q I r h
  obtain ⟨x, n, t, b, rfl, ty, hk, q⟩ := h
  exact call_isi pins s σ H _ us Q I r ⟨x, .ty n, .type t, .type n, b, rfl, .ty n, ty, kit_ty hk, q⟩
theorem k_str_str : kitB "str" "str" = some true := by decide +kernel
theorem k_bool_bool : kitB "bool" "bool" = some true := by decide +kernel
theorem k_int_int : kitB "int" "int" = some true := by decide +kernel
theorem k_int_bool : kitB "int" "bool" = some false := by decide +kernel
theorem k_bool_int : kitB "bool" "int" = some true := by decide +kernel
theorem k_list_list : kitB "list" "list" = some true := by decide +kernel
theorem k_tuple_tuple : kitB "tuple" "tuple" = some true := by decide +kernel
theorem k_str_bool : kitB "str" "bool" = some false := by decide +kernel

/-! ### sorted(xs, key=len) of texts -/
noncomputable def sortLen (xs : List Tx) : List Tx := xs.mergeSort (PySem.W.dataLe false fun a => PyData.int (a.length : Int))
def rSortLen (K : PySem.W.Frag) : List V → Hp → VK → Prop := fun vs H Q => ∃ (p : Addr) (xs : List Tx), vs = [.ref p] ∧ SqL K H p (xs.map T) ∧ (∀ a ∈ xs, a.length ≤ 16777216) ∧ ∀ q, H q = none → Q (.ref q) (upd H q (.lst ((sortLen xs).map T)))
def tSortLen (K : PySem.W.Frag) (t : TA) : TE := fun σ H Q => t σ H fun vs H1 => rSortLen K vs H1 Q
abbrev IsT (v : Value) (a : Tx) : Prop := ∃ t, v = .str (SX.S a) t
theorem each_of_vals : ∀ {xs : List Tx} {us : List Value}, Vals (xs.map T) us → PySem.W.EachIs IsT us xs
  | [], [], _ => .nil
  | a :: xs, u :: us, .cons h r => .cons h (each_of_vals r)
theorem vals_of_each : ∀ {xs : List Tx} {us : List Value}, PySem.W.EachIs IsT us xs → Vals (xs.map T) us
  | [], [], _ => .nil
  | a :: xs, u :: us, .cons h r => .cons h (vals_of_each r)
theorem pe_sortLen {X : Cx} {p p2 kp pos : Pos} {e : Expr} {t : TA} (hu : X.A.units + 64 < cLine) (hm : X.mg "sorted" = none) (hm2 : X.mg "len" = none) (ha : PA X [e] t) (hg : Gl X "sorted" := by rfl) (hg2 : Gl X "len" := by rfl)
    (he : backTo pos (starEach [e] X.env) = (false, eval e X.env) :: backTo pos (starEach [] X.env) := by rfl) (hpl : (backTo pos (starEach [e] X.env)).any (·.1) = false := by rfl) :
    PE X (.Call (.Name "sorted" p) [e] [⟨some "key", .Name "len" p2, kp⟩] pos) (tSortLen X.K t) := by
  refine ⟨fun pins s σ H Q I h => ?_⟩
  refine wpAny_Call_Name_kw (ld_blt I hg hm boot_sorted ?_)
  refine PyProof.Rows.callWith_kw (thn (ha.run pos pins s σ H _ I h) fun us s1 ⟨vs, H1, I1, r1, q1⟩ => ?_) he hpl
  show wpAny _ _ (evalAll ((do let v ← eval (.Name "len" p2) X.env; standAt pos; pure v) :: [])) _ _ s1
  refine wpAny_evalAll_cons (wpAny_bind (ld_blt I1 hg2 hm2 PySem.boot_len (wpAny_bind (wpAny_standAt (wpAny_pure ?_)))))
  refine wpAny_evalAll_nil ?_
  obtain ⟨q, xs, rfl, hs, hb, k⟩ := q1
  obtain rfl := Vals.ref1 r1
  obtain ⟨its, rv, hl, hz⟩ := I1.list hs
  show wpAny _ _ (call (.builtin "sorted") [.ref q] [(Str.ofString "key", .builtin "len")]) _ _ s1
  rw [List.length_map] at hz
  refine PySem.W.sorted_key_data (R := IsT) (bs := xs) (b := false) (fun a => PyData.int (a.length : Int)) hl.isList (each_of_vals rv) ?_ ?_ hz ?_ (PyProof.Rows.ksk_s1 _ _) (fun _ => PyProof.Rows.ksk_l1 _ _) (fun x => PyProof.Rows.ksk_t4 "len" x) ?_ ?_
  · intro d hd d' hd'
    obtain ⟨a, _, rfl⟩ := List.mem_map.mp hd
    obtain ⟨b, _, rfl⟩ := List.mem_map.mp hd'
    rfl
  · refine .inr fun d hd => ?_
    obtain ⟨a, _, rfl⟩ := List.mem_map.mp hd
    exact ⟨fun z => (nomatch z), fun _ z => (nomatch z)⟩
  · intro a _
    show X.A.units + 2 + _ < cLine
    have : (PyData.int (a.length : Int)).depth ≤ 1 := by simp [PyData.depth]
    omega
  · rintro v a ⟨t, rfl⟩ hm h tk hk
    have hla := hb a hm
    refine PyProof.Rows.len_str ?_ ?_
    · rw [S_length]
      omega
    · rw [S_length]
      exact ⟨h, _, rfl, fun _ _ z => z, .int _ _⟩
  · intro out c h' tk hk hn ho hlen eo
    have fr : H1 (s1.heap.objs.size + 1) = none := I1.hok.fresh (Nat.le_succ _)
    refine ⟨.ref _, upd H1 (s1.heap.objs.size + 1) (.lst ((sortLen xs).map T)), I1.laid (t' := tk) hk (Nat.le_succ _) ⟨?_, out, c, vals_of_each eo, ho⟩, rfl, k _ fr⟩
    rw [List.length_map]
    unfold sortLen
    rw [List.length_mergeSort]
    exact hz
theorem sortLen_pair (a b : Tx) : sortLen [a, b] = if b.length < a.length then [b, a] else [a, b] := by
  have e := PySem.W.dataLe_int (fun a : Tx => (a.length : Int))
  unfold sortLen
  rw [e]
  by_cases h : b.length < a.length
  · rw [if_pos h]
    simp [List.mergeSort, List.MergeSort.Internal.splitInTwo, List.merge, show ¬ a.length ≤ b.length by omega]
  · rw [if_neg h]
    simp [List.mergeSort, List.MergeSort.Internal.splitInTwo, List.merge, show a.length ≤ b.length by omega]
end Wc
set_option Elab.async false
set_option linter.all false
set_option maxRecDepth 100000
set_option maxHeartbeats 2000000
/-! what the new readings evaluate to (over HandS.Evl) -/
namespace Wc
open PySem PySem.Spec PyProof.Rows L2 Evl
section
variable {K : PySem.W.Frag} {σ : L2.St} {H H' : Hp} {ta tb te : TE} {t : TT} {x y z v : V}
theorem rv_addT {a b : Tx} (h : a.length + b.length ≤ 16777216) : RV rAddT (T a) (T b) H (T (a ++ b)) := fun H1 _ _ q => ⟨a, b, rfl, rfl, h, q H1 (Ex.refl H1)⟩
theorem rv_mulT {a : Tx} {n : Int} (h0 : -1000000000 ≤ n) (h1 : n ≤ 1000000000) (h : a.length * n.toNat ≤ 16777216) : RV rMulT (T a) (.int n) H (T (repT n.toNat a)) := fun H1 _ _ q => ⟨a, n, rfl, rfl, h0, h1, h, q H1 (Ex.refl H1)⟩
theorem rv_eqT {a b : Tx} : RV rEqT (T a) (T b) H (.bl (decide (a = b))) := fun H1 _ _ q => ⟨a, b, rfl, rfl, q H1 (Ex.refl H1)⟩
theorem rv_neT {a b : Tx} : RV rNeT (T a) (T b) H (.bl (!decide (a = b))) := fun H1 _ _ q => ⟨a, b, rfl, rfl, q H1 (Ex.refl H1)⟩
theorem rv_ltT {a b : Tx} : RV rLtT (T a) (T b) H (.bl (decide (a < b))) := fun H1 _ _ q => ⟨a, b, rfl, rfl, q H1 (Ex.refl H1)⟩
theorem rv_inT {c : Nat} {b : Tx} : RV rInT (T [c]) (T b) H (.bl (decide (c ∈ b))) := fun H1 _ _ q => ⟨c, b, rfl, rfl, q H1 (Ex.refl H1)⟩
theorem rv_eqB {a b : Bool} {g : Bool → Bool → Bool} : RV (rB0 g) (.bl a) (.bl b) H (.bl (g a b)) := fun H1 _ _ q => ⟨a, b, rfl, rfl, q H1 (Ex.refl H1)⟩
theorem rv_ixT {a : Tx} {i : Int} {c : Nat} (hl : a.length ≤ 16777216) (h : atI a i = some c) : RV rIxT (T a) (.int i) H (T [c]) := fun H1 _ _ q => ⟨a, i, c, rfl, rfl, hl, h, q H1 (Ex.refl H1)⟩
theorem rv_isN : RV (fun x y H Q => y = .non ∧ Q (.bl (decide (x = .non))) H) x .non H (.bl (decide (x = .non))) := fun H1 _ _ q => ⟨rfl, q H1 (Ex.refl H1)⟩
theorem rv_notN : RV (fun x y H Q => y = .non ∧ Q (.bl (!decide (x = .non))) H) x .non H (.bl (!decide (x = .non))) := fun H1 _ _ q => ⟨rfl, q H1 (Ex.refl H1)⟩
theorem rc_lenT {a : Tx} (h : a.length ≤ 16777216) : RC rLenT [T a] H (.int (a.length : Int)) := fun H1 _ _ q => ⟨a, rfl, h, q H1 (Ex.refl H1)⟩
theorem rc_isi {n t : String} {b : Bool} (ty : ∀ H1, Ex H H1 → TyX K H1 x (.type t)) (h : kitB t n = some b) : RC (rIsiB K) [x, .ty n] H (.bl b) := fun H1 e _ q => ⟨x, n, t, b, rfl, ty H1 e, h, q H1 (Ex.refl H1)⟩
theorem rc_int {i : Int} : RC (fun xs H Q => (∃ i, xs = [.int i] ∧ Q (.int i) H) ∨ ∃ k, xs = [.bl k] ∧ Q (.int (if k then 1 else 0)) H) [.int i] H (.int i) := fun H1 _ _ q => .inl ⟨i, rfl, q H1 (Ex.refl H1)⟩
theorem rc_gcd {a b : Int} : RC rGcd [.int a, .int b] H (.int ((Nat.gcd a.natAbs b.natAbs : Nat) : Int)) := fun H1 _ _ q => ⟨a, b, rfl, q H1 (Ex.refl H1)⟩
/-- a reading that is given by another one -/
theorem ev_slT {a : Tx} {tl th : TO} {lo hi : Option Int} (h : Ev te σ H (T a)) (h1 : EvO tl σ H lo) (h2 : EvO th σ H hi) (hl : a.length ≤ 16777216) : Ev (tSl rSlT te tl th) σ H (T (cutT a lo hi)) := fun H1 e _ q =>
  h H1 e _ fun H2 e2 => h1 H2 (e.trans e2) _ fun H3 e3 => h2 H3 ((e.trans e2).trans e3) _ fun H4 e4 => ⟨a, rfl, hl, q H4 ((e2.trans e3).trans e4)⟩
/-- a method of a text -/
def RM (r : V → List V → Hp → VK → Prop) (x : V) (vs : List V) (H : Hp) (z : V) : Prop := ∀ H1, Ex H H1 → ∀ Q : VK, (∀ H2, Ex H1 H2 → Q z H2) → r x vs H1 Q
theorem ev_bmT {r : V → List V → Hp → VK → Prop} {tq : TA} {a : Tx} {vs : List V} (h : Ev te σ H (T a)) (ha : EvA tq σ H vs) (hr : RM r (T a) vs H z) : Ev (tBM K "str" r te tq) σ H z := fun H1 e Q q =>
  h H1 e _ fun H2 e2 => ⟨rfl, ha H2 (e.trans e2) _ fun H3 e3 => hr H3 ((e.trans e2).trans e3) Q fun H4 e4 => q H4 ((e2.trans e3).trans e4)⟩
theorem ev_bmTL {r : V → List V → Hp → VK → Prop} {a : Tx} {xs : List V} (h : Ev te σ H (T a)) (ha : EvL tb σ H xs) (hr : ∀ p H1, H1 p = some (.lst xs) → Ex H H1 → RM r (T a) [.ref p] H1 z) : Ev (tBM K "str" r te (tCons tb tNil)) σ H z := fun H1 e Q q =>
  h H1 e _ fun H2 e2 => ⟨rfl, ha H2 (e.trans e2) _ fun p H3 _ e3 hp => hr p H3 hp ((e.trans e2).trans e3) H3 (Ex.refl H3) Q fun H4 e4 => q H4 ((e2.trans e3).trans e4)⟩
/-- a call of a built-in on one new list -/
theorem ev_cbL {r : List V → Hp → VK → Prop} {xs : List V} (h : EvL te σ H xs) (hr : ∀ p H1, H1 p = some (.lst xs) → Ex H H1 → RC r [.ref p] H1 z) : Ev (tCB r (tCons te tNil)) σ H z := fun H1 e Q q =>
  h H1 e _ fun p H2 _ e2 hp => hr p H2 hp (e.trans e2) H2 (Ex.refl H2) Q fun H3 e3 => q H3 (e2.trans e3)
theorem rc_all {p : Addr} {bs : List Bool} (h : SqL K H p (bs.map V.bl)) : RC (rAll K) [.ref p] H (.bl (bs.all id)) := fun H1 e _ q => ⟨p, bs, rfl, ex_l e h, q H1 (Ex.refl H1)⟩
theorem rc_any {p : Addr} {bs : List Bool} (h : SqL K H p (bs.map V.bl)) : RC (rAny K) [.ref p] H (.bl (bs.any id)) := fun H1 e _ q => ⟨p, bs, rfl, ex_l e h, q H1 (Ex.refl H1)⟩
theorem rc_sum {p : Addr} {ns : List Int} (h : SqL K H p (ns.map V.int)) : RC (rSum K) [.ref p] H (.int ns.sum) := fun H1 e _ q => ⟨p, ns, rfl, ex_l e h, q H1 (Ex.refl H1)⟩
theorem rm_join {p : Addr} {ys : List Tx} (h : SqL K H p (ys.map T) ∨ SqT K H p (ys.map T)) (hl : (ys.map List.length).sum ≤ 16777216) : RM (rJoinT K) (T []) [.ref p] H (T ys.flatten) := fun H1 e _ q =>
  ⟨[], p, ys, rfl, rfl, h.imp (ex_l e) (ex_t e), by simpa using hl, by rw [joinL_nil]; exact q H1 (Ex.refl H1)⟩

/-! ### heaps: all but some stand -/
def Exc (B : Addr → Prop) (H H' : Hp) : Prop := ∀ b o, ¬ B b → H b = some o → H' b = some o
theorem Exc.refl {B : Addr → Prop} (H : Hp) : Exc B H H := fun _ _ _ h => h
theorem Exc.trans {B : Addr → Prop} {H H1 H2 : Hp} (a : Exc B H H1) (b : Exc B H1 H2) : Exc B H H2 := fun x o n h => b x o n (a x o n h)
theorem Exc.of {B : Addr → Prop} {H H1 : Hp} (a : Ex H H1) : Exc B H H1 := fun x o _ h => a x o h
theorem Exc.ex {H H1 : Hp} (a : Exc (fun _ => False) H H1) : Ex H H1 := fun x o h => a x o (fun z => z) h
theorem Exc.then {B : Addr → Prop} {H H1 H2 : Hp} (a : Exc B H H1) (b : Ex H1 H2) : Exc B H H2 := a.trans (.of b)
theorem Exc.mono {B B' : Addr → Prop} {H H1 : Hp} (a : Exc B H H1) (h : ∀ b, B b → B' b) : Exc B' H H1 := fun x o n e => a x o (fun z => n (h x z)) e
theorem Exc.upd {B : Addr → Prop} {H H1 : Hp} {p : Addr} {o : HO} (a : Exc B H H1) (h : B p ∨ H p = none) : Exc B H (upd H1 p o) := fun x u n e => by
  have hx : x ≠ p := by
    rintro rfl
    rcases h with h | h
    · exact n h
    · rw [h] at e; cases e
  rw [upd_ne hx]
  exact a x u n e
theorem Exc.l {B : Addr → Prop} {K : PySem.W.Frag} {H H1 : Hp} {p : Addr} {xs : List V} (a : Exc B H H1) (n : ¬ B p) (h : SqL K H p xs) : SqL K H1 p xs := by
  rcases h with (h | ⟨o, h⟩) | h
  · exact .inl (.inl (a _ _ n h))
  · exact .inl (.inr ⟨o, a _ _ n h⟩)
  · exact .inr h
theorem Exc.tp {B : Addr → Prop} {K : PySem.W.Frag} {H H1 : Hp} {p : Addr} {xs : List V} (a : Exc B H H1) (n : ¬ B p) (h : SqT K H p xs) : SqT K H1 p xs := by
  rcases h with (h | ⟨o, h⟩) | h
  · exact .inl (.inl (a _ _ n h))
  · exact .inl (.inr ⟨o, a _ _ n h⟩)
  · exact .inr h
theorem Exc.fresh {B : Addr → Prop} {H H1 : Hp} {p : Addr} (a : Exc B H H1) (n : ¬ B p) (h : H1 p = none) : H p = none := by
  cases e : H p with
  | none => rfl
  | some o => rw [a _ _ n e] at h; cases h

/-! ### what is walked: the values, one by one -/
/-- wi gives n values; the i-th is such that P i of it and the heap holds; own: what must stand meanwhile -/
def Src (wi : TI) (σ : L2.St) (H : Hp) (n : Nat) (own : Addr → Prop) (P : Nat → V → Hp → Prop) : Prop :=
  ∀ H1, Ex H H1 → ∀ R : It → Hp → Prop, (∀ J H2 S, Ex H1 H2 → Walk J n S (fun i Ha v Hb => Ex Ha Hb ∧ P i v Hb) → (∀ (B : Addr → Prop) Ha, (∀ b, B b → H b ≠ none ∧ ¬ own b) → Exc B H2 Ha → S Ha) → R J H2) → wi σ H1 R
theorem src_list {a : Addr} {xs : List V} {tl : TE} (h : Ev tl σ H (.ref a)) (hs : SqL K H a xs) : Src (iList K tl) σ H xs.length (fun b => b = a) (fun i v _ => xs[i]? = some v) := fun H1 e R q =>
  h H1 e _ fun H2 e2 => ⟨a, rfl, ⟨xs, ex_l (e.trans e2) hs⟩, q _ H2 _ e2 (walk_list.mono (fun _ z => z) fun i Ha v Hb _ _ hy => by
    obtain ⟨rfl, hy⟩ := hy
    exact ⟨Ex.refl _, hy⟩) fun B Ha hB ea => ea.l (fun z => (hB a z).2 rfl) (ex_l (e.trans e2) hs)⟩
theorem src_listM {α : Type} {f : α → V} {a : Addr} {xs : List α} {tl : TE} (h : Ev tl σ H (.ref a)) (hs : SqL K H a (xs.map f)) : Src (iList K tl) σ H xs.length (fun b => b = a) (fun i v _ => (xs.map f)[i]? = some v) := by
  have h1 := src_list h hs
  rw [List.length_map] at h1
  exact h1
/-- over a new list -/
theorem src_newL {xs : List V} {tl : TE} (h : EvL tl σ H xs) : Src (iList K tl) σ H xs.length (fun _ => False) (fun i v _ => xs[i]? = some v) := fun H1 e R q =>
  h H1 e _ fun a H2 ha e2 h2 => ⟨a, rfl, ⟨xs, sq_of h2⟩, q _ H2 _ e2 (walk_list.mono (fun _ z => z) fun i Ha v Hb _ _ hy => by
    obtain ⟨rfl, hy⟩ := hy
    exact ⟨Ex.refl _, hy⟩) fun B Ha hB ea => ea.l (fun z => (hB a z).1 (fresh_back e ha)) (sq_of h2)⟩
theorem src_newLM {α : Type} {f : α → V} {xs : List α} {tl : TE} (h : EvL tl σ H (xs.map f)) : Src (iList K tl) σ H xs.length (fun _ => False) (fun i v _ => (xs.map f)[i]? = some v) := by
  have h1 := src_newL (K := K) h
  rw [List.length_map] at h1
  exact h1
theorem src_tup {a : Addr} {xs : List V} {tl : TE} (h : Ev tl σ H (.ref a)) (hs : SqT K H a xs) : Src (iTup K tl) σ H xs.length (fun b => b = a) (fun i v _ => xs[i]? = some v) := fun H1 e R q =>
  h H1 e _ fun H2 e2 => ⟨a, rfl, ⟨xs, ex_t (e.trans e2) hs⟩, q _ H2 _ e2 (walk_tup.mono (fun _ z => z) fun i Ha v Hb _ _ hy => by
    obtain ⟨rfl, hy⟩ := hy
    exact ⟨Ex.refl _, hy⟩) fun B Ha hB ea => ea.tp (fun z => (hB a z).2 rfl) (ex_t (e.trans e2) hs)⟩
theorem src_tupM {α : Type} {f : α → V} {a : Addr} {xs : List α} {tl : TE} (h : Ev tl σ H (.ref a)) (hs : SqT K H a (xs.map f)) : Src (iTup K tl) σ H xs.length (fun b => b = a) (fun i v _ => (xs.map f)[i]? = some v) := by
  have h1 := src_tup h hs
  rw [List.length_map] at h1
  exact h1
theorem src_str {a : Tx} {tl : TE} (h : Ev tl σ H (T a)) : Src (iStr tl) σ H a.length (fun _ => False) (fun i v _ => (a.map fun c => T [c])[i]? = some v) := fun H1 e R q =>
  h H1 e _ fun H2 e2 => ⟨_, rfl, q _ H2 (fun _ => True) e2 (by
    have w := (walk_str (z := SX.S a)).mono (fun _ z => z) (Y' := fun i Ha v Hb => Ex Ha Hb ∧ (a.map fun c => T [c])[i]? = some v) (fun i Ha v Hb _ _ hy => by
      obtain ⟨rfl, c, hc, rfl⟩ := hy
      refine ⟨Ex.refl _, ?_⟩
      have hc' : a[i]? = some c := by
        have : (a.toArray)[i]? = some c := hc
        simpa using this
      rw [List.getElem?_map, hc']
      rfl)
    have e3 : (SX.S a).cps.size = a.length := S_length a
    rw [e3] at w
    exact w) fun _ _ _ _ => True.intro⟩
theorem src_range1 {tq : TA} {n : Nat} (h : EvA tq σ H [.int (n : Int)]) (hn : n ≤ 1000000000) : Src (iRng1 tq) σ H n (fun _ => False) (fun i v _ => v = .int (i : Int)) := fun H1 e R q =>
  h H1 e _ fun H2 e2 => ⟨_, rfl, by omega, by omega, by
    have w := (walk_range (lo := 0) (n := n)).mono (fun _ z => z) (Y' := fun i Ha v Hb => Ex Ha Hb ∧ v = .int (i : Int)) (fun i Ha v Hb _ _ hy => by
      obtain ⟨rfl, rfl⟩ := hy
      exact ⟨Ex.refl _, by show V.int (0 + (i : Int)) = V.int (i : Int); rw [Int.zero_add]⟩)
    exact q _ H2 _ e2 w fun _ _ _ _ => True.intro⟩
theorem src_range2 {tq : TA} {lo hi : Int} {n : Nat} (h : EvA tq σ H [.int lo, .int hi]) (h0 : -1000000000 ≤ lo) (h1 : lo ≤ 1000000000) (h2 : -1000000000 ≤ hi) (h3 : hi ≤ 1000000000) (hn : n = (hi - lo).toNat) : Src (iRng2 tq) σ H n (fun _ => False) (fun i v _ => v = .int (lo + (i : Int))) := fun H1 e R q =>
  h H1 e _ fun H2 e2 => ⟨lo, hi, rfl, ⟨by omega, by omega, by omega, by omega⟩, by
    subst hn
    have w := (walk_range (lo := lo) (n := (hi - lo).toNat)).mono (fun _ z => z) (Y' := fun i Ha v Hb => Ex Ha Hb ∧ v = .int (lo + (i : Int))) (fun i Ha v Hb _ _ hy => by
      obtain ⟨rfl, rfl⟩ := hy
      exact ⟨Ex.refl _, rfl⟩)
    exact q _ H2 _ e2 w fun _ _ _ _ => True.intro⟩
theorem src_enum {a : Addr} {xs : List V} {tl : TE} (h : Ev tl σ H (.ref a)) (hs : SqL K H a xs) : Src (iEnum K (tCons tl tNil)) σ H xs.length (fun b => b = a) (fun i v Hb => ∃ p x, v = .ref p ∧ xs[i]? = some x ∧ Hb p = some (.tup [.int (i : Nat), x])) := fun H1 e R q =>
  h H1 e _ fun H2 e2 => ⟨a, xs, rfl, ex_l (e.trans e2) hs, q _ H2 _ e2 (walk_enum.mono (fun _ z => z) fun i Ha v Hb _ _ hy => by
    obtain ⟨p, y, x, rfl, hn, rfl, h1, h2⟩ := hy
    refine ⟨Ex.new hn, p, x, rfl, h2, ?_⟩
    rw [← Option.some.inj h1]
    exact upd_same) fun B Ha hB ea => ea.l (fun z => (hB a z).2 rfl) (ex_l (e.trans e2) hs)⟩
theorem src_zip {a b : Addr} {xs ys : List V} {n : Nat} {tl tr : TE} (h : Ev tl σ H (.ref a)) (h2 : Ev tr σ H (.ref b)) (hs : SqL K H a xs) (hs2 : SqL K H b ys) (hn : n = min xs.length ys.length) :
    Src (iZip K (tCons tl (tCons tr tNil))) σ H n (fun c => c = a ∨ c = b) (fun i v Hb => ∃ p x y, v = .ref p ∧ xs[i]? = some x ∧ ys[i]? = some y ∧ Hb p = some (.tup [x, y])) := fun H1 e R q =>
  h H1 e _ fun H2 e2 => h2 H2 (e.trans e2) _ fun H3 e3 => ⟨a, b, xs, ys, rfl, ex_l ((e.trans e2).trans e3) hs, ex_l ((e.trans e2).trans e3) hs2, q _ H3 _ (e2.trans e3) ((walk_zip hn).mono (fun _ z => z) fun i Ha v Hb _ _ hy => by
    obtain ⟨p, x, y, rfl, hf, rfl, h1, h2⟩ := hy
    exact ⟨Ex.new hf, p, x, y, rfl, h1, h2, upd_same⟩) fun B Ha hB ea => ⟨ea.l (fun z => (hB a z).2 (.inl rfl)) (ex_l ((e.trans e2).trans e3) hs), ea.l (fun z => (hB b z).2 (.inr rfl)) (ex_l ((e.trans e2).trans e3) hs2)⟩⟩
theorem src_as {wi : TI} {n : Nat} {own : Addr → Prop} {P P' : Nat → V → Hp → Prop} (h : Src wi σ H n own P) (hp : ∀ i v H', i < n → P i v H' → P' i v H') : Src wi σ H n own P' := fun H1 e R q => h H1 e R fun J H2 S e2 w hS => q J H2 S e2 ⟨w.goes, w.stops, fun i Ha v Hb hi hg hy => ⟨(w.yields i Ha v Hb hi hg hy).1, hp i v Hb hi (w.yields i Ha v Hb hi hg hy).2⟩⟩ hS
theorem src_range1L {tq : TA} {n : Nat} (h : EvA tq σ H [.int (n : Int)]) (hn : n ≤ 1000000000) : Src (iRng1 tq) σ H (List.range n).length (fun _ => False) (fun i v _ => ((List.range n).map fun (i : Nat) => V.int (i : Int))[i]? = some v) := by
  have h1 := src_as (P' := fun i v _ => ((List.range n).map fun (i : Nat) => V.int (i : Int))[i]? = some v) (src_range1 h hn) fun i v _ hi hp => by
    subst hp
    show ((List.range n).map fun (i : Nat) => V.int (i : Int))[i]? = _
    rw [List.getElem?_map, List.getElem?_range hi]
    rfl
  have e : (List.range n).length = n := List.length_range
  rw [e]
  exact h1
theorem src_range2L {tq : TA} {lo hi : Int} {n : Nat} (h : EvA tq σ H [.int lo, .int hi]) (h0 : -1000000000 ≤ lo) (h1 : lo ≤ 1000000000) (h2 : -1000000000 ≤ hi) (h3 : hi ≤ 1000000000) (hn : n = (hi - lo).toNat) : Src (iRng2 tq) σ H (List.range n).length (fun _ => False) (fun i v _ => ((List.range n).map fun (i : Nat) => V.int (lo + (i : Int)))[i]? = some v) := by
  have h1 := src_as (P' := fun i v _ => ((List.range n).map fun (i : Nat) => V.int (lo + (i : Int)))[i]? = some v) (src_range2 h h0 h1 h2 h3 hn) fun i v _ hi hp => by
    subst hp
    show ((List.range n).map fun (i : Nat) => V.int (lo + (i : Int)))[i]? = _
    rw [List.getElem?_map, List.getElem?_range hi]
    rfl
  have e : (List.range n).length = n := List.length_range
  rw [e]
  exact h1

/-! ### comprehensions over such -/
/-- the target a name -/
theorem el_lcW {wi : TI} {j : Nat} {vs : List Nat} {n : Nat} {own : Addr → Prop} {P : Nat → V → Hp → Prop} (f : Nat → Bool) (v : Nat → V) (hs : Src wi σ H n own P) (hn : n ≤ 40000) (hw : ∀ x, wipe ((wipe σ vs).set j (some x)) vs = wipe σ vs)
    (ht : ∀ (i : Nat) (x : V) H1, Ex H H1 → i < n → P i x H1 → EvT t ((wipe σ vs).set j (some x)) H1 (f i)) (he : ∀ (i : Nat) (x : V) H1, Ex H H1 → i < n → P i x H1 → f i = true → Ev te ((wipe σ vs).set j (some x)) H1 (v i)) :
    EvL (tLc wi (gName j) t te vs) σ H (given n f v) := fun H0 e Q q => hs H0 e _ fun J H1 S e1 w hS => fun Dl hD =>
  lc_it w (Qd := fun H3 => Q (.ref Dl) H3) (Cw H1 f v Dl) ⟨hD, Ex.new hD, upd_same⟩ (fun i Hi _ p => hS (fun _ => False) Hi (fun _ z => z.elim) (.of p.2.1)) (fun i x Hi Hj hi p hy => by
    obtain ⟨ey, hP⟩ := hy
    have p' : Cw H1 f v Dl i Hj := ⟨p.1, p.2.1.trans ey, ey _ _ p.2.2⟩
    have eAll : Ex H Hj := (e.trans e1).trans p'.2.1
    refine ⟨hw x, ?_⟩
    have p2 : Cw H1 f v Dl i Hj := p'
    obtain ⟨p1, p3, p4⟩ := p2
    refine ht i x Hj eAll hi hP Hj (Ex.refl _) _ fun H3 e3 => ?_
    cases hf : f i with
    | true =>
      show te _ H3 fun y H4 => ∃ acc, H4 Dl = some (.lst acc) ∧ acc.length < sizeLine ∧ Cw H1 f v Dl (i + 1) (upd H4 Dl (.lst (acc ++ [y])))
      refine he i x Hj eAll hi hP hf H3 e3 _ fun H4 e4 => ⟨given i f v, e4 Dl _ (e3 Dl _ p4), sz_lt (by have := given_len i f v; omega), p1, Ex.mut ((p3.trans e3).trans e4) p1, ?_⟩
      rw [given_yes hf]
      exact upd_same
    | false =>
      show Cw H1 f v Dl (i + 1) H3
      refine ⟨p1, p3.trans e3, ?_⟩
      rw [given_no hf]
      exact e3 Dl _ p4) (fun H3 p => q Dl H3 (fresh_back e1 p.1) (e1.trans p.2.1) p.2.2)
theorem given_map {α : Type} (xs : List α) (p : α → Bool) (g : α → V) (f : Nat → Bool) (v : Nat → V) (hf : ∀ i a, xs[i]? = some a → f i = p a) (hv : ∀ i a, xs[i]? = some a → v i = g a) : given xs.length f v = (xs.filter p).map g := by
  have key : ∀ n, n ≤ xs.length → given n f v = ((xs.take n).filter p).map g := fun n => by
    induction n with
    | zero => intro _; rfl
    | succ n ih =>
      intro hn
      have ha : xs[n]? = some xs[n] := List.getElem?_eq_getElem (by omega)
      rw [List.take_add_one, ha, List.filter_append, List.map_append, ← ih (by omega)]
      cases hp : p xs[n] with
      | true =>
        rw [given_yes ((hf n _ ha).trans hp), hv n _ ha]
        simp [hp]
      | false =>
        rw [given_no ((hf n _ ha).trans hp)]
        simp [hp]
  have := key xs.length (Nat.le_refl _)
  rw [List.take_length] at this
  exact this
/-- over values that stand for xs, one by one; the target a name -/
theorem el_lcX {α : Type} {wi : TI} {j : Nat} {vs : List Nat} {n : Nat} {own : Addr → Prop} {P : Nat → V → Hp → Prop} {g : α → V} {p : α → Bool} (xs : List α) (R : α → V → Hp → Prop) (hs : Src wi σ H n own P) (hn : n ≤ 40000) (hw : ∀ x, wipe ((wipe σ vs).set j (some x)) vs = wipe σ vs)
    (hx : xs.length = n) (hP : ∀ i x H1, P i x H1 → ∃ a, xs[i]? = some a ∧ R a x H1)
    (ht : ∀ (a : α) (x : V) H1, Ex H H1 → a ∈ xs → R a x H1 → EvT t ((wipe σ vs).set j (some x)) H1 (p a)) (he : ∀ (a : α) (x : V) H1, Ex H H1 → a ∈ xs → R a x H1 → p a = true → Ev te ((wipe σ vs).set j (some x)) H1 (g a)) :
    EvL (tLc wi (gName j) t te vs) σ H ((xs.filter p).map g) := by
  subst hx
  have h0 := el_lcW (te := te) (t := t) (fun i => match xs[i]? with | some a => p a | none => false) (fun i => match xs[i]? with | some a => g a | none => .non) hs hn hw
    (fun i x H1 e hi hp => by
      obtain ⟨a, ha, hr⟩ := hP i x H1 hp
      simp only [ha]
      exact ht a x H1 e (List.mem_of_getElem? ha) hr)
    (fun i x H1 e hi hp hf => by
      obtain ⟨a, ha, hr⟩ := hP i x H1 hp
      simp only [ha] at hf ⊢
      exact he a x H1 e (List.mem_of_getElem? ha) hr hf)
  rw [given_map xs p g _ _ (fun i a ha => by simp only [ha]) (fun i a ha => by simp only [ha])] at h0
  exact h0
theorem et_yes : EvT tYes σ H true := fun H1 _ _ q => q H1 (Ex.refl H1)
theorem at_map {α : Type} {xs : List α} {f : α → V} {i : Nat} {x : V} (h : (xs.map f)[i]? = some x) : ∃ a, xs[i]? = some a ∧ x = f a := by
  rw [List.getElem?_map] at h
  cases e : xs[i]? with
  | none => rw [e] at h; cases h
  | some a => rw [e] at h; exact ⟨a, rfl, (Option.some.inj h).symm⟩
/-- over a list of values f a; no test -/
theorem el_lcM {α : Type} {wi : TI} {j : Nat} {vs : List Nat} {own : Addr → Prop} {f g : α → V} (xs : List α) (hs : Src wi σ H xs.length own (fun i v _ => (xs.map f)[i]? = some v)) (hn : xs.length ≤ 40000) (hw : ∀ x, wipe ((wipe σ vs).set j (some x)) vs = wipe σ vs)
    (he : ∀ (a : α) H1, Ex H H1 → a ∈ xs → Ev te ((wipe σ vs).set j (some (f a))) H1 (g a)) : EvL (tLc wi (gName j) tYes te vs) σ H (xs.map g) := by
  have h := el_lcX (te := te) (t := tYes) (p := fun _ => true) (g := g) xs (fun a x _ => x = f a) hs hn hw rfl (fun i x _ hp => at_map hp) (fun _ _ _ _ _ _ => et_yes) (fun a x H1 e hm hr _ => by rw [hr]; exact he a H1 e hm)
  rw [List.filter_eq_self.mpr (fun _ _ => rfl)] at h
  exact h
/-- .. with a test -/
theorem el_lcF {α : Type} {wi : TI} {j : Nat} {vs : List Nat} {own : Addr → Prop} {f g : α → V} {p : α → Bool} (xs : List α) (hs : Src wi σ H xs.length own (fun i v _ => (xs.map f)[i]? = some v)) (hn : xs.length ≤ 40000) (hw : ∀ x, wipe ((wipe σ vs).set j (some x)) vs = wipe σ vs)
    (ht : ∀ (a : α) H1, Ex H H1 → a ∈ xs → EvT t ((wipe σ vs).set j (some (f a))) H1 (p a)) (he : ∀ (a : α) H1, Ex H H1 → a ∈ xs → p a = true → Ev te ((wipe σ vs).set j (some (f a))) H1 (g a)) : EvL (tLc wi (gName j) t te vs) σ H ((xs.filter p).map g) :=
  el_lcX (te := te) (t := t) xs (fun a x _ => x = f a) hs hn hw rfl (fun i x _ hp => at_map hp) (fun a x H1 e hm hr => by rw [hr]; exact ht a H1 e hm) (fun a x H1 e hm hr hf => by rw [hr]; exact he a H1 e hm hf)

/-! ### for loops over such; B: what the turns may change; the word speaks of the heap Hs at the loop's start -/
variable {D : Ends} {tu tz : TS}
theorem s_forW {wi : TI} {g : TG} {n : Nat} {own : Addr → Prop} {P : Nat → V → Hp → Prop} (B : Addr → Prop) (hs : Src wi σ H n own P) (hB : ∀ b, B b → H b ≠ none ∧ ¬ own b) (Pv : Hp → Nat → L2.St → Hp → Prop)
    (h0 : ∀ Hs, Ex H Hs → Pv Hs 0 σ Hs) (hE : ∀ Hs i σ' H', Pv Hs i σ' H' → Exc B Hs H') (hst : ∀ Hs i σ' Ha Hb, Pv Hs i σ' Ha → Ex Ha Hb → Pv Hs i σ' Hb)
    (hb : ∀ Hs i x σ' H', Ex H Hs → i < n → Pv Hs i σ' H' → P i x H' → g x σ' H' fun σ2 H2 => tu { D with nx := Pv Hs (i + 1), ct := Pv Hs (i + 1), bk := D.nx } σ2 H2) (hd : ∀ Hs σ' H', Ex H Hs → Pv Hs n σ' H' → D.nx σ' H') : tFor wi g tu D σ H :=
  hs H (Ex.refl H) _ fun J Hs S e w hS => for_it w (Pv Hs) (h0 Hs e) (fun i σ' H' _ p => hS B H' hB (hE Hs i σ' H' p)) (fun i x σ' Ha Hb hi p hy => hb Hs i x σ' Hb e hi (hst Hs i σ' Ha Hb p hy.1) hy.2) (fun σ' H' p => hd Hs σ' H' e p)
theorem q_forW {wi : TI} {g : TG} {n : Nat} {own : Addr → Prop} {P : Nat → V → Hp → Prop} (B : Addr → Prop) (hs : Src wi σ H n own P) (hB : ∀ b, B b → H b ≠ none ∧ ¬ own b) (Pv : Hp → Nat → L2.St → Hp → Prop)
    (h0 : ∀ Hs, Ex H Hs → Pv Hs 0 σ Hs) (hE : ∀ Hs i σ' H', Pv Hs i σ' H' → Exc B Hs H') (hst : ∀ Hs i σ' Ha Hb, Pv Hs i σ' Ha → Ex Ha Hb → Pv Hs i σ' Hb)
    (hb : ∀ Hs i x σ' H', Ex H Hs → i < n → Pv Hs i σ' H' → P i x H' → g x σ' H' fun σ2 H2 => tu { D with nx := Pv Hs (i + 1), ct := Pv Hs (i + 1), bk := tz D } σ2 H2) (hd : ∀ Hs σ' H', Ex H Hs → Pv Hs n σ' H' → tz D σ' H') : tSeq (tFor wi g tu) tz D σ H :=
  s_forW (D := { D with nx := tz D }) B hs hB Pv h0 hE hst hb hd
end
end Wc
set_option Elab.async false
set_option linter.all false
set_option maxRecDepth 100000
set_option maxHeartbeats 2000000
/-! loops that search, calls of promises -/
namespace Wc
open PySem PySem.Spec PyProof.Rows L2 Evl
section
variable {K : PySem.W.Frag} {σ : L2.St} {H H' : Hp} {ta tb te : TE} {t : TT} {x y z v : V} {D : Ends} {tu tr tz : TS}
theorem set_self {σ : L2.St} {j : Nat} (hj : j < σ.length) : ∃ y, σ = σ.set j y := ⟨σ[j], by simp⟩
/-- for x in ..: if t: return .. -/
theorem q_search {wi : TI} {j : Nat} {n : Nat} {own : Addr → Prop} {P : Nat → V → Hp → Prop} (hs : Src wi σ H n own P) (hj : j < σ.length) (f : Nat → Bool)
    (ht : ∀ i x H1, Ex H H1 → i < n → P i x H1 → (∀ k, k < i → f k = false) → EvT t (σ.set j (some x)) H1 (f i))
    (hr : ∀ i x H1 H2, Ex H H1 → i < n → P i x H1 → Ex H1 H2 → (∀ k, k < i → f k = false) → f i = true → ∀ D' : Ends, D'.rt = D.rt → tr D' (σ.set j (some x)) H2)
    (hd : ∀ y H1, Ex H H1 → (∀ i, i < n → f i = false) → tz D (σ.set j y) H1) : tSeq (tFor wi (gName j) (tIfS t tr tNext)) tz D σ H := by
  refine q_forW (fun _ => False) hs (fun _ z => z.elim) (fun Hs i σ' H' => (∃ y, σ' = σ.set j y) ∧ Ex Hs H' ∧ ∀ k, k < i → f k = false) ?_ ?_ ?_ ?_ ?_
  · intro Hs e
    exact ⟨set_self hj, Ex.refl _, fun k hk => absurd hk (Nat.not_lt_zero _)⟩
  · intro Hs i σ' H' p
    exact .of p.2.1
  · intro Hs i σ' Ha Hb p e
    exact ⟨p.1, p.2.1.trans e, p.2.2⟩
  · rintro Hs i x σ' H' e hi ⟨⟨y, rfl⟩, e2, hk⟩ hP
    have eA : Ex H H' := e.trans e2
    show tIfS t tr tNext _ ((σ.set j y).set j (some x)) H'
    rw [List.set_set]
    refine s_when (ht i x H' eA hi hP hk) (fun hb H1 e1 => ?_) (fun hb H1 e1 => ?_)
    · exact hr i x H' H1 eA hi hP e1 hk hb _ rfl
    · exact ⟨⟨_, rfl⟩, e2.trans e1, fun k hk' => by
        rcases Nat.lt_succ_iff_lt_or_eq.mp hk' with h | h
        · exact hk k h
        · rw [h]; exact hb⟩
  · rintro Hs σ' H' e ⟨⟨y, rfl⟩, e2, hk⟩
    exact hd y H' (e.trans e2) hk
theorem rc_allM {α : Type} {p : Addr} {xs : List α} {f : α → Bool} (h : SqL K H p (xs.map fun a => V.bl (f a))) : RC (rAll K) [.ref p] H (.bl (xs.all f)) := by
  have h2 : SqL K H p ((xs.map f).map V.bl) := by
    rw [List.map_map]
    exact h
  have e := rc_all h2
  rw [List.all_map] at e
  exact e
theorem rc_anyM {α : Type} {p : Addr} {xs : List α} {f : α → Bool} (h : SqL K H p (xs.map fun a => V.bl (f a))) : RC (rAny K) [.ref p] H (.bl (xs.any f)) := by
  have h2 : SqL K H p ((xs.map f).map V.bl) := by
    rw [List.map_map]
    exact h
  have e := rc_any h2
  rw [List.any_map] at e
  exact e
theorem rc_sumM {α : Type} {p : Addr} {xs : List α} {f : α → Int} (h : SqL K H p (xs.map fun a => V.int (f a))) : RC (rSum K) [.ref p] H (.int (xs.map f).sum) := by
  have h2 : SqL K H p ((xs.map f).map V.int) := by
    rw [List.map_map]
    exact h
  exact rc_sum h2
theorem divW {i j : Int} (h : 0 < j) (h1 : j ≤ 1000000000) : CDivW i j := wide_div (b := 31) h (by omega) (by decide) (by decide)
theorem et_andI {u : TT} {a b : Bool} (h1 : EvT t σ H a) (h2 : a = true → EvT u σ H b) : EvT (tAnd t u) σ H (a && b) := et_and h1 h2
/-- and: what stands behind is asked only where the first holds -/
theorem et_andG {u : TT} {a : Bool} {b : Bool} (h1 : EvT t σ H a) (h2 : a = true → EvT u σ H b) (h3 : a = false → b = false) : EvT (tAnd t u) σ H b := by
  have h := et_and h1 h2
  cases a with
  | true => exact h
  | false =>
    rw [h3 rfl] at h ⊢
    exact h
/-- a slice of a new list -/
theorem el_slN {xs : List V} {tl th : TO} {lo hi : Option Int} (h : EvL te σ H xs) (h1 : EvO tl σ H lo) (h2 : EvO th σ H hi) : EvL (tSl (rSlL K) te tl th) σ H (cutV xs lo hi) := fun H1 e _ q =>
  h H1 e _ fun a H2 ha e2 hx => h1 H2 (e.trans e2) _ fun H3 e3 => h2 H3 ((e.trans e2).trans e3) _ fun H4 e4 =>
    ⟨a, xs, rfl, ex_l (e3.trans e4) (sq_of hx), fun p hp => q p _ (fresh_back ((e2.trans e3).trans e4) hp) (((e2.trans e3).trans e4).trans (Ex.new hp)) upd_same⟩
theorem cutV_to (xs : List V) (n : Nat) : cutV xs none (some (n : Int)) = xs.take n := by
  unfold cutV
  rw [HT.sIx_none, HT.sIx_nat, List.drop_zero, Nat.sub_zero]
  by_cases h : n ≤ xs.length
  · rw [Nat.min_eq_left h]
  · rw [Nat.min_eq_right (by omega), List.take_of_length_le (Nat.le_refl _), List.take_of_length_le (by omega)]
theorem cutV_from (xs : List V) (n : Nat) : cutV xs (some (n : Int)) none = xs.drop n := by
  unfold cutV
  rw [HT.sIx_none, HT.sIx_nat]
  by_cases h : n ≤ xs.length
  · rw [Nat.min_eq_left h]
    exact List.take_of_length_le (by rw [List.length_drop]; exact Nat.le_refl _)
  · rw [Nat.min_eq_right (by omega), List.drop_eq_nil_of_le (Nat.le_refl _), List.drop_eq_nil_of_le (by omega), List.take_nil]
/-- xs.extend(ys), ys a new list -/
theorem s_ext {l : Addr} {xs ys : List V} (hl : H l = some (.lst xs)) (ha : Ev ta σ H (.ref l)) (h : EvL te σ H ys) (hz : xs.length + ys.length ≤ 1000000) (k : ∀ H1, Ex H H1 → D.nx σ (upd H1 l (.lst (xs ++ ys)))) :
    tDrop (tBM K "list" rExtend ta (tCons te tNil)) D σ H := ha H (Ex.refl H) _ fun H1 e1 =>
  ⟨Or.inl ⟨rfl, xs, sq_of (e1 l _ hl)⟩, h H1 e1 _ fun p H2 hp e2 h2 => ⟨l, p, xs, ys, rfl, rfl, e2 l _ (e1 l _ hl), h2, Nat.le_trans hz (by decide), k H2 (e1.trans e2)⟩⟩
/-- return f(..), x = f(..), whatever f hands back -/
theorem s_retC {sp : Sp} {dvs vs : List V} {E : XK} {tq : TA} (h : EvA tq σ H vs) (k : ∀ H1, Ex H H1 → sp (vs ++ dvs) H1 D.rt E) : tRet (tCall sp dvs E tq) D σ H := h H (Ex.refl H) _ fun H1 e1 => k H1 e1
theorem q_asgC {i : Nat} {sp : Sp} {dvs vs : List V} {E : XK} {tq : TA} (h : EvA tq σ H vs) (k : ∀ H1, Ex H H1 → sp (vs ++ dvs) H1 (fun v H2 => tz D (σ.set i (some v)) H2) E) : tSeq (tAsg (tCall sp dvs E tq) (gName i)) tz D σ H := h H (Ex.refl H) _ fun H1 e1 => k H1 e1
/-- a promise that hands back a value | a new list | a new tuple, all else kept -/
def RetU (xs : List V) (H : Hp) (Q : VK) : Prop := ∀ p H2, H p = none → Ex H H2 → H2 p = some (.tup xs) → Q (.ref p) H2
theorem RetV.mono {v : V} {H H1 : Hp} {Q : VK} (k : RetV v H Q) (e : Ex H H1) : RetV v H1 Q := fun H2 e2 => k H2 (e.trans e2)
theorem RetL.mono {xs : List V} {H H1 : Hp} {Q : VK} (k : RetL xs H Q) (e : Ex H H1) : RetL xs H1 Q := fun p H2 hp e2 h2 => k p H2 (fresh_back e hp) (e.trans e2) h2
theorem RetU.mono {xs : List V} {H H1 : Hp} {Q : VK} (k : RetU xs H Q) (e : Ex H H1) : RetU xs H1 Q := fun p H2 hp e2 h2 => k p H2 (fresh_back e hp) (e.trans e2) h2
theorem RetV.is {v w : V} {H : Hp} {Q : VK} (k : RetV v H Q) (e : v = w) : RetV w H Q := e ▸ k
end
end Wc
set_option Elab.async false
set_option linter.all false
set_option maxRecDepth 100000
set_option maxHeartbeats 2000000
/-! the feed of draws: a list of three ints at fa; how often it has been stirred -/
namespace Wc
open PySem PySem.Spec PyProof.Rows L2 Evl
def capF : Nat := 1000000000000000000
/-- a feed that has been stirred n times at most -/
def Fd (fa : Addr) (n : Nat) (H : Hp) : Prop := ∃ (a b c : Int) (e : Nat), H fa = some (.lst [.int a, .int b, .int c]) ∧ 0 ≤ a ∧ 1 ≤ e ∧ e ≤ 2000000 ∧ a.natAbs < 2 ^ e ∧ 0 ≤ b ∧ b < 10 ^ 40 ∧ 0 ≤ c ∧ c ≤ (n : Int)
theorem Fd.mono {fa : Addr} {n m : Nat} {H : Hp} (h : Fd fa n H) (hm : n ≤ m) : Fd fa m H := by
  obtain ⟨a, b, c, e, h1, h2, h3, h4, h5, h6, h7, h8, h9⟩ := h
  exact ⟨a, b, c, e, h1, h2, h3, h4, h5, h6, h7, h8, by omega⟩
/-- so many draws may be made -/
def GF (fa : Addr) (B : Nat) (H : Hp) : Prop := ∃ n, n + B ≤ capF ∧ Fd fa n H
/-- at most m draws behind: all else stands -/
structure Rf (fa : Addr) (m : Nat) (H H' : Hp) : Prop where
  keep : Exc (fun c => c = fa) H H'
  feed : ∀ n, n + m ≤ capF → Fd fa n H → Fd fa (n + m) H'
section
variable {K : PySem.W.Frag} {fa p : Addr} {m m' B : Nat} {H H1 H2 : Hp} {o : HO} {xs : List V}
theorem Fd.is (h : Fd fa m H) : H fa ≠ none := by
  obtain ⟨a, b, c, e, h1, _⟩ := h
  rw [h1]
  exact fun z => nomatch z
theorem GF.is (h : GF fa B H) : H fa ≠ none := by
  obtain ⟨n, _, h⟩ := h
  exact h.is
theorem GF.new (h : GF fa B H) (hp : H p = none) : p ≠ fa := fun z => h.is (z ▸ hp)
theorem GF.ofTup (h : GF fa B H) (hp : H p = Option.some (HO.tup xs)) : p ≠ fa := by
  rintro rfl
  obtain ⟨n, _, a, b, c, e, h1, _⟩ := h
  rw [hp] at h1
  cases h1
theorem Rf.refl (H : Hp) : Rf fa 0 H H := ⟨Exc.refl _, fun _ _ h => h⟩
theorem Rf.of_ex (e : Ex H H1) : Rf fa 0 H H1 := ⟨.of e, fun n _ h => by
  obtain ⟨a, b, c, e', h1, h2⟩ := h
  exact ⟨a, b, c, e', e _ _ h1, h2⟩⟩
theorem Rf.trans (a : Rf fa m H H1) (b : Rf fa m' H1 H2) : Rf fa (m + m') H H2 := ⟨a.keep.trans b.keep, fun n hn h => by
  have h1 := b.feed (n + m) (by omega) (a.feed n (by omega) h)
  rw [← Nat.add_assoc]
  exact h1⟩
theorem Rf.mono (a : Rf fa m H H1) (h : m ≤ m') : Rf fa m' H H1 := ⟨a.keep, fun n hn hf => (a.feed n (by omega) hf).mono (by omega)⟩
theorem Rf.then (a : Rf fa m H H1) (e : Ex H1 H2) : Rf fa m H H2 := (a.trans (.of_ex e)).mono (Nat.le_refl _)
theorem Rf.pre (e : Ex H H1) (a : Rf fa m H1 H2) : Rf fa m H H2 := ((Rf.of_ex e).trans a).mono (by omega)
theorem Rf.upd (a : Rf fa m H H1) (h : H p = none) (hf : H fa ≠ none) : Rf fa m H (upd H1 p o) := by
  have hne : fa ≠ p := fun z => hf (z ▸ h)
  refine ⟨a.keep.upd (.inr h), fun n hn hF => ?_⟩
  obtain ⟨x, b, c, e', h1, h2⟩ := a.feed n hn hF
  exact ⟨x, b, c, e', by rw [upd_ne hne]; exact h1, h2⟩
theorem GF.go (g : GF fa B H) (a : Rf fa m H H1) (h : m + m' ≤ B) : GF fa m' H1 := by
  obtain ⟨n, hn, hf⟩ := g
  exact ⟨n + m, by omega, a.feed n (by omega) hf⟩
theorem GF.mono (g : GF fa B H) (h : m ≤ B) : GF fa m H := by
  obtain ⟨n, hn, hf⟩ := g
  exact ⟨n, by omega, hf⟩
theorem GF.ex (g : GF fa B H) (e : Ex H H1) : GF fa B H1 := g.go (Rf.of_ex e) (by omega)
theorem Rf.at_ (a : Rf fa m H H1) (h : H p = some o) (hp : p ≠ fa) : H1 p = some o := a.keep _ _ hp h
theorem Rf.l (a : Rf fa m H H1) (hp : p ≠ fa) (h : SqL K H p xs) : SqL K H1 p xs := a.keep.l hp h
theorem Rf.t (a : Rf fa m H H1) (hp : p ≠ fa) (h : SqT K H p xs) : SqT K H1 p xs := a.keep.tp hp h
theorem Rf.free (a : Rf fa m H H1) (g : H fa ≠ none) (h : H1 p = none) (g1 : H1 fa ≠ none) : H p = none := by
  refine a.keep.fresh ?_ h
  rintro rfl
  exact g1 h
end
/-! ### draw -/
def sp_draw : Sp := fun vs H Q _ => ∃ (fa : Addr) (many : Int), vs = [.ref fa, .int many] ∧ GF fa 1 H ∧ 0 < many ∧ many ≤ 10 ^ 61 ∧ ∀ (d : Nat) H', (d : Int) < many → Rf fa 1 H H' → Q (.int (d : Int)) H'
/-- one of a text's signs, of a list's or a tuple's items -/
def sp_one (K : PySem.W.Frag) : Sp := fun vs H Q _ => ∃ (fa : Addr), GF fa 1 H ∧
  ((∃ (s : Tx), vs = [.ref fa, T s] ∧ s ≠ [] ∧ s.length ≤ 16777216 ∧ ∀ c H', c ∈ s → Rf fa 1 H H' → Q (T [c]) H') ∨
   (∃ (p : Addr) (xs : List V), vs = [.ref fa, .ref p] ∧ (SqL K H p xs ∨ SqT K H p xs) ∧ p ≠ fa ∧ xs ≠ [] ∧ xs.length ≤ 16777216 ∧ ∀ v H', v ∈ xs → Rf fa 1 H H' → Q v H'))
/-- a text of at most so many signs of some -/
def sp_text : Sp := fun vs H Q _ => ∃ (fa : Addr) (s : Tx) (most : Nat), vs = [.ref fa, T s, .int (most : Int)] ∧ GF fa (most + 1) H ∧ most ≤ 30000 ∧ s ≠ [] ∧ s.length ≤ 16777216 ∧ ∀ (t : Tx) H', t.length ≤ most → (∀ c ∈ t, c ∈ s) → Rf fa (most + 1) H H' → Q (T t) H'
/-! ### things and draws in a comprehension; the element a value that is good -/
section
variable {K : PySem.W.Frag} {fa : Addr} {σ : L2.St} {H : Hp} {te : TE}
theorem lcD {wi : TI} {j : Nat} {vs : List Nat} {n : Nat} {own : Addr → Prop} {P : Nat → V → Hp → Prop} {Q : VK} (good : V → Prop) (c : Nat) (hf : H fa ≠ none) (hs : Src wi σ H n own P) (ho : ¬ own fa) (hn : n ≤ 40000) (hw : ∀ x, wipe ((wipe σ vs).set j (some x)) vs = wipe σ vs)
    (he : ∀ (i : Nat) (x : V) H1, i < n → P i x H1 → Rf fa (i * c) H H1 → ∀ Q' : VK, (∀ y H2, good y → Rf fa c H1 H2 → Q' y H2) → te ((wipe σ vs).set j (some x)) H1 Q')
    (k : ∀ p H2 acc, H p = none → Rf fa (n * c) H H2 → H2 p = some (.lst acc) → acc.length = n → (∀ v ∈ acc, good v) → Q (.ref p) H2) : tLc wi (gName j) tYes te vs σ H Q :=
  hs H (Ex.refl H) _ fun J H1 S e1 w hS => fun Dl hD => by
    have hDH : H Dl = none := fresh_back e1 hD
    have hne : Dl ≠ fa := fun z => hf (z ▸ hDH)
    have hf1 : H1 fa ≠ none := by
      cases hq : H fa with
      | none => exact absurd hq hf
      | some o => rw [e1 _ _ hq]; exact fun z => nomatch z
    refine lc_it w (Qd := fun H3 => Q (.ref Dl) H3) (fun i Hi => Rf fa (i * c) H1 Hi ∧ ∃ acc, Hi Dl = some (.lst acc) ∧ acc.length = i ∧ ∀ v ∈ acc, good v) ?_ (fun i Hi hi p => hS (fun b => b = fa) Hi (by rintro b rfl; exact ⟨hf, ho⟩) p.1.keep) ?_ ?_
    · refine ⟨?_, [], upd_same, rfl, fun v hv => nomatch hv⟩
      exact ((Rf.refl H1).upd hD hf1).mono (Nat.zero_le _)
    · rintro i x Ha Hb hi ⟨R, acc, h1, h2, h3⟩ ⟨ey, hP⟩
      refine ⟨hw x, ?_⟩
      show te ((wipe σ vs).set j (some x)) Hb fun y H4 => _
      have Rb : Rf fa (i * c) H1 Hb := R.then ey
      refine he i x Hb hi hP (Rf.pre e1 Rb) _ fun y H4 hy R4 => ?_
      have h4 : H4 Dl = some (.lst acc) := R4.at_ (ey _ _ h1) hne
      refine ⟨acc, h4, sz_lt (by omega), ?_, acc ++ [y], upd_same, by rw [List.length_append, h2]; rfl, fun v hv => ?_⟩
      · have := (Rb.trans R4).upd (p := Dl) (o := .lst (acc ++ [y])) hD hf1
        exact this.mono (by rw [Nat.succ_mul]; exact Nat.le_refl _)
      · rcases List.mem_append.mp hv with hv | hv
        · exact h3 v hv
        · rw [List.mem_singleton.mp hv]
          exact hy
    · rintro H3 ⟨R, acc, h1, h2, h3⟩
      exact k Dl H3 acc hDH (Rf.pre e1 R) h1 h2 h3
end
theorem ix_any {X : Cx} : IxR X (fun x y H Q => (L2.rIxL X.K x y H Q ∨ L2.rIxT X.K x y H Q) ∨ Wc.rIxT x y H Q) := (ix_list.or ix_tup).or ix_T
theorem cr_lenAny {X : Cx} : CallR X (.builtin "len") (fun xs H Q => rLenT xs H Q ∨ (∃ p ys, xs = [.ref p] ∧ (SqL X.K H p ys ∨ SqT X.K H p ys) ∧ Q (.int ys.length) H)) := CallR.or cr_lenT call_len_seq
theorem atI_mem {α : Type} {xs : List α} {d : Nat} (h : d < xs.length) : ∃ v, atI xs (d : Int) = some v ∧ v ∈ xs := ⟨xs[d], atI_nat (List.getElem?_eq_getElem h), List.getElem_mem h⟩
/-- a list of texts -/
theorem texts_of {acc : List V} {g : Tx → Prop} (h : ∀ v ∈ acc, ∃ t, v = T t ∧ g t) : ∃ ts : List Tx, acc = ts.map T ∧ ∀ t ∈ ts, g t := by
  induction acc with
  | nil => exact ⟨[], rfl, fun _ h => nomatch h⟩
  | cons v acc ih =>
    obtain ⟨t, rfl, ht⟩ := h v List.mem_cons_self
    obtain ⟨ts, rfl, hts⟩ := ih fun v hv => h v (List.mem_cons_of_mem _ hv)
    exact ⟨t :: ts, rfl, fun x hx => by
      rcases List.mem_cons.mp hx with rfl | hx
      · exact ht
      · exact hts x hx⟩
end Wc
set_option Elab.async false
set_option linter.all false
set_option maxRecDepth 100000
set_option maxHeartbeats 2000000
/-! data at any depth: texts, ints, lists, tuples -/
namespace Wc
open PySem PySem.Spec PyProof.Rows L2 Evl
/-- a text of low signs -/
def LowT (a : Tx) : Prop := ∀ c ∈ a, c < 1000
abbrev dT (a : Tx) : PyData := .str (SX.S a)
theorem lay_T {a : Tx} (h : LowT a) : (dT a).canLay0 = true := by
  show (SX.S a).cps.all (· < 0x110000) = true
  rw [← Array.all_toList, List.all_eq_true]
  intro c hc
  have := h c hc
  exact decide_eq_true (by omega)
theorem lay_all {α : Type} {g : α → PyData} : ∀ {xs : List α}, (∀ x ∈ xs, (g x).canLay0 = true) → PyData.canLayAll0 (xs.map g) = true
  | [], _ => rfl
  | x :: xs, h => by
    show ((g x).canLay0 && PyData.canLayAll0 (xs.map g)) = true
    rw [h x List.mem_cons_self, lay_all fun y hy => h y (List.mem_cons_of_mem _ hy)]
    rfl
theorem lay_list {α : Type} {g : α → PyData} {xs : List α} (h : ∀ x ∈ xs, (g x).canLay0 = true) : (PyData.list (xs.map g)).canLay0 = true := by
  show PyData.canLayAll0 _ = true
  exact lay_all h
theorem depth_all {α : Type} {g : α → PyData} {m : Nat} : ∀ {xs : List α}, (∀ x ∈ xs, (g x).depth ≤ m) → PyData.depthAll (xs.map g) ≤ m
  | [], _ => Nat.zero_le _
  | x :: xs, h => Nat.max_le.mpr ⟨h x List.mem_cons_self, depth_all fun y hy => h y (List.mem_cons_of_mem _ hy)⟩
theorem shaped_of {d : PyData} (h : d.canLay0 = true) (hd : d.depth ≤ 64) : SeqAt.shaped d = true := by
  unfold SeqAt.shaped
  rw [h, decide_eq_true hd]
  rfl
theorem shaped_list {α : Type} {g : α → PyData} {xs : List α} {m : Nat} (h : ∀ x ∈ xs, (g x).canLay0 = true) (hd : ∀ x ∈ xs, (g x).depth ≤ m) (hm : m + 1 ≤ 64) : SeqAt.shaped (.list (xs.map g)) = true :=
  shaped_of (lay_list h) (by
    show PyData.depthAll _ + 1 ≤ 64
    have := depth_all hd
    omega)
theorem dp_all {α : Type} {K : PySem.W.Frag} {H : Hp} {f : α → V} {g : α → PyData} : ∀ {xs : List α}, (∀ x ∈ xs, Dp K H (f x) (g x)) → DpAll K H (xs.map f) (xs.map g)
  | [], _ => .nil
  | x :: xs, h => .cons (h x List.mem_cons_self) (dp_all fun y hy => h y (List.mem_cons_of_mem _ hy))
theorem dp_list {α : Type} {K : PySem.W.Frag} {H : Hp} {f : α → V} {g : α → PyData} {xs : List α} {p : Addr} (hp : SqL K H p (xs.map f)) (h : ∀ x ∈ xs, Dp K H (f x) (g x)) : Dp K H (.ref p) (.list (xs.map g)) := .lst hp (dp_all h)
theorem eqv_list {α : Type} [DecidableEq α] {g : α → PyData} (h : ∀ x y, PyData.eqv (g x) (g y) = decide (x = y)) : ∀ (xs ys : List α), PyData.eqv (.list (xs.map g)) (.list (ys.map g)) = decide (xs = ys) := by
  intro xs ys
  show PyData.eqvAll _ _ = _
  induction xs generalizing ys with
  | nil => cases ys with
    | nil => rfl
    | cons y ys => rfl
  | cons x xs ih => cases ys with
    | nil => rfl
    | cons y ys =>
      show (PyData.eqv (g x) (g y) && PyData.eqvAll _ _) = _
      rw [h, ih]
      by_cases e : x = y
      · by_cases e2 : xs = ys
        · simp [e, e2]
        · simp [e, e2]
      · simp [e]
theorem eqv_T (a b : Tx) : PyData.eqv (dT a) (dT b) = decide (a = b) := by
  show (SX.S a == SX.S b) = _
  exact SX.S_beq_eq
theorem eqv_int (a b : Int) : PyData.eqv (.int a) (.int b) = decide (a = b) := by
  show (a == b) = _
  by_cases h : a = b
  · simp [h]
  · simp [h]
section
variable {K : PySem.W.Frag} {H : Hp} {x y : V} {d e : PyData}
theorem rv_eqD {b : Bool} (h : ∀ H1, Ex H H1 → Dp K H1 x d) (h2 : ∀ H1, Ex H H1 → Dp K H1 y e) (s1 : SeqAt.shaped d = true) (s2 : SeqAt.shaped e = true) (hb : PyData.eqv d e = b) : RV (rEqD K) x y H (.bl b) := fun H1 e1 _ q => ⟨d, e, h H1 e1, h2 H1 e1, s1, s2, by rw [hb]; exact q H1 (Ex.refl H1)⟩
theorem rv_neD {b : Bool} (h : ∀ H1, Ex H H1 → Dp K H1 x d) (h2 : ∀ H1, Ex H H1 → Dp K H1 y e) (s1 : SeqAt.shaped d = true) (s2 : SeqAt.shaped e = true) (hb : PyData.eqv d e = b) : RV (rNeD K) x y H (.bl (!b)) := fun H1 e1 _ q => ⟨d, e, h H1 e1, h2 H1 e1, s1, s2, by rw [hb]; exact q H1 (Ex.refl H1)⟩
mutual
theorem Dp.ex {H1 : Hp} (e : Ex H H1) : ∀ {v : V} {d : PyData}, Dp K H v d → Dp K H1 v d
  | _, _, .non => .non
  | _, _, .bl b => .bl b
  | _, _, .int i => .int i
  | _, _, .str x => .str x
  | _, _, .lst h a => .lst (ex_l e h) (DpAll.ex e a)
  | _, _, .tup h a => .tup (ex_t e h) (DpAll.ex e a)
theorem DpAll.ex {H1 : Hp} (e : Ex H H1) : ∀ {vs : List V} {ds : List PyData}, DpAll K H vs ds → DpAll K H1 vs ds
  | _, _, .nil => .nil
  | _, _, .cons h a => .cons (Dp.ex e h) (DpAll.ex e a)
end
end
/-- values that are ints or texts, none a truth -/
inductive FlatV : V → PyData → Prop
  | int (i : Int) : FlatV (.int i) (.int i)
  | str {a : Tx} (h : LowT a) : FlatV (T a) (dT a)
/-- a list of such -/
def sp_list_same (K : PySem.W.Frag) : Sp := fun vs H Q _ => ∃ (p q : Addr) (xs : List V), vs = [.ref p, .ref q] ∧ H p = some (.lst xs) ∧ SqL K H q xs ∧ (∀ v ∈ xs, ∃ d, FlatV v d) ∧ xs.length ≤ 30000 ∧ RetV (.bl true) H Q
theorem flat_data {K : PySem.W.Frag} {H : Hp} {xs : List V} (h : ∀ v ∈ xs, ∃ d, FlatV v d) : ∃ ds : List PyData, DpAll K H xs ds ∧ PyData.canLayAll0 ds = true ∧ PyData.depthAll ds ≤ 0 := by
  induction xs with
  | nil => exact ⟨[], .nil, rfl, Nat.le_refl _⟩
  | cons v xs ih =>
    obtain ⟨ds, h1, h2, h3⟩ := ih fun v hv => h v (List.mem_cons_of_mem _ hv)
    obtain ⟨d, hd⟩ := h v List.mem_cons_self
    cases hd with
    | int i => exact ⟨.int i :: ds, .cons (.int i) h1, by show (true && PyData.canLayAll0 ds) = true; rw [h2]; rfl, Nat.max_le.mpr ⟨Nat.le_refl _, h3⟩⟩
    | str ha => exact ⟨_ :: ds, .cons (.str _) h1, by show ((dT _).canLay0 && PyData.canLayAll0 ds) = true; rw [h2, lay_T ha]; rfl, Nat.max_le.mpr ⟨Nat.le_refl _, h3⟩⟩
end Wc
set_option Elab.async false
set_option linter.all false
set_option maxRecDepth 100000
set_option maxHeartbeats 2000000
/-! the rules that name the written part: with the part K given -/
namespace Wc
open PySem PySem.Spec PyProof.Rows L2 Evl
def rLenAny (K : PySem.W.Frag) : List V → Hp → VK → Prop := fun xs H Q => rLenT xs H Q ∨ (∃ p ys, xs = [.ref p] ∧ (SqL K H p ys ∨ SqT K H p ys) ∧ Q (.int ys.length) H)
def rIxAny (K : PySem.W.Frag) : R2 := fun x y H Q => (L2.rIxL K x y H Q ∨ L2.rIxT K x y H Q) ∨ Wc.rIxT x y H Q
def rTupS (K : PySem.W.Frag) : List V → Hp → VK → Prop := fun xs H Q => ∃ p ys, xs = [.ref p] ∧ ((SqL K H p ys ∧ ∀ l, H l = none → Q (.ref l) (upd H l (.tup ys))) ∨ (SqT K H p ys ∧ Q (.ref p) H))
section
variable {X : Cx} (K : PySem.W.Frag)
theorem kcr {f : Value} {r : PySem.W.Frag → List V → Hp → VK → Prop} (h : CallR X f (r X.K)) (hK : X.K = K := by rfl) : CallR X f (r K) := hK ▸ h
theorem kop {f : Value → Value → Sem Value} {r : PySem.W.Frag → R2} (h : OpR X f (r X.K)) (hK : X.K = K := by rfl) : OpR X f (r K) := hK ▸ h
theorem kix {r : PySem.W.Frag → R2} (h : IxR X (r X.K)) (hK : X.K = K := by rfl) : IxR X (r K) := hK ▸ h
theorem ksl {r : PySem.W.Frag → V → Option Int → Option Int → Hp → VK → Prop} (h : SlR X (r X.K)) (hK : X.K = K := by rfl) : SlR X (r K) := hK ▸ h
theorem kmt {id : String} {r : PySem.W.Frag → V → List V → Hp → VK → Prop} (h : MtR X id (r X.K)) (hK : X.K = K := by rfl) : MtR X id (r K) := hK ▸ h
theorem kbm {e : Expr} {T : String} {r : V → List V → Hp → VK → Prop} {to : TE} {t : TA} (h : PE X e (tBM X.K T r to t)) (hK : X.K = K := by rfl) : PE X e (tBM K T r to t) := hK ▸ h
theorem kbm0 {e : Expr} {T : String} {r : V → List V → Hp → VK → Prop} {to : TE} (h : PE X e (tBM0 X.K T r to)) (hK : X.K = K := by rfl) : PE X e (tBM0 K T r to) := hK ▸ h
theorem kil {tg it : Expr} {tl : TE} (h : PI X tg it (iList X.K tl)) (hK : X.K = K := by rfl) : PI X tg it (iList K tl) := hK ▸ h
theorem kit {tg it : Expr} {tl : TE} (h : PI X tg it (iTup X.K tl)) (hK : X.K = K := by rfl) : PI X tg it (iTup K tl) := hK ▸ h
theorem kie {tg it : Expr} {ta : TA} (h : PI X tg it (iEnum X.K ta)) (hK : X.K = K := by rfl) : PI X tg it (iEnum K ta) := hK ▸ h
theorem kiz {tg it : Expr} {ta : TA} (h : PI X tg it (iZip X.K ta)) (hK : X.K = K := by rfl) : PI X tg it (iZip K ta) := hK ▸ h
theorem kgt {tg : Expr} {n : Nat} {t : TGs} (h : PG X tg (gTup X.K n t)) (hK : X.K = K := by rfl) : PG X tg (gTup K n t) := hK ▸ h
theorem kgl {tg : Expr} {n : Nat} {t : TGs} (h : PG X tg (gLst X.K n t)) (hK : X.K = K := by rfl) : PG X tg (gLst K n t) := hK ▸ h
theorem kso {e : Expr} {t : TA} (h : PE X e (tSortLen X.K t)) (hK : X.K = K := by rfl) : PE X e (tSortLen K t) := hK ▸ h
end
end Wc
set_option Elab.async false
set_option linter.all false
set_option maxRecDepth 100000
set_option maxHeartbeats 2000000
/-! draws by their promises -/
namespace Wc
open PySem PySem.Spec PyProof.Rows L2 Evl
section
variable {K : PySem.W.Frag} {σ : L2.St} {H : Hp} {te tm : TE} {fa : Addr} {i : Nat} {Q : VK} {B : Nat}
theorem wp_draw {many : Int} (h0 : σ[i]? = some (some (.ref fa))) (h : Ev te σ H (.int many)) (G : GF fa B H) (h1 : 0 < many) (h2 : many ≤ 10 ^ 61) (k : ∀ (d : Nat) H', (d : Int) < many → Rf fa 1 H H' → Q (.int (d : Int)) H') (hB : 1 ≤ B := by omega) : tCall sp_draw [] E0 (tCons (tVar i) (tCons te tNil)) σ H Q :=
  ⟨.ref fa, h0, h H (Ex.refl _) _ fun H1 e1 => ⟨fa, many, rfl, (G.ex e1).mono hB, h1, h2, fun d H' hd R => k d H' hd (.pre e1 R)⟩⟩
theorem wp_oneT {s : Tx} (h0 : σ[i]? = some (some (.ref fa))) (h : Ev te σ H (T s)) (G : GF fa B H) (hs : s ≠ []) (hl : s.length ≤ 16777216) (k : ∀ c H', c ∈ s → Rf fa 1 H H' → Q (T [c]) H') (hB : 1 ≤ B := by omega) : tCall (sp_one K) [] E0 (tCons (tVar i) (tCons te tNil)) σ H Q :=
  ⟨.ref fa, h0, h H (Ex.refl _) _ fun H1 e1 => ⟨fa, (G.ex e1).mono hB, .inl ⟨s, rfl, hs, hl, fun c H' hc R => k c H' hc (.pre e1 R)⟩⟩⟩
/-- of a new list -/
theorem wp_oneL {vs : List V} (h0 : σ[i]? = some (some (.ref fa))) (h : EvL te σ H vs) (G : GF fa B H) (hs : vs ≠ []) (hl : vs.length ≤ 16777216) (k : ∀ v H', v ∈ vs → Rf fa 1 H H' → Q v H') (hB : 1 ≤ B := by omega) : tCall (sp_one K) [] E0 (tCons (tVar i) (tCons te tNil)) σ H Q :=
  ⟨.ref fa, h0, h H (Ex.refl _) _ fun p H1 hp e1 h1 => ⟨fa, (G.ex e1).mono hB, .inr ⟨p, vs, rfl, .inl (sq_of h1), G.new hp, hs, hl, fun v H' hv R => k v H' hv (.pre e1 R)⟩⟩⟩
/-- of a list or tuple that stands -/
theorem wp_oneS {p : Addr} {xs : List V} (h0 : σ[i]? = some (some (.ref fa))) (h : Ev te σ H (.ref p)) (hS : SqL K H p xs ∨ SqT K H p xs) (hp : p ≠ fa) (G : GF fa B H) (hs : xs ≠ []) (hl : xs.length ≤ 16777216) (k : ∀ v H', v ∈ xs → Rf fa 1 H H' → Q v H') (hB : 1 ≤ B := by omega) : tCall (sp_one K) [] E0 (tCons (tVar i) (tCons te tNil)) σ H Q :=
  ⟨.ref fa, h0, h H (Ex.refl _) _ fun H1 e1 => ⟨fa, (G.ex e1).mono hB, .inr ⟨p, xs, rfl, hS.imp (ex_l e1) (ex_t e1), hp, hs, hl, fun v H' hv R => k v H' hv (.pre e1 R)⟩⟩⟩
theorem wp_text {s : Tx} {most : Nat} (h0 : σ[i]? = some (some (.ref fa))) (h : Ev te σ H (T s)) (hm : Ev tm σ H (.int (most : Int))) (G : GF fa B H) (hm1 : most ≤ 30000) (hs : s ≠ []) (hl : s.length ≤ 16777216) (k : ∀ (t : Tx) H', t.length ≤ most → (∀ c ∈ t, c ∈ s) → Rf fa (most + 1) H H' → Q (T t) H') (hB : most + 1 ≤ B := by omega) :
    tCall sp_text [] E0 (tCons (tVar i) (tCons te (tCons tm tNil))) σ H Q :=
  ⟨.ref fa, h0, h H (Ex.refl _) _ fun H1 e1 => hm H1 e1 _ fun H2 e2 => ⟨fa, s, most, rfl, (G.ex (e1.trans e2)).mono hB, hm1, hs, hl, fun t H' h1 h2 R => k t H' h1 h2 (.pre (e1.trans e2) R)⟩⟩
end
/-- a feed out of a cell of the script -/
def sp_feed (K : PySem.W.Frag) : Sp := fun vs H Q _ => ∃ (a : Addr) (ns : List Int) (k e : Nat), vs = [.ref a, .int (k : Int)] ∧ SqL K H a (ns.map V.int) ∧ k ≤ 1000 ∧ 1 ≤ e ∧ e ≤ 1100000 ∧ (∀ z ∈ ns, z.natAbs < 2 ^ e) ∧
  ∀ fa H', H fa = none → Ex H H' → Fd fa 0 H' → Q (.ref fa) H'
theorem pow_add_small {x c : Int} {e : Nat} (hx : x.natAbs < 2 ^ e) (hc : c.natAbs ≤ 2 ^ 70) : (x + c).natAbs < 2 ^ (e + 72) := by
  have h1 : (x + c).natAbs ≤ x.natAbs + c.natAbs := Int.natAbs_add_le _ _
  have h2 : 1 ≤ 2 ^ e := Nat.pow_pos (by decide)
  have h3 : (2 : Nat) ^ (e + 72) = 2 ^ e * (4 * 2 ^ 70) := by rw [Nat.pow_add]
  have hA : 1 ≤ (2 : Nat) ^ 70 := Nat.pow_pos (by decide)
  rw [h3]
  generalize (2 : Nat) ^ e = E at hx h2 ⊢
  generalize (2 : Nat) ^ 70 = A at hc hA ⊢
  have h5 : E ≤ E * A := Nat.le_mul_of_pos_right _ hA
  have h6 : A ≤ E * A := Nat.le_mul_of_pos_left _ h2
  rw [Nat.mul_left_comm]
  omega
end Wc
set_option Elab.async false
set_option linter.all false
set_option maxRecDepth 100000
set_option maxHeartbeats 2000000
/-! readings that draw: what is told of the value alone -/
namespace Wc
open PySem PySem.Spec PyProof.Rows L2 Evl
/-- te draws m times at most and gives a value that is good -/
def Dw (fa : Addr) (σ : L2.St) (m : Nat) (te : TE) (g : V → Prop) : Prop := ∀ H, GF fa m H → ∀ Q : VK, (∀ v H', g v → Rf fa m H H' → Q v H') → te σ H Q
def GdT (ok : Nat → Prop) (lo n : Nat) (v : V) : Prop := ∃ s : Tx, v = T s ∧ lo ≤ s.length ∧ s.length ≤ n ∧ ∀ c ∈ s, ok c
def GdI (lo hi : Int) (v : V) : Prop := ∃ i : Int, v = .int i ∧ lo ≤ i ∧ i ≤ hi
section
variable {K : PySem.W.Frag} {σ : L2.St} {ta tb te : TE} {fa : Addr} {m m1 m2 : Nat} {g g1 g2 : V → Prop} {ok : Nat → Prop}
theorem dw_mono {m' : Nat} (h : Dw fa σ m te g) (hm : m ≤ m') : Dw fa σ m' te g := fun H G Q q => h H (G.mono hm) Q fun v H' hg R => q v H' hg (R.mono hm)
theorem dw_as {g' : V → Prop} (h : Dw fa σ m te g) (hg : ∀ v, g v → g' v) : Dw fa σ m te g' := fun H G Q q => h H G Q fun v H' hv R => q v H' (hg v hv) R
theorem dw_var {i : Nat} {v : V} (h : σ[i]? = some (some v)) (hg : g v) : Dw fa σ 0 (tVar i) g := fun H G Q q => ⟨v, h, q v H hg (Rf.refl H)⟩
theorem dw_c {v : V} (hg : g v) : Dw fa σ 0 (tC v) g := fun H G Q q => q v H hg (Rf.refl H)
theorem dw_op {r : R2} (h1 : Dw fa σ m1 ta g1) (h2 : Dw fa σ m2 tb g2) (hr : ∀ x y, g1 x → g2 y → ∃ z, g z ∧ ∀ H (Q : VK), Q z H → r x y H Q) : Dw fa σ (m1 + m2) (tOp r ta tb) g := fun H G Q q =>
  h1 H (G.mono (by omega)) _ fun x H1 hx R1 => h2 H1 (G.go R1 (by omega)) _ fun y H2 hy R2 => by
    obtain ⟨z, hz, hk⟩ := hr x y hx hy
    exact hk H2 Q (q z H2 hz (R1.trans R2))
theorem dI_var {i : Nat} {x lo hi : Int} (h : σ[i]? = some (some (.int x))) (h1 : lo ≤ x) (h2 : x ≤ hi) : Dw fa σ 0 (tVar i) (GdI lo hi) := dw_var h ⟨x, rfl, h1, h2⟩
theorem dI_c {x : Int} : Dw fa σ 0 (tC (.int x)) (GdI x x) := dw_c ⟨x, rfl, Int.le_refl _, Int.le_refl _⟩
theorem dT_var {i : Nat} {s : Tx} {lo n : Nat} (h : σ[i]? = some (some (T s))) (h1 : lo ≤ s.length) (h2 : s.length ≤ n) (h3 : ∀ c ∈ s, ok c) : Dw fa σ 0 (tVar i) (GdT ok lo n) := dw_var h ⟨s, rfl, h1, h2, h3⟩
theorem dT_c {s : Tx} (h3 : ∀ c ∈ s, ok c) : Dw fa σ 0 (tC (T s)) (GdT ok s.length s.length) := dw_c ⟨s, rfl, Nat.le_refl _, Nat.le_refl _, h3⟩
theorem dI_add {a b c d : Int} (h1 : Dw fa σ m1 ta (GdI a b)) (h2 : Dw fa σ m2 tb (GdI c d)) : Dw fa σ (m1 + m2) (tOp (rI0 fun i j => .int (i + j)) ta tb) (GdI (a + c) (b + d)) := dw_op h1 h2 fun x y ⟨i, hi, h3, h4⟩ ⟨j, hj, h5, h6⟩ => ⟨.int (i + j), ⟨i + j, rfl, by omega, by omega⟩, fun H Q q => ⟨i, j, hi, hj, q⟩⟩
theorem dT_add {a b c d : Nat} (h1 : Dw fa σ m1 ta (GdT ok a b)) (h2 : Dw fa σ m2 tb (GdT ok c d)) (hb : b + d ≤ 16777216 := by omega) : Dw fa σ (m1 + m2) (tOp rAddT ta tb) (GdT ok (a + c) (b + d)) := dw_op h1 h2 fun x y ⟨s, hs, h3, h4, h5⟩ ⟨t, ht, h6, h7, h8⟩ => ⟨T (s ++ t), ⟨s ++ t, rfl, by rw [List.length_append]; omega, by rw [List.length_append]; omega, fun c hc => by
  rcases List.mem_append.mp hc with hc | hc
  · exact h5 c hc
  · exact h8 c hc⟩, fun H Q q => ⟨s, t, hs, ht, by omega, q⟩⟩
theorem repT_mem {n : Nat} {a : Tx} {c : Nat} (h : c ∈ repT n a) : c ∈ a := by
  unfold repT at h
  obtain ⟨l, hl, hc⟩ := List.mem_flatten.mp h
  rw [List.eq_of_mem_replicate hl] at hc
  exact hc
theorem dT_mul {a b c d : Nat} (h1 : Dw fa σ m1 ta (GdT ok a b)) (h2 : Dw fa σ m2 tb (GdI (c : Int) (d : Int))) (hb : b * d ≤ 16777216 := by omega) (hd : d ≤ 1000000000 := by omega) : Dw fa σ (m1 + m2) (tOp rMulT ta tb) (GdT ok (c * a) (d * b)) := dw_op h1 h2 fun x y ⟨s, hs, h3, h4, h5⟩ ⟨j, hj, h6, h7⟩ => ⟨T (repT j.toNat s), ⟨repT j.toNat s, rfl, by
    rw [repT_len]
    exact Nat.mul_le_mul (by omega) h3, by
    rw [repT_len]
    exact Nat.mul_le_mul (by omega) h4, fun c hc => h5 c (repT_mem hc)⟩, fun H Q q => ⟨s, j, hs, hj, by omega, by omega, Nat.le_trans (Nat.mul_le_mul h4 (show j.toNat ≤ d by omega)) hb, q⟩⟩
theorem dI_len {a b : Nat} (h1 : Dw fa σ m te (GdT ok a b)) (hb : b ≤ 16777216 := by omega) : Dw fa σ m (tCB rLenT (tCons te tNil)) (GdI a b) := fun H G Q q => h1 H G _ fun v H1 ⟨s, hs, h3, h4, h5⟩ R => ⟨s, by rw [hs], by omega, q _ H1 ⟨_, rfl, by omega, by omega⟩ R⟩
/-- the ends of a slice -/
def Dwo (fa : Addr) (σ : L2.St) (m : Nat) (to : TO) : Prop := ∀ H, GF fa m H → ∀ Q : Option Int → Hp → Prop, (∀ v H', Rf fa m H H' → Q v H') → to σ H Q
theorem do_none : Dwo fa σ 0 tNoPart := fun H G Q q => q none H (Rf.refl H)
theorem do_some {a b : Int} (h : Dw fa σ m te (GdI a b)) : Dwo fa σ m (tPart te) := fun H G Q q => h H G _ fun v H1 ⟨i, hi, _, _⟩ R => ⟨i, hi, q (some i) H1 R⟩
theorem dT_sl {a b m3 : Nat} {tl th : TO} (h : Dw fa σ m1 te (GdT ok a b)) (h1 : Dwo fa σ m2 tl) (h2 : Dwo fa σ m3 th) (hb : b ≤ 16777216 := by omega) : Dw fa σ (m1 + (m2 + m3)) (tSl rSlT te tl th) (GdT ok 0 b) := fun H G Q q =>
  h H (G.mono (by omega)) _ fun v H1 ⟨s, hs, h3, h4, h5⟩ R1 => h1 H1 (G.go R1 (by omega)) _ fun l H2 R2 => h2 H2 (G.go (R1.trans R2) (by omega)) _ fun u H3 R3 =>
    ⟨s, hs, by omega, q _ H3 ⟨cutT s l u, rfl, Nat.zero_le _, Nat.le_trans (cutT_len s l u) h4, fun c hc => h5 c (cutT_mem hc)⟩ ((R1.trans (R2.trans R3)).mono (by omega))⟩
theorem dI_draw {i : Nat} {lo hi : Int} (h0 : σ[i]? = some (some (.ref fa))) (h : Dw fa σ m te (GdI lo hi)) (h1 : 0 < lo := by omega) (h2 : hi ≤ 10 ^ 61 := by decide) : Dw fa σ (m + 1) (tCall sp_draw [] E0 (tCons (tVar i) (tCons te tNil))) (GdI 0 (hi - 1)) := fun H G Q q =>
  ⟨.ref fa, h0, h H (G.mono (by omega)) _ fun v H1 ⟨j, hj, h3, h4⟩ R => ⟨fa, j, by rw [hj]; rfl, G.go R (Nat.le_refl _), by omega, by omega, fun d H' hd R2 => q _ H' ⟨(d : Int), rfl, by omega, by omega⟩ (R.trans R2)⟩⟩
theorem dT_one {i : Nat} {lo n : Nat} (h0 : σ[i]? = some (some (.ref fa))) (h : Dw fa σ m te (GdT ok lo n)) (h1 : 0 < lo := by omega) (h2 : n ≤ 16777216 := by omega) : Dw fa σ (m + 1) (tCall (sp_one K) [] E0 (tCons (tVar i) (tCons te tNil))) (GdT ok 1 1) := fun H G Q q =>
  ⟨.ref fa, h0, h H (G.mono (by omega)) _ fun v H1 ⟨s, hs, h3, h4, h5⟩ R => ⟨fa, G.go R (Nat.le_refl _), .inl ⟨s, by rw [hs]; rfl, fun z => by rw [z] at h3; simp at h3; omega, by omega, fun c H' hc R2 => q _ H' ⟨[c], rfl, Nat.le_refl _, Nat.le_refl _, fun d hd => by rw [List.mem_singleton.mp hd]; exact h5 c hc⟩ (R.trans R2)⟩⟩⟩
/-- of a list that is displayed -/
theorem dw_oneL {i : Nat} {vs : List V} (h0 : σ[i]? = some (some (.ref fa))) (h : ∀ H, EvL te σ H vs) (hg : ∀ v ∈ vs, g v) (hs : vs ≠ []) (hl : vs.length ≤ 16777216) : Dw fa σ 1 (tCall (sp_one K) [] E0 (tCons (tVar i) (tCons te tNil))) g := fun H G Q q => wp_oneL h0 (h H) G hs hl fun v H' hv R => q v H' (hg v hv) R
theorem dT_text {i : Nat} {a b c : Nat} {tm : TE} (h0 : σ[i]? = some (some (.ref fa))) (h : Dw fa σ m1 te (GdT ok a b)) (hm : Dw fa σ m2 tm (GdI 0 (c : Int))) (h1 : 0 < a := by omega) (h2 : b ≤ 16777216 := by omega) (h3 : c ≤ 30000 := by omega) : Dw fa σ (m1 + m2 + (c + 1)) (tCall sp_text [] E0 (tCons (tVar i) (tCons te (tCons tm tNil)))) (GdT ok 0 c) := fun H G Q q =>
  ⟨.ref fa, h0, h H (G.mono (by omega)) _ fun v H1 ⟨s, hs, h4, h5, h6⟩ R1 => hm H1 (G.go R1 (by omega)) _ fun y H2 ⟨j, hj, h7, h8⟩ R2 => by
    obtain ⟨n, rfl⟩ := Int.eq_ofNat_of_zero_le h7
    exact ⟨fa, s, n, by rw [hs, hj]; rfl, (G.go (R1.trans R2) (m' := n + 1) (by omega)), by omega, fun z => by rw [z] at h4; simp at h4; omega, by omega, fun t H' ht hc R3 => q _ H' ⟨t, rfl, Nat.zero_le _, by omega, fun c hc' => h6 c (hc c hc')⟩ (((R1.trans R2).trans R3).mono (by omega))⟩⟩
/-- a statement that draws -/
theorem q_dw {i : Nat} {D : Ends} {tz : TS} {H : Hp} {B : Nat} (h : Dw fa σ m te g) (G : GF fa B H) (k : ∀ v H1, g v → Rf fa m H H1 → tz D (σ.set i (some v)) H1) (hm : m ≤ B := by omega) : tSeq (tAsg te (gName i)) tz D σ H := h H (G.mono hm) _ fun v H1 hv R => k v H1 hv R
/-- a displayed pair, returned -/
theorem s_pair {D : Ends} {H : Hp} {B : Nat} (h1 : Dw fa σ m1 ta g1) (h2 : Dw fa σ m2 tb g2) (G : GF fa B H) (k : ∀ x y p H1, g1 x → g2 y → H p = none → Rf fa (m1 + m2) H H1 → H1 p = some (.lst [x, y]) → D.rt (.ref p) H1) (hm : m1 + m2 ≤ B := by omega) : tRet (tLst (tCons ta (tCons tb tNil))) D σ H :=
  h1 H (G.mono (by omega)) _ fun x H1 hx R1 => h2 H1 (G.go R1 (by omega)) _ fun y H2 hy R2 => ⟨by show 2 ≤ sizeLine; decide, fun p np => by
    have R := R1.trans R2
    have G2 : GF fa 0 H2 := G.go R (by omega)
    exact k x y p _ hx hy (R.free G.is np G2.is) (R.upd (R.free G.is np G2.is) G.is) upd_same⟩
/-- a test -/
theorem s_dif {D : Ends} {H : Hp} {tt ts : TS} {tu : TT} (h : ∀ Q : Bool → Hp → Prop, (∀ b H1, Rf fa m H H1 → Q b H1) → tu σ H Q) (k : ∀ b H1, Rf fa m H H1 → if b = true then tt D σ H1 else ts D σ H1) : tIfS tu tt ts D σ H := h _ k
theorem dw_test {H : Hp} {B : Nat} {a b c d : Int} {f : Int → Int → Bool} (h1 : Dw fa σ m1 ta (GdI a b)) (h2 : Dw fa σ m2 tb (GdI c d)) (G : GF fa B H) (Q : Bool → Hp → Prop) (k : ∀ b H1, Rf fa (m1 + m2) H H1 → Q b H1) (hm : m1 + m2 ≤ B := by omega) : tTest (tOp (rI0 fun i j => .bl (f i j)) ta tb) σ H Q :=
  h1 H (G.mono (by omega)) _ fun x H1 ⟨i, hi, _, _⟩ R1 => h2 H1 (G.go R1 (by omega)) _ fun y H2 ⟨j, hj, _, _⟩ R2 => ⟨i, j, hi, hj, f i j, rfl, k _ H2 (R1.trans R2)⟩
/-- a displayed pair -/
theorem wp_pair {H : Hp} {Q : VK} {B : Nat} (h1 : Dw fa σ m1 ta g1) (h2 : Dw fa σ m2 tb g2) (G : GF fa B H) (k : ∀ x y p H1, g1 x → g2 y → H p = none → Rf fa (m1 + m2) H H1 → H1 p = some (.lst [x, y]) → Q (.ref p) H1) (hm : m1 + m2 ≤ B := by omega) : tLst (tCons ta (tCons tb tNil)) σ H Q := s_pair (D := { nx := fun _ _ => False, bk := fun _ _ => False, ct := fun _ _ => False, rt := Q }) h1 h2 G k hm
/-- a loop of so many turns as are drawn -/
theorem q_forD {D : Ends} {tz tu : TS} {gg : TG} {H : Hp} {B : Nat} {a b : Int} (h : Dw fa σ m te (GdI a b)) (G : GF fa B H) (k : ∀ n H1, a ≤ n → n ≤ b → Rf fa m H H1 → tSeq (tFor (iRng1 fun _ H' Q' => Q' [.int n] H') gg tu) tz D σ H1) (hm : m ≤ B := by omega) : tSeq (tFor (iRng1 (tCons te tNil)) gg tu) tz D σ H := h H (G.mono hm) _ fun v H1 ⟨n, hn, h1, h2⟩ R => by
  subst hn
  exact k n H1 h1 h2 R
theorem s_retIf {D : Ends} {H : Hp} {b : Bool} {tu : TT} (h : EvT tu σ H b) (h1 : b = true → ∀ H1, Ex H H1 → tRet ta D σ H1) (h2 : b = false → ∀ H1, Ex H H1 → tRet tb D σ H1) : tRet (tIf tu ta tb) D σ H := h H (Ex.refl H) _ fun H1 e1 => by
  cases b with
  | true => exact h1 rfl H1 e1
  | false => exact h2 rfl H1 e1
theorem s_retIfD {D : Ends} {H : Hp} {B : Nat} {tc td : TE} {a b c d : Int} {f : Int → Int → Bool} (h : Dw fa σ m1 tc (GdI a b)) (h' : Dw fa σ m2 td (GdI c d)) (G : GF fa B H) (h1 : ∀ H1, Rf fa (m1 + m2) H H1 → tRet ta D σ H1) (h2 : ∀ H1, Rf fa (m1 + m2) H H1 → tRet tb D σ H1) (hm : m1 + m2 ≤ B := by omega) : tRet (tIf (tTest (tOp (rI0 fun i j => .bl (f i j)) tc td)) ta tb) D σ H := dw_test h h' G _ (fun b H1 R => by
  cases b with
  | true => exact h1 H1 R
  | false => exact h2 H1 R) hm
/-- a fresh list is written at -/
theorem Rf.exc {H H1 H2 : Hp} {p : Addr} (a : Rf fa m H H1) (h : Exc (fun c => c = p) H1 H2) (hp : H p = none) (hne : p ≠ fa) : Rf fa m H H2 := ⟨fun c o hc hs => h c o (fun z => by rw [z, hp] at hs; cases hs) (a.keep c o hc hs), fun n hn hF => by
  obtain ⟨x, b, c, e', h1, h2⟩ := a.feed n hn hF
  exact ⟨x, b, c, e', h _ _ (Ne.symm hne) h1, h2⟩⟩
theorem atI_back2 {α : Type} (xs : List α) (a b : α) : atI (xs ++ [a] ++ [b]) (-2) = some a := by
  have hl : (xs ++ [a] ++ [b]).length = xs.length + 2 := by simp
  have e : ixN (xs ++ [a] ++ [b]).length (-2) = some xs.length := by
    unfold ixN
    rw [if_neg (by decide), hl, if_pos (by omega)]
    congr 1
    omega
  unfold atI
  rw [e]
  simp
/-- [.., .., ..][i], returned -/
theorem s_ix3 {D : Ends} {H : Hp} {t1 t2 t3 tw : TE} (h : t1 σ H fun v1 H1 => t2 σ H1 fun v2 H2 => t3 σ H2 fun v3 H3 => [v1, v2, v3].length ≤ sizeLine ∧ ∀ p, H3 p = none → tw σ (upd H3 p (.lst [v1, v2, v3])) fun i H4 => L2.rIxL K (.ref p) i H4 D.rt) : tRet (tOp (L2.rIxL K) (tLst (tCons t1 (tCons t2 (tCons t3 tNil)))) tw) D σ H := h
end
end Wc
set_option Elab.async false
set_option linter.all false
set_option maxRecDepth 100000
set_option maxHeartbeats 4000000
/-! sets of texts: filled out of a list, sorted -/
namespace Wt
open PySem PySem.Spec PyProof.Rows L2
/-- the text that a value is -/
def txOf : Value → Str
  | .str k _ => k
  | _ => Str.empty
/-- an entry whose value is a text -/
def Ent (P : Program) (w : World) (e : Int × Value) : Prop := ∃ (k : Str) (u : Tok), e.2 = .str k u ∧ e.1 = (PySem.strKind P w).hash k
def ek (e : Int × Value) : Str := txOf e.2
/-- entries and table hold just the texts l -/
structure Pay (P : Program) (w : World) (es : Array (Int × Value)) (t : SetTable) (l : List Str) : Prop where
  ents : ∀ e ∈ es.toList, Ent P w e
  keys : (es.toList.map ek).Perm l
  nd : l.Nodup
  few : es.size < scanBound
  fit : t.fits es.size = true
  ris : Ris t.place.toList
  led : w.params.followText "set-order" = true ∨ t.led = true
def SetX (P : Program) (w : World) (h : Heap) (a : Addr) (l : List Str) : Prop := ∃ o es ep t, h.get? a = some o ∧ o.ExactSet ∧ o.data = .set es ep t ∧ Pay P w es t l
section
variable {P : Program} {w : World} {h h' : Heap} {a : Addr} {l : List Str} {es es1 : Array (Int × Value)} {t t1 : SetTable}
theorem SetX.at (R : SetX P w h a l) (k : ∀ o, h.get? a = some o → h'.get? a = some o) : SetX P w h' a l := by
  obtain ⟨o, es, ep, t, ho, r⟩ := R
  exact ⟨o, es, ep, t, k o ho, r⟩
theorem ent_is {e : Int × Value} (g : Ent P w e) (k : Str) : (PySem.strKind P w).is k e.2 = true ↔ ek e = k := by
  obtain ⟨k0, u, h1, _⟩ := g
  unfold ek
  rw [h1]
  show (Value.isStrOf k (.str k0 u) = true) ↔ k0 = k
  simp [Value.isStrOf]
theorem Pay.size (p : Pay P w es t l) : es.size = l.length := by
  have := p.keys.length_eq
  rw [List.length_map, Array.length_toList] at this
  exact this
theorem Pay.elems (p : Pay P w es t l) : ElemsOf (PySem.strKind P w) es.toList := fun e he => by
  obtain ⟨k, u, h1, h2⟩ := p.ents e he
  exact ⟨⟨k, by rw [h1]; exact PySem.strKind_is P w k u, h2⟩, by rw [h1]; rfl⟩
theorem Pay.mem (p : Pay P w es t l) (k : Str) : k ∈ l ↔ ∃ e ∈ es.toList, (PySem.strKind P w).is k e.2 = true := by
  rw [← p.keys.mem_iff, List.mem_map]
  exact ⟨fun ⟨e, he, q⟩ => ⟨e, he, (ent_is (p.ents e he) k).mpr q⟩, fun ⟨e, he, q⟩ => ⟨e, he, (ent_is (p.ents e he) k).mp q⟩⟩
/-- laid anew -/
theorem Pay.anew (p : Pay P w es t l) (pm : es1.toList.Perm es.toList) (hf : t1.fits es1.size = true) (hr : Ris t1.place.toList) (hl : t1.led = t.led) : Pay P w es1 t1 l where
  ents := fun e he => p.ents e (pm.mem_iff.mp he)
  keys := (pm.map ek).trans p.keys
  nd := p.nd
  few := by
    have := pm.length_eq
    rw [Array.length_toList, Array.length_toList] at this
    rw [this]
    exact p.few
  fit := hf
  ris := hr
  led := p.led.imp id fun z => hl.trans z
/-- one more -/
theorem Pay.more {k : Str} {u : Tok} (p : Pay P w es t l) (hk : k ∉ l) (room : l.length + 1 < scanBound) (pm : es1.toList.Perm (es.push ((PySem.strKind P w).hash k, .str k u)).toList) (hf : t1.fits es1.size = true) (hr : Ris t1.place.toList) (hl : t1.led = t.led) : Pay P w es1 t1 (k :: l) := by
  rw [Array.toList_push] at pm
  have pc := pm.trans (List.perm_append_singleton _ _)
  have pk : (es1.toList.map ek).Perm (k :: es.toList.map ek) := pc.map ek
  refine ⟨fun e he => ?_, pk.trans (p.keys.cons k), List.nodup_cons.mpr ⟨hk, p.nd⟩, ?_, hf, hr, p.led.imp id fun z => hl.trans z⟩
  · rcases List.mem_cons.mp (pc.mem_iff.mp he) with z | z
    · rw [z]
      exact ⟨k, u, rfl, rfl⟩
    · exact p.ents e z
  · have := pc.length_eq
    rw [List.length_cons, Array.length_toList, Array.length_toList, p.size] at this
    rw [this]
    exact room
end
section
variable {P : Program} {w : World} {A : Around} {E : Value → Shared → Prop} {s : Shared} {a : Addr} {l : List Str}
/-- behind the table's own step -/
theorem add_end {g : Bool → Sem Unit} (hg : ∀ (b : Bool) (s1 : Shared) (Q' : Unit → Shared → Prop), Q' () s1 → wpAny (model P w) A (g b) Q' E s1) {o : Obj} {es es1 : Array (Int × Value)} {ep : Nat} {t t2 : SetTable} {l2 : List Str}
    (ho : s.heap.get? a = some o) (hex : o.ExactSet) (hd : o.data = .set es ep t) (p : Pay P w es1 t2 l2) {dm : Bool} {R : Option Bool → Shared → Prop} (hR : ∀ h', Heap.SameBut a s.heap h' → SetX P w h' a l2 → R (some true) { s with heap := h' }) :
    wpAny (model P w) A (do
        storeSet a es1 t2
        if (!dm && t2.tooFull) = true then do
            g (relayAll t2 es1 (SetTable.grown es1.size)).2.2
            storeSet a (relayAll t2 es1 (SetTable.grown es1.size)).1 (relayAll t2 es1 (SetTable.grown es1.size)).2.1
            pure (some true)
          else pure (some true)) R E s := by
  have hz := fits_of_scanBound p.few
  refine wpAny_bind (wpAny_storeSet_of ho hd ?_ hz)
  have at1 := store_at (es' := es1) (t' := t2) ho hd
  have same1 := Heap.SameBut.update s.heap a (Obj.putSet es1 t2)
  by_cases c : (!dm && t2.tooFull) = true
  · rw [if_pos c]
    have p2 := p.anew (relayAll_perm t2 es1 (SetTable.grown es1.size)) (relayAll_fits t2 es1 _) (relayAll_ris t2 es1 _) (relayAll_led t2 es1 _)
    generalize relayAll t2 es1 (SetTable.grown es1.size) = Z at p2 ⊢
    refine wpAny_bind (hg _ _ _ ?_)
    refine wpAny_bind (wpAny_storeSet_of at1 rfl ?_ (fits_of_scanBound p2.few))
    exact wpAny_pure (hR _ (same1.trans (Heap.SameBut.update _ a _)) ⟨_, Z.1, _, Z.2.1, store_at (es' := Z.1) (t' := Z.2.1) at1 rfl, hex, rfl, p2⟩)
  · rw [if_neg c]
    exact wpAny_pure (hR _ same1 ⟨_, es1, _, t2, at1, hex, rfl, p⟩)
theorem add_text {k : Str} {u : Tok} {Q : Bool → Shared → Prop} (R : SetX P w s.heap a l) (room : l.length + 1 < scanBound)
    (hQ : ∀ h' b, Heap.SameBut a s.heap h' → SetX P w h' a (if k ∈ l then l else k :: l) → Q b { s with heap := h' }) : wpAny (model P w) A (setAddHashed a (.str k u) ((PySem.strKind P w).hash k)) Q E s := by
  obtain ⟨o, es, ep, t, ho, hex, hd, p⟩ := id R
  have is1 : (PySem.strKind P w).is k (.str k u) = true := PySem.strKind_is P w k u
  unfold setAddHashed setAddHashedIn
  refine wpAny_holding (wpAny_bind (wpAny_setState_of ho hd p.fit ?_))
  dsimp only
  rw [byScan_of (x := Value.str k u) rfl p.few p.elems, if_pos rfl]
  unfold setAddByScan
  refine wpAny_bind (wpAny_bind (wpAny_rule (wpAny_bind (wpAny_setScan_of is1 ho hd p.fit p.elems ?_))))
  cases hfi : List.findIdx? (fun e => (PySem.strKind P w).is k e.2) es.toList with
  | some j =>
    obtain ⟨hj, pj, _⟩ := List.findIdx?_eq_some_iff_getElem.mp hfi
    have hin : k ∈ l := (p.mem k).mpr ⟨es.toList[j], List.getElem_mem hj, pj⟩
    dsimp only
    refine wpAny_pure (wpAny_pure ?_)
    have q := hQ s.heap false (Heap.SameBut.refl a s.heap)
    rw [if_pos hin] at q
    exact q R
  | none =>
    have hno : k ∉ l := fun z => by
      obtain ⟨e, he, q⟩ := (p.mem k).mp z
      have c := List.findIdx?_eq_none_iff.mp hfi e he
      rw [q] at c
      cases c
    dsimp only
    have p1 := p.more (u := u) hno room (layNew_perm t es _ _) (layNew_fits t es _ _) (layNew_ris t es _ _ p.ris) (layNew_led t es _ _)
    generalize layNew t es ((PySem.strKind P w).hash k) (.str k u) = Z at p1 ⊢
    obtain ⟨es1, t1, dm, gave⟩ := Z
    dsimp only at p1 ⊢
    have both : ∀ (g : Bool) {s1 : Shared} {Q' : Unit → Shared → Prop}, Q' () s1 → wpAny (model P w) A (match g with | true => rule "set.scan.the-table-gave-way" | false => pure ()) Q' E s1 := fun g s1 Q' q => by
      cases g
      · exact wpAny_pure q
      · exact wpAny_rule q
    have fin : ∀ h', Heap.SameBut a s.heap h' → SetX P w h' a (k :: l) → Q true { s with heap := h' } := fun h' sb r => hQ h' true sb (by rw [if_neg hno]; exact r)
    refine wpAny_bind (both _ ?_)
    by_cases hp : t1.plain = true
    · rw [if_pos hp]
      refine wpAny_bind ?_
      rw [hashByValue_scannable 8 (x := Value.str k u) rfl]
      refine wpAny_pure ?_
      have p2 : Pay P w es1 { t1 with plain := false } (k :: l) := ⟨p1.ents, p1.keys, p1.nd, p1.few, SetTable.fits_plain_off p1.fit, p1.ris, p1.led⟩
      refine add_end (l2 := k :: l) ?_ ho hex hd (by split <;> first | exact p1 | exact p2) fun h' sb r => wpAny_pure (fin h' sb r)
      exact fun b s1 Q' q => by cases b <;> first | exact wpAny_pure q | exact wpAny_rule q
    · rw [if_neg hp]
      refine wpAny_bind (wpAny_pure ?_)
      refine add_end (l2 := k :: l) ?_ ho hex hd (by rw [if_pos rfl]; exact p1) fun h' sb r => wpAny_pure (fin h' sb r)
      exact fun b s1 Q' q => by cases b <;> first | exact wpAny_pure q | exact wpAny_rule q
/-- the set as set() makes it -/
abbrev so (w : World) : Obj := { cls := .type "set", dict := none, data := .set #[] 0 (.fresh 0 0 (!w.params.followText "set-order")) }
theorem SetX.new {h : Heap} (ho : h.get? a = some (so w)) : SetX P w h a [] := ⟨_, #[], 0, _, ho, ⟨rfl, rfl, rfl⟩, rfl, fun e he => by simp at he, List.Perm.refl _, List.nodup_nil, by decide, by rfl, List.Pairwise.nil, by
  show _ ∨ (!w.params.followText "set-order") = true
  cases w.params.followText "set-order" <;> simp⟩
/-- what is met among the first ones -/
structure Met (xs : List Str) (i : Nat) (l : List Str) : Prop where
  nd : l.Nodup
  mem : ∀ x, x ∈ l ↔ x ∈ xs.take i
  len : l.length ≤ i
theorem Met.next {xs l : List Str} {i : Nat} {x : Str} (m : Met xs i l) (h : xs[i]? = some x) : Met xs (i + 1) (if x ∈ l then l else x :: l) := by
  have e : xs.take (i + 1) = xs.take i ++ [x] := by rw [List.take_add_one, h]; rfl
  by_cases hx : x ∈ l
  · rw [if_pos hx]
    refine ⟨m.nd, fun y => ?_, Nat.le_succ_of_le m.len⟩
    rw [e, List.mem_append, m.mem y]
    exact ⟨.inl, fun z => z.elim id fun z => by rw [List.mem_singleton.mp z]; exact (m.mem x).mp hx⟩
  · rw [if_neg hx]
    refine ⟨List.nodup_cons.mpr ⟨hx, m.nd⟩, fun y => ?_, Nat.succ_le_succ m.len⟩
    rw [e, List.mem_append, List.mem_cons, List.mem_singleton, m.mem y]
    exact Or.comm
theorem fill_texts {I S : Addr} {fp wr : List Addr} {G : Array GenState → Array GenState → Prop} {n : Nat} {Pv : Nat → Value → Prop} {St : Nat → Shared → Prop} {R : Result → Shared → Prop} {xs : List Str}
    (W : WalksS P w A.in1 I fp wr G n Pv St) (hS : S ∉ fp) (hn : xs.length = n) (hb : n + 1 < scanBound) (hv : ∀ i v, Pv i v → ∃ x u, xs[i]? = some x ∧ v = .str x u) :
    ∀ (d i : Nat) (s : Shared) (l : List Str), n = i + d → St i s → Met xs i l → SetX P w s.heap S l → (∀ s2 l2, Moved (S :: wr) G s s2 → Met xs n l2 → SetX P w s2.heap S l2 → R (.ok (.ret .none)) s2) →
      codeAny (model P w) A (.builtin "set.update.loop" ⟨[.ref S, .ref I], []⟩) R s := by
  have hw : S ∉ wr := fun z => hS (W.sub _ z)
  have wide : ∀ b ∈ wr, b ∈ S :: wr := fun b z => List.mem_cons_of_mem _ z
  intro d
  induction d with
  | zero =>
    intro i s l hd st m X hR
    obtain rfl : i = n := by omega
    refine codeAny_builtin F.entry_set_update_loop (by
      rw [Around.under_plainId F.plain_set_update_loop _]
      exact wpAny_bind (W.done s _ _ st fun s2 mv => wpAny_pure (hR s2 l (mv.mono wide) m (X.at fun o e => mv.heap S o hw e))))
  | succ d ih =>
    intro i s l hd st m X hR
    refine codeAny_builtin F.entry_set_update_loop (by
      rw [Around.under_plainId F.plain_set_update_loop _]
      refine wpAny_bind (W.item i s _ _ (by omega) st fun v s2 hP st2 mv => ?_)
      obtain ⟨x, u, hx, rfl⟩ := hv i v hP
      have X2 : SetX P w s2.heap S l := X.at fun o e => mv.heap S o hw e
      have hl := m.len
      refine wpAny_bind (m := holding [Value.str x u] (setAdd S (.str x u))) (wpAny_holding ?_)
      unfold setAdd
      refine wpAny_holding (wpAny_bind ((PySem.strKind P w).pyHash (k := x) (PySem.strKind_is _ _ _ _) ?_))
      refine add_text (s := { s2 with toks := s2.toks + 1 }) X2 (by omega) fun h' b sb X3 => wpAny_pure ⟨plainId_quiet F.plain_set_update_loop _, ?_⟩
      refine ih (i + 1) _ _ (by omega) (W.frame _ s2 _ _ st2 (Nat.le_succ _) fun c hc o e => ?_) (m.next hx) X3 fun s3 l3 mv3 m3 X4 => hR s3 l3 (Moved.trans W.gtrans ((mv.mono wide).then_heap (Nat.le_succ _) fun c o hc e => ?_) mv3) m3 X4
      · rw [sb.2 c fun z => hS (z ▸ hc)]
        exact e
      · rw [sb.2 c fun z => hc (z ▸ List.mem_cons_self)]
        exact e)
set_option maxHeartbeats 3200000 in
theorem call_set_texts {src : Addr} {its : Array Value} {xs : List Str} {Q : Value → Shared → Prop} (noH : A.handled = none) (isl : s.heap.IsList src its) (hit : StrsAre its.toList xs) (room : xs.length + 1 < scanBound)
    (fin : ∀ (h2 : Heap) (tk : Nat) (l : List Str), Met xs xs.length l → SetX P w h2 s.heap.objs.size l → (∀ b o, s.heap.get? b = some o → h2.get? b = some o) → Q (.ref s.heap.objs.size) { s with heap := h2, toks := tk }) :
    wpAny (model P w) A (call (.type "set") [.ref src]) Q E s := by
  have lx : xs.length = its.size := by rw [← Array.length_toList, hit.len_eq]
  obtain ⟨c, tl, q0⟩ := PySem.F.called_set.mro
  have q1 := PySem.F.called_set.made; have q2 := PySem.F.called_set.sub
  refine wpAny_call (codeAny_of_tree (wpAny_pure ⟨Code.quiet_builtin _ (by decide +kernel), codeAny_builtin PySem.F.entry_type_call ?_⟩))
  rw [Around.under_plain (weight_type_call_type "set" [.ref src] []) rfl]
  have q3 := PySem.F.called_set.notType; have q4 := PySem.F.called_set.canCreate
  have q5 := PySem.F.typeCall_set_1 (.ref src)
  repeat (any_goals (first | assumption | wp_step))
  refine codeAny_mono (code_set_led1 (.ref src) (E := E) (Q₁ := fun ob t1 => ob = .ref s.heap.objs.size ∧ t1 = { s with heap := s.heap.push (so w) }) ⟨rfl, rfl⟩) fun r t1 hr => ?_
  match r, hr with
  | .error e, hr => exact hr
  | .ok (.ret ob), hr =>
    obtain ⟨rfl, rfl⟩ := hr
    have atS : (s.heap.push (so w)).get? s.heap.objs.size = some (so w) := Heap.get?_push_size _ rfl
    have tyS : Shared.TypeIs { s with heap := s.heap.push (so w) } (.ref s.heap.objs.size) "set" := ⟨_, atS, rfl⟩
    have q6 := PySem.F.called_set.init.lookup
    have q7 := PySem.F.called_set.init.bind (.ref s.heap.objs.size)
    repeat (any_goals (first | assumption | wp_step))
    refine codeAny_mono (codeAny_call_builtin (R := wants (fun r t2 => r = .none ∧ ∃ h2 tk l, t2 = { s with heap := h2, toks := tk } ∧ Met xs xs.length l ∧ SetX P w h2 s.heap.objs.size l ∧ ∀ b o, s.heap.get? b = some o → h2.get? b = some o) E) PySem.F.called_set.init.plain PySem.F.entry_set_init (check_set_init_1 tyS ?_)) fun r2 t2 hr2 => ?_
    · obtain ⟨ol, atl, cl, nl, dl⟩ := isl
      obtain ⟨ocls, odict, odata, oslots⟩ := ol
      simp only at cl dl
      subst cl; subst dl
      have lt := Heap.lt_size atl
      have isl2 : (s.heap.push (so w)).IsList src its := ⟨_, Heap.get?_push_of_some _ atl, rfl, nl, rfl⟩
      have q8 := PySem.F.sub_list_set; have q9 := PySem.F.sub_list_frozenset
      have q10 : (Value.type "list" == Value.type "dict") = false := by decide
      have atl2 : (s.heap.push (so w)).get? src = some { cls := .type "list", dict := odict, data := .seq its nl, slots := oslots } := Heap.get?_push_of_some _ atl
      unfold Builtin.«set.__init__» noKeywords Builtin.Frozenset.updateFrom
      generalize hI : pyIter = iter
      wp_walk
      subst hI
      refine wpAny_pyIter_list isl2 (wpAny_bind (wpAny_runValue ?_))
      have no3 : A.in1.in1.in1.handled = none := by simp [noH]
      have zI : (s.heap.push (so w)).objs.size = s.heap.objs.size + 1 := Heap.size_push ..
      have ne1 : src ≠ (s.heap.push (so w)).objs.size := by rw [zI]; exact Nat.ne_of_lt (Nat.lt_succ_of_lt lt)
      have out1 : s.heap.objs.size ∉ [(s.heap.push (so w)).objs.size, src] := by
        rw [zI]
        intro z
        rcases List.mem_cons.mp z with z | z
        · exact absurd z (Nat.ne_of_lt (Nat.lt_succ_self _))
        · exact absurd (List.mem_singleton.mp z) (Nat.ne_of_gt lt)
      refine fill_texts (P := P) (xs := xs) ((Walks.list no3 _ src ne1 its).toS) out1 lx (by rw [← lx]; exact room) (fun i v hv => ?_) its.size 0 _ [] (by omega) ⟨⟨_, Heap.get?_push_size _ rfl, rfl, rfl⟩, isl2.push _⟩ ⟨List.nodup_nil, fun x => by simp, Nat.le_refl _⟩ (SetX.new (Heap.get?_push_of_some _ atS)) fun s2 l2 mv m2 X2 => ?_
      · obtain ⟨y, u, h1, h2⟩ := hit.item i v (by rw [Array.getElem?_toList]; exact hv)
        exact ⟨y, u, h2, h1⟩
      · obtain ⟨h2, g2, d2, tk2, os2⟩ := s2
        obtain rfl : g2 = s.gens := mv.gens
        obtain rfl : d2 = s.drawn := mv.drawn
        obtain rfl : os2 = s.os := mv.os
        rw [← lx] at m2
        show wpAny _ _ (Bind.bind (pure _) _) _ _ _
        refine wpAny_pure (wpAny_pure ⟨rfl, h2, tk2, l2, rfl, m2, X2, fun b o e => ?_⟩)
        have hb := Heap.lt_size e
        refine mv.heap b o (fun z => ?_) (Heap.get?_push_of_some _ (Heap.get?_push_of_some _ e))
        rw [zI] at z
        rcases List.mem_cons.mp z with z | z
        · exact absurd z (Nat.ne_of_lt hb)
        · exact absurd (List.mem_singleton.mp z) (Nat.ne_of_lt (Nat.lt_succ_of_lt hb))
    · match r2, hr2 with
      | .error e, hr2 => exact hr2
      | .ok (.ret v2), hr2 =>
        obtain ⟨rfl, h2, tk, l, rfl, m, X, k⟩ := hr2
        repeat (any_goals (first | assumption | wp_step))
        exact fin _ _ _ m X k
end
end Wt
set_option Elab.async false
set_option linter.all false
set_option maxRecDepth 100000
set_option maxHeartbeats 4000000
/-! sorted(texts), set(texts), sorted(set) as rules -/
namespace Wt
open PySem PySem.Spec PyProof.Rows L2 Wc
/-- texts in the sequence of their signs -/
def sortT (xs : List Tx) : List Tx := xs.mergeSort (fun a b => decide (a ≤ b))
theorem sortT_perm (xs : List Tx) : (sortT xs).Perm xs := List.mergeSort_perm _ _
theorem sortT_len (xs : List Tx) : (sortT xs).length = xs.length := List.length_mergeSort _
theorem sortT_mem {xs : List Tx} {t : Tx} : t ∈ sortT xs ↔ t ∈ xs := (sortT_perm xs).mem_iff
theorem sortT_pw (xs : List Tx) : (sortT xs).Pairwise (· ≤ ·) := by
  have h := List.pairwise_mergeSort (le := fun a b : Tx => decide (a ≤ b)) (fun a b c h1 h2 => decide_eq_true (List.le_trans (of_decide_eq_true h1) (of_decide_eq_true h2))) (fun a b => by
    rcases List.le_total a b with h | h
    · simp [h]
    · simp [h]) xs
  exact h.imp fun z => of_decide_eq_true z
theorem enc_le : (PySem.W.dataLe false fun b : Tx => PyData.str (SX.S b)) = fun a b => decide (a ≤ b) := by
  rw [PySem.W.dataLe_str]
theorem alike_tx (xs : List Tx) : PySem.W.AllAlike (xs.map fun b => PyData.str (SX.S b)) := by
  intro d hd d' hd'
  obtain ⟨a, _, rfl⟩ := List.mem_map.mp hd
  obtain ⟨b, _, rfl⟩ := List.mem_map.mp hd'
  rfl
theorem sortable_tx (xs : List Tx) : PySem.W.Sortable (xs.map fun b => PyData.str (SX.S b)) := by
  refine .inr fun d hd => ?_
  obtain ⟨a, _, rfl⟩ := List.mem_map.mp hd
  exact ⟨fun z => (nomatch z), fun _ z => (nomatch z)⟩
theorem reads_tx {h : Heap} {vs : List Value} {xs : List Tx} (e : PySem.W.EachIs IsT vs xs) : PySem.W.EachIs (fun v b => ∃ as, Reads h v (PyData.str (SX.S b)) as) vs xs := e.mono fun v b ⟨t, hv⟩ => ⟨[], by rw [hv]; exact .str _ _⟩
theorem reads_out {h : Heap} {a : Addr} {vs : List Value} {xs : List Tx} (e : PySem.W.EachIs IsT vs xs) : PySem.W.EachIs (fun v b => ∃ as, Reads h v (PyData.str (SX.S b)) as ∧ a ∉ as) vs xs := e.mono fun v b ⟨t, hv⟩ => ⟨[], by rw [hv]; exact .str _ _, fun z => nomatch z⟩
theorem strs_of_each : ∀ {vs : List Value} {xs : List Tx}, PySem.W.EachIs IsT vs xs → StrsAre vs (xs.map SX.S)
  | _, _, .nil => .nil
  | _, _, .cons ⟨t, rfl⟩ r => .cons _ t (strs_of_each r)
section
variable {X : Cx}
def rSortTx (K : PySem.W.Frag) : List V → Hp → VK → Prop := fun vs H Q => ∃ (p : Addr) (xs : List Tx), vs = [.ref p] ∧ SqL K H p (xs.map T) ∧ ∀ q, H q = none → Q (.ref q) (upd H q (.lst ((sortT xs).map T)))
theorem cr_sortTx (hu : X.A.units + 64 < cLine) : CallR X (.builtin "sorted") (rSortTx X.K) := by
  intro pins s σ H vs us Q I r h
  obtain ⟨p, xs, rfl, hp, q⟩ := h
  rw [Vals.ref1 r]
  obtain ⟨its, rv, pl, hz⟩ := I.list hp
  rw [List.length_map] at hz
  have ev := each_of_vals rv
  refine PySem.W.sorted_data (R := IsT) (enc := fun b : Tx => PyData.str (SX.S b)) pl.isList ev (reads_tx ev) (alike_tx xs) (sortable_tx xs) hz (fun b _ => ?_) fun out hlen eo => ?_
  · show X.A.units + 2 + _ < cLine
    have : (PyData.str (SX.S b)).depth ≤ 1 := by simp [PyData.depth]
    omega
  · rw [enc_le] at eo
    obtain ⟨c, hc⟩ := sortedAll_at s.heap its out.toArray
    have hn : H (s.heap.objs.size + 1) = none := I.hok.fresh (Nat.le_succ _)
    refine ⟨.ref _, upd H (s.heap.objs.size + 1) (.lst ((sortT xs).map T)), I.laid (t' := s.toks) (fun b u e => sortedAll_old e) (Nat.le_succ _) ⟨?_, out, c, vals_of_each eo, hc⟩, rfl, q _ hn⟩
    rw [List.length_map, sortT_len]
    exact hz
/-- the set of these texts -/
def SetXO (P : Program) (w : World) (a : Addr) (l : List Str) : HO := .ext fun h => SetX P w h a l
theorem setXO_new {w : World} {P : Program} {H : Hp} {h : Heap} {a : Addr} {l : List Str} (R : SetX P w h a l) : ObjOk P w H h a (SetXO P w a l) := by
  have ⟨o, _, _, _, ho, _⟩ := R
  exact ⟨R, ⟨o, ho⟩, fun h1 h2 p k => SetX.at p k⟩
/-- the texts without repetition -/
structure Uniq (xs ys : List Tx) : Prop where
  nd : ys.Nodup
  mem : ∀ x, x ∈ ys ↔ x ∈ xs
def rSetTx (K : PySem.W.Frag) (P : Program) (w : World) : List V → Hp → VK → Prop := fun vs H Q => ∃ (p : Addr) (xs : List Tx), vs = [.ref p] ∧ SqL K H p (xs.map T) ∧ xs.length ≤ 4000 ∧ ∀ q ys, Uniq xs ys → ys.length ≤ xs.length → H q = none → Q (.ref q) (upd H q (SetXO P w q (ys.map SX.S)))
theorem tx_back (l : List Str) : l = (l.map fun x => x.cps.toList).map SX.S := by
  rw [List.map_map]
  conv => lhs; rw [← List.map_id l]
  apply List.map_congr_left
  intro x _
  rfl
theorem S_inj {a b : Tx} (h : SX.S a = SX.S b) : a = b := by
  have := congrArg (fun x : Str => x.cps.toList) h
  simpa using this
theorem uniq_of {xs : List Tx} {l : List Str} (m : Met (xs.map SX.S) (xs.map SX.S).length l) : ∃ ys, l = ys.map SX.S ∧ Uniq xs ys ∧ ys.length ≤ xs.length := by
  refine ⟨_, tx_back l, ⟨?_, fun x => ?_⟩, ?_⟩
  · have nd := m.nd
    rw [tx_back l] at nd
    exact List.Pairwise.of_map SX.S (fun a b hne e => hne (congrArg SX.S e)) nd
  · have h := m.mem (SX.S x)
    rw [List.take_length] at h
    constructor
    · intro hx
      obtain ⟨y, hy, rfl⟩ := List.mem_map.mp hx
      obtain ⟨z, hz, e⟩ := List.mem_map.mp (h.mp hy)
      rw [← S_inj e]
      exact hz
    · intro hx
      have h2 := h.mpr (List.mem_map.mpr ⟨x, hx, rfl⟩)
      exact List.mem_map.mpr ⟨_, h2, rfl⟩
  · rw [List.length_map]
    have := m.len
    rw [List.length_map] at this
    exact this
theorem cr_setTx (hc : X.calm = true) : CallR X (.type "set") (rSetTx X.K X.prog X.w) := by
  intro pins s σ H vs us Q I r h
  obtain ⟨p, xs, rfl, hp, hl, q⟩ := h
  rw [Vals.ref1 r]
  obtain ⟨its, rv, pl, hz⟩ := I.list hp
  refine call_set_texts (P := X.prog) (xs := xs.map SX.S) (I.ok.hd hc) pl.isList (by simpa using strs_of_each (each_of_vals rv)) (by rw [List.length_map]; unfold scanBound; omega) fun h2 tk l m R k => ?_
  obtain ⟨ys, rfl, u, hly⟩ := uniq_of m
  have hn : H s.heap.objs.size = none := I.hok.fresh (Nat.le_refl _)
  exact ⟨.ref _, upd H s.heap.objs.size (SetXO X.prog X.w s.heap.objs.size (ys.map SX.S)), I.laid (t' := tk) k (Nat.le_refl _) (setXO_new R), rfl, q _ ys u hly hn⟩
def rSortSet (P : Program) (w : World) : List V → Hp → VK → Prop := fun vs H Q => ∃ (a : Addr) (ys : List Tx), vs = [.ref a] ∧ H a = some (SetXO P w a (ys.map SX.S)) ∧ ∀ zs q, zs.Perm ys → H q = none → Q (.ref q) (upd H q (.lst ((sortT zs).map T)))
theorem ents_texts {P : Program} {w : World} : ∀ {l : List (Int × Value)}, (∀ e ∈ l, Ent P w e) → PySem.W.EachIs IsT (l.map (·.2)) (l.map fun e => (ek e).cps.toList)
  | [], _ => .nil
  | e :: l, h => .cons (by
      obtain ⟨k, u, h1, _⟩ := h e List.mem_cons_self
      refine ⟨u, ?_⟩
      show e.2 = .str (SX.S (ek e).cps.toList) u
      unfold ek
      rw [h1]
      rfl) (ents_texts fun x hx => h x (List.mem_cons_of_mem _ hx))
theorem each_perm {vs ws : List Value} {xs : List Tx} (e : PySem.W.EachIs IsT ws xs) (p : vs.Perm ws) : ∃ zs, zs.Perm xs ∧ PySem.W.EachIs IsT vs zs := by
  have key : ∀ {us : List Value} {zs : List Tx}, PySem.W.EachIs IsT us zs → zs = us.map (fun v => (txOf v).cps.toList) := by
    intro us zs h
    induction h with
    | nil => rfl
    | cons h1 _ ih =>
      obtain ⟨t, rfl⟩ := h1
      rw [List.map_cons, ← ih]
      rfl
  have all : ∀ {us : List Value} {zs : List Tx}, PySem.W.EachIs IsT us zs → ∀ v ∈ us, ∃ k t, v = Value.str k t := by
    intro us zs h
    induction h with
    | nil => intro v hv; cases hv
    | cons h1 _ ih =>
      intro v hv
      obtain ⟨t, rfl⟩ := h1
      rcases List.mem_cons.mp hv with rfl | hv
      · exact ⟨_, t, rfl⟩
      · exact ih v hv
  have hv : ∀ v ∈ vs, ∃ k t, v = Value.str k t := fun v h => all e v (p.mem_iff.mp h)
  refine ⟨vs.map fun v => (txOf v).cps.toList, ?_, ?_⟩
  · rw [key e]
    exact p.map _
  · clear p
    induction vs with
    | nil => exact .nil
    | cons v vs ih =>
      refine .cons ?_ (ih fun x hx => hv x (List.mem_cons_of_mem _ hx))
      obtain ⟨k, t, rfl⟩ := hv v List.mem_cons_self
      exact ⟨t, rfl⟩
theorem cr_sortSet (hc : X.calm = true) (hu : X.A.units + 64 < cLine) : CallR X (.builtin "sorted") (rSortSet X.prog X.w) := by
  intro pins s σ H vs us Q I r h
  obtain ⟨a, ys, rfl, ha, q⟩ := h
  rw [Vals.ref1 r]
  obtain ⟨o, es, ep, t, ho, hex, hd, py⟩ := (I.hok a _ ha).1
  refine Calls.call_function_entry kind_sorted plain_sorted entry_sorted (args_sorted1 _) ?_
  unfold Builtin.«sorted»
  refine wpAny_bind (m := checkCount "sorted" 1 1 _) (wpAny_pure (wpAny_bind (collect_set (A := X.A.in1) (I.ok.hd hc) ⟨o, ho, hex.1, hd⟩ py.fit py.few py.ris py.led fun s1 ws k1 sz g1 o1 pm => ?_)))
  obtain ⟨zs, pz, ez⟩ := each_perm (ents_texts py.ents) pm
  have few := py.few
  have lw : ws.length = es.size := by rw [pm.length_eq, List.length_map, Array.length_toList]
  have small : ws.length ≤ sizeLine := by
    rw [lw]
    exact fits_of_scanBound few
  refine wpAny_bind (wpAny_newList ?_ small)
  have atL : (s1.heap.push (seqObj "list" ws.toArray 0)).get? s1.heap.objs.size = some (seqObj "list" ws.toArray 0) := Heap.get?_push_size _ rfl
  refine wpAny_bind (wpAny_holding (PySem.W.list_sort_data (s := { s1 with heap := s1.heap.push (seqObj "list" ws.toArray 0) }) (R := IsT) (enc := fun b : Tx => PyData.str (SX.S b)) atL ez (reads_out ez) (alike_tx zs) (sortable_tx zs) (by rw [← ez.length]; exact small) (fun b _ => ?_) fun out hlen eo => ?_))
  · show X.A.in1.units + 1 + _ < cLine
    have h1 : X.A.in1.units ≤ X.A.units + 8 := by
      show X.A.units + _ ≤ _
      first | omega | exact Nat.add_le_add_left (by decide) _
    have : (PyData.str (SX.S b)).depth ≤ 1 := by simp [PyData.depth]
    omega
  · rw [enc_le] at eo
    obtain ⟨c, hc2⟩ := sortedHeap_at (vs := ws) (out := out.toArray) atL
    have pzy : zs.Perm ys := by
      refine pz.trans ?_
      have h1 := py.keys.map (fun x : Str => x.cps.toList)
      rw [List.map_map, List.map_map] at h1
      exact h1.trans (by rw [show ((fun x : Str => x.cps.toList) ∘ SX.S) = (fun x : Tx => x) from by funext x; simp, List.map_id'])
    have kk : ∀ b u, s.heap.get? b = some u → (sortedHeap (s1.heap.push (seqObj "list" ws.toArray 0)) s1.heap.objs.size ws out.toArray).get? b = some u := fun b u e => by
      have lt := Heap.lt_size (k1 b u e)
      rw [sortedHeap_old (Nat.ne_of_lt lt) (by rw [size_push']; exact Nat.lt_succ_of_lt lt)]
      exact Heap.get?_push_of_some _ (k1 b u e)
    have hn : H s1.heap.objs.size = none := I.hok.fresh sz
    have J := I.call (ch := []) (g' := s1.gens) (d' := s1.drawn) (t' := s1.toks) (Un.laid kk sz hn) (I.hok.laid kk sz (o := .lst ((sortT zs).map T)) ⟨by rw [List.length_map, sortT_len, ← ez.length]; exact small, out, c, vals_of_each eo, hc2⟩) (by rw [g1]; exact I.bare) (fun _ z => nomatch z)
    refine wpAny_pure ⟨_, rfl, .ref s1.heap.objs.size, _, ?_, rfl, q zs _ pzy hn⟩
    have e : ({ s1 with heap := sortedHeap (s1.heap.push (seqObj "list" ws.toArray 0)) s1.heap.objs.size ws out.toArray } : Shared) = { s with heap := sortedHeap (s1.heap.push (seqObj "list" ws.toArray 0)) s1.heap.objs.size ws out.toArray, gens := s1.gens, drawn := s1.drawn, toks := s1.toks } := by
      cases s1
      cases s
      cases o1
      rfl
    rw [e]
    exact J
end
end Wt
set_option Elab.async false
set_option linter.all false
set_option maxRecDepth 100000
set_option maxHeartbeats 2000000
/-! text[::-1]; rules with the part given; lists put behind one another -/
namespace Wt
open PySem PySem.Spec PyProof.Rows L2 Evl Wc
theorem rev_range (a : Tx) : (List.range a.length).map (fun k => a.getD (a.length - 1 - k) 0) = a.reverse := by
  apply List.ext_getElem
  · simp
  · intro i h1 h2
    have hl : i < a.length := by simpa using h1
    rw [List.getElem_map, List.getElem_range, List.getElem_reverse, List.getD_eq_getElem?_getD, List.getElem?_eq_getElem (by omega)]
    rfl
theorem made_rev (a : Tx) (t u : Tok) : sliceMade (SX.S a) t none none (some ((-1 : Int), u)) = .str (SX.S a.reverse) := by
  unfold sliceMade slicePicked
  rw [if_neg (by
    rw [show ((((some ((-1 : Int), u)).map (·.1)).getD 1 == 1)) = false from rfl]
    simp)]
  show Made.str ⟨((Builtin.Str.strSliceIndices none none (-1) (SX.S a).length).filterMap ((SX.S a).cps[·]?)).toArray⟩ = _
  rw [picked_rev, filterMap_get, List.map_map]
  · have e : (SX.S a).length = a.length := S_length a
    rw [e]
    congr 1
    show (⟨((List.range a.length).map fun k => (SX.S a).cps.getD (a.length - 1 - k) 0).toArray⟩ : Str) = SX.S a.reverse
    rw [← rev_range]
    congr 2
    apply List.map_congr_left
    intro k hk
    show a.toArray.getD _ 0 = _
    simp [Array.getD, List.getD_eq_getElem?_getD]
    split
    · rename_i h
      rw [List.getElem?_eq_getElem h]
      rfl
    · rename_i h
      rw [List.getElem?_eq_none (by omega)]
      rfl
  · intro i hi
    obtain ⟨k, hk, rfl⟩ := List.mem_map.mp hi
    have := List.mem_range.mp hk
    show _ < (SX.S a).length
    omega
def tRevT (te : TE) : TE := fun σ H Q => te σ H fun x H1 => ∃ a : Tx, x = T a ∧ a.length ≤ 16777216 ∧ Q (T a.reverse) H1
section
variable {X : Cx}
theorem pe_revT {e : Expr} {te : TE} {k : Nat} {p1 p2 p3 pos : Pos} (he : PE X e te) : PE X (.Subscript e (.Slice none none (some (.UnaryOp .USub (.Constant (.int 1) k p1) p2)) p3) pos) (tRevT te) := by
  refine ⟨fun pins s σ H Q I h => Subscript_ (thn (he.run pins s σ H _ I h) fun v s1 ⟨x, H1, I1, r1, q1⟩ => ?_)⟩
  obtain ⟨a, ex, hz, q⟩ := q1
  subst ex
  obtain ⟨t, rfl⟩ := r1
  have neg : PO X (some (.UnaryOp .USub (.Constant (.int 1) k p1) p2)) (tPart (tUn (rU fun i => .int (-i)) (tC (.int 1)))) := po_some (pe_un un_neg pe_int)
  refine wpAny_Slice (thn (po_none.run pins s1 σ H1 (fun o G => o = none ∧ G = H1) I1 ⟨rfl, rfl⟩) fun vl s2 ⟨l, H2, I2, pl, el, e2⟩ => ?_)
  subst el e2
  refine thn (po_none.run pins s2 σ H2 (fun o G => o = none ∧ G = H2) I2 ⟨rfl, rfl⟩) fun vu s3 ⟨u, H3, I3, pu, eu, e3⟩ => ?_
  subst eu e3
  refine thn (neg.run pins s3 σ H3 (fun o G => o = some (-1) ∧ G = H3) I3 ⟨1, rfl, -1, rfl, rfl, rfl⟩) fun vs s4 ⟨o, H4, I4, ps, eo, e4⟩ => ?_
  subst eo e4
  obtain ⟨l', rfl, hl⟩ := IsPart.raw pl
  obtain ⟨u', rfl, hu⟩ := IsPart.raw pu
  obtain ⟨st, rfl, hst⟩ := IsPart.raw ps
  cases l' with
  | some z => cases hl
  | none => cases u' with
    | some z => cases hu
    | none => cases st with
      | none => cases hst
      | some z =>
        obtain ⟨n, w⟩ := z
        have hn : n = -1 := Option.some.inj hst
        subst hn
        have I5 : Inv X pins σ H4 { s4 with heap := s4.heap.push { cls := .type "slice", data := .fields #[partValue none, partValue none, partValue (some (-1, w))] } } := I4.kept (t' := s4.toks) fun b ob q => Heap.get?_push_of_some _ q
        refine tail_any (T := "str") (ops := [.str (SX.S a) t, .ref s4.heap.objs.size]) (typeIs_str _ _ _) (PySem.F.slot_str_getitem.lookup) ?_ (by with_unfolding_all rfl)
        refine wpAny_getItem_str_slice (l := none) (u := none) (st := some (-1, w)) ⟨_, Heap.get?_push_size _ rfl, rfl, rfl⟩ rfl ?_
        rw [made_rev]
        refine ⟨?_, .str _, _, I5.tok _, ⟨_, rfl⟩, q⟩
        rw [S_length, List.length_reverse]
        exact Nat.le_trans hz (by decide)
end
section
variable {X : Cx} (P : Program) (w : World) (K : PySem.W.Frag)
def rSortX (K : PySem.W.Frag) (P : Program) (w : World) : List V → Hp → VK → Prop := fun vs H Q => rSortTx K vs H Q ∨ rSortSet P w vs H Q
theorem kset (hc : X.calm = true := by rfl) (hK : X.K = K := by rfl) (hP : X.prog = P := by rfl) (hw : X.w = w := by rfl) : CallR X (.type "set") (rSetTx K P w) := by
  subst hK hP hw
  exact cr_setTx hc
theorem ksorted (hu : X.A.units + 64 < cLine) (hc : X.calm = true := by rfl) (hK : X.K = K := by rfl) (hP : X.prog = P := by rfl) (hw : X.w = w := by rfl) : CallR X (.builtin "sorted") (rSortX K P w) := by
  subst hK hP hw
  exact CallR.or (cr_sortTx hu) (cr_sortSet hc hu)
theorem krev {e : Expr} {te : TE} (h : PE X e (tRevL X.K te)) (hK : X.K = K := by rfl) : PE X e (tRevL K te) := hK ▸ h
end
section
variable {K : PySem.W.Frag} {P : Program} {w : World} {σ : L2.St} {H : Hp} {te : TE}
theorem ev_revT {a : Tx} (h : Ev te σ H (T a)) (hl : a.length ≤ 16777216) : Ev (tRevT te) σ H (T a.reverse) := fun H1 e _ q => h H1 e _ fun H2 e2 => ⟨a, rfl, hl, q H2 e2⟩
theorem el_revL {p : Addr} {xs : List V} (h : Ev te σ H (.ref p)) (hp : SqL K H p xs) : EvL (tRevL K te) σ H xs.reverse := fun H1 e _ q => h H1 e _ fun H2 e2 => ⟨p, xs, rfl, ex_l (e.trans e2) hp, fun r hr => q r _ (fresh_back e2 hr) (e2.trans (Ex.new hr)) upd_same⟩
theorem el_revN {xs : List V} (h : EvL te σ H xs) : EvL (tRevL K te) σ H xs.reverse := fun H1 e _ q => h H1 e _ fun p H2 hp e2 h2 => ⟨p, xs, rfl, sq_of h2, fun r hr => q r _ (fresh_back e2 hr) (e2.trans (Ex.new hr)) upd_same⟩
/-- sorted(set(..)), of a new list of texts -/
theorem el_sortSet {xs : List Tx} (h : EvL te σ H (xs.map T)) (hl : xs.length ≤ 4000) (Q : VK) (k : ∀ p ys H1, Uniq xs ys → ys.length ≤ xs.length → H p = none → Ex H H1 → H1 p = some (.lst ((sortT ys).map T)) → Q (.ref p) H1) :
    tCB (rSortX K P w) (tCons (tCB (rSetTx K P w) (tCons te tNil)) tNil) σ H Q := h H (Ex.refl _) _ fun p H1 hp e1 h1 => ⟨p, xs, rfl, sq_of h1, hl, fun q ys u hly hq => .inr ⟨q, ys, rfl, upd_same, fun zs r pz hr => by
  have hr1 : H1 r = none := fresh_back (Ex.new hq) hr
  exact k r zs _ ⟨pz.nodup_iff.mpr u.nd, fun x => (pz.mem_iff).trans (u.mem x)⟩ (by rw [pz.length_eq]; exact hly) (fresh_back e1 hr1) ((e1.trans (Ex.new hq)).trans (Ex.new hr)) upd_same⟩⟩
/-- sorted(..) of a standing list of texts -/
theorem el_sorted {p : Addr} {xs : List Tx} (h : Ev te σ H (.ref p)) (hp : SqL K H p (xs.map T)) : EvL (tCB (rSortX K P w) (tCons te tNil)) σ H ((sortT xs).map T) := fun H1 e _ q => h H1 e _ fun H2 e2 => .inl ⟨p, xs, rfl, ex_l (e.trans e2) hp, fun r hr => q r _ (fresh_back e2 hr) (e2.trans (Ex.new hr)) upd_same⟩
end
end Wt
set_option Elab.async false
set_option linter.all false
set_option maxRecDepth 100000
set_option maxHeartbeats 2000000
/-! small things for lists and tests -/
namespace Wt
open PySem PySem.Spec PyProof.Rows L2 Evl Wc
section
variable {K : PySem.W.Frag} {σ : L2.St} {H : Hp} {ta tb tc te : TE} {x y z : V}
theorem ev_chain {r r' : R2} {b1 b2 : Bool} (ha : Ev ta σ H x) (hb : Ev tb σ H y) (h1 : RV r x y H (.bl b1)) (hc : Ev tc σ H z) (h2 : RV r' y z H (.bl b2)) : Ev (tChain r r' ta tb tc) σ H (.bl (b1 && b2)) := fun H1 e1 Q q =>
  ha H1 e1 _ fun H2 e2 => hb H2 (e1.trans e2) _ fun H3 e3 => h1 H3 ((e1.trans e2).trans e3) _ fun H4 e4 => ⟨b1, rfl, by
    have e14 := (e2.trans e3).trans e4
    cases b1 with
    | true =>
      show tc σ H4 _
      exact hc H4 (e1.trans e14) _ fun H5 e5 => h2 H5 ((e1.trans e14).trans e5) _ fun H6 e6 => q H6 ((e14.trans e5).trans e6)
    | false => exact q H4 e14⟩
theorem erase_perm {α : Type} {xs : List α} {d : Nat} (h : d < xs.length) : (xs[d] :: xs.eraseIdx d).Perm xs := by
  rw [List.eraseIdx_eq_take_drop_succ]
  have e : xs = xs.take d ++ xs[d] :: xs.drop (d + 1) := by
    rw [List.getElem_cons_drop, List.take_append_drop]
  conv => rhs; rw [e]
  exact List.perm_middle.symm
/-- the signs of a text's value -/
def unT : V → Tx
  | .str x => x.cps.toList
  | _ => []
theorem map_unT (xs : List Tx) : (xs.map T).map unT = xs := by
  rw [List.map_map]
  conv => rhs; rw [← List.map_id xs]
  rfl
theorem perm_texts {ys : List V} {xs : List Tx} (h : ys.Perm (xs.map T)) : ∃ zs : List Tx, ys = zs.map T ∧ zs.Perm xs := by
  obtain ⟨zs, rfl, _⟩ := texts_of (acc := ys) (g := fun _ => True) fun v hv => by
    obtain ⟨t, _, rfl⟩ := List.mem_map.mp (h.mem_iff.mp hv)
    exact ⟨t, rfl, trivial⟩
  have := h.map unT
  rw [map_unT, map_unT] at this
  exact ⟨zs, rfl, this⟩
theorem seqIx_nat {d n : Nat} (h : d < n) : seqIndex? (d : Int) n = some d := by
  have : ¬ (d : Int) < 0 := by omega
  unfold seqIndex?
  simp [this, h]
/-- lists put behind one another: both new | the first stands -/
theorem el_catNN {xs ys : List V} (ha : EvL ta σ H xs) (hb : EvL tb σ H ys) (hz : xs.length + ys.length ≤ 100000) : EvL (tOp rCat ta tb) σ H (xs ++ ys) := fun H1 e1 Q q =>
  ha H1 e1 _ fun p H2 hp e2 h2 => hb H2 (e1.trans e2) _ fun r H3 hr e3 h3 => ⟨p, r, xs, ys, rfl, rfl, e3 _ _ h2, h3, sz_of hz, fun n hn => q n _ (fresh_back (e2.trans e3) hn) ((e2.trans e3).trans (Ex.new hn)) upd_same⟩
theorem el_catVN {p : Addr} {xs ys : List V} (ha : Ev ta σ H (.ref p)) (hp : H p = some (.lst xs)) (hb : EvL tb σ H ys) (hz : xs.length + ys.length ≤ 100000) : EvL (tOp rCat ta tb) σ H (xs ++ ys) := fun H1 e1 Q q =>
  ha H1 e1 _ fun H2 e2 => hb H2 (e1.trans e2) _ fun r H3 hr e3 h3 => ⟨p, r, xs, ys, rfl, rfl, ((e1.trans e2).trans e3) _ _ hp, h3, sz_of hz, fun n hn => q n _ (fresh_back (e2.trans e3) hn) ((e2.trans e3).trans (Ex.new hn)) upd_same⟩
theorem ev_lenU {p : Addr} {xs : List V} (h : Ev ta σ H (.ref p)) (hp : SqT K H p xs) : Ev (tCB (rLenS K) (tCons ta tNil)) σ H (.int (xs.length : Int)) := fun H1 e Q q => h H1 e _ fun H2 e2 => ⟨p, xs, rfl, .inr (ex_t (e.trans e2) hp), q H2 e2⟩
end
end Wt
set_option Elab.async false
set_option linter.all false
set_option maxRecDepth 100000
set_option maxHeartbeats 2000000
/-! comprehensions of so many turns as are drawn -/
namespace Wt
open PySem PySem.Spec PyProof.Rows L2 Evl Wc
section
variable {K : PySem.W.Frag} {fa : Addr} {σ : L2.St} {H : Hp} {te te0 : TE}
theorem lcRD {j : Nat} {vs : List Nat} {lo N c m0 : Nat} (good : V → Prop) (hc : Dw fa σ m0 te0 (GdI (lo : Int) (N : Int))) (hN : N ≤ 1000) (G : GF fa (m0 + N * c) H) (hw : ∀ x, wipe ((wipe σ vs).set j (some x)) vs = wipe σ vs)
    (he : ∀ x n H1, Rf fa n H H1 → GF fa c H1 → ∀ Q' : VK, (∀ y H2, good y → Rf fa c H1 H2 → Q' y H2) → te ((wipe σ vs).set j (some x)) H1 Q') (Q : VK)
    (k : ∀ p H2 acc, H p = none → Rf fa (m0 + N * c) H H2 → H2 p = some (.lst acc) → lo ≤ acc.length → acc.length ≤ N → (∀ v ∈ acc, good v) → Q (.ref p) H2) : tLc (iRng1 (tCons te0 tNil)) (gName j) tYes te vs σ H Q :=
  hc H (G.mono (by omega)) _ fun v H1 ⟨n, hv, h0, h1⟩ R1 => by
    obtain ⟨n, rfl⟩ := Int.eq_ofNat_of_zero_le (show 0 ≤ n by omega)
    subst hv
    have hn : n ≤ N := by omega
    have hnc : n * c ≤ N * c := Nat.mul_le_mul_right c hn
    have G1 : GF fa (N * c) H1 := G.go R1 (by omega)
    have h : tLc (iRng1 fun _ H' Q' => Q' [.int (n : Int)] H') (gName j) tYes te vs σ H1 Q := by
      refine lcD good c G1.is (src_range1 (n := n) (fun H2 e2 Q2 q => q H2 (Ex.refl _)) (by omega)) (fun z => z) (by omega) hw (fun i x H2 hi _ R2 Q2 q2 => ?_) fun p H2 acc hp R2 h2 hl hg => k p H2 acc (R1.free G.is hp G1.is) ((R1.trans R2).mono (by omega)) h2 (by omega) (by omega) hg
      have hic : i * c + c ≤ N * c := by
        have := Nat.mul_le_mul_right c (show i + 1 ≤ N by omega)
        rw [Nat.succ_mul] at this
        exact this
      exact he x _ H2 (R1.trans R2) (G1.go R2 hic) Q2 q2
    exact h
/-- over a standing list of texts, with a test that draws; what is kept is of the list -/
theorem texts_GdT {acc : List V} {ok : Nat → Prop} {lo n : Nat} (h : ∀ v ∈ acc, GdT ok lo n v) : ∃ ws : List Tx, acc = ws.map T ∧ ∀ t ∈ ws, lo ≤ t.length ∧ t.length ≤ n ∧ ∀ c ∈ t, ok c := texts_of fun v hv => by
  obtain ⟨s, rfl, h1, h2, h3⟩ := h v hv
  exact ⟨s, rfl, h1, h2, h3⟩
theorem dI_sub {ta tb : TE} {m1 m2 : Nat} {a b c d : Int} (h1 : Dw fa σ m1 ta (GdI a b)) (h2 : Dw fa σ m2 tb (GdI c d)) : Dw fa σ (m1 + m2) (tOp (rI0 fun i j => .int (i - j)) ta tb) (GdI (a - d) (b - c)) := dw_op h1 h2 fun x y ⟨i, hi, h3, h4⟩ ⟨j, hj, h5, h6⟩ => ⟨.int (i - j), ⟨i - j, rfl, by omega, by omega⟩, fun H Q q => ⟨i, j, hi, hj, q⟩⟩
theorem dI_wk {m : Nat} {a b c d : Int} (h : Dw fa σ m te (GdI a b)) (h1 : c ≤ a := by omega) (h2 : b ≤ d := by omega) : Dw fa σ m te (GdI c d) := dw_as h fun v ⟨i, hi, h3, h4⟩ => ⟨i, hi, by omega, by omega⟩
theorem dT_wk {m : Nat} {ok : Nat → Prop} {a b c d : Nat} (h : Dw fa σ m te (GdT ok a b)) (h1 : c ≤ a := by omega) (h2 : b ≤ d := by omega) : Dw fa σ m te (GdT ok c d) := dw_as h fun v ⟨i, hi, h3, h4, h5⟩ => ⟨i, hi, by omega, by omega, h5⟩
/-- one of displayed numbers -/
theorem dI_oneL {i : Nat} {ns : List Int} {lo hi : Int} (h0 : σ[i]? = some (some (.ref fa))) (h : ∀ H, EvL te σ H (ns.map V.int)) (hg : ∀ n ∈ ns, lo ≤ n ∧ n ≤ hi) (hs : ns ≠ []) (hl : ns.length ≤ 1000) : Dw fa σ 1 (tCall (sp_one K) [] E0 (tCons (tVar i) (tCons te tNil))) (GdI lo hi) :=
  dw_oneL h0 h (fun v hv => by
    obtain ⟨n, hn, rfl⟩ := List.mem_map.mp hv
    exact ⟨n, rfl, (hg n hn).1, (hg n hn).2⟩) (fun z => hs (List.map_eq_nil_iff.mp z)) (by rw [List.length_map]; omega)
/-- a list comprehension over a list, at which draws are made: test and step -/
theorem lcDT {wi : TI} {tt : TT} {j : Nat} {vs : List Nat} {n : Nat} {own : Addr → Prop} {P : Nat → V → Hp → Prop} {Q : VK} (good : V → Prop) (c : Nat) (hf : H fa ≠ none) (hs : Src wi σ H n own P) (ho : ¬ own fa) (hn : n ≤ 40000) (hw : ∀ x, wipe ((wipe σ vs).set j (some x)) vs = wipe σ vs)
    (ht : ∀ (i : Nat) (x : V) H1, i < n → P i x H1 → Rf fa (i * c) H H1 → ∀ Q' : Bool → Hp → Prop, (∀ b H2, Rf fa c H1 H2 → Q' b H2) → tt ((wipe σ vs).set j (some x)) H1 Q')
    (he : ∀ (i : Nat) (x : V) H0 H1, i < n → P i x H0 → Rf fa c H0 H1 → ∀ Q' : VK, (∀ y H2, good y → Ex H1 H2 → Q' y H2) → te ((wipe σ vs).set j (some x)) H1 Q')
    (k : ∀ p H2 acc, H p = none → Rf fa (n * c) H H2 → H2 p = some (.lst acc) → acc.length ≤ n → (∀ v ∈ acc, good v) → Q (.ref p) H2) : tLc wi (gName j) tt te vs σ H Q :=
  hs H (Ex.refl H) _ fun J H1 S e1 w hS => fun Dl hD => by
    have hDH : H Dl = none := fresh_back e1 hD
    have hne : Dl ≠ fa := fun z => hf (z ▸ hDH)
    have hf1 : H1 fa ≠ none := by
      cases hq : H fa with
      | none => exact absurd hq hf
      | some o => rw [e1 _ _ hq]; exact fun z => nomatch z
    refine lc_it w (Qd := fun H3 => Q (.ref Dl) H3) (fun i Hi => Rf fa (i * c) H1 Hi ∧ ∃ acc, Hi Dl = some (.lst acc) ∧ acc.length ≤ i ∧ ∀ v ∈ acc, good v) ?_ (fun i Hi hi p => hS (fun b => b = fa) Hi (by rintro b rfl; exact ⟨hf, ho⟩) p.1.keep) ?_ ?_
    · exact ⟨((Rf.refl H1).upd hD hf1).mono (Nat.zero_le _), [], upd_same, Nat.le_refl _, fun v hv => nomatch hv⟩
    · rintro i x Ha Hb hi ⟨R, acc, h1, h2, h3⟩ ⟨ey, hP⟩
      refine ⟨hw x, ?_⟩
      have Rb : Rf fa (i * c) H1 Hb := R.then ey
      refine ht i x Hb hi hP (Rf.pre e1 Rb) _ fun b H3 R3 => ?_
      have h13 : H3 Dl = some (.lst acc) := R3.at_ (ey _ _ h1) hne
      have Rc : Rf fa ((i + 1) * c) H1 H3 := (Rb.trans R3).mono (by rw [Nat.succ_mul]; exact Nat.le_refl _)
      cases b with
      | true =>
        show te ((wipe σ vs).set j (some x)) H3 fun y H4 => _
        refine he i x Hb H3 hi hP R3 _ fun y H4 hy e4 => ⟨acc, e4 _ _ h13, sz_lt (by omega), (Rc.then e4).upd hD hf1, acc ++ [y], upd_same, by rw [List.length_append]; exact Nat.succ_le_succ h2, fun v hv => ?_⟩
        rcases List.mem_append.mp hv with hv | hv
        · exact h3 v hv
        · rw [List.mem_singleton.mp hv]
          exact hy
      | false => exact ⟨Rc, acc, h13, Nat.le_succ_of_le h2, h3⟩
    · rintro H3 ⟨R, acc, h1, h2, h3⟩
      exact k Dl H3 acc hDH (Rf.pre e1 R) h1 h2 h3
/-- the list is the value of a reading -/
theorem lc_of {te0 : TE} {g : TG} {tt : TT} {vs : List Nat} {Q : VK} (h : te0 σ H fun v H1 => tLc (iList K (fun _ H' Q' => Q' v H')) g tt te vs σ H1 Q) : tLc (iList K te0) g tt te vs σ H Q := h
end
end Wt
set_option Elab.async false
set_option linter.all false
set_option maxRecDepth 100000
set_option maxHeartbeats 2000000
/-! enumerate(t), t a tuple -/
namespace Wt
open PySem PySem.Spec PyProof.Rows L2 Evl Wc
theorem meets_enum1 {v : Value} {o : Obj} {Hh : Heap → Prop} (B : Begins v o Hh) :
    Meets (Builtin.«enumerate.__new__» ⟨[.type "enumerate", v], []⟩) (fun _ R s => Hh s.heap ∧ R (.ok (.ret (.ref (s.heap.push o).objs.size))) { s with heap := (s.heap.push o).push { cls := .type "enumerate", data := .fields #[.none, .bool false, .ref s.heap.objs.size, rawInt 0, .none, .none] } }) :=
  .of_wp fun P w A R s h => by
    obtain ⟨hp, g, d, tk, os⟩ := s
    obtain ⟨h1, h2⟩ := h
    have hsub := sub_enumerate
    have begin_ : ∀ {A' : Around} {E : Value → Shared → Prop} {Q : Value → Shared → Prop}, Q (.ref hp.objs.size) ⟨hp.push o, g, d, tk, os⟩ → wpAny (model P w) A' (pyIter v) Q E ⟨hp, g, d, tk, os⟩ := fun q => B.iter P w _ _ ⟨hp, g, d, tk, os⟩ _ h1 q
    wp_walk
    refine wpAny_stack_any fun st => wpAny_pure ?_
    split
    · rename_i c _ _ _ _ _
      cases (c == Value.type "enumerate")
      · wp_walk using begin_
        exact ⟨_, rfl, h2⟩
      · wp_walk using begin_
        exact ⟨_, rfl, h2⟩
    · wp_walk using begin_
      exact ⟨_, rfl, h2⟩
section
variable {P : Program} {w : World} {A : Around} {E : Value → Shared → Prop} {s : Shared}
theorem call_enum1 {v : Value} {o : Obj} {Hh : Heap → Prop} {Q : Value → Shared → Prop} (B : Begins v o Hh) (h1 : Hh s.heap)
    (h : ∀ h', IsEnum h' (s.heap.objs.size + 1) s.heap.objs.size 0 .none → h'.get? s.heap.objs.size = some o → (∀ b o, s.heap.get? b = some o → h'.get? b = some o) → Q (.ref (s.heap.objs.size + 1)) { s with heap := h' }) :
    wpAny (model P w) A (call (.type "enumerate") [v]) Q E s := by
  refine callType_new F.called_enumerate (by decide) (F.typeCall_enumerate_1 _) (F.newCall_enumerate_1 _) (fun obj => F.args_object_init_2 obj _) F.entry_enumerate_new (meets_enum1 B) ⟨h1, ?_⟩
  have z : (s.heap.push o).objs.size = s.heap.objs.size + 1 := Heap.size_push ..
  show _ ∧ _
  rw [z]
  have he : IsEnum ((s.heap.push o).push { cls := .type "enumerate", data := .fields #[.none, .bool false, .ref s.heap.objs.size, rawInt 0, .none, .none] }) (s.heap.objs.size + 1) s.heap.objs.size 0 .none := by
    rw [← z]
    exact Heap.get?_push_size (s.heap.push o) rfl
  exact ⟨⟨_, he, rfl⟩, h _ he (Heap.get?_push_of_some _ (Heap.get?_push_size _ B.free)) fun b u x => Heap.get?_push_of_some _ (Heap.get?_push_of_some _ x)⟩
end
/-- the tuple at a, each item in a new pair with its number -/
def ItEt (K : PySem.W.Frag) (a : Addr) : It :=
  ⟨fun i H => ∃ (xs : List V) (x : V), SqT K H a xs ∧ xs[i]? = some x, fun i H v H' => ∃ T x, v = .ref T ∧ H T = none ∧ H' = upd H T (.tup [.int (i : Nat), x]) ∧ ∀ xs, SqT K H a xs → xs[i]? = some x, fun i H => ∃ xs : List V, SqT K H a xs ∧ xs.length ≤ i⟩
theorem turn_enumT {P : Program} {w : World} {K : PySem.W.Frag} {elts : List Expr} {kk : Nat} {tpos : Pos} (a e it : Addr) (hne : e ≠ it) (ha1 : a ≠ it) (ha2 : a ≠ e) :
    Turn P w K (.Tuple elts kk tpos) (ItEt K a) [e, it] e (fun i h => (∃ old, IsEnum h e it ((i : Nat) : Int) old) ∧ h.IsTupleIter it a i) where
  mem := List.mem_cons_self
  obj := fun i h st b hb => by
    obtain ⟨⟨old, he⟩, o, ho, hc, hd⟩ := st
    rcases List.mem_cons.mp hb with z | z
    · rw [z]
      exact ⟨_, he, fun v q => nomatch q⟩
    · rw [List.mem_singleton.mp z]
      exact ⟨o, ho, fun v q => by rw [hd] at q; cases q⟩
  keep := fun i h h' st k => let ⟨⟨old, he⟩, hi⟩ := st; ⟨⟨old, k e List.mem_cons_self _ he⟩, hi.at fun o q => k it (by simp) o q⟩
  item := by
    intro X hP hw hK hc i pins s σ H E I hf st hg
    subst hP hw hK
    obtain ⟨⟨old, he⟩, hit⟩ := st
    obtain ⟨xs, x, hq, hx⟩ := hg
    obtain ⟨its, rv, p, hz⟩ := I.tuple hq
    obtain ⟨u, hu, ru⟩ := rv.get hx
    have le : e < s.heap.objs.size := Heap.lt_size he
    have li : it < s.heap.objs.size := by obtain ⟨_, q, _⟩ := hit; exact Heap.lt_size q
    have hlt : i < its.toArray.size := by
      rw [List.size_toArray]
      exact (List.getElem?_eq_some_iff.mp hu).1
    have D := Draws.tuple (prog := X.prog) (w := X.w) (A := X.A.in1) (I.ok.hd hc) it a ha1 its.toArray
    refine wpAny_pyNext_enum_itemD D he ⟨hit, p⟩ hlt hne (by simp [hne, ha2.symm]) fun y h' tk hP2 ho hst hT hsz hk => ?_
    have hyu : y = u := by
      have e1 : its.toArray[i]? = some u := by simpa using hu
      rw [e1] at hP2
      exact (Option.some.inj hP2).symm
    subst hyu
    refine ⟨_, rfl, wpAny_letOwnedTupleGo_enum (s := { s with heap := h', toks := tk + 1 }) ho fun h2 he2 sb => ?_⟩
    have hT2 : h2.get? s.heap.objs.size = some { cls := .type "tuple", data := .seq #[.int i tk, y] } := (sb.2 _ (Nat.ne_of_gt le)).trans hT
    have new : ObjOk X.prog X.w (upd H s.heap.objs.size (.tup [.int (i : Nat), x])) h2 s.heap.objs.size (.tup [.int (i : Nat), x]) := ⟨by show 2 ≤ sizeLine; decide, [.int i tk, y], .cons ⟨_, rfl⟩ (.cons ru .nil), ⟨_, hT2, rfl, _, rfl⟩⟩
    have I1 : Inv X pins σ (upd H s.heap.objs.size (.tup [.int (i : Nat), x])) { s with heap := h2, toks := tk + 1 } :=
      I.turnedNew (ch := [e, it]) (fun b ob hb q => (sb.2 b (fun z => hb (by simp [z]))).trans (hk b ob (fun z => hb (by simp [z])) (fun z => hb (by simp [z])) q)) hf (Nat.le_refl _) new
    refine ⟨.ref s.heap.objs.size, _, I1, rfl, ⟨_, x, rfl, I.hok.fresh (Nat.le_refl _), rfl, fun ys hy => by rw [I.tuple_inj hy hq]; exact hx⟩, ⟨⟨y, ?_⟩, hst.1.at fun o q => (sb.2 it (Ne.symm hne)).trans q⟩, fun b hb => ?_⟩
    · rw [show ((i + 1 : Nat) : Int) = (i : Int) + 1 by omega]
      exact he2
    · have lb : b < s.heap.objs.size := by
        rcases List.mem_cons.mp hb with z | z
        · rw [z]; exact le
        · rw [List.mem_singleton.mp z]; exact li
      rw [upd_ne (Nat.ne_of_lt lb)]
      exact (hf b hb).1
  done := by
    intro X hP hw hK hc i pins s σ H E I hf st hg
    subst hP hw hK
    obtain ⟨⟨old, he⟩, hit⟩ := st
    obtain ⟨xs, hq, hx⟩ := hg
    obtain ⟨its, rv, p, hz⟩ := I.tuple hq
    obtain ⟨f0, f1, f2, f3, f4, f5⟩ := hf it (by simp)
    have hl := rv.length
    have none_ : its.toArray[i]? = none := by simp; omega
    have D : Draws X.prog X.w X.A.in1 it [it, a] 0 (fun _ _ => False) (fun _ h => h.IsTupleIter it a i ∧ h.IsTuple a its.toArray) := ⟨fun _ _ st => let ⟨o, ho, _⟩ := st.1; ⟨o, ho⟩, fun _ _ _ st k => ⟨st.1.at fun o q => k it (by simp) o q, st.2.at fun o q => k a (by simp) o q⟩, fun _ _ _ _ z => absurd z (Nat.not_lt_zero _), fun s Q E st hE => wpAny_nextOf_tuple_end (I.ok.hd hc) st.1 st.2 none_ hE⟩
    exact wpAny_pyNext_enum_endD D he ⟨hit, p⟩ fun h' eb => ⟨rfl, I.turned (t' := s.toks) (fun b o hb q => eb b o hb q) f0 f1 f3 f4 f5⟩
  self := fun A i s Q E st h => let ⟨⟨_, he⟩, _⟩ := st; wpAny_pyIter_enum he h
def iEnumT (K : PySem.W.Frag) (ta : TA) : TI := fun σ H R => ta σ H fun vs H1 => ∃ a xs, vs = [.ref a] ∧ SqT K H1 a xs ∧ R (ItEt K a) H1
theorem pi_enumT {X : Cx} {e : Expr} {ta : TA} {p pos tpos : Pos} {elts : List Expr} {kk : Nat} (hg : Gl X "enumerate") (hm : X.mg "enumerate" = none) (ha : PA X [e] ta) (hs : starEach [e] X.env = [(false, eval e X.env)] := by rfl) : PI X (.Tuple elts kk tpos) (.Call (.Name "enumerate" p) [e] [] pos) (iEnumT X.K ta) := by
  refine ⟨fun pins s σ H R I h => Call_ (ld_blt I hg hm boot_enumerate (PyProof.Rows.callWith_type1 (thn (ha.run pos pins s σ H _ I h) fun us s1 ⟨vs, H1, I1, r1, q1⟩ => ?_) hs rfl))⟩
  obtain ⟨a, xs, ex, hq, q⟩ := q1
  subst ex
  obtain rfl := Vals.ref1 r1
  obtain ⟨its, rv, pt, hz⟩ := I1.tuple hq
  have la : a < s1.heap.objs.size := by obtain ⟨o, ho, _⟩ := pt; exact Heap.lt_size ho
  refine call_enum1 (begins_tuple a its.toArray) pt fun h' he hi hk => wpAny_pyIter_enum he ?_
  have I2 : Inv X pins σ H1 { s1 with heap := h' } := I1.kept (t' := s1.toks) hk
  refine ⟨s1.heap.objs.size + 1, [s1.heap.objs.size + 1, s1.heap.objs.size], _, _, H1, rfl, I2, turn_enumT a (s1.heap.objs.size + 1) s1.heap.objs.size (Nat.succ_ne_self _) (Nat.ne_of_lt la) (Nat.ne_of_lt (Nat.lt_succ_of_lt la)), ⟨⟨.none, he⟩, ⟨_, hi, rfl, rfl⟩⟩, fun b hb => ?_, q⟩
  have hle : s1.heap.objs.size ≤ b := by
    rcases List.mem_cons.mp hb with z | z
    · rw [z]; exact Nat.le_succ _
    · rw [List.mem_singleton.mp z]; exact Nat.le_refl _
  exact I1.fpOk hle (I1.hok.fresh hle)
section
variable {K : PySem.W.Frag} {σ : L2.St} {H : Hp}
theorem walk_enumT {a : Addr} {xs : List V} : Walk (ItEt K a) xs.length (fun H => SqT K H a xs) (YPair (fun i => some (.int (i : Nat))) (fun i => xs[i]?)) := by
  refine ⟨fun i _ hi q => ⟨xs, xs[i], q, by simp [hi]⟩, fun _ q => ⟨xs, q, Nat.le_refl _⟩, fun i H v H' _ q y => ?_⟩
  obtain ⟨t, x, y1, y2, y3, y4⟩ := y
  exact ⟨t, .int (i : Nat), x, y1, y2, y3, rfl, y4 xs q⟩
theorem src_enumT {a : Addr} {xs : List V} {tl : TE} (h : Ev tl σ H (.ref a)) (hs : SqT K H a xs) : Src (iEnumT K (tCons tl tNil)) σ H xs.length (fun b => b = a) (fun i v Hb => ∃ p x, v = .ref p ∧ xs[i]? = some x ∧ Hb p = some (.tup [.int (i : Nat), x])) := fun H1 e R q =>
  h H1 e _ fun H2 e2 => ⟨a, xs, rfl, ex_t (e.trans e2) hs, q _ H2 _ e2 (walk_enumT.mono (fun _ z => z) fun i Ha v Hb _ _ hy => by
    obtain ⟨p, y, x, rfl, hn, rfl, h1, h2⟩ := hy
    refine ⟨Ex.new hn, p, x, rfl, h2, ?_⟩
    rw [← Option.some.inj h1]
    exact upd_same) fun B Ha hB ea => ea.tp (fun z => (hB a z).2 rfl) (ex_t (e.trans e2) hs)⟩
theorem kiet {X : Cx} (K : PySem.W.Frag) {tg it : Expr} {ta : TA} (h : PI X tg it (iEnumT X.K ta)) (hK : X.K = K := by rfl) : PI X tg it (iEnumT K ta) := hK ▸ h
theorem kiza {X : Cx} (K : PySem.W.Frag) {tg it : Expr} {ta : TA} (h : PI X tg it (RZ.iZipA X.K ta)) (hK : X.K = K := by rfl) : PI X tg it (RZ.iZipA K ta) := hK ▸ h
theorem kfl {X : Cx} (K : PySem.W.Frag) {e : Expr} {ta : TE} {f : Str} (h : PE X e (tFld X.K ta f)) (hK : X.K = K := by rfl) : PE X e (tFld K ta f) := hK ▸ h
theorem walk_zipT {a b : Addr} {xs ys : List V} {n : Nat} (hn : n = min xs.length ys.length) : Walk (RZ.ItzT K a b) n (fun H => SqT K H a xs ∧ SqT K H b ys) (YPair (fun i => xs[i]?) (fun i => ys[i]?)) := by
  subst hn
  refine ⟨fun i _ hi q => ⟨xs, ys, xs[i]'(by omega), ys[i]'(by omega), q.1, q.2, by simp [show i < xs.length by omega], by simp [show i < ys.length by omega]⟩, fun _ q => ⟨xs, ys, q.1, q.2, by omega⟩, fun i H v H' _ q y => ?_⟩
  obtain ⟨t, x, z, y1, y2, y3, y4, y5⟩ := y
  exact ⟨t, x, z, y1, y2, y3, y4 xs q.1, y5 ys q.2⟩
theorem src_zipT {a : Addr} {xs ys : List V} {n : Nat} {tl tr : TE} (h : Ev tl σ H (.ref a)) (h2 : EvU tr σ H ys) (hs : SqT K H a xs) (hn : n = min xs.length ys.length) :
    Src (RZ.iZipA K (tCons tl (tCons tr tNil))) σ H n (fun c => c = a ∨ H c = none) (fun i v Hb => ∃ p x y, v = .ref p ∧ xs[i]? = some x ∧ ys[i]? = some y ∧ Hb p = some (.tup [x, y])) := fun H1 e R q =>
  h H1 e _ fun H2 e2 => h2 H2 (e.trans e2) _ fun b H3 hb e3 hb3 => ⟨a, b, xs, ys, rfl, .inr ⟨ex_t ((e.trans e2).trans e3) hs, st_of hb3, q _ H3 _ (e2.trans e3) ((walk_zipT hn).mono (fun _ z => z) fun i Ha v Hb _ _ hy => by
    obtain ⟨p, x, y, rfl, hf, rfl, h1, h2⟩ := hy
    exact ⟨Ex.new hf, p, x, y, rfl, h1, h2, upd_same⟩) fun B Ha hB ea => ⟨ea.tp (fun z => (hB a z).2 (.inl rfl)) (ex_t ((e.trans e2).trans e3) hs), ea.tp (fun z => (hB b z).2 (.inr (fresh_back (e.trans e2) hb))) (st_of hb3)⟩⟩⟩
end
end Wt
set_option Elab.async false
set_option linter.all false
set_option maxRecDepth 100000
set_option maxHeartbeats 2000000
namespace K21
open PySem PySem.Spec PyProof.Rows L2 Evl Wc
def topS (i : Nat) : Stmt := PySem.Challenge.pw_wordscut_k21_whole_letters_replaced.main.body.getD i (.Pass ⟨0, 0, 0, 0⟩)
abbrev st_are_signs : Stmt := topS 9
abbrev st_is_text : Stmt := topS 10
abbrev st_need_text : Stmt := topS 11
abbrev st_first_rests : Stmt := topS 13
abbrev st_rests_behind : Stmt := topS 14
abbrev st_all_rests : Stmt := topS 15
abbrev st_is_once : Stmt := topS 16
abbrev st_replaced_text : Stmt := topS 18
abbrev st_ways_back : Stmt := topS 19
abbrev st_texts_back : Stmt := topS 20
abbrev st_is_replacing : Stmt := topS 24
abbrev st_need_replacing : Stmt := topS 25
abbrev st_need_own_text : Stmt := topS 26
abbrev st_replaced : Stmt := topS 27
abbrev st_put_back : Stmt := topS 28
abbrev st_is_faithful : Stmt := topS 29
abbrev st_doubly : Stmt := topS 30
abbrev st__law_feed : Stmt := topS 32
abbrev st__law_draw : Stmt := topS 33
abbrev st__law_one : Stmt := topS 34
abbrev st__law_mixed : Stmt := topS 35
abbrev st__law_text : Stmt := topS 36
abbrev st__law_kept : Stmt := topS 37
abbrev st__law_split : Stmt := topS 38
abbrev st__law_joined : Stmt := topS 39
abbrev st__law_made : Stmt := topS 40
abbrev st__law_code : Stmt := topS 41
abbrev st__law_lot : Stmt := topS 42
abbrev st__law_put : Stmt := topS 43
abbrev st__law_near_text : Stmt := topS 44
abbrev st__law_so : Stmt := topS 45
abbrev st__law_is : Stmt := topS 46
abbrev st__law_list : Stmt := topS 47
abbrev st__law_behind_rest : Stmt := topS 48
abbrev st__law_firsts : Stmt := topS 49
abbrev st__law_closed : Stmt := topS 50
abbrev st__law_is_once : Stmt := topS 51
abbrev st__law_replacing : Stmt := topS 52
abbrev st__law_by : Stmt := topS 53
abbrev st__law_back : Stmt := topS 54
abbrev st__law_asked : Stmt := topS 55
abbrev st__law_back_right : Stmt := topS 56
abbrev st__law_faithful : Stmt := topS 57
abbrev st__law_doubly : Stmt := topS 58
abbrev st__law_right : Stmt := topS 59
abbrev st_law : Stmt := topS 60
/-- what the top has left of names that are no defs -/
structure Md (K : PySem.W.Frag) (mg : Str → Option Value) : Prop where
  n_ValueError : mg "ValueError" = none
  n_all : mg "all" = none
  n_any : mg "any" = none
  n_bool : mg "bool" = none
  n_dict : mg "dict" = none
  n_enumerate : mg "enumerate" = none
  n_int : mg "int" = none
  n_isinstance : mg "isinstance" = none
  n_len : mg "len" = none
  n_list : mg "list" = none
  n_max : mg "max" = none
  n_min : mg "min" = none
  n_range : mg "range" = none
  n_set : mg "set" = none
  n_sorted : mg "sorted" = none
  n_str : mg "str" = none
  n_sum : mg "sum" = none
  n_tuple : mg "tuple" = none
  n_zip : mg "zip" = none
  c_SIGNS : ∃ t, mg "SIGNS" = some (.str (Str.ofString "abcd") t)
  c_MOST_SIGNS : ∃ t, mg "MOST_SIGNS" = some (.int 400 t)
  c_MOST_LETTERS : ∃ t, mg "MOST_LETTERS" = some (.int 12 t)
  c_MOST_MADE : ∃ t, mg "MOST_MADE" = some (.int 4000 t)
  c_MOST_BACK : ∃ t, mg "MOST_BACK" = some (.int 300 t)
abbrev N_are_signs : List Str := ["thing", "most", "sign"]
theorem sc_are_signs : FnScope N_are_signs ["thing", "most"] (defScope st_are_signs) := ⟨rfl, rfl, rfl, by decide +kernel, rfl, by decide +kernel, by decide +kernel⟩
abbrev N_is_text : List Str := ["thing"]
theorem sc_is_text : FnScope N_is_text ["thing"] (defScope st_is_text) := ⟨rfl, rfl, rfl, by decide +kernel, rfl, by decide +kernel, by decide +kernel⟩
abbrev N_need_text : List Str := ["text"]
theorem sc_need_text : FnScope N_need_text ["text"] (defScope st_need_text) := ⟨rfl, rfl, rfl, by decide +kernel, rfl, by decide +kernel, by decide +kernel⟩
abbrev N_first_rests : List Str := ["lot", "word", "other"]
theorem sc_first_rests : FnScope N_first_rests ["lot"] (defScope st_first_rests) := ⟨rfl, rfl, rfl, by decide +kernel, rfl, by decide +kernel, by decide +kernel⟩
abbrev N_rests_behind : List Str := ["lot", "rest", "found", "index", "word"]
theorem sc_rests_behind : FnScope N_rests_behind ["lot", "rest"] (defScope st_rests_behind) := ⟨rfl, rfl, rfl, by decide +kernel, rfl, by decide +kernel, by decide +kernel⟩
abbrev N_all_rests : List Str := ["lot", "found", "rest", "work", "index"]
theorem sc_all_rests : FnScope N_all_rests ["lot"] (defScope st_all_rests) := ⟨rfl, rfl, rfl, by decide +kernel, rfl, by decide +kernel, by decide +kernel⟩
abbrev N_is_once : List Str := ["lot"]
theorem sc_is_once : FnScope N_is_once ["lot"] (defScope st_is_once) := ⟨rfl, rfl, rfl, by decide +kernel, rfl, by decide +kernel, by decide +kernel⟩
abbrev N_replaced_text : List Str := ["replacing", "text", "sign"]
theorem sc_replaced_text : FnScope N_replaced_text ["replacing", "text"] (defScope st_replaced_text) := ⟨rfl, rfl, rfl, by decide +kernel, rfl, by decide +kernel, by decide +kernel⟩
abbrev N_ways_back : List Str := ["replacing", "text", "counts", "place", "told"]
theorem sc_ways_back : FnScope N_ways_back ["replacing", "text"] (defScope st_ways_back) := ⟨rfl, rfl, rfl, by decide +kernel, rfl, by decide +kernel, by decide +kernel⟩
abbrev N_texts_back : List Str := ["replacing", "text", "counts", "found", "work", "place", "told", "sign", "other"]
theorem sc_texts_back : FnScope N_texts_back ["replacing", "text"] (defScope st_texts_back) := ⟨rfl, rfl, rfl, by decide +kernel, rfl, by decide +kernel, by decide +kernel⟩
abbrev N_is_replacing : List Str := ["thing", "text"]
theorem sc_is_replacing : FnScope N_is_replacing ["thing"] (defScope st_is_replacing) := ⟨rfl, rfl, rfl, by decide +kernel, rfl, by decide +kernel, by decide +kernel⟩
abbrev N_need_replacing : List Str := ["replacing"]
theorem sc_need_replacing : FnScope N_need_replacing ["replacing"] (defScope st_need_replacing) := ⟨rfl, rfl, rfl, by decide +kernel, rfl, by decide +kernel, by decide +kernel⟩
abbrev N_need_own_text : List Str := ["replacing", "text", "sign"]
theorem sc_need_own_text : FnScope N_need_own_text ["replacing", "text"] (defScope st_need_own_text) := ⟨rfl, rfl, rfl, by decide +kernel, rfl, by decide +kernel, by decide +kernel⟩
abbrev N_replaced : List Str := ["replacing", "text", "found"]
theorem sc_replaced : FnScope N_replaced ["replacing", "text"] (defScope st_replaced) := ⟨rfl, rfl, rfl, by decide +kernel, rfl, by decide +kernel, by decide +kernel⟩
abbrev N_put_back : List Str := ["replacing", "text", "many"]
theorem sc_put_back : FnScope N_put_back ["replacing", "text"] (defScope st_put_back) := ⟨rfl, rfl, rfl, by decide +kernel, rfl, by decide +kernel, by decide +kernel⟩
abbrev N_is_faithful : List Str := ["replacing"]
theorem sc_is_faithful : FnScope N_is_faithful ["replacing"] (defScope st_is_faithful) := ⟨rfl, rfl, rfl, by decide +kernel, rfl, by decide +kernel, by decide +kernel⟩
abbrev N_doubly : List Str := ["replacing", "other", "sign", "found", "text"]
theorem sc_doubly : FnScope N_doubly ["replacing", "other"] (defScope st_doubly) := ⟨rfl, rfl, rfl, by decide +kernel, rfl, by decide +kernel, by decide +kernel⟩
abbrev N__law_feed : List Str := ["script", "k", "cell"]
theorem sc__law_feed : FnScope N__law_feed ["script", "k"] (defScope st__law_feed) := ⟨rfl, rfl, rfl, by decide +kernel, rfl, by decide +kernel, by decide +kernel⟩
abbrev N__law_draw : List Str := ["feed", "many", "rest", "got", "stir"]
theorem sc__law_draw : FnScope N__law_draw ["feed", "many"] (defScope st__law_draw) := ⟨rfl, rfl, rfl, by decide +kernel, rfl, by decide +kernel, by decide +kernel⟩
abbrev N__law_one : List Str := ["feed", "things"]
theorem sc__law_one : FnScope N__law_one ["feed", "things"] (defScope st__law_one) := ⟨rfl, rfl, rfl, by decide +kernel, rfl, by decide +kernel, by decide +kernel⟩
abbrev N__law_mixed : List Str := ["feed", "things", "pool", "got", "turn"]
theorem sc__law_mixed : FnScope N__law_mixed ["feed", "things"] (defScope st__law_mixed) := ⟨rfl, rfl, rfl, by decide +kernel, rfl, by decide +kernel, by decide +kernel⟩
abbrev N__law_text : List Str := ["feed", "signs", "most", "turn"]
theorem sc__law_text : FnScope N__law_text ["feed", "signs", "most"] (defScope st__law_text) := ⟨rfl, rfl, rfl, by decide +kernel, rfl, by decide +kernel, by decide +kernel⟩
abbrev N__law_kept : List Str := ["feed", "words", "most", "good", "word", "some"]
theorem sc__law_kept : FnScope N__law_kept ["feed", "words", "most"] (defScope st__law_kept) := ⟨rfl, rfl, rfl, by decide +kernel, rfl, by decide +kernel, by decide +kernel⟩
abbrev N__law_split : List Str := ["feed", "signs", "turns", "words", "turn", "at", "sign"]
theorem sc__law_split : FnScope N__law_split ["feed", "signs", "turns"] (defScope st__law_split) := ⟨rfl, rfl, rfl, by decide +kernel, rfl, by decide +kernel, by decide +kernel⟩
abbrev N__law_joined : List Str := ["feed", "words", "turns", "turn", "one", "other", "way", "word"]
theorem sc__law_joined : FnScope N__law_joined ["feed", "words", "turns"] (defScope st__law_joined) := ⟨rfl, rfl, rfl, by decide +kernel, rfl, by decide +kernel, by decide +kernel⟩
abbrev N__law_made : List Str := ["feed", "code", "words", "made", "word", "sign"]
theorem sc__law_made : FnScope N__law_made ["feed", "code", "words"] (defScope st__law_made) := ⟨rfl, rfl, rfl, by decide +kernel, rfl, by decide +kernel, by decide +kernel⟩
abbrev N__law_code : List Str := ["feed", "some"]
theorem sc__law_code : FnScope N__law_code ["feed"] (defScope st__law_code) := ⟨rfl, rfl, rfl, by decide +kernel, rfl, by decide +kernel, by decide +kernel⟩
abbrev N__law_lot : List Str := ["feed", "most", "signs", "way", "long", "turn", "word", "root", "ends", "words", "place"]
theorem sc__law_lot : FnScope N__law_lot ["feed", "most"] (defScope st__law_lot) := ⟨rfl, rfl, rfl, by decide +kernel, rfl, by decide +kernel, by decide +kernel⟩
abbrev N__law_put : List Str := ["feed", "lot", "most", "turn"]
theorem sc__law_put : FnScope N__law_put ["feed", "lot", "most"] (defScope st__law_put) := ⟨rfl, rfl, rfl, by decide +kernel, rfl, by decide +kernel, by decide +kernel⟩
abbrev N__law_near_text : List Str := ["feed", "lot", "most", "text", "way", "at", "sign", "near"]
theorem sc__law_near_text : FnScope N__law_near_text ["feed", "lot", "most"] (defScope st__law_near_text) := ⟨rfl, rfl, rfl, by decide +kernel, rfl, by decide +kernel, by decide +kernel⟩
abbrev N__law_so : List Str := ["actual", "due"]
theorem sc__law_so : FnScope N__law_so ["actual", "due"] (defScope st__law_so) := ⟨rfl, rfl, rfl, by decide +kernel, rfl, by decide +kernel, by decide +kernel⟩
abbrev N__law_is : List Str := ["actual", "due"]
theorem sc__law_is : FnScope N__law_is ["actual", "due"] (defScope st__law_is) := ⟨rfl, rfl, rfl, by decide +kernel, rfl, by decide +kernel, by decide +kernel⟩
abbrev N__law_list : List Str := ["actual", "due", "part"]
theorem sc__law_list : FnScope N__law_list ["actual", "due"] (defScope st__law_list) := ⟨rfl, rfl, rfl, by decide +kernel, rfl, by decide +kernel, by decide +kernel⟩
abbrev N__law_behind_rest : List Str := ["lot", "rest", "found", "word"]
theorem sc__law_behind_rest : FnScope N__law_behind_rest ["lot", "rest"] (defScope st__law_behind_rest) := ⟨rfl, rfl, rfl, by decide +kernel, rfl, by decide +kernel, by decide +kernel⟩
abbrev N__law_firsts : List Str := ["lot", "found", "word", "other"]
theorem sc__law_firsts : FnScope N__law_firsts ["lot"] (defScope st__law_firsts) := ⟨rfl, rfl, rfl, by decide +kernel, rfl, by decide +kernel, by decide +kernel⟩
abbrev N__law_closed : List Str := ["lot", "rests", "met", "work", "rest", "turn", "later"]
theorem sc__law_closed : FnScope N__law_closed ["lot", "rests"] (defScope st__law_closed) := ⟨rfl, rfl, rfl, by decide +kernel, rfl, by decide +kernel, by decide +kernel⟩
abbrev N__law_is_once : List Str := ["lot"]
theorem sc__law_is_once : FnScope N__law_is_once ["lot"] (defScope st__law_is_once) := ⟨rfl, rfl, rfl, by decide +kernel, rfl, by decide +kernel, by decide +kernel⟩
abbrev N__law_replacing : List Str := ["feed", "signs", "many", "way", "letters", "words", "turn", "long"]
theorem sc__law_replacing : FnScope N__law_replacing ["feed", "signs"] (defScope st__law_replacing) := ⟨rfl, rfl, rfl, by decide +kernel, rfl, by decide +kernel, by decide +kernel⟩
abbrev N__law_by : List Str := ["replacing", "text", "found", "sign"]
theorem sc__law_by : FnScope N__law_by ["replacing", "text"] (defScope st__law_by) := ⟨rfl, rfl, rfl, by decide +kernel, rfl, by decide +kernel, by decide +kernel⟩
abbrev N__law_back : List Str := ["replacing", "text", "ahead", "texts", "sign", "end", "begins", "told", "begin", "one"]
theorem sc__law_back : FnScope N__law_back ["replacing", "text"] (defScope st__law_back) := ⟨rfl, rfl, rfl, by decide +kernel, rfl, by decide +kernel, by decide +kernel⟩
abbrev N__law_asked : List Str := ["way", "one", "other", "found", "error"]
theorem sc__law_asked : FnScope N__law_asked ["way", "one", "other"] (defScope st__law_asked) := ⟨rfl, rfl, rfl, by decide +kernel, rfl, by decide +kernel, by decide +kernel⟩
abbrev N__law_back_right : List Str := ["replacing", "text", "many", "texts", "found", "one"]
theorem sc__law_back_right : FnScope N__law_back_right ["replacing", "text"] (defScope st__law_back_right) := ⟨rfl, rfl, rfl, by decide +kernel, rfl, by decide +kernel, by decide +kernel⟩
abbrev N__law_faithful : List Str := ["replacing"]
theorem sc__law_faithful : FnScope N__law_faithful ["replacing"] (defScope st__law_faithful) := ⟨rfl, rfl, rfl, by decide +kernel, rfl, by decide +kernel, by decide +kernel⟩
abbrev N__law_doubly : List Str := ["first", "second", "sign", "due", "found", "text"]
theorem sc__law_doubly : FnScope N__law_doubly ["first", "second"] (defScope st__law_doubly) := ⟨rfl, rfl, rfl, by decide +kernel, rfl, by decide +kernel, by decide +kernel⟩
abbrev N__law_right : List Str := ["feed", "replacing", "signs", "long", "text", "due", "found", "at", "sign", "one", "turn", "first", "second"]
theorem sc__law_right : FnScope N__law_right ["feed"] (defScope st__law_right) := ⟨rfl, rfl, rfl, by decide +kernel, rfl, by decide +kernel, by decide +kernel⟩
abbrev N_law : List Str := ["script", "k"]
theorem sc_law : FnScope N_law ["script"] (defScope st_law) := ⟨rfl, rfl, rfl, by decide +kernel, rfl, by decide +kernel, by decide +kernel⟩
end K21
set_option Elab.async false
set_option linter.all false
set_option maxRecDepth 100000
set_option maxHeartbeats 2000000
set_option exponentiation.threshold 5000
namespace K21
open PySem PySem.Spec PyProof.Rows L2 Evl Wc
section
variable {P : Program} {w : World} {K : PySem.W.Frag} {mg : Str → Option Value} {base : Heap}
theorem ok__law_draw {f : Addr} {fd : FuncData} (F : Fun K "_law_draw" "_law_draw" st__law_draw f fd) (M : Md K mg) : FnOk P w K mg base CX0 1 f fd ["feed", "many"] sp_draw := by
  have nd := sc__law_draw.nd
  refine F.ok sc__law_draw (fun vs H Q E h => ?_) (fun cdv A outer s H vs Q E hr h => ?_)
  · obtain ⟨_, _, rfl, _⟩ := h
    rfl
  · obtain ⟨fa, many, rfl, ⟨n0, hn0, a, b, c, e, hfa, ha0, he1, he2, hae, hb0, hb1, hc0, hc1⟩, hm0, hm1, k⟩ := h
    refine ⟨_, (pss_cons (ps_if (pt_cmpR op_gt (pe_ix (kix K (r := L2.rIxL) ix_list) (pv 0) pe_int (fun _ _ => rfl)) pe_int (nomark _))
  (pss_cons (ps_set (i := 2) nd rfl (Or.inl rfl) (pe_op op_fdivW (pe_ix (kix K (r := L2.rIxL) ix_list) (pv 0) pe_int (fun _ _ => rfl)) (pv 1)))
  (pss_cons (ps_set (i := 3) nd rfl (Or.inl rfl) (pe_op op_sub (pe_ix (kix K (r := L2.rIxL) ix_list) (pv 0) pe_int (fun _ _ => rfl)) (pe_op op_mulB (pv 2) (pv 1))))
  (pss_cons (ps_asg (pv 2) (pg_sub (pv 0) pe_int set_list))
  (pss_one (ps_ret (pv 3))))))
  pss_nil)
  (pss_cons (ps_asg (pe_op op_add (pe_ix (kix K (r := L2.rIxL) ix_list) (pv 0) pe_int (fun _ _ => rfl)) pe_int) (pg_sub (pv 0) pe_int set_list))
  (pss_cons (ps_set (i := 4) nd rfl (Or.inl rfl) (pe_op op_add (pe_ix (kix K (r := L2.rIxL) ix_list) (pv 0) pe_int (fun _ _ => rfl)) (pe_op op_mulB pe_int (pe_ix (kix K (r := L2.rIxL) ix_list) (pv 0) pe_int (fun _ _ => rfl)))))
  (pss_cons (ps_set (i := 4) nd rfl (Or.inl rfl) (pe_op op_modP (pe_callTy call_int1 (by rfl) M.n_int boot_int (pa_cons (pe_op op_add (pe_op op_mulB (pe_op op_mulB (pv 4) (pv 4)) (pv 4)) (pe_op op_mulB pe_int (pe_ix (kix K (r := L2.rIxL) ix_list) (pv 0) pe_int (fun _ _ => rfl)))) pa_nil)) (pe_op op_add (pe_op op_pow pe_int pe_int) pe_int)))
  (pss_cons (ps_set (i := 4) nd rfl (Or.inl rfl) (pe_op op_modP (pe_callTy call_int1 (by rfl) M.n_int boot_int (pa_cons (pe_op op_add (pe_op op_mulB (pv 4) (pv 4)) pe_int) pa_nil)) (pe_op op_add (pe_op op_pow pe_int pe_int) pe_int)))
  (pss_one (ps_ret (pe_op op_modP (pe_callTy call_int1 (by rfl) M.n_int boot_int (pa_cons (pe_op op_fdivW (pv 4) (pe_op op_pow pe_int pe_int)) pa_nil)) (pv 1))))))))), ?_⟩
    have hcap : (n0 : Int) + 1 ≤ 1000000000000000000 := by
      have : n0 + 1 ≤ 1000000000000000000 := hn0
      omega
    have hmany : many.natAbs < 2 ^ 300 := Nat.lt_of_le_of_lt (show many.natAbs ≤ 10 ^ 61 by omega) (by decide)
    have hdm : CDivW a many := wide_div (b := 300) hm0 hmany (by decide) (by decide)
    have ge0 : ∀ H1, Ex H H1 → Ev (tOp (L2.rIxL K) (tVar 0) (tC (.int 0))) (start N__law_draw [.ref fa, .int many]) H1 (.int a) := fun H1 e1 => ev_op (ev_var rfl) ev_c (rv_ixL (sq_of (e1 _ _ hfa)) rfl)
    refine q_when (et_test (ev_op (ge0 H (Ex.refl _)) ev_c rv_I0)) (fun h1 H1 e1 => ?_) (fun h1 H1 e1 => ?_)
    · have hap : 0 < a := of_decide_eq_true h1
      refine q_asg (ev_op (ev_op (ev_var rfl) ev_c (rv_ixL (sq_of (e1 _ _ hfa)) rfl)) (ev_var rfl) (rv_I hdm)) fun H2 e2 => ?_
      have hr0 : 0 ≤ a / many := Int.ediv_nonneg ha0 (by omega)
      have hr1 : a / many ≤ a := Int.ediv_le_self _ ha0
      have hrn : (a / many).natAbs < 2 ^ e := Nat.lt_of_le_of_lt (by omega) hae
      have hg : a - a / many * many = a % many := by
        rw [Int.emod_def, Int.mul_comm]
      have hg0 : 0 ≤ a % many := Int.emod_nonneg _ (by omega)
      have hg1 : a % many < many := Int.emod_lt_of_pos _ hm0
      refine q_asg (v := .int (((a % many).toNat : Nat) : Int)) (ev_is (ev_op (ev_op (ev_var rfl) ev_c (rv_ixL (sq_of (e2 _ _ (e1 _ _ hfa))) rfl)) (ev_op (ev_var rfl) (ev_var rfl) (rv_I (mulB hrn hmany (by omega) (by decide) (by omega)))) rv_I0) (by rw [hg]; congr 1; omega)) fun H3 e3 => ?_
      have hf3 := e3 _ _ (e2 _ _ (e1 _ _ hfa))
      refine q_setL (j := 0) hf3 (ev_var rfl) (ev_var rfl) ev_c (by show 0 < 3; decide) fun H4 e4 => ?_
      refine s_ret (ev_var rfl) fun H5 e5 => k (a % many).toNat H5 (by omega) ⟨?_, fun n hn hF => ?_⟩
      · exact Exc.then (Exc.upd (B := fun c => c = fa) (Exc.of (((e1.trans e2).trans e3).trans e4)) (.inl rfl)) e5
      · obtain ⟨a', b', c', e', g1, g2, g3, g4, g5, g6, g7, g8, g9⟩ := hF
        rw [hfa] at g1
        injection g1 with g1
        injection g1 with g1
        injection g1 with x1 g1
        injection g1 with x2 g1
        injection g1 with x3 g1
        injection x1 with x1
        injection x2 with x2
        injection x3 with x3
        subst x1 x2 x3
        exact ⟨a / many, b, c, e, e5 _ _ upd_same, hr0, he1, he2, hrn, hb0, hb1, hc0, by omega⟩
    · have ha : a = 0 := by
        have := of_decide_eq_false h1
        omega
      subst ha
      -- feed[2] = feed[2] + 1
      refine q_setL (j := 2) (e1 _ _ hfa) (ev_op (ev_op (ev_var rfl) ev_c (rv_ixL (sq_of (e1 _ _ hfa)) rfl)) ev_c rv_I0) (ev_var rfl) ev_c (by show 2 < 3; decide) fun H2 e2 => ?_
      have hf2 : (upd H2 fa (.lst ([V.int 0, V.int b, V.int c].set 2 (V.int (c + 1))))) fa = some (.lst [.int 0, .int b, .int (c + 1)]) := upd_same
      generalize hH3 : upd H2 fa (.lst ([V.int 0, V.int b, V.int c].set 2 (V.int (c + 1)))) = H3 at hf2 ⊢
      have g1 : ∀ H4, Ex H3 H4 → ∀ σ : L2.St, σ[0]? = some (some (.ref fa)) → Ev (tOp (L2.rIxL K) (tVar 0) (tC (.int 1))) σ H4 (.int b) := fun H4 e4 σ h0 => ev_op (ev_var h0) ev_c (rv_ixL (sq_of (e4 _ _ hf2)) rfl)
      have g2 : ∀ H4, Ex H3 H4 → ∀ σ : L2.St, σ[0]? = some (some (.ref fa)) → Ev (tOp (L2.rIxL K) (tVar 0) (tC (.int 2))) σ H4 (.int (c + 1)) := fun H4 e4 σ h0 => ev_op (ev_var h0) ev_c (rv_ixL (sq_of (e4 _ _ hf2)) rfl)
      have lit : ∀ {i : Int} {k : Nat}, 0 ≤ i → i ≤ k → k < 2 ^ 600 → i.natAbs < 2 ^ 600 := fun h1 h2 h3 => Nat.lt_of_le_of_lt (by omega) h3
      -- stir = feed[1] + 6700417 * feed[2]
      have hc9 : (c + 1).natAbs < 2 ^ 600 := lit (k := 1000000000000000000) (by omega) (by omega) (by decide)
      refine q_asg (ev_op (g1 _ (Ex.refl _) _ rfl) (ev_op ev_c (g2 _ (Ex.refl _) _ rfl) (rv_I (mulB (a := 600) (b := 600) (by decide) hc9 (by decide) (by decide) (by decide)))) rv_I0) fun H4 e4 => ?_
      have hs0 : 0 ≤ b + 6700417 * (c + 1) := by omega
      have hs1 : b + 6700417 * (c + 1) ≤ 10 ^ 41 := by omega
      generalize b + 6700417 * (c + 1) = x at hs0 hs1 ⊢
      have hx : x.natAbs < 2 ^ 600 := lit (k := 10 ^ 41) hs0 hs1 (by decide)
      have hxx : (x * x).natAbs < 2 ^ 1200 := wide_lt hx hx
      -- stir = int(stir * stir * stir + 15485863 * feed[2]) % (10 ** 43 + 57)
      refine q_asg (ev_op (ev_cb (ea_cons (ev_op (ev_op (ev_op (ev_var rfl) (ev_var rfl) (rv_I (mulB hx hx (by decide) (by decide) (by decide)))) (ev_var rfl) (rv_I (mulB hxx hx (by decide) (by decide) (by decide)))) (ev_op ev_c (g2 _ e4 _ rfl) (rv_I (mulB (a := 600) (b := 600) (by decide) hc9 (by decide) (by decide) (by decide)))) rv_I0) ea_nil) rc_int)
        (ev_op (ev_op ev_c ev_c (rv_I ⟨by decide, by decide, by decide⟩)) ev_c rv_I0) (rv_I (by decide))) fun H5 e5 => ?_
      have hy0 : 0 ≤ (x * x * x + 15485863 * (c + 1)) % ((10 : Int) ^ (43 : Int).toNat + 57) := Int.emod_nonneg _ (by decide)
      have hy1 : (x * x * x + 15485863 * (c + 1)) % ((10 : Int) ^ (43 : Int).toNat + 57) < (10 : Int) ^ 43 + 57 := Int.emod_lt_of_pos _ (by decide)
      generalize (x * x * x + 15485863 * (c + 1)) % ((10 : Int) ^ (43 : Int).toNat + 57) = y at hy0 hy1 ⊢
      have hy : y.natAbs < 2 ^ 600 := lit (k := 10 ^ 44) hy0 (by omega) (by decide)
      refine q_asg (ev_op (ev_cb (ea_cons (ev_op (ev_op (ev_var rfl) (ev_var rfl) (rv_I (mulB hy hy (by decide) (by decide) (by decide)))) ev_c rv_I0) ea_nil) rc_int) (ev_op (ev_op ev_c ev_c (rv_I ⟨by decide, by decide, by decide⟩)) ev_c rv_I0) (rv_I (by decide))) fun H6 e6 => ?_
      have hz0 : 0 ≤ (y * y + 32452843) % ((10 : Int) ^ (38 : Int).toNat + 133) := Int.emod_nonneg _ (by decide)
      generalize (y * y + 32452843) % ((10 : Int) ^ (38 : Int).toNat + 133) = z at hz0 ⊢
      have hq0 : 0 ≤ (z / (10 : Int) ^ (9 : Int).toNat) % many := Int.emod_nonneg _ (by omega)
      have hq1 : (z / (10 : Int) ^ (9 : Int).toNat) % many < many := Int.emod_lt_of_pos _ hm0
      refine s_ret (v := .int ((((z / (10 : Int) ^ (9 : Int).toNat) % many).toNat : Nat) : Int)) (ev_is (ev_op (ev_cb (ea_cons (ev_op (ev_var rfl) (ev_op ev_c ev_c (rv_I ⟨by decide, by decide, by decide⟩)) (rv_I (divW (by decide) (by decide)))) ea_nil) rc_int) (ev_var rfl) (rv_I hm0)) (by congr 1; omega)) fun H7 e7 => k _ H7 (by omega) ⟨?_, fun n hn hF => ?_⟩
      · have : Exc (fun c => c = fa) H H3 := by
          rw [← hH3]
          exact (Exc.of (e1.trans e2)).upd (.inl rfl)
        exact this.then (((e4.trans e5).trans e6).trans e7)
      · obtain ⟨a', b', c', e', g1, g2, g3, g4, g5, g6, g7, g8, g9⟩ := hF
        rw [hfa] at g1
        injection g1 with g1
        injection g1 with g1
        injection g1 with x1 g1
        injection g1 with x2 g1
        injection g1 with x3 g1
        injection x2 with x2
        injection x3 with x3
        subst x2 x3
        exact ⟨0, b, c + 1, 1, (((e4.trans e5).trans e6).trans e7) _ _ hf2, Int.le_refl _, Nat.le_refl _, by decide, by decide, hb0, hb1, by omega, by omega⟩
theorem ok__law_one {f : Addr} {fd : FuncData} (F : Fun K "_law_one" "_law_one" st__law_one f fd) (M : Md K mg) (C__law_draw : Cal P w K mg base "_law_draw" st__law_draw 1 ["feed", "many"] sp_draw) : FnOk P w K mg base CX0 2 f fd ["feed", "things"] (sp_one K) := by
  have nd := sc__law_one.nd
  refine F.ok sc__law_one (fun vs H Q E h => ?_) (fun cdv A outer s H vs Q E hr h => ?_)
  · obtain ⟨_, _, ⟨_, rfl, _⟩ | ⟨_, _, rfl, _⟩⟩ := h <;> rfl
  · obtain ⟨fa, G, h⟩ := h
    rcases h with ⟨s, rfl, hs, hl, k⟩ | ⟨p, xs, rfl, hS, hp, hx, hl, k⟩
    · refine ⟨_, (pss_one (ps_ret (pe_ix (kix K (r := rIxAny) ix_any) (pv 1) (pe_cl C__law_draw hr (pa_cons (pv 0) (pa_cons (pe_callB (kcr K (r := rLenAny) cr_lenAny) (by rfl) M.n_len boot_len (pa_cons (pv 1) pa_nil)) pa_nil))) (fun _ _ => rfl)))), ?_⟩
      have hpos : 0 < s.length := List.length_pos_iff.mpr hs
      refine ⟨T s, rfl, .ref fa, rfl, T s, rfl, .inl ⟨s, rfl, hl, fa, (s.length : Int), rfl, G, by omega, by omega, fun d H1 hd R => ?_⟩⟩
      obtain ⟨c, hc, hm⟩ := atI_mem (xs := s) (d := d) (by omega)
      exact .inr ⟨s, d, c, rfl, rfl, hl, hc, k c H1 hm R⟩
    · refine ⟨_, (pss_one (ps_ret (pe_ix (kix K (r := rIxAny) ix_any) (pv 1) (pe_cl C__law_draw hr (pa_cons (pv 0) (pa_cons (pe_callB (kcr K (r := rLenAny) cr_lenAny) (by rfl) M.n_len boot_len (pa_cons (pv 1) pa_nil)) pa_nil))) (fun _ _ => rfl)))), ?_⟩
      have hpos : 0 < xs.length := List.length_pos_iff.mpr hx
      refine ⟨.ref p, rfl, .ref fa, rfl, .ref p, rfl, .inr ⟨p, xs, rfl, hS, fa, (xs.length : Int), rfl, G, by omega, by omega, fun d H1 hd R => ?_⟩⟩
      obtain ⟨v, hv, hm⟩ := atI_mem (xs := xs) (d := d) (by omega)
      rcases hS with hS | hS
      · exact .inl (.inl ⟨p, xs, d, v, rfl, rfl, R.l hp hS, hv, k v H1 hm R⟩)
      · exact .inl (.inr ⟨p, xs, d, v, rfl, rfl, R.t hp hS, hv, k v H1 hm R⟩)
theorem sum_le {ts : List Tx} {m : Nat} (h : ∀ t ∈ ts, t.length ≤ m) : (ts.map List.length).sum ≤ ts.length * m := by
  induction ts with
  | nil => simp
  | cons t ts ih =>
    have h1 := h t List.mem_cons_self
    have h2 := ih fun x hx => h x (List.mem_cons_of_mem _ hx)
    simp only [List.map_cons, List.sum_cons, List.length_cons, Nat.succ_mul]
    omega
theorem flat_len {ts : List Tx} : ts.flatten.length = (ts.map List.length).sum := by
  simp [List.length_flatten]
theorem ok__law_text {f : Addr} {fd : FuncData} (F : Fun K "_law_text" "_law_text" st__law_text f fd) (M : Md K mg) (C__law_draw : Cal P w K mg base "_law_draw" st__law_draw 1 ["feed", "many"] sp_draw) (C__law_one : Cal P w K mg base "_law_one" st__law_one 2 ["feed", "things"] (sp_one K)) : FnOk P w K mg base CX0 3 f fd ["feed", "signs", "most"] sp_text := by
  have nd := sc__law_text.nd
  refine F.ok sc__law_text (fun vs H Q E h => ?_) (fun cdv A outer s H vs Q E hr h => ?_)
  · obtain ⟨_, _, _, rfl, _⟩ := h
    rfl
  · obtain ⟨fa, s, most, rfl, G, hm, hs, hl, k⟩ := h
    refine ⟨_, (pss_one (ps_ret (kbm K (pe_bm PySem.F.plainAttrs_str PySem.F.slot_str_join PySem.F.type_str_join (kmt K (r := rJoinT) mt_joinT) (pe_sT []) (pa_cons (pe_lc (own := [("turn", 3)]) rfl nd (pi_range1 (by rfl) M.n_range (pa_cons (pe_cl C__law_draw hr (pa_cons (pv 0) (pa_cons (pe_op op_add (pv 2) pe_int) pa_nil))) pa_nil)) (blkOk_by (N := N__law_text) (sc := defScope st__law_text) (by decide +kernel)) (fun _ _ _ _ _ => (pg_name (i := 3) nd rfl (Or.inl rfl))) (fun _ _ _ _ _ => pts_nil) (fun _ _ _ _ _ => (pe_cl C__law_one hr (pa_cons (pv 0) (pa_cons (pv 1) pa_nil))))) pa_nil))))), ?_⟩
    refine ⟨rfl, ?_⟩
    refine ⟨.ref fa, rfl, .int (most : Int), rfl, (most : Int), 1, rfl, rfl, fa, (most : Int) + 1, rfl, G.mono (by omega), by omega, by omega, fun d H1 hd R1 => ?_⟩
    have G1 : GF fa most H1 := G.go R1 (by omega)
    have hw : ∀ Q' : VK, (∀ p H2 acc, H1 p = none → Rf fa (d * 1) H1 H2 → H2 p = some (.lst acc) → acc.length = d → (∀ v ∈ acc, ∃ t, v = T t ∧ (t.length ≤ 1 ∧ ∀ c ∈ t, c ∈ s)) → Q' (.ref p) H2) →
        tLc (iRng1 (fun _ H Q => Q [.int (d : Int)] H)) (gName 3) tYes (tCall (sp_one K) [] E0 (tCons (tVar 0) (tCons (tVar 1) tNil))) [3] (start N__law_text [.ref fa, T s, .int (most : Int)]) H1 Q' := fun Q' k' => by
      refine lcD (fun v => ∃ t, v = T t ∧ (t.length ≤ 1 ∧ ∀ c ∈ t, c ∈ s)) 1 G1.is (src_range1 (n := d) (fun H2 e2 Q2 q => q H2 (Ex.refl _)) (by omega)) (fun z => z) (by omega) (fun _ => rfl) ?_ k'
      intro i x H2 hi _ R2 Q2 q
      refine ⟨.ref fa, rfl, T s, rfl, fa, G1.go R2 (by omega), .inl ⟨s, rfl, hs, hl, fun c H3 hc R3 => q _ _ ⟨[c], rfl, Nat.le_refl _, fun c' hc' => ?_⟩ R3⟩⟩
      rw [List.mem_singleton.mp hc']
      exact hc
    refine hw (fun x H2 => rJoinT K (T []) [x] H2 Q) fun p H2 acc hp R2 h2 hal hg => ?_
    obtain ⟨ts, rfl, hts⟩ := texts_of hg
    rw [List.length_map] at hal
    have hsum := sum_le fun t ht => (hts t ht).1
    refine ⟨[], p, ts, rfl, rfl, .inl (sq_of h2), by simp; omega, ?_⟩
    rw [joinL_nil]
    refine k ts.flatten H2 (by rw [flat_len]; omega) (fun c hc => ?_) ((R1.trans R2).mono (by omega))
    obtain ⟨t, ht, hct⟩ := List.mem_flatten.mp hc
    exact (hts t ht).2 c hct
end
end K21
set_option Elab.async false
set_option linter.all false
set_option maxRecDepth 100000
set_option maxHeartbeats 2000000
namespace K21
open PySem PySem.Spec PyProof.Rows L2 Evl Wc Wt
def abcd (c : Nat) : Prop := 97 ≤ c ∧ c ≤ 100
/-- texts of the signs, none longer than m -/
def Wd (m : Nat) (ws : List Tx) : Prop := ∀ t ∈ ws, t.length ≤ m ∧ ∀ c ∈ t, abcd c
structure IsLot (lot : List Tx) : Prop where
  ne : lot ≠ []
  few : lot.length ≤ 12
  wd : Wd 12 lot
  pos : ∀ t ∈ lot, t ≠ []
  asc : lot.Pairwise (· < ·)
theorem pw_lt {xs : List Tx} (h : xs.Pairwise (· ≤ ·)) (d : xs.Nodup) : xs.Pairwise (· < ·) := (h.and d).imp fun ⟨a, b⟩ => by
  rcases List.le_iff_lt_or_eq.mp a with z | z
  · exact z
  · exact absurd z b
section
variable {K : PySem.W.Frag} {fa : Addr} {m : Nat} {H H1 H2 : Hp}
def sp_mixed (K : PySem.W.Frag) : Sp := fun vs H Q _ => ∃ (fa p : Addr) (xs : List V), vs = [.ref fa, .ref p] ∧ SqL K H p xs ∧ p ≠ fa ∧ xs.length ≤ 1000 ∧ GF fa xs.length H ∧ ∀ q ys H', ys.Perm xs → H q = none → Rf fa xs.length H H' → H' q = some (.lst ys) → Q (.ref q) H'
def sp_kept (K : PySem.W.Frag) : Sp := fun vs H Q _ => ∃ (fa p : Addr) (ws : List Tx) (most : Nat), vs = [.ref fa, .ref p, .int (most : Int)] ∧ SqL K H p (ws.map T) ∧ p ≠ fa ∧ ws.length ≤ 1000 ∧ Wd 100000 ws ∧ 1 ≤ most ∧ most ≤ 12 ∧ GF fa 1000 H ∧
  ∀ q lot H', IsLot lot → lot.length ≤ most → H q = none → Rf fa 1000 H H' → H' q = some (.tup (lot.map T)) → Q (.ref q) H'
end
section
variable {P : Program} {w : World} {K : PySem.W.Frag} {mg : Str → Option Value} {base : Heap}
theorem ok__law_mixed {f : Addr} {fd : FuncData} (F : Fun K "_law_mixed" "_law_mixed" st__law_mixed f fd) (M : Md K mg) (C__law_draw : Cal P w K mg base "_law_draw" st__law_draw 1 ["feed", "many"] sp_draw) : FnOk P w K mg base CX0 2 f fd ["feed", "things"] (sp_mixed K) := by
  have nd := sc__law_mixed.nd
  refine F.ok sc__law_mixed (fun vs H Q E h => ?_) (fun cdv A outer s H vs Q E hr h => ?_)
  · obtain ⟨_, _, _, rfl, _⟩ := h
    rfl
  · obtain ⟨fa, p, xs, rfl, hp, hne, hl, G, k⟩ := h
    refine ⟨_, (pss_cons (ps_par (i := 2) (j := 3) rfl nd rfl rfl (by decide) rfl rfl (pa_cons (pe_callTy (kcr K (r := rListS) call_list_of) (by rfl) M.n_list boot_list (pa_cons (pv 1) pa_nil)) (pa_cons (pe_lst pa_nil) pa_nil)) (by rfl))
  (pss_cons (ps_for PassesOwn.never rfl (pi_range1 (by rfl) M.n_range (pa_cons (pe_callB (kcr K (r := rLenS) call_len_seq) (by rfl) M.n_len boot_len (pa_cons (pv 1) pa_nil)) pa_nil)) (pg_name (i := 4) nd rfl (Or.inl rfl))
  (pss_one (ps_expr (kbm K (pe_bm PySem.F.plainAttrs_list PySem.F.slot_list_append PySem.F.type_list_append mt_append (pv 3) (pa_cons (kbm K (pe_bm PySem.F.plainAttrs_list PySem.F.slot_list_pop PySem.F.type_list_pop mt_popAt (pv 2) (pa_cons (pe_cl C__law_draw hr (pa_cons (pv 0) (pa_cons (pe_callB (kcr K (r := rLenS) call_len_seq) (by rfl) M.n_len boot_len (pa_cons (pv 2) pa_nil)) pa_nil))) pa_nil))) pa_nil))))))
  (pss_one (ps_ret (pv 3))))), ?_⟩
    refine (el_list (ev_var rfl) hp : EvL _ (start N__law_mixed [.ref fa, .ref p]) H xs) H (Ex.refl _) _ fun pool H1 hpool e1 h1 => ⟨by decide, fun got hgot => ⟨_, _, rfl, ?_⟩⟩
    have npg : pool ≠ got := ne_of_none h1 hgot
    have ngot : H got = none := fresh_back e1 hgot
    have n1 : pool ≠ fa := G.new hpool
    have n2 : got ≠ fa := G.new ngot
    have e2 : Ex H (upd H1 got (.lst [])) := e1.trans (Ex.new hgot)
    have h1' : (upd H1 got (.lst [])) pool = some (.lst xs) := by rw [upd_ne npg]; exact h1
    have h2' : (upd H1 got (.lst [])) got = some (.lst []) := upd_same
    generalize upd H1 got (.lst []) = H2 at e2 h1' h2'
    show tSeq _ _ _ [some (.ref fa), some (.ref p), some (.ref pool), some (.ref got), none] H2
    refine q_forW (fun c => c = fa ∨ c = pool ∨ c = got) (src_range1 (n := xs.length) (ea_cons (ev_len (ev_var rfl) (ex_l e2 hp)) ea_nil) (by omega)) ?_
      (fun Hs i σ' H' => ∃ (ys zs : List V) (v : Option V), σ' = [some (.ref fa), some (.ref p), some (.ref pool), some (.ref got), v] ∧ Exc (fun c => c = fa ∨ c = pool ∨ c = got) Hs H' ∧ Rf fa i H H' ∧ H' pool = some (.lst ys) ∧ H' got = some (.lst zs) ∧ zs.length = i ∧ (zs ++ ys).Perm xs) ?_ ?_ ?_ ?_ ?_
    · rintro c (rfl | rfl | rfl)
      · exact ⟨(G.ex e2).is, fun z => z⟩
      · exact ⟨by rw [h1']; exact fun z => (nomatch z), fun z => z⟩
      · exact ⟨by rw [h2']; exact fun z => (nomatch z), fun z => z⟩
    · intro Hs e
      exact ⟨xs, [], none, rfl, Exc.refl _, Rf.of_ex (e2.trans e), e _ _ h1', e _ _ h2', rfl, List.Perm.refl _⟩
    · rintro Hs i σ' H' ⟨_, _, _, _, h, _⟩
      exact h
    · rintro Hs i σ' Ha Hb ⟨ys, zs, v, h0, h3, h4, h5, h6, h7⟩ e
      exact ⟨ys, zs, v, h0, h3.then e, h4.then e, e _ _ h5, e _ _ h6, h7⟩
    · rintro Hs i x σ' H' e hi ⟨ys, zs, v, rfl, h3, h4, h5, h6, h7, h8⟩ rfl
      have hly := h8.length_eq
      rw [List.length_append] at hly
      show tDrop _ _ [some (.ref fa), some (.ref p), some (.ref pool), some (.ref got), some (.int (i : Int))] H'
      refine ⟨.ref got, rfl, .inl ⟨rfl, zs, sq_of h6⟩, .ref pool, rfl, .inl ⟨rfl, ys, sq_of h5⟩, ?_⟩
      refine wp_draw (many := (ys.length : Int)) rfl (ev_len (ev_var rfl) (sq_of h5)) (G.go h4 (m' := 1) (by omega)) (by omega) (by omega) fun d H3 hd R3 => ?_
      have hd' : d < ys.length := by omega
      have h53 := R3.at_ h5 n1
      refine ⟨pool, ys, (d : Int), d, ys[d], rfl, rfl, h53, by omega, by omega, seqIx_nat hd', List.getElem?_eq_getElem hd', ?_⟩
      · have h63 := R3.at_ h6 n2
        refine ⟨got, zs, ys[d], rfl, rfl, by rw [upd_ne (Ne.symm npg)]; exact h63, sz_lt (by omega), ?_⟩
        have hpm : (ys[d] :: ys.eraseIdx d).Perm ys := erase_perm hd'
        refine ⟨ys.eraseIdx d, zs ++ [ys[d]], _, rfl, ?_, ?_, by rw [upd_ne npg, upd_same], upd_same, by simp [h7], ?_⟩
        · exact ((h3.trans (fun b o nb hb => R3.keep b o (fun z => nb (.inl z)) hb)).upd (.inl (.inr (.inl rfl)))).upd (.inl (.inr (.inr rfl)))
        · exact ((h4.trans R3).upd (fresh_back (Ex.refl H) hpool) G.is).upd ngot G.is
        · refine List.Perm.trans ?_ h8
          rw [List.append_assoc]
          exact List.Perm.append_left zs hpm
    · rintro Hs σ' H' e ⟨ys, zs, v, rfl, h3, h4, h5, h6, h7, h8⟩
      have hly := h8.length_eq
      rw [List.length_append] at hly
      have hy : ys = [] := List.length_eq_zero_iff.mp (by omega)
      subst hy
      rw [List.append_nil] at h8
      exact s_ret (ev_var rfl) fun H3 e3 => k got zs H3 h8 ngot (h4.then e3) (e3 _ _ h6)
theorem ok__law_kept {f : Addr} {fd : FuncData} (F : Fun K "_law_kept" "_law_kept" st__law_kept f fd) (M : Md K mg) (C__law_mixed : Cal P w K mg base "_law_mixed" st__law_mixed 2 ["feed", "things"] (sp_mixed K)) : FnOk P w K mg base CX0 3 f fd ["feed", "words", "most"] (sp_kept K) := by
  have nd := sc__law_kept.nd
  refine F.ok sc__law_kept (fun vs H Q E h => ?_) (fun cdv A outer s H vs Q E hr h => ?_)
  · obtain ⟨_, _, _, _, rfl, _⟩ := h
    rfl
  · obtain ⟨fa, p, ws, most, rfl, hp, hne, hl, hw, hm1, hm2, G, k⟩ := h
    refine ⟨_, (pss_cons (ps_set (i := 3) nd rfl (Or.inl rfl) (pe_callB (ksorted P w K hr.units) (by rfl) M.n_sorted boot_sorted (pa_cons (pe_callTy (kset P w K) (by rfl) M.n_set boot_set (pa_cons (pe_lc (own := [("word", 4)]) rfl nd (kil K (pi_list (pv 1))) (blkOk_by (N := N__law_kept) (sc := defScope st__law_kept) (by decide +kernel)) (fun _ _ _ _ _ => (pg_name (i := 4) nd rfl (Or.inl rfl))) (fun _ _ _ _ _ => (pts_one (pt_chain op_le op_le pe_int (pe_callB cr_lenT (by rfl) M.n_len boot_len (pa_cons (pv 4) pa_nil)) pe_int))) (fun _ _ _ _ _ => (pv 4))) pa_nil)) pa_nil)))
  (pss_cons (ps_set (i := 5) nd rfl (Or.inl rfl) (pe_ifExp (pt_cmpR op_gt (pe_callB (kcr K (r := rLenS) call_len_seq) (by rfl) M.n_len boot_len (pa_cons (pv 3) pa_nil)) (pv 2) (nomark _)) (pe_slice (ksl K (r := rSlL) sl_list) (pe_cl C__law_mixed hr (pa_cons (pv 0) (pa_cons (pv 3) pa_nil))) po_none (po_some (pv 2))) (pv 3)))
  (pss_one (ps_ret (pe_ifExp (pt_cmpR (kop K (r := rNeD) (op_neD hr.units)) (pv 5) (pe_lst pa_nil) (nomark _)) (pe_callTy (kcr K (r := rTupS) call_tuple_of) (by rfl) M.n_tuple boot_tuple (pa_cons (pe_callB (ksorted P w K hr.units) (by rfl) M.n_sorted boot_sorted (pa_cons (pv 5) pa_nil)) pa_nil)) (pe_tup (pa_cons (pe_sT [97, 98]) pa_nil))))))), ?_⟩
    -- good
    have hlc : EvL (tLc (iList K (tVar 1)) (gName 4) (tTest (tChain (rI0 fun i j => .bl (decide (i ≤ j))) (rI0 fun i j => .bl (decide (i ≤ j))) (tC (.int 1)) (tCB rLenT (tCons (tVar 4) tNil)) (tC (.int 12)))) (tVar 4) [4]) (start N__law_kept [.ref fa, .ref p, .int (most : Int)]) H ((ws.filter fun t => decide (1 ≤ (t.length : Int)) && decide ((t.length : Int) ≤ 12)).map T) := by
      refine el_lcF (j := 4) (vs := [4]) (f := T) (g := T) ws (src_listM (ev_var rfl) hp) (by omega) (fun _ => rfl) (fun t H1 e1 ht => ?_) (fun t H1 e1 ht _ => ev_var rfl)
      have := (hw t ht).1
      exact et_test (ev_chain ev_c (ev_cb (ea_cons (ev_var rfl) ea_nil) (rc_lenT (by omega))) rv_I0 ev_c rv_I0)
    have hfl := List.length_filter_le (fun t : Tx => decide (1 ≤ (t.length : Int)) && decide ((t.length : Int) ≤ 12)) ws
    refine el_sortSet hlc (by omega) _ fun pg ys H1 u hly hpg e1 h1 => ?_
    have hys : ∀ t ∈ ys, 1 ≤ t.length ∧ t.length ≤ 12 ∧ ∀ c ∈ t, abcd c := fun t ht => by
      have h := (u.mem t).mp ht
      rw [List.mem_filter, Bool.and_eq_true, decide_eq_true_eq, decide_eq_true_eq] at h
      exact ⟨by omega, by omega, (hw t h.1).2⟩
    have hgl : (sortT ys).length = ys.length := sortT_len ys
    have hgd : (sortT ys).Nodup := (sortT_perm ys).nodup_iff.mpr u.nd
    have hgm : ∀ t ∈ sortT ys, 1 ≤ t.length ∧ t.length ≤ 12 ∧ ∀ c ∈ t, abcd c := fun t ht => hys t (sortT_mem.mp ht)
    generalize sortT ys = good at h1 hgl hgd hgm
    have hn1 : pg ≠ fa := G.new hpg
    show tSeq _ _ _ [some (.ref fa), some (.ref p), some (.int (most : Int)), some (.ref pg), none, none] H1
    -- behind some
    have rest : ∀ (ps : Addr) (some_ : List Tx) H2, Rf fa 1000 H H2 → H2 ps = some (.lst (some_.map T)) → some_.Nodup → some_.length ≤ most → (∀ t ∈ some_, 1 ≤ t.length ∧ t.length ≤ 12 ∧ ∀ c ∈ t, abcd c) → tRet (tIf (tTest (tOp (rNeD K) (tVar 5) (tLst tNil))) (tCB (rTupS K) (tCons (tCB (rSortX K P w) (tCons (tVar 5) tNil)) tNil)) (tTup (tCons (tC (T [97, 98])) tNil))) { nx := fun _ H' => Q .non H', rt := Q } [some (.ref fa), some (.ref p), some (.int (most : Int)), some (.ref pg), none, some (.ref ps)] H2 := fun ps sm H2 R2 h2 hd hlen hg => by
      have G2 : GF fa 0 H2 := G.go R2 (by omega)
      have hdp : ∀ H3, Ex H2 H3 → Dp K H3 (.ref ps) (.list (sm.map dT)) := fun H3 e3 => dp_list (sq_of (e3 _ _ h2)) fun x _ => .str _
      have hlay : (PyData.list (sm.map dT)).canLay0 = true := lay_list fun x hx => lay_T fun c hc => by
        have := ((hg x hx).2.2 c hc).2
        omega
      have heq : PyData.eqv (.list (sm.map dT)) (.list []) = decide (sm = []) := by
        cases sm <;> rfl
      refine s_retIf (b := !decide (sm = [])) (et_test (fun H3 e3 Q3 q3 => (ev_var rfl : Ev (tVar 5) [some (.ref fa), some (.ref p), some (.int (most : Int)), some (.ref pg), none, some (.ref ps)] H2 (.ref ps)) H3 e3 _ fun H4 e4 => (el_lst ea_nil (by decide) : EvL (tLst tNil) [some (.ref fa), some (.ref p), some (.int (most : Int)), some (.ref pg), none, some (.ref ps)] H4 []) H4 (Ex.refl _) _ fun pe H5 hpe e5 h5 => ⟨_, .list [], (hdp H5 ((e3.trans e4).trans e5)), .lst (sq_of h5) .nil, shaped_of hlay (by
        show PyData.depthAll (sm.map dT) + 1 ≤ 64
        have := depth_all (g := dT) (m := 0) (xs := sm) fun x _ => Nat.le_refl _
        omega), by decide, by rw [heq]; exact q3 H5 (e4.trans e5)⟩)) (fun hb H3 e3 => ?_) (fun hb H3 e3 => ?_)
      · have hnn : sm ≠ [] := by simpa using hb
        refine (el_sorted (ev_var rfl) (sq_of (e3 _ _ h2)) : EvL (tCB (rSortX K P w) (tCons (tVar 5) tNil)) [some (.ref fa), some (.ref p), some (.int (most : Int)), some (.ref pg), none, some (.ref ps)] H3 ((sortT sm).map T)) H3 (Ex.refl _) _ fun pq H4 hpq e4 h4 => ⟨pq, _, rfl, .inl ⟨sq_of h4, fun l hl => ?_⟩⟩
        have RR := (R2.then e3).then e4
        refine k l (sortT sm) _ ⟨fun z => hnn ?_, by rw [sortT_len]; omega, fun t ht => ⟨(hg t (sortT_mem.mp ht)).2.1, (hg t (sortT_mem.mp ht)).2.2⟩, fun t ht z => ?_, pw_lt (sortT_pw sm) ((sortT_perm sm).nodup_iff.mpr hd)⟩ (by rw [sortT_len]; exact hlen) (RR.free G.is hl ((G2.ex e3).ex e4).is) (RR.then (Ex.new hl)) upd_same
        · have := sortT_len sm
          rw [z] at this
          exact List.length_eq_zero_iff.mp this.symm
        · have := (hg t (sortT_mem.mp ht)).1
          rw [z] at this
          simp at this
      · refine ⟨by decide, fun l hl => ?_⟩
        have RR := R2.then e3
        refine k l [[97, 98]] _ ⟨by simp, by simp, fun t ht => ?_, fun t ht z => ?_, by simp⟩ hm1 (RR.free G.is hl (G2.ex e3).is) (RR.then (Ex.new hl)) upd_same
        · simp at ht
          subst ht
          exact ⟨by decide, fun c hc => by simp at hc; unfold abcd; omega⟩
        · simp at ht
          rw [z] at ht
          cases ht
    -- some
    have hL : EvT (tTest (tOp (rI0 fun i j => .bl (decide (i > j))) (tCB (rLenS K) (tCons (tVar 3) tNil)) (tVar 2))) [some (.ref fa), some (.ref p), some (.int (most : Int)), some (.ref pg), none, none] H1 (decide ((((good.map T).length : Nat) : Int) > (most : Int))) := et_test (ev_op (ev_len (ev_var rfl) (sq_of h1)) (ev_var rfl) rv_I0)
    refine hL H1 (Ex.refl _) _ fun H2 e2 => ?_
    have e12 : Ex H H2 := e1.trans e2
    have hgl2 : good.length ≤ 1000 := by omega
    by_cases hb : (((good.map T).length : Nat) : Int) > (most : Int)
    · rw [decide_eq_true hb, if_pos rfl]
      refine ⟨.ref fa, rfl, .ref pg, rfl, fa, pg, good.map T, rfl, sq_of (e2 _ _ h1), hn1, by rw [List.length_map]; exact hgl2, (G.ex e12).mono (by rw [List.length_map]; exact hgl2), fun q xs H3 pm hq R3 h3 => ?_⟩
      obtain ⟨zs, rfl, pz⟩ := perm_texts pm
      have R3' : Rf fa 1000 H H3 := (Rf.pre e12 R3).mono (by rw [List.length_map]; exact hgl2)
      have hgz : ∀ t ∈ zs, 1 ≤ t.length ∧ t.length ≤ 12 ∧ ∀ c ∈ t, abcd c := fun t ht => hgm t (pz.mem_iff.mp ht)
      refine ⟨.int (most : Int), rfl, (most : Int), rfl, q, zs.map T, rfl, sq_of h3, fun r hr => ?_⟩
      rw [cutV_to, ← List.map_take]
      exact rest r (zs.take most) _ (R3'.then (Ex.new hr)) upd_same ((pz.nodup_iff.mpr hgd).sublist (List.take_sublist _ _)) (by rw [List.length_take]; omega) fun t ht => hgz t (List.mem_of_mem_take ht)
    · rw [decide_eq_false hb, if_neg Bool.false_ne_true]
      rw [List.length_map] at hb
      exact ⟨.ref pg, rfl, rest pg good H2 ((Rf.of_ex e12).mono (Nat.zero_le _)) (e2 _ _ h1) hgd (by omega) hgm⟩
end
end K21
set_option Elab.async false
set_option linter.all false
set_option maxRecDepth 100000
set_option maxHeartbeats 2000000
/-! comprehensions with any target -/
namespace Wt
open PySem PySem.Spec PyProof.Rows L2 Evl Wc
section
variable {K : PySem.W.Frag} {σ : L2.St} {H : Hp} {te : TE} {t : TT}
theorem el_lcG {α : Type} {wi : TI} {g : TG} {vs : List Nat} {n : Nat} {own : Addr → Prop} {P : Nat → V → Hp → Prop} {gv : α → V} {p : α → Bool} (xs : List α) (st : α → L2.St) (R : α → V → Hp → Prop) (hs : Src wi σ H n own P) (hn : n ≤ 40000) (hx : xs.length = n)
    (hP : ∀ i x H1, P i x H1 → ∃ a, xs[i]? = some a ∧ R a x H1) (hg : ∀ a x H1 (Q' : L2.St → Hp → Prop), R a x H1 → Q' (st a) H1 → g x (wipe σ vs) H1 Q') (hw : ∀ a, wipe (st a) vs = wipe σ vs)
    (ht : ∀ a H1, Ex H H1 → a ∈ xs → EvT t (st a) H1 (p a)) (he : ∀ a H1, Ex H H1 → a ∈ xs → p a = true → Ev te (st a) H1 (gv a)) : EvL (tLc wi g t te vs) σ H ((xs.filter p).map gv) := fun H0 e Q q => by
  have hgm := given_map xs p gv (fun i => match xs[i]? with | some a => p a | none => false) (fun i => match xs[i]? with | some a => gv a | none => .non) (fun i a ha => by simp only [ha]) (fun i a ha => by simp only [ha])
  rw [hx] at hgm
  generalize hf : (fun (i : Nat) => match xs[i]? with | some a => p a | none => false) = f at hgm
  generalize hv : (fun (i : Nat) => match xs[i]? with | some a => gv a | none => V.non) = v at hgm
  exact hs H0 e _ fun J H1 S e1 w hS => fun Dl hD =>
    lc_it w (Qd := fun H3 => Q (.ref Dl) H3) (Cw H1 f v Dl) ⟨hD, Ex.new hD, upd_same⟩ (fun i Hi _ c => hS (fun _ => False) Hi (fun _ z => z.elim) (.of c.2.1)) (fun i x Hi Hj hi c hy => by
      obtain ⟨ey, hPi⟩ := hy
      obtain ⟨a, ha, hr⟩ := hP i x Hj hPi
      have hm : a ∈ xs := List.mem_of_getElem? ha
      have fa : f i = p a := by rw [← hf]; simp only [ha]
      have va : v i = gv a := by rw [← hv]; simp only [ha]
      have c' : Cw H1 f v Dl i Hj := ⟨c.1, c.2.1.trans ey, ey _ _ c.2.2⟩
      have eAll : Ex H Hj := (e.trans e1).trans c'.2.1
      obtain ⟨c1, c2, c3⟩ := c'
      refine hg a x Hj _ hr ⟨hw a, ht a Hj eAll hm Hj (Ex.refl _) _ fun H3 e3 => ?_⟩
      cases hp : p a with
      | true =>
        show te (st a) H3 fun y H4 => ∃ acc, H4 Dl = some (.lst acc) ∧ acc.length < sizeLine ∧ Cw H1 f v Dl (i + 1) (upd H4 Dl (.lst (acc ++ [y])))
        refine he a Hj eAll hm hp H3 e3 _ fun H4 e4 => ⟨given i f v, e4 Dl _ (e3 Dl _ c3), sz_lt (by have := given_len i f v; omega), c1, Ex.mut ((c2.trans e3).trans e4) c1, ?_⟩
        rw [given_yes (fa.trans hp), va]
        exact upd_same
      | false =>
        show Cw H1 f v Dl (i + 1) H3
        refine ⟨c1, c2.trans e3, ?_⟩
        rw [given_no (fa.trans hp)]
        exact e3 Dl _ c3) (fun H3 c => by
      refine q Dl H3 (fresh_back e1 c.1) (e1.trans c.2.1) ?_
      rw [← hgm]
      exact c.2.2)
theorem rc_allT {α : Type} {q : Addr} {xs : List α} (h : SqL K H q (xs.map fun _ => V.bl true)) : RC (rAll K) [.ref q] H (.bl true) := by
  have e := rc_allM (f := fun _ : α => true) h
  rw [show (xs.all fun _ => true) = true by simp] at e
  exact e
/-- t[1:] -/
theorem el_dropU {p : Addr} {xs : List V} (h : Ev te σ H (.ref p)) (hp : SqT K H p xs) (hn : 0 < xs.length) : EvU (tSl (rSlA K) te (tPart (tC (.int 1))) tNoPart) σ H (xs.drop 1) := fun H1 e Q q => h H1 e _ fun H2 e2 => ⟨1, rfl, p, xs, rfl, ex_t (e.trans e2) hp, fun z => by
    have := z.1
    rw [show (1 : Int) = ((1 : Nat) : Int) from rfl, HT.sIx_nat] at this
    omega, fun _ r hr => by
    have := q r _ (fresh_back e2 hr) (e2.trans (Ex.new (o := .tup (cutV xs (some ((1 : Nat) : Int)) none)) hr)) (by rw [upd_same, cutV_from])
    exact this⟩
end
end Wt
set_option Elab.async false
set_option linter.all false
set_option maxRecDepth 100000
set_option maxHeartbeats 4000000
/-! sets of numbers out of a list, sorted -/
namespace Wt
open PySem PySem.Spec PyProof.Rows L2 Evl Wc
section
variable {P : Program} {w : World} {A : Around} {E : Value → Shared → Prop} {s : Shared}
set_option maxHeartbeats 3200000 in
theorem call_set_ints {src : Addr} {its : Array Value} {xs : List Int} {Q : Value → Shared → Prop} (noH : A.handled = none) (isl : s.heap.IsList src its) (hit : IntsAre its.toList xs) (room : xs.length + 1 < scanBound)
    (fin : ∀ (h2 : Heap) (tk c : Nat), SetR w h2 s.heap.objs.size (fun j => decide (j ∈ xs)) c → c ≤ xs.length → (∀ b o, s.heap.get? b = some o → h2.get? b = some o) → Q (.ref s.heap.objs.size) { s with heap := h2, toks := tk }) :
    wpAny (model P w) A (call (.type "set") [.ref src]) Q E s := by
  have lx : xs.length = its.size := by rw [← Array.length_toList, IntsAre.length hit]
  obtain ⟨c, tl, q0⟩ := PySem.F.called_set.mro
  have q1 := PySem.F.called_set.made; have q2 := PySem.F.called_set.sub
  refine wpAny_call (codeAny_of_tree (wpAny_pure ⟨Code.quiet_builtin _ (by decide +kernel), codeAny_builtin PySem.F.entry_type_call ?_⟩))
  rw [Around.under_plain (weight_type_call_type "set" [.ref src] []) rfl]
  have q3 := PySem.F.called_set.notType; have q4 := PySem.F.called_set.canCreate
  have q5 := PySem.F.typeCall_set_1 (.ref src)
  repeat (any_goals (first | assumption | wp_step))
  refine codeAny_mono (code_set_led1 (.ref src) (E := E) (Q₁ := fun ob t1 => ob = .ref s.heap.objs.size ∧ t1 = { s with heap := s.heap.push (so w) }) ⟨rfl, rfl⟩) fun r t1 hr => ?_
  match r, hr with
  | .error e, hr => exact hr
  | .ok (.ret ob), hr =>
    obtain ⟨rfl, rfl⟩ := hr
    have atS : (s.heap.push (so w)).get? s.heap.objs.size = some (so w) := Heap.get?_push_size _ rfl
    have tyS : Shared.TypeIs { s with heap := s.heap.push (so w) } (.ref s.heap.objs.size) "set" := ⟨_, atS, rfl⟩
    have q6 := PySem.F.called_set.init.lookup
    have q7 := PySem.F.called_set.init.bind (.ref s.heap.objs.size)
    repeat (any_goals (first | assumption | wp_step))
    refine codeAny_mono (codeAny_call_builtin (R := wants (fun r t2 => r = .none ∧ ∃ h2 tk c, t2 = { s with heap := h2, toks := tk } ∧ SetR w h2 s.heap.objs.size (fun j => decide (j ∈ xs)) c ∧ c ≤ xs.length ∧ ∀ b o, s.heap.get? b = some o → h2.get? b = some o) E) PySem.F.called_set.init.plain PySem.F.entry_set_init (check_set_init_1 tyS ?_)) fun r2 t2 hr2 => ?_
    · obtain ⟨ol, atl, cl, nl, dl⟩ := isl
      obtain ⟨ocls, odict, odata, oslots⟩ := ol
      simp only at cl dl
      subst cl; subst dl
      have lt := Heap.lt_size atl
      have isl2 : (s.heap.push (so w)).IsList src its := ⟨_, Heap.get?_push_of_some _ atl, rfl, nl, rfl⟩
      have q8 := PySem.F.sub_list_set; have q9 := PySem.F.sub_list_frozenset
      have q10 : (Value.type "list" == Value.type "dict") = false := by decide
      have atl2 : (s.heap.push (so w)).get? src = some { cls := .type "list", dict := odict, data := .seq its nl, slots := oslots } := Heap.get?_push_of_some _ atl
      unfold Builtin.«set.__init__» noKeywords Builtin.Frozenset.updateFrom
      generalize hI : pyIter = iter
      wp_walk
      subst hI
      refine wpAny_pyIter_list isl2 (wpAny_bind (wpAny_runValue ?_))
      have no3 : A.in1.in1.in1.handled = none := by simp [noH]
      have zI : (s.heap.push (so w)).objs.size = s.heap.objs.size + 1 := Heap.size_push ..
      have ne1 : src ≠ (s.heap.push (so w)).objs.size := by rw [zI]; exact Nat.ne_of_lt (Nat.lt_succ_of_lt lt)
      have out1 : s.heap.objs.size ∉ [(s.heap.push (so w)).objs.size, src] := by
        rw [zI]
        intro z
        rcases List.mem_cons.mp z with z | z
        · exact absurd z (Nat.ne_of_lt (Nat.lt_succ_self _))
        · exact absurd (List.mem_singleton.mp z) (Nat.ne_of_gt lt)
      refine set_update_ints (P := P) ((Walks.list no3 _ src ne1 its).toS) s.heap.objs.size out1 xs lx.symm room (fun i v hv => ?_) its.size 0 _ (Nat.sub_zero _) (Nat.zero_le _) ⟨⟨_, Heap.get?_push_size _ rfl, rfl, rfl⟩, isl2.push _⟩ ⟨0, Nat.le_refl _, setR_new_at (ns := xs) (Heap.get?_push_of_some _ atS)⟩ fun s2 l2 mv hc2 X2 => ?_
      · have hv2 : its.toList[i]? = some v := by rw [Array.getElem?_toList]; exact hv
        obtain ⟨t, e⟩ := IntsAre.int_at hit i v hv2
        have hi : i < xs.length := by
          have := (List.getElem?_eq_some_iff.mp hv2).1
          rw [Array.length_toList] at this
          omega
        exact ⟨xs[i], t, List.getElem?_eq_getElem hi, by rw [e, List.getD_eq_getElem?_getD, List.getElem?_eq_getElem hi]; rfl⟩
      · obtain ⟨h2, g2, d2, tk2, os2⟩ := s2
        obtain rfl : g2 = s.gens := mv.gens
        obtain rfl : d2 = s.drawn := mv.drawn
        obtain rfl : os2 = s.os := mv.os
        show wpAny _ _ (Bind.bind (pure _) _) _ _ _
        refine wpAny_pure (wpAny_pure ⟨rfl, h2, tk2, l2, rfl, X2, by omega, fun b o e => ?_⟩)
        have hb := Heap.lt_size e
        refine mv.heap b o (fun z => ?_) (Heap.get?_push_of_some _ (Heap.get?_push_of_some _ e))
        rw [zI] at z
        rcases List.mem_cons.mp z with z | z
        · exact absurd z (Nat.ne_of_lt hb)
        · exact absurd (List.mem_singleton.mp z) (Nat.ne_of_lt (Nat.lt_succ_of_lt hb))
    · match r2, hr2 with
      | .error e, hr2 => exact hr2
      | .ok (.ret v2), hr2 =>
        obtain ⟨rfl, h2, tk, l, rfl, X, m, k⟩ := hr2
        repeat (any_goals (first | assumption | wp_step))
        exact fin _ _ _ X m k
end
section
variable {X : Cx}
def rSetI (K : PySem.W.Frag) (w : World) : List V → Hp → VK → Prop := fun vs H Q => ∃ (p : Addr) (ns : List Int), vs = [.ref p] ∧ SqL K H p (ns.map V.int) ∧ ns.length ≤ 60 ∧ ∀ q c, c ≤ ns.length → H q = none → Q (.ref q) (upd H q (SetO w q (fun j => decide (j ∈ ns)) c))
theorem cr_setI (hc : X.calm = true) : CallR X (.type "set") (rSetI X.K X.w) := by
  intro pins s σ H vs us Q I r h
  obtain ⟨p, ns, rfl, hp, hl, q⟩ := h
  rw [Vals.ref1 r]
  obtain ⟨its, rv, pl, hz⟩ := I.list hp
  refine call_set_ints (P := X.prog) (xs := ns) (I.ok.hd hc) pl.isList (ints_of_vals rv) (by unfold scanBound; omega) fun h2 tk c R m k => ?_
  have hn : H s.heap.objs.size = none := I.hok.fresh (Nat.le_refl _)
  exact ⟨.ref _, upd H s.heap.objs.size (SetO X.w s.heap.objs.size (fun j => decide (j ∈ ns)) c), I.laid (t' := tk) k (Nat.le_refl _) (setO_new R), rfl, q _ c m hn⟩
theorem ksetI {K : PySem.W.Frag} {w : World} (hc : X.calm = true := by rfl) (hK : X.K = K := by rfl) (hw : X.w = w := by rfl) : CallR X (.type "set") (rSetI K w) := by
  subst hK hw
  exact cr_setI hc
theorem ksortI {w : World} (hc : X.calm = true := by rfl) (hw : X.w = w := by rfl) : CallR X (.builtin "sorted") (rSortedSet w) := by
  subst hw
  exact cr_sortedSet hc
end
/-- sorted(set(..)) of the numbers of a standing list -/
theorem sortIntsAt {K : PySem.W.Frag} {w : World} {p : Addr} {ns : List Int} {H : Hp} {Q : VK} (hp : H p = some (.lst (ns.map V.int))) (hl : ns.length ≤ 60) (k : ∀ (r : Addr) (zs : List Int) (H3 : Hp), zs.Pairwise (· < ·) → (∀ z, z ∈ zs ↔ z ∈ ns) → H r = none → Ex H H3 → H3 r = some (.lst (zs.map V.int)) → Q (.ref r) H3) : rSetI K w [.ref p] H fun s H2 => rSortedSet w [s] H2 Q :=
  ⟨p, ns, rfl, Evl.sq_of hp, hl, fun q c hc hq => ⟨q, _, c, rfl, upd_same, by omega, fun zs r ha hm hz hr => k r zs _ ha (fun z => (hm z).trans decide_eq_true_iff) (fresh_back (Ex.new hq) hr) ((Ex.new hq).trans (Ex.new hr)) upd_same⟩⟩
end Wt
set_option Elab.async false
set_option linter.all false
set_option maxRecDepth 100000
set_option maxHeartbeats 2000000
/-! objects of an own class; ranges downwards; repeated lists -/
namespace Wt
open PySem PySem.Spec PyProof.Rows L2 Evl Wc
/-- the class at C, as it is made by a call -/
structure Mak (P : Program) (w : World) (K : PySem.W.Frag) (mg : Str → Option Value) (base : Heap) (k : Nat) (C : Addr) (x : Str) (sp : Sp) : Prop where
  ex : ∃ (f : Addr) (fd : FuncData) (ps : List Str), Mk K C f ∧ FnOk P w K mg base CX0 k f fd ps sp ∧ Binds K fd ps [] ∧ mg x = some (.ref C)
theorem pe_mkM {X : Cx} {k n : Nat} {C : Addr} {x : Str} {sp : Sp} {p pos : Pos} {e : Expr} {es : List Expr} {t : TA} (c : Mak X.prog X.w X.K X.mg X.base k C x sp) (hr : Room n X.A) (ha : PA X (e :: es) t) (hk : k + 1 ≤ n := by decide) (hg : Gl X x := by rfl)
    (hdb : (x == ("__debug__" : Str)) = false := by decide) (he : starEach (e :: es) X.env = (false, eval e X.env) :: starEach es X.env := by rfl) (hpl : (backTo pos (starEach es X.env)).any (·.1) = false := by rfl) : PE X (.Call (.Name x p) (e :: es) [] pos) (tMake C sp [] E0 t) := by
  obtain ⟨f, fd, ps, M, F, b, hm⟩ := c.ex
  exact pe_make M F (hr.mono hk) hg hm b .nil pass0 ha hdb he hpl
section
variable {K : PySem.W.Frag} {σ : L2.St} {H : Hp} {te ta tb : TE} {C x dx : Addr} {fs : List (Str × V)} {f : Str} {v : V}
theorem ev_fld (h : Ev te σ H (.ref x)) (hx : H x = some (.ins C dx fs)) (c : Cls K C) (n : NoAttr K C f) (l : fs.lookup f = some v) : Ev (tFld K te f) σ H v := fun H1 e Q q => h H1 e _ fun H2 e2 => ⟨x, C, dx, fs, v, rfl, (e.trans e2) _ _ hx, c, n, l, q H2 e2⟩
/-- a field is stored -/
theorem q_fld {D : Ends} {tz : TS} (h : Ev te σ H v) (hx : σ[0]? = some (some (.ref x))) (hH : H x = some (.ins C dx fs)) (c : Cls K C) (n : NoAttr K C f) (hl : fs.length < 1000) (k : ∀ H1, Ex H H1 → tz D σ (upd H1 x (.ins C dx (putF f v fs)))) : tSeq (sFld K (tVar 0) te f) tz D σ H :=
  h H (Ex.refl _) _ fun H1 e1 => ⟨_, hx, x, C, dx, fs, rfl, e1 _ _ hH, c, n, hl, k H1 e1⟩
theorem q_fldL {D : Ends} {tz : TS} {xs : List V} (h : EvL te σ H xs) (hx : σ[0]? = some (some (.ref x))) (hH : H x = some (.ins C dx fs)) (c : Cls K C) (n : NoAttr K C f) (hl : fs.length < 1000) (k : ∀ p H1, H p = none → Ex H H1 → H1 p = some (.lst xs) → tz D σ (upd H1 x (.ins C dx (putF f (.ref p) fs)))) : tSeq (sFld K (tVar 0) te f) tz D σ H :=
  h H (Ex.refl _) _ fun p H1 hp e1 h1 => ⟨_, hx, x, C, dx, fs, rfl, e1 _ _ hH, c, n, hl, k p H1 hp e1 h1⟩
theorem el_rep {xs : List V} {n : Nat} (h : EvL ta σ H xs) (h2 : Ev tb σ H (.int (n : Int))) (hz : xs.length * n ≤ 100000) (hn : n ≤ 1000000) : EvL (tOp rRep ta tb) σ H (List.replicate n xs).flatten := fun H1 e Q q => h H1 e _ fun p H2 hp e2 hp2 => h2 H2 (e.trans e2) _ fun H3 e3 => ⟨p, (n : Int), xs, rfl, rfl, e3 _ _ hp2, by omega, by omega, sz_of hz, fun r hr => by
  have := q r _ (fresh_back (e2.trans e3) hr) ((e2.trans e3).trans (Ex.new (o := .lst (List.replicate (n : Int).toNat xs).flatten) hr)) upd_same
  exact this⟩
theorem rep_one (n : Nat) (v : V) : (List.replicate n [v]).flatten = List.replicate n v := by
  induction n with
  | zero => rfl
  | succ n ih => rw [List.replicate_succ, List.flatten_cons, ih, List.replicate_succ]; rfl
theorem el_catNV {p : Addr} {xs ys : List V} (ha : EvL ta σ H xs) (hb : Ev tb σ H (.ref p)) (hp : H p = some (.lst ys)) (hz : xs.length + ys.length ≤ 100000) : EvL (tOp rCat ta tb) σ H (xs ++ ys) := fun H1 e1 Q q =>
  ha H1 e1 _ fun r H2 hr e2 h2 => hb H2 (e1.trans e2) _ fun H3 e3 => ⟨r, p, xs, ys, rfl, rfl, e3 _ _ h2, ((e1.trans e2).trans e3) _ _ hp, sz_of hz, fun n hn => q n _ (fresh_back (e2.trans e3) hn) ((e2.trans e3).trans (Ex.new hn)) upd_same⟩
/-- n - 1, n - 2, .. 0 -/
theorem src_down {tq : TA} {n : Nat} (h : EvA tq σ H [.int ((n : Int) - 1), .int (-1), .int (-1)]) (hn : n ≤ 1000000000) : Src (iRng3 tq) σ H n (fun _ => False) (fun i v _ => v = .int ((n : Int) - 1 - (i : Int))) := fun H1 e R q =>
  h H1 e _ fun H2 e2 => ⟨_, _, _, n, rfl, by
    have := RgC.neg (i := (n : Int) - 1) (j := -1) (by omega) (by omega) (by decide) (by decide)
    have e : ((n : Int) - 1 - -1).toNat = n := by omega
    rw [e] at this
    exact this, by
    have w := (walk_rangeC (lo := (n : Int) - 1) (c := -1) (n := n)).mono (fun _ z => z) (Y' := fun i Ha v Hb => Ex Ha Hb ∧ v = .int ((n : Int) - 1 - (i : Int))) (fun i Ha v Hb _ _ hy => by
      obtain ⟨rfl, rfl⟩ := hy
      exact ⟨Ex.refl _, by show V.int ((n : Int) - 1 + ((i : Nat) : Int) * -1) = _; congr 1; omega⟩)
    exact q _ H2 _ e2 w fun _ _ _ _ => True.intro⟩
end
/-- xs[k], by values -/
def rGetN (K : PySem.W.Frag) : V → V → Hp → VK → Prop := fun o i H Q => ∃ (p : Addr) (xs : List V) (k : Nat) (z : V), o = .ref p ∧ i = .int (k : Int) ∧ SqL K H p xs ∧ xs[k]? = some z ∧ Q z H
theorem get_listN {X : Cx} : PGet X (rGetN X.K) := by
  intro pins s σ H o i ov iv Q I ro ri h
  obtain ⟨p, xs, k, z, rfl, rfl, hp, hz, q⟩ := h
  cases ro
  obtain ⟨t, rfl⟩ := ri
  obtain ⟨its, rv, pl, hs⟩ := I.list hp
  obtain ⟨u, hu, ru⟩ := rv.get hz
  have hk := (List.getElem?_eq_some_iff.mp hz).1
  have h63 : ((k : Int) < 2 ^ 63) := by
    have : sizeLine < 2 ^ 63 := by decide
    omega
  exact wpAny_getItem_list pl.isList (by omega) h63 (x := u) (by simpa using hu) ⟨z, H, I, ru, q⟩
theorem kget {X : Cx} (K : PySem.W.Frag) (hK : X.K = K := by rfl) : PGet X (rGetN K) := hK ▸ get_listN
end Wt
set_option Elab.async false
set_option linter.all false
set_option maxRecDepth 100000
set_option maxHeartbeats 2000000
namespace Wt
open PySem PySem.Spec PyProof.Rows L2 Evl Wc
/-! ### (number, text) < (number, text) -/
def rLtIT (K : PySem.W.Frag) : R2 := fun x y H Q => ∃ (a b : Addr) (m n : Int) (s t : Tx), x = .ref a ∧ y = .ref b ∧ SqT K H a [.int m, T s] ∧ SqT K H b [.int n, T t] ∧ Q (.bl (decide (m < n ∨ (m = n ∧ s < t)))) H
theorem op_ltIT {X : Cx} (hu0 : X.A.units + 64 < cLine) : OpR X (compareOp .Lt) (rLtIT X.K) := by
  intro pins s σ H x y v u Q I rx ry h
  have hu : X.A.units < cLine := Nat.lt_of_le_of_lt (Nat.le_add_right _ _) hu0
  obtain ⟨a, b, m, n, c, d, rfl, rfl, ha, hb, q⟩ := h
  cases rx
  cases ry
  obtain ⟨its, r1, p1, _⟩ := I.tuple ha
  obtain ⟨its2, r2, p2, _⟩ := I.tuple hb
  cases r1 with
  | cons rm r1 =>
  cases r1 with
  | cons rc r1 =>
  cases r1
  cases r2 with
  | cons rn r2 =>
  cases r2 with
  | cons rd r2 =>
  cases r2
  obtain ⟨_, rfl⟩ := rm
  obtain ⟨_, rfl⟩ := rc
  obtain ⟨_, rfl⟩ := rn
  obtain ⟨_, rfl⟩ := rd
  have R := Ob.RcOp.tuples_lt (A := X.A) (s := s) (e := fun j => if j = 0 then decide (m = n) else decide (c = d)) (r := fun j => if j = 0 then decide (m < n) else decide (c < d)) p1 p2 hu (fun j h1 h2 => by
    have h1' : j < 2 := h1
    have hj : j = 0 ∨ j = 1 := by omega
    rcases hj with rfl | rfl
    · have z : (m == n) = decide (m = n) := by
        by_cases q : m = n
        · rw [decide_eq_true q]; exact beq_iff_eq.mpr q
        · rw [decide_eq_false q]; exact beq_eq_false_iff_ne.mpr q
      show SeqAt.EqAt X.A.in1 s _ _ (decide (m = n))
      rw [← z]
      exact SeqAt.EqAt.int_int _ _ _ _
    · have z : (SX.S c == SX.S d) = decide (c = d) := by
        by_cases q : c = d
        · rw [decide_eq_true q, q]; exact beq_iff_eq.mpr rfl
        · rw [decide_eq_false q]; exact beq_eq_false_iff_ne.mpr fun e => q (congrArg (fun z : Str => z.cps.toList) e)
      show SeqAt.EqAt X.A.in1 s _ _ (decide (c = d))
      rw [← z]
      exact SeqAt.EqAt.str_str _ _ _ _) (fun j h1 h2 _ => by
    have h1' : j < 2 := h1
    have hj : j = 0 ∨ j = 1 := by omega
    rcases hj with rfl | rfl
    · exact Ob.RcOp.lt_int _ _ _ _
    · exact fun prog w E Q h => lt_str h)
  have e : Ob.lexAt (fun j => if j = 0 then decide (m = n) else decide (c = d)) (fun j => if j = 0 then decide (m < n) else decide (c < d)) (decide (2 < 2)) 0 2 = decide (m < n ∨ (m = n ∧ c < d)) := by
    simp only [Ob.lexAt]
    by_cases h1 : m = n
    · subst h1
      by_cases h2 : c = d
      · subst h2
        simp [List.lt_irrefl]
      · simp [h2]
    · simp [h1]
  have z : wpAny (model X.prog X.w) X.A (compareOp .Lt (.ref a) (.ref b)) (EP X pins σ Q) X.xe s := R X.prog X.w X.xe (EP X pins σ Q) ⟨.bl _, H, I, rfl, by
    show Q (.bl (Ob.lexAt _ _ (decide (2 < 2)) 0 2)) H
    rw [e]
    exact q⟩
  exact z
end Wt
set_option Elab.async false
set_option linter.all false
set_option maxRecDepth 100000
set_option maxHeartbeats 2000000
/-! zip(a, b) of two texts -/
namespace Wt
open PySem PySem.Spec PyProof.Rows L2 Evl Wc
def ItzS (a b : Tx) : It :=
  ⟨fun i _ => i < min a.length b.length, fun i H v H' => ∃ t c d, v = .ref t ∧ H t = none ∧ H' = upd H t (.tup [T [c], T [d]]) ∧ a[i]? = some c ∧ b[i]? = some d, fun i _ => i = min a.length b.length⟩
theorem sgn {a : Tx} {i : Nat} {v : Value} (h : ∃ c u, (SX.S a).cps[i]? = some c ∧ v = .str ⟨#[c]⟩ u) : ∃ c, a[i]? = some c ∧ RelV (T [c]) v := by
  obtain ⟨c, u, h1, rfl⟩ := h
  exact ⟨c, by simpa [SX.S] using h1, u, rfl⟩
theorem turn_zipS {P : Program} {w : World} {K : PySem.W.Frag} {elts : List Expr} {kk : Nat} {tpos : Pos} {a b : Tx} {ta tb : Tok} {z TI TO i1 i2 : Addr} (D : ZipSep2 z TI TO i1 i2 [i1] [i2]) :
    Turn P w K (.Tuple elts kk tpos) (ItzS a b) [z, TI, TO, i1, i2] z (fun i h => IsZip h z TI TO .none ∧ IsTupOf2 h TI (.ref i1) (.ref i2) ∧ (∃ x y, IsTupOf2 h TO x y) ∧ h.IsStrIter i1 (strIterType (SX.S a)) (SX.S a) ta i ∧ h.IsStrIter i2 (strIterType (SX.S b)) (SX.S b) tb i) where
  mem := by simp
  obj := fun i h st c hc => by
    obtain ⟨hz, hTI, ⟨x, y, hTO⟩, ⟨o1, e1, _, d1⟩, ⟨o2, e2, _, d2⟩⟩ := st
    have e' : c = z ∨ c = TI ∨ c = TO ∨ c = i1 ∨ c = i2 := by simpa using hc
    rcases e' with q | q | q | q | q
    · rw [q]; exact ⟨_, hz, fun v q => nomatch q⟩
    · rw [q]; exact ⟨_, hTI, fun v q => nomatch q⟩
    · rw [q]; exact ⟨_, hTO, fun v q => nomatch q⟩
    · rw [q]; exact ⟨o1, e1, fun v q => by rw [d1] at q; cases q⟩
    · rw [q]; exact ⟨o2, e2, fun v q => by rw [d2] at q; cases q⟩
  keep := fun i h h' st k => by
    obtain ⟨hz, hTI, ⟨x, y, hTO⟩, ⟨o1, e1, f1⟩, ⟨o2, e2, f2⟩⟩ := st
    exact ⟨k z (by simp) _ hz, k TI (by simp) _ hTI, ⟨x, y, k TO (by simp) _ hTO⟩, ⟨o1, k i1 (by simp) _ e1, f1⟩, ⟨o2, k i2 (by simp) _ e2, f2⟩⟩
  item := by
    intro X hP hw hK hc i pins s σ H E I hf st hg
    subst hP hw hK
    obtain ⟨hz, hTI, ⟨x0, y0, hTO⟩, h1, h2⟩ := st
    have hlt : i < min a.length b.length := hg
    have D1 := Draws.text (prog := X.prog) (w := X.w) (A := X.A.in1) (I.ok.hd hc) i1 (SX.S a) ta
    have D2 := Draws.text (prog := X.prog) (w := X.w) (A := X.A.in1) (I.ok.hd hc) i2 (SX.S b) tb
    have s1 : (SX.S a).cps.size = a.length := by simp [SX.S]
    have s2 : (SX.S b).cps.size = b.length := by simp [SX.S]
    have hzl : z < s.heap.objs.size := Heap.lt_size hz
    refine wpAny_pyNext_zipD2_item D D1 D2 hz hTI hTO h1 h2 (by omega) (by omega) fun u u2 h' tk p1 p2 z' TO' h1' h2' hT hsz hk => ?_
    obtain ⟨c, hcx, ru⟩ := sgn p1
    obtain ⟨d, hdy, ru2⟩ := sgn p2
    refine ⟨_, rfl, wpAny_letOwnedTupleGo_zip (s := { s with heap := h', toks := tk }) z' fun h'' z'' sb => ?_⟩
    have hT2 : h''.get? s.heap.objs.size = some { cls := .type "tuple", data := .seq #[u, u2] } := (sb.2 _ (Nat.ne_of_gt hzl)).trans hT
    have new : ObjOk X.prog X.w (upd H s.heap.objs.size (.tup [T [c], T [d]])) h'' s.heap.objs.size (.tup [T [c], T [d]]) :=
      ⟨by show 2 ≤ sizeLine; decide, [u, u2], .cons ru (.cons ru2 .nil), ⟨_, hT2, rfl, _, rfl⟩⟩
    have I1 : Inv X pins σ (upd H s.heap.objs.size (.tup [T [c], T [d]])) { s with heap := h'', toks := tk } :=
      I.turnedNew (ch := [z, TI, TO, i1, i2]) (fun c o hb q => (sb.2 c (fun q' => hb (by simp [q']))).trans (hk c o (fun q' => hb (by simp [q'])) (fun q' => hb (by simp [q'])) (fun q' => hb (by simp [q'])) (fun q' => hb (by simp [q'])) q)) hf (Nat.le_refl _) new
    refine ⟨.ref s.heap.objs.size, _, I1, rfl, ⟨_, c, d, rfl, I.hok.fresh (Nat.le_refl _), rfl, hcx, hdy⟩, ⟨z'', ?_, ⟨u, u2, ?_⟩, ?_, ?_⟩, fun c hcm => ?_⟩
    · exact (sb.2 _ D.TIz).trans (hk _ _ D.TIz D.TITO D.TIi1 D.TIi2 hTI)
    · exact (sb.2 _ D.TOz).trans TO'
    · obtain ⟨o1, e1, f1⟩ := h1'
      exact ⟨o1, (sb.2 _ (Ne.symm D.zi1)).trans e1, f1⟩
    · obtain ⟨o2, e2, f2⟩ := h2'
      exact ⟨o2, (sb.2 _ (Ne.symm D.zi2)).trans e2, f2⟩
    · have hlt : c < s.heap.objs.size := by
        have e' : c = z ∨ c = TI ∨ c = TO ∨ c = i1 ∨ c = i2 := by simpa using hcm
        rcases e' with q | q | q | q | q
        · rw [q]; exact hzl
        · rw [q]; exact Heap.lt_size hTI
        · rw [q]; exact Heap.lt_size hTO
        · rw [q]; obtain ⟨_, e1, _⟩ := h1; exact Heap.lt_size e1
        · rw [q]; obtain ⟨_, e2, _⟩ := h2; exact Heap.lt_size e2
      rw [upd_ne (Nat.ne_of_lt hlt)]
      exact (hf c hcm).1
  done := by
    intro X hP hw hK hc i pins s σ H E I hf st hg
    subst hP hw hK
    obtain ⟨hz, hTI, ⟨x0, y0, hTO⟩, h1, h2⟩ := st
    have hend : i = min a.length b.length := hg
    have D1 := Draws.text (prog := X.prog) (w := X.w) (A := X.A.in1) (I.ok.hd hc) i1 (SX.S a) ta
    have D2 := Draws.text (prog := X.prog) (w := X.w) (A := X.A.in1) (I.ok.hd hc) i2 (SX.S b) tb
    have s1 : (SX.S a).cps.size = a.length := by simp [SX.S]
    have s2 : (SX.S b).cps.size = b.length := by simp [SX.S]
    exact wpAny_pyNext_zipD2_end D D1 D2 hz hTI hTO h1 h2 (by omega) (by omega) (by omega) fun h' tk hk => ⟨rfl, I.turnedL (t' := tk) (ch := [z, TI, TO, i1, i2]) (fun c o hb q =>
      hk c o (fun q' => hb (by simp [q'])) (fun q' => hb (by simp [q'])) (fun q' => hb (by simp [q'])) (fun q' => hb (by simp [q'])) q) hf⟩
  self := fun A i s Q E st h => wpAny_pyIter_zip st.1 h
def iZipS (ta : TA) : TI := fun σ H R => ta σ H fun vs H1 => ∃ a b : Tx, vs = [T a, T b] ∧ R (ItzS a b) H1
theorem pi_zipS {X : Cx} {e e2 : Expr} {ta : TA} {p pos tpos : Pos} {elts : List Expr} {kk : Nat} (hg : Gl X "zip") (hm : X.mg "zip" = none) (ha : PA X [e, e2] ta)
    (hs : starEach [e, e2] X.env = (false, eval e X.env) :: starEach [e2] X.env := by rfl) (hpl : (backTo pos (starEach [e2] X.env)).any (·.1) = false := by rfl) :
    PI X (.Tuple elts kk tpos) (.Call (.Name "zip" p) [e, e2] [] pos) (iZipS ta) := by
  refine ⟨fun pins s σ H R I h => ?_⟩
  refine Call_ (ld_blt I hg hm PyProof.Rows.boot_zip (PyProof.Rows.callWith_type1 (thn (ha.run pos pins s σ H _ I h) fun us s1 ⟨vs, H1, I1, r1, q1⟩ => ?_) hs hpl))
  obtain ⟨a, b, ex, q⟩ := q1
  subst ex
  cases r1 with
  | cons r rr =>
    cases rr with
    | cons r' rr =>
      cases rr
      obtain ⟨ta, rfl⟩ := r
      obtain ⟨tb, rfl⟩ := r'
      have fresh5 : ∀ c, c ∈ [s1.heap.objs.size + 4, s1.heap.objs.size + 2, s1.heap.objs.size + 3, s1.heap.objs.size, s1.heap.objs.size + 1] → FpOk X pins H1 c := fun c hcm => by
        have e' : c = s1.heap.objs.size + 4 ∨ c = s1.heap.objs.size + 2 ∨ c = s1.heap.objs.size + 3 ∨ c = s1.heap.objs.size ∨ c = s1.heap.objs.size + 1 := by simpa using hcm
        have hle : s1.heap.objs.size ≤ c := by
          rcases e' with z | z | z | z | z
          · rw [z]; exact Nat.le_add_right _ _
          · rw [z]; exact Nat.le_add_right _ _
          · rw [z]; exact Nat.le_add_right _ _
          · rw [z]; exact Nat.le_refl _
          · rw [z]; exact Nat.le_add_right _ _
        exact I1.fpOk hle (I1.hok.fresh hle)
      refine zip_begins2 (begins_text (SX.S a) ta) (begins_text (SX.S b) tb) trivial trivial fun h' hz hTI hTO h1 h2 hsz hk => wpAny_pyIter_zip hz ?_
      have I2 : Inv X pins σ H1 { s1 with heap := h' } := I1.kept (t' := s1.toks) hk
      exact ⟨s1.heap.objs.size + 4, [s1.heap.objs.size + 4, s1.heap.objs.size + 2, s1.heap.objs.size + 3, s1.heap.objs.size, s1.heap.objs.size + 1], _, _, H1, rfl, I2, turn_zipS (ta := ta) (tb := tb) (zip_sep2 (fun b hb => by cases hb) (fun b hb => by cases hb)), ⟨hz, hTI, ⟨_, _, hTO⟩, ⟨_, h1, rfl, rfl⟩, ⟨_, h2, rfl, rfl⟩⟩, fresh5, q⟩
section
variable {K : PySem.W.Frag} {σ : L2.St} {H : Hp}
theorem walk_zipS {a b : Tx} : Walk (ItzS a b) (min a.length b.length) (fun _ => True) (YPair (fun i => (a[i]?).map fun c => T [c]) (fun i => (b[i]?).map fun c => T [c])) := by
  refine ⟨fun i _ hi _ => hi, fun _ _ => rfl, fun i H v H' _ _ y => ?_⟩
  obtain ⟨t, c, d, y1, y2, y3, y4, y5⟩ := y
  exact ⟨t, _, _, y1, y2, y3, by show (a[i]?).map _ = _; rw [y4]; rfl, by show (b[i]?).map _ = _; rw [y5]; rfl⟩
theorem src_zipS {a b : Tx} {tl tr : TE} (h : Ev tl σ H (T a)) (h2 : Ev tr σ H (T b)) : Src (iZipS (tCons tl (tCons tr tNil))) σ H (min a.length b.length) (fun _ => False) (fun i v Hb => ∃ p c d, v = .ref p ∧ a[i]? = some c ∧ b[i]? = some d ∧ Hb p = some (.tup [T [c], T [d]])) := fun H1 e R q =>
  h H1 e _ fun H2 e2 => h2 H2 (e.trans e2) _ fun H3 e3 => ⟨a, b, rfl, q _ H3 _ (e2.trans e3) (walk_zipS.mono (fun _ z => z) fun i Ha v Hb _ _ hy => by
    obtain ⟨p, x, y, rfl, hn, rfl, h1, h2⟩ := hy
    have h1 : (a[i]?).map (fun c => T [c]) = some x := h1
    have h2 : (b[i]?).map (fun c => T [c]) = some y := h2
    cases ha : a[i]? with
    | none => rw [ha] at h1; cases h1
    | some c =>
      cases hb : b[i]? with
      | none => rw [hb] at h2; cases h2
      | some d =>
        rw [ha] at h1
        rw [hb] at h2
        cases h1
        cases h2
        exact ⟨Ex.new hn, p, c, d, rfl, by first | rfl | exact ha, by first | rfl | exact hb, upd_same⟩) fun B Ha hB ea => trivial⟩
end
end Wt
set_option Elab.async false
set_option linter.all false
set_option maxRecDepth 100000
set_option maxHeartbeats 2000000
/-! defs that are called while no repr runs: their promises, their calls, repr itself, and a law's end by them -/
namespace Wg
open PySem PySem.Spec PyProof.Rows L2 Evl Wc
/-- a promise for calls around which no repr runs -/
structure FnOkG (P : Program) (w : World) (K : PySem.W.Frag) (mg : Str → Option Value) (base : Heap) (k : Nat) (f : Addr) (fd : FuncData) (ps : List Str) (sp : Sp) : Prop where
  len : ∀ vs H Q E, sp vs H Q E → vs.length = ps.length
  run : ∀ (A : Around) (outer : List Env) (s : Shared) (H : Hp) (args : Args) (us : List Value) (vs : List V) (Q : VK) (E : XK), Room k A → A.guards = some [] →
    Env0 P w K mg base A outer s H → BindsTo s fd args (ps.zip us) → Vals vs us → sp vs H Q E → codeAny (model P w) A (.call (.ref f) args) (CR CX0 outer P w H s Q E) s
section
variable {P : Program} {w : World} {K : PySem.W.Frag} {mg : Str → Option Value} {base : Heap} {k : Nat} {f : Addr} {fd : FuncData} {ps : List Str} {sp : Sp}
theorem FnOkG.of (F : FnOk P w K mg base CX0 k f fd ps sp) : FnOkG P w K mg base k f fd ps sp := ⟨F.len, fun A outer s H args us vs Q E hr _ => F.run A outer s H args us vs Q E hr⟩
/-- what ends a body ends the call -/
theorem ends_call {X : Cx} {s s' : Shared} {H : Hp} {Q : VK} {fl : Flow} {outer : List Env} (hp : X.prog = P) (hw : X.w = w)
    (fin : ∀ {σ' : L2.St} {H' : Hp} {v : V} {u : Value}, Inv X [] σ' H' s' → RelV v u → Q v H' → CE outer P w H s Q u s')
    (h : SP X [] { nx := fun _ H' => Q .non H', rt := Q } fl s') : match fl with
      | .ret u => CE outer P w H s Q u s'
      | .next => CE outer P w H s Q .none s'
      | _ => False := by
  cases fl with
  | next => obtain ⟨σ', H', J, q⟩ := h; exact fin (v := V.non) J rfl q
  | ret u => obtain ⟨v, σ', H', J, rv, q⟩ := h; exact fin J rv q
  | brk => obtain ⟨_, _, _, q⟩ := h; exact q.elim
  | cont => obtain ⟨_, _, _, q⟩ := h; exact q.elim
theorem Fun.okG {x qual : Str} {st : Stmt} {N : List Str} (F : Fun K x qual st f fd) (S : FnScope N ps (defScope st)) (len : ∀ vs H Q E, sp vs H Q E → vs.length = ps.length)
    (hbody : ∀ (cdv : Value) (A : Around) (outer : List Env) (s : Shared) (H : Hp) (vs : List V) (Q : VK) (E : XK), Room k (A.deeper (envOfC qual (defScope st) s.heap.objs.size f cdv)) → A.guards = some [] → sp vs H Q E →
      ∃ t, PSs (cxOf CX0 P w K mg base N qual (defScope st) f cdv A outer s H E).nox (defBody st) t ∧ t { nx := fun _ H' => Q .non H', rt := Q } (start N vs) H) : FnOkG P w K mg base (k + 1) f fd ps sp := by
  obtain ⟨oc, od, kV, doc, pm, an, cdv, ct, osl, rfl, lk, hcd⟩ := F.ex
  refine ⟨len, fun A outer s H args us vs Q E hr hgd e0 hb r hsp => ?_⟩
  have stay : ∀ b o, base.get? b = some o → s.heap.get? b = some o := fun b o e => (e0.bs b o e).1
  have KX := e0.mod.kin.keeps stay
  refine codeAny_call_function hr.depth (KX _ _ lk) rfl S.co S.gen rfl (PySem.W.codeRec_of KX hcd) (hb _ _ _ _ (wpAny_newFunctionEnv_cells S.kind (fun y hy => ?_) fun env he s1 new => ?_))
  · obtain ⟨n, v⟩ := y
    rcases S.par n (List.of_mem_zip hy).1 with q | q
    · exact .inl q
    · exact .inr ⟨q, PySem.W.cellsFrom_some _ _ _ (.inl q)⟩
  · subst he
    obtain ⟨t, ht, hq⟩ := hbody cdv A outer s H vs Q E (hr.deeper _) hgd hsp
    have I := inv_start (CX := CX0) (E := E) S hr.hd e0 (len _ _ _ _ hsp) r new
    refine ⟨(e0.mod.nolimit.keeps stay).keeps new.toInCall.keep, codeAny_func (wpAny_mono (ht.nox.run [] s1 (start N vs) H _ I hq) (fun fl s' hs => ?_) fun e s' hs => hs)⟩
    have done := ends_call (outer := outer) (s := s) (H := H) rfl rfl (fun J rv q => ⟨_, _, J.os, J.bare, J.base, J.hok, rv, q⟩) hs
    cases fl <;> first
      | exact done
      | exact False.elim done
end
/-- a def that may be called by its name while no repr runs -/
structure CalG (P : Program) (w : World) (K : PySem.W.Frag) (mg : Str → Option Value) (base : Heap) (x : Str) (st : Stmt) (k : Nat) (ps : List Str) (sp : Sp) : Prop where
  ex : ∃ f fd, FnOkG P w K mg base k f fd ps sp ∧ mg x = some (.ref f) ∧ Fun K x x st f fd ∧ Binds K fd ps []
section
variable {X : Cx} {x : Str} {st : Stmt} {k n : Nat} {ps : List Str} {sp : Sp} {p pos : Pos} {e : Expr} {es : List Expr} {t : TA}
theorem pe_clG (C : CalG X.prog X.w X.K X.mg X.base x st k ps sp) (hr : Room n X.A) (hgd : X.A.guards = some []) (ha : PA X (e :: es) t) (hkn : k ≤ n := by decide) (hg : Gl X x := by rfl) (hdb : (x == ("__debug__" : Str)) = false := by decide)
    (he : starEach (e :: es) X.env = (false, eval e X.env) :: starEach es X.env := by rfl) (hpl : (backTo pos (starEach es X.env)).any (·.1) = false := by rfl) : PE X (.Call (.Name x p) (e :: es) [] pos) (tCall sp [] E0 t) := by
  obtain ⟨f, fd, F, hm, hF, hb⟩ := C.ex
  refine ⟨fun pins s σ H Q I h => wpAny_Call_Name_kw (ld_glob I hg hm (PySem.W.callWith_K (h₀ := X.base) I.ok.mod.kin hF.kp (thn (ha.run pos pins s σ H _ I h) fun us s1 got => ?_) he hpl) hdb)⟩
  obtain ⟨vs, H1, I1, r, q⟩ := got
  rw [List.append_nil] at q
  refine ⟨I1.kIn, wpAny_call (codeAny_mono (F.run X.A X.stack s1 H1 ⟨us, []⟩ us vs Q E0 (hr.mono hkn) hgd I1.env0 ?_ r q) fun z s' hz => ?_)⟩
  · have := hb s1 us I1.kIn (by rw [List.append_nil, ← r.length]; exact F.len _ _ _ _ q)
    rwa [List.append_nil] at this
  · cases z with
    | error e => exact hz.elim
    | ok fl => cases fl with
      | ret u => exact I1.after hz
      | _ => exact hz.elim
/-- repr of a list or tuple of plain data -/
def rRepr (K : PySem.W.Frag) : List V → Hp → VK → Prop := fun xs H Q => ∃ (p : Addr) (d : PyData), xs = [.ref p] ∧ Dp K H (.ref p) d ∧ d.showable = true ∧ d.hasDict = false ∧ d.depth ≤ 50 ∧ d.shown.length ≤ sizeLine ∧ Q (T d.shown.cps.toList) H
theorem cr_repr (hgd : X.A.guards = some []) (hu : X.A.units + 64 < cLine) : CallR X (.builtin "repr") (rRepr X.K) := by
  intro pins s σ H xs us Q I r h
  obtain ⟨p, d, rfl, hd, h1, h2, h3, h4, q⟩ := h
  rw [Vals.ref1 r]
  obtain ⟨as, rd⟩ := Dp.reads I d _ _ hd rfl
  refine repr_of_reads' rd h1 (fun z => by rw [h2] at z; cases z) hgd (by omega) (fun b o e => e) (fun h' u tk hk => ?_) h4
  exact ⟨T d.shown.cps.toList, H, I.kept (t' := tk) hk, ⟨u, congrArg (fun z => Value.str z u) (SX.S_tl d.shown).symm⟩, q⟩
end
section
variable {P : Program} {w : World} {K : PySem.W.Frag} {mg mb : Str → Option Value} {k : Nat} {fa a : Addr} {fd : FuncData} {x : Str} {sp : Sp} {s₁ : Shared} {vs : List Value} {ns : List Int}
/-- the law's def at the heap behind the top, H telling of the script at most -/
theorem call_at (KX : K.In s₁.heap) (hns : s₁.heap.Ns mainGlobals mg) (hb : s₁.heap.Ns builtinsNs mb) (hbb : ∀ x : Str, x ≠ "__name__" → mb x = bootBuiltins x) (hlim : s₁.heap.NoLimit) (hg : s₁.gens = #[])
    (ha : s₁.heap.get? a = some { cls := .type "list", data := .seq vs.toArray }) (hr : Room k callerA) (F : ∀ base : Heap, K.In base → base.Ns mainGlobals mg → FnOkG P w K mg base k fa fd [x] sp) (hbind : ∀ (s : Shared) (u : Value), BindsTo s fd ⟨[u], []⟩ [(x, u)])
    (H : Hp) (hO : Only H) (hok : HOk P w H s₁.heap) (hA : ∀ b u, H b = some u → b = a ∧ K.lookup a = none) (hsp : sp [.ref a] H (fun v _ => v = .bl true) fun _ _ _ => False) :
    codeAny (model P w) callerA (.call (.ref fa) ⟨[.ref a], []⟩) (fun r s' => r = .ok (.ret (.bool true)) ∧ OldK s₁.heap s'.heap ∧ s'.os = s₁.os ∧ AllBare s'.gens) s₁ := by
  have free : ∀ {b : Addr}, (b = a → K.lookup a = none → False) → H b = none := fun {b} no => by
    cases q : H b with
    | none => rfl
    | some u => exact (no (hA b u q).1 (hA b u q).2).elim
  have dict : ∀ {b : Addr} {m : Str → Option Value}, s₁.heap.Ns b m → (hidT s₁.heap H).Ns b m := fun {b m} got => by
    obtain ⟨o, es, ep, e, d, r⟩ := got
    refine ⟨o, es, ep, hidT_get e (free fun z _ => ?_), d, r⟩
    subst z
    rw [ha] at e
    cases e
    cases d
  have own : K.In (hidT s₁.heap H) := fun b o e => hidT_get (KX b o e) (free fun z q => by subst z; rw [q] at e; cases e)
  have mod : Mod K mg (hidT s₁.heap H) := by
    obtain ⟨mc, l1, l2⟩ := hlim
    exact ⟨own, dict hns, ⟨mb, dict hb, hbb⟩, ⟨mc, dict l1, l2⟩⟩
  have none_in : ∀ {b : Addr}, b ∉ ([] : List Addr) := fun {b} z => nomatch z
  have e0 : Env0 P w K mg (hidT s₁.heap H) callerA [] s₁ H := ⟨rfl, mod, fun b o e => of_hidT e, Nat.le_of_eq (hidT_size _ _), trivial, fun b hb => (none_in hb).elim, hok, .of_eq hg⟩
  refine codeAny_mono ((F _ own (dict hns)).run callerA [] s₁ H ⟨[.ref a], []⟩ [.ref a] [.ref a] _ _ hr rfl e0 (hbind s₁ (.ref a)) (.cons rfl .nil) hsp) fun r s' h => ?_
  match r, h with
  | .ok (.ret u), ⟨v, H', os, bare, un, hok', rel, q⟩ =>
    have q' : v = .bl true := q
    subst q'
    have rel' : u = Value.bool true := rel
    subst rel'
    refine ⟨rfl, OldK.of_keep fun b o e => ?_, os, bare⟩
    rcases hO b with z | ⟨ob, xs, z⟩
    · exact un.keep b o e z none_in none_in
    · have e1 := (hok b _ z).1
      rw [e] at e1
      cases e1
      exact (hok' b _ (un.frzs b _ _ z)).1
theorem law_callG (KX : K.In s₁.heap) (hns : s₁.heap.Ns mainGlobals mg) (hb : s₁.heap.Ns builtinsNs mb) (hbb : ∀ x : Str, x ≠ "__name__" → mb x = bootBuiltins x) (hlim : s₁.heap.NoLimit) (hg : s₁.gens = #[])
    (ha : s₁.heap.get? a = some { cls := .type "list", data := .seq vs.toArray }) (hi : IntsAre vs ns) (hl : ns.length ≤ sizeLine) (hr : Room k callerA) (F : ∀ base : Heap, K.In base → base.Ns mainGlobals mg → FnOkG P w K mg base k fa fd [x] sp) (hbind : ∀ (s : Shared) (u : Value), BindsTo s fd ⟨[u], []⟩ [(x, u)])
    (hsp : ∀ H : Hp, Only H → SqL K H a (ns.map V.int) → sp [.ref a] H (fun v _ => v = .bl true) fun _ _ _ => False) :
    codeAny (model P w) callerA (.call (.ref fa) ⟨[.ref a], []⟩) (fun r s' => r = .ok (.ret (.bool true)) ∧ OldK s₁.heap s'.heap ∧ s'.os = s₁.os ∧ AllBare s'.gens) s₁ := by
  have rv := vals_ints hi
  have go := call_at (x := x) (sp := sp) KX hns hb hbb hlim hg ha hr F hbind
  cases hk : K.lookup a with
  | some o =>
    have e := KX a o hk
    rw [ha] at e
    cases e
    exact go (fun _ => none) (fun _ => .inl rfl) (fun b u z => nomatch (show (none : Option HO) = some u from z)) (fun b u z => nomatch (show (none : Option HO) = some u from z)) (hsp _ (fun _ => .inl rfl) (.inr ⟨_, vs.toArray, _, hk, rfl, rfl, rfl, by rw [List.size_toArray, hi.length]; exact hl, by simpa using rv⟩))
  | none =>
    obtain ⟨H, hH1, hH2⟩ : ∃ H : Hp, H a = some (.frz { cls := .type "list", data := .seq vs.toArray } (.lst (ns.map V.int))) ∧ ∀ b, b ≠ a → H b = none := ⟨fun b => if b = a then some (.frz { cls := .type "list", data := .seq vs.toArray } (.lst (ns.map V.int))) else none, if_pos rfl, fun b hb => if_neg hb⟩
    have only : Only H := fun b => by
      by_cases h : b = a
      · subst h; exact .inr ⟨_, _, hH1⟩
      · exact .inl (hH2 b h)
    refine go H only (fun b u z => ?_) (fun b u z => ?_) (hsp H only (.inl (.inr ⟨_, hH1⟩)))
    · by_cases h : b = a
      · subst h
        rw [hH1] at z
        cases z
        exact ⟨ha, by rw [List.length_map]; exact hl, vs, _, rv, ha⟩
      · rw [hH2 b h] at z
        cases z
    · by_cases h : b = a
      · exact ⟨h, hk⟩
      · rw [hH2 b h] at z
        cases z
end
theorem walk_ofG {l : PySem.W.OpenLaw} {n k : Nat} {q : Program} {loose : List Str} {XP : (Str → Option Value) → Heap → Prop} {YP : World → Heap → Prop} {d : DefRec} {K : Params → PySem.W.Frag} {sp : World → Sp} {x : Str}
    (hn : l.most = some n) (hn2 : n ≤ sizeLine) (hdf : d.params.defaults = []) (hr : Room k callerA) (hY : ∀ (w : World) (h : Heap), YP w h → (K w.params).In h)
    (F : ∀ (w : World) (mg : Str → Option Value) (fa : Addr) (h : Heap), (K w.params).In h → h.Ns mainGlobals mg → mg d.name = some (.ref fa) →
      ∃ fd : FuncData, (∀ (s : Shared) (u : Value), BindsTo s fd ⟨[u], []⟩ [(x, u)]) ∧ ∀ base : Heap, (K w.params).In base → base.Ns mainGlobals mg → FnOkG l.prog w (K w.params) mg base k fa fd [x] (sp w))
    (hsp : ∀ (w : World) (H : Hp) (a : Addr) (ns : List Int), ns.length ≤ n → (∀ z ∈ ns, Builtin.Int.intBits z ≤ 1048576) → Only H → SqL (K w.params) H a (ns.map V.int) → sp w [.ref a] H (fun v _ => v = .bl true) fun _ _ _ => False) :
    PySem.W.WalkO q loose XP YP l.row.toRowW d [] (fun f vs => PySem.call f vs) :=
  Att.attach_callB hn hdf fun w s₀ s₁ mg mb fa o pm cd doc a vs ns G Y _ _ _ hmg hobj hints hlen hbits hg => by
    obtain ⟨fd, hb, hF⟩ := F w mg fa _ (hY w _ Y) G.T.g hmg
    exact law_callG (hY w _ Y) G.T.g G.T.b G.T.builtins G.T.nolimit hg hobj hints (Nat.le_trans hlen hn2) hr hF hb fun H hO hS => hsp w H a ns hlen hbits hO hS
end Wg
set_option Elab.async false
set_option linter.all false
set_option maxRecDepth 100000
set_option maxHeartbeats 2000000
/-! a loop over a list or a tuple -/
namespace Wg
open PySem PySem.Spec PyProof.Rows L2 Evl Wc
theorem pi_or {X : Cx} {tg it : Expr} {w1 w2 : TI} (h1 : PI X tg it w1) (h2 : PI X tg it w2) : PI X tg it (fun σ H R => w1 σ H R ∨ w2 σ H R) := ⟨fun pins s σ H R I h => h.elim (h1.run pins s σ H R I) (h2.run pins s σ H R I)⟩
def iSeq (K : PySem.W.Frag) (tl : TE) : TI := fun σ H R => iList K tl σ H R ∨ iTup K tl σ H R
theorem pi_seq {X : Cx} {K : PySem.W.Frag} {tg l : Expr} {tl : TE} (hl : PE X l tl) (hK : X.K = K := by rfl) : PI X tg l (iSeq K tl) := hK ▸ pi_or (pi_list hl) (pi_tup hl)
section
variable {w1 w2 : TI} {σ : L2.St} {H : Hp} {n : Nat} {own : Addr → Prop} {P : Nat → V → Hp → Prop}
theorem src_orL (h : Src w1 σ H n own P) : Src (fun σ H R => w1 σ H R ∨ w2 σ H R) σ H n own P := fun H1 e R q => .inl (h H1 e R q)
theorem src_orR (h : Src w2 σ H n own P) : Src (fun σ H R => w1 σ H R ∨ w2 σ H R) σ H n own P := fun H1 e R q => .inr (h H1 e R q)
end
end Wg
set_option Elab.async false
set_option linter.all false
set_option maxRecDepth 100000
set_option maxHeartbeats 2000000
/-! comprehensions that make new objects, ranges backwards, smaller rules -/
namespace Wg
open PySem PySem.Spec PyProof.Rows L2 Evl Wc
section
variable {K : PySem.W.Frag} {σ : L2.St} {H : Hp} {te ta tb : TE}
theorem ex_of_exc {fa : Addr} {H H1 H2 : Hp} (e : Ex H H1) (hf : H fa = none) (x : Exc (fun c => c = fa) H1 H2) : Ex H H2 := fun c o hc => x c o (fun z => by rw [z, hf] at hc; cases hc) (e c o hc)
/-- new objects, one for each o i, in p -/
structure News (H H' : Hp) (o : Nat → HO) (ps : List Addr) : Prop where
  new : ∀ p ∈ ps, H p = none
  at_ : ∀ i p, ps[i]? = some p → H' p = some (o i)
  nd : ps.Nodup
theorem lcN {wi : TI} {j : Nat} {vs : List Nat} {n : Nat} {own : Addr → Prop} {P : Nat → V → Hp → Prop} {Q : VK} (o : Nat → HO) (hs : Src wi σ H n own P) (hn : n ≤ 40000) (hw : ∀ x, wipe ((wipe σ vs).set j (some x)) vs = wipe σ vs)
    (he : ∀ (i : Nat) (x : V) H1, i < n → P i x H1 → Ex H H1 → ∀ Q' : VK, (∀ p H2, H1 p = none → Ex H1 H2 → H2 p = some (o i) → Q' (.ref p) H2) → te ((wipe σ vs).set j (some x)) H1 Q')
    (k : ∀ q H2 ps, H q = none → Ex H H2 → H2 q = some (.lst (ps.map V.ref)) → ps.length = n → News H H2 o ps → q ∉ ps → Q (.ref q) H2) : tLc wi (gName j) tYes te vs σ H Q :=
  hs H (Ex.refl H) _ fun J H1 S e1 w hS => fun Dl hD => by
    have hDH : H Dl = none := fresh_back e1 hD
    refine lc_it w (Qd := fun H3 => Q (.ref Dl) H3) (fun i Hi => Ex H1 Hi ∧ ∃ ps : List Addr, Hi Dl = some (.lst (ps.map V.ref)) ∧ ps.length = i ∧ News H1 Hi o ps ∧ Dl ∉ ps) ?_ (fun i Hi hi p => hS (fun _ => False) Hi (fun b z => z.elim) (.of p.1)) ?_ ?_
    · exact ⟨Ex.new hD, [], upd_same, rfl, ⟨fun p hp => (nomatch hp), fun i p hp => (by rw [List.getElem?_nil] at hp; cases hp), List.Pairwise.nil⟩, fun hp => (nomatch hp)⟩
    · rintro i x Ha Hb hi ⟨R, ps, h1, h2, h3, h4⟩ ⟨ey, hP⟩
      refine ⟨hw x, ?_⟩
      show te ((wipe σ vs).set j (some x)) Hb fun y H4 => _
      refine he i x Hb hi hP (e1.trans (R.trans ey)) _ fun p H4 hp e4 hp4 => ?_
      have hDl4 : H4 Dl = some (.lst (ps.map V.ref)) := e4 _ _ (ey _ _ h1)
      have npD : p ≠ Dl := fun z => by rw [z, ey _ _ h1] at hp; cases hp
      refine ⟨ps.map V.ref, hDl4, sz_lt (by rw [List.length_map]; omega), Ex.mut ((R.trans ey).trans e4) hD, ps ++ [p], by rw [upd_same, List.map_append]; rfl, by rw [List.length_append, h2]; rfl, ⟨fun q hq => ?_, fun t q hq => ?_, ?_⟩, fun hq => ?_⟩
      · rcases List.mem_append.mp hq with hq | hq
        · exact h3.new q hq
        · rw [List.mem_singleton.mp hq]
          exact fresh_back (R.trans ey) hp
      · by_cases ht : t < ps.length
        · rw [List.getElem?_append_left ht] at hq
          have hne : q ≠ Dl := fun z => h4 (z ▸ List.mem_of_getElem? hq)
          rw [upd_ne hne]
          exact e4 _ _ (ey _ _ (h3.at_ t q hq))
        · rw [List.getElem?_append_right (by omega)] at hq
          have ht0 : t - ps.length = 0 := by
            by_cases z : t - ps.length = 0
            · exact z
            · rw [List.getElem?_eq_none (by simp; omega)] at hq
              cases hq
          rw [ht0] at hq
          cases hq
          rw [upd_ne npD, hp4]
          congr 2
          omega
      · refine List.nodup_append.mpr ⟨h3.nd, List.pairwise_singleton _ _, fun a ha b hb => ?_⟩
        rw [List.mem_singleton.mp hb]
        rintro rfl
        obtain ⟨t, ht⟩ := List.mem_iff_getElem?.mp ha
        have := ey _ _ (h3.at_ t _ ht)
        rw [hp] at this
        cases this
      · rcases List.mem_append.mp hq with hq | hq
        · exact h4 hq
        · exact npD (List.mem_singleton.mp hq).symm
    · rintro H3 ⟨R, ps, h1, h2, h3, h4⟩
      exact k Dl H3 ps hDH (e1.trans R) h1 h2 ⟨fun p hp => fresh_back e1 (h3.new p hp), h3.at_, h3.nd⟩ h4
/-- from the end of a range -/
theorem src_revR {n : Nat} (h : Ev te σ H (.int (n : Int))) (hn : n ≤ 1000000000) : Src (iRevR (tRg1 te)) σ H n (fun _ => False) (fun i v _ => v = .int ((n : Int) - 1 - (i : Int))) := fun H1 e R q =>
  h H1 e _ fun H2 e2 => ⟨(n : Int), rfl, by omega, by omega, by omega, by omega, by
    have e0 : ((n : Int) - 0).toNat = n := by omega
    rw [e0, show (0 : Int) + (n : Int) - 1 = (n : Int) - 1 by omega]
    have w := (walk_rangeC (lo := (n : Int) - 1) (c := -1) (n := n)).mono (fun _ z => z) (Y' := fun i Ha v Hb => Ex Ha Hb ∧ v = .int ((n : Int) - 1 - (i : Int))) (fun i Ha v Hb _ _ hy => by
      obtain ⟨rfl, rfl⟩ := hy
      exact ⟨Ex.refl _, by show V.int ((n : Int) - 1 + ((i : Nat) : Int) * -1) = _; congr 1; omega⟩)
    exact q _ H2 _ e2 w fun _ _ _ _ => True.intro⟩
theorem q_parLC {i j : Nat} {c : V} {tz : TS} {D : Ends} {xs : List V} (h : EvL ta σ H xs) (k : ∀ p H1, H p = none → Ex H H1 → H1 p = some (.lst xs) → tz D ((σ.set i (some (.ref p))).set j (some c)) H1) : tSeq (tPar i j (tCons ta (tCons (tC c) tNil))) tz D σ H :=
  h H (Ex.refl _) _ fun p H1 hp e1 h1 => ⟨.ref p, c, rfl, k p H1 hp e1 h1⟩
theorem q_parCC {i j : Nat} {c d : V} {tz : TS} {D : Ends} (k : tz D ((σ.set i (some c)).set j (some d)) H) : tSeq (tPar i j (tCons (tC c) (tCons (tC d) tNil))) tz D σ H := ⟨c, d, rfl, k⟩
/-- two names, two constants -/
theorem q_asg2C {i j : Nat} {c d : V} {tz : TS} {D : Ends} (k : ∀ H1, Ex H H1 → tz D ((σ.set i (some c)).set j (some d)) H1) : tSeq (tAsg (tTup (tCons (tC c) (tCons (tC d) tNil))) (gTup K 2 (gCons (gName i) (gCons (gName j) gNil)))) tz D σ H :=
  ⟨by show 2 ≤ sizeLine; decide, fun pt hpt => ⟨pt, _, rfl, st_of upd_same, rfl, c, [d], rfl, d, [], rfl, rfl, k _ (Ex.new hpt)⟩⟩
theorem q_asgIf {i : Nat} {tu : TT} {tz : TS} {D : Ends} {b : Bool} (h : EvT tu σ H b) (h1 : b = true → ∀ H1, Ex H H1 → ta σ H1 fun v H2 => tz D (σ.set i (some v)) H2) (h2 : b = false → ∀ H1, Ex H H1 → tb σ H1 fun v H2 => tz D (σ.set i (some v)) H2) : tSeq (tAsg (tIf tu ta tb) (gName i)) tz D σ H := h H (Ex.refl H) _ fun H1 e1 => by
  cases b with
  | true => exact h1 rfl H1 e1
  | false => exact h2 rfl H1 e1
theorem hix {i : Nat} {x : Addr} {xs : List V} {j : Int} {v : V} (hx : H x = some (.tup xs)) (h0 : σ[i]? = some (some (.ref x))) (ha : atI xs j = some v) : Ev (tOp (rIxAny K) (tVar i) (tC (.int j))) σ H v := ev_op (ev_var h0) ev_c fun H3 e3 Q3 q3 => .inl (.inr (rv_ixT (K := K) (st_of hx) ha H3 e3 Q3 q3))
def rMin2 : List V → Hp → VK → Prop := fun xs H Q => ∃ i j, xs = [.int i, .int j] ∧ Q (.int (if j < i then j else i)) H
theorem ev_min2 {i j : Int} (ha : Ev ta σ H (.int i)) (hb : Ev tb σ H (.int j)) : Ev (tCB rMin2 (tCons ta (tCons tb tNil))) σ H (.int (if j < i then j else i)) := fun H1 e Q q =>
  ha H1 e _ fun H2 e2 => hb H2 (e.trans e2) _ fun H3 e3 => ⟨i, j, rfl, q H3 (e2.trans e3)⟩
end
end Wg
set_option Elab.async false
set_option linter.all false
set_option maxRecDepth 100000
set_option maxHeartbeats 2000000
/-! errors of own classes: raised, passed on, caught; three named values -/
namespace Wg
open PySem PySem.Spec PyProof.Rows L2 Evl Wc
/-- an own class of errors under ValueError, by its name -/
structure Err (K : PySem.W.Frag) (mg : Str → Option Value) (x : Str) (C : Addr) : Prop where
  gP : mg x = some (.ref C)
  xP : PySem.W.excIn K C [.type "ValueError", .type "Exception", .type "BaseException", .type "object"] "ValueError.__new__" = true
  kP : PySem.W.keepIn K (.ref C) = true
  bP : PySem.W.subIn K (.ref C) (.type "BaseException") = some true
  tP : PySem.W.typeIn K (.ref C) = some (.type "type")
/-- .. caught by its own name, asked for its kind -/
structure ErrI (K : PySem.W.Frag) (C : Addr) : Prop where
  te : PySem.W.exmOne K (.ref C) (.ref C) = some true
  cl : ExcC K C
/-- isinstance of the error that the suite holds, of whatever class -/
def rIsE2 (K : PySem.W.Frag) (D a : Addr) (cls : Value) (d : Option Addr) : List V → Hp → VK → Prop := fun xs H Q => cls = .ref D ∧ d = none ∧ rIsE K D a xs H Q
theorem call_isE2 {X : Cx} {a D : Addr} {oe : Obj} {pn : List (Addr × Obj)} {cls : Value} {d : Option Addr} (C : ExcC X.K D) (hz : Zc cls d oe) (hf : ∃ vs, oe.data = .fields vs) : CallR (X.suite a ((a, oe) :: pn)) (.builtin "isinstance") (rIsE2 X.K D a cls d) := by
  intro pins s σ H xs us Q I r h
  obtain ⟨rfl, rfl, h⟩ := h
  exact (call_isE C hz hf) pins s σ H xs us Q I r h
theorem is_err {K : PySem.W.Frag} {D a B : Addr} {b : Bool} {H : Hp} {Q : VK} (h : PySem.W.kitOne K (.ref D) (.ref B) = some b) (q : Q (.bl b) H) : rIsE2 K D a (.ref D) none [.ref a, .ref B] H Q := ⟨rfl, rfl, .ref B, .ref B, b, rfl, fun u hu => by cases hu; rfl, h, q⟩
section
variable {P : Program} {w : World} {K : PySem.W.Frag} {mg : Str → Option Value} {base : Heap}
/-- a def that may raise, called by its name -/
structure CalS (P : Program) (w : World) (K : PySem.W.Frag) (mg : Str → Option Value) (base : Heap) (x : Str) (st : Stmt) (k : Nat) (ps : List Str) (sp : Sp) : Prop where
  ex : ∃ f fd, FnOk P w K mg base (L2.CX P w) k f fd ps sp ∧ mg x = some (.ref f) ∧ Fun K x x st f fd ∧ Binds K fd ps []
/-- .. where it raises nothing -/
def calm (sp : Sp) : Sp := fun vs H Q _ => sp vs H Q E0
theorem CalS.calm {x : Str} {st : Stmt} {k : Nat} {ps : List Str} {sp : Sp} (C : CalS P w K mg base x st k ps sp) : Cal P w K mg base x st k ps (calm sp) := by
  obtain ⟨f, fd, F, hm, hF, hb⟩ := C.ex
  refine ⟨f, fd, ⟨fun vs H Q E h => F.len _ _ _ _ h, fun A outer s H args us vs Q E hr he hb r h => codeAny_mono (F.run A outer s H args us vs Q E0 hr he hb r h) fun z s' hz => ?_⟩, hm, hF, hb⟩
  cases z with
  | ok fl => cases fl <;> exact hz
  | error e =>
    obtain ⟨_, _, _, _, _, _, _, _, _, _, _, _, no⟩ := hz
    exact no
end
section
variable {X : Cx} {x : Str} {st : Stmt} {k n : Nat} {ps : List Str} {sp : Sp} {p pos pos' p2 : Pos} {e : Expr} {es : List Expr} {t : TA} {W : WX} {m : Str} {j : Nat} {C : Addr}
theorem pe_clS (Cl : CalS X.prog X.w X.K X.mg X.base x st k ps sp) (hr : Room n X.A) (tk : Takes X W) (ha : PA X (e :: es) t) (hkn : k ≤ n := by decide) (hg : Gl X x := by rfl) (hdb : (x == ("__debug__" : Str)) = false := by decide)
    (he : starEach (e :: es) X.env = (false, eval e X.env) :: starEach es X.env := by rfl) (hpl : (backTo pos (starEach es X.env)).any (·.1) = false := by rfl) : PE X (.Call (.Name x p) (e :: es) [] pos) (tCallS sp (WE W) t) := by
  obtain ⟨f, fd, F, hm, hF, hb⟩ := Cl.ex
  exact pe_callS F (hr.mono hkn) hg hm hF.kp hb (fun σ => passAt tk σ) ha hdb he hpl
theorem ps_raiseE (hc : X.calm = true) (tk : Takes X W) (Er : Err X.K X.mg x C) (hg : Gl X x := by rfl) (hdb : (x == ("__debug__" : Str)) = false := by decide) : PS X (.Raise (some (.Call (.Name x p) [.Constant (.str m) j p2] [] pos)) none pos') (fun _ σ H => W (.ref C) none σ H) :=
  ps_raise hc tk (pmk_own PySem.F.excBase_ValueError Er.xP Er.gP Er.kP (raises_own Er.bP Er.tP) hg hdb)
end
/-- three named values, the last one first -/
def sw3 {α : Type} : List α → List α → List α
  | [], [a, b, c] => [c, b, a]
  | _, _ => []
theorem sw3_rel {vs zs : List V} {us ws : List Value} (r : Vals vs us) (rz : Vals zs ws) : Vals (sw3 vs zs) (sw3 us ws) := by
  cases r with
  | cons => exact .nil
  | nil =>
    match zs, ws, rz with
    | [], _, .nil => exact .nil
    | [_], _, .cons _ .nil => exact .nil
    | [_, _], _, .cons _ (.cons _ .nil) => exact .nil
    | [_, _, _], _, .cons h1 (.cons h2 (.cons h3 .nil)) => exact .cons h3 (.cons h2 (.cons h1 .nil))
    | _ :: _ :: _ :: _ :: _, _, .cons _ (.cons _ (.cons _ (.cons _ _))) => exact .nil
theorem kb3 {x : Str} {st : Stmt} {ps ks : List Str} (hp : ps.length = 3)
    (h : ∀ (kV doc pm : Value) (an : Option Addr) (cdv ct a b c : Value), bindArgs (PySem.W.fnOf x x (defArgs st) (defBody st) (defScope st) .none kV doc pm an cdv ct) ⟨[], ks.zip [a, b, c]⟩ = pure (ps.zip (sw3 [] [a, b, c]))) : KB x st 0 ps ks sw3 sw3 := by
  intro K f fd F
  obtain ⟨oc, od, kV, doc, pm, an, cdv, ct, osl, rfl, lk, hcd⟩ := F.ex
  refine ⟨fun s us ws _ hl => ?_, fun r rz => sw3_rel r rz⟩
  rw [hp] at hl
  match us, ws, hl with
  | [], [a, b, c], _ => exact .of_eq (h kV doc pm an cdv ct a b c)
  | [], [], hl => exact absurd hl (by simp [sw3])
  | [], [_], hl => exact absurd hl (by simp [sw3])
  | [], [_, _], hl => exact absurd hl (by simp [sw3])
  | [], _ :: _ :: _ :: _ :: _, hl => exact absurd hl (by simp [sw3])
  | _ :: _, ws, hl => exact absurd hl (by simp [sw3])
end Wg
set_option Elab.async false
set_option linter.all false
set_option maxRecDepth 100000
set_option maxHeartbeats 2000000
/-! two lists, item by item; a pair popped off a list -/
namespace Wg
open PySem PySem.Spec PyProof.Rows L2 Evl Wc
inductive All2 {α β : Type} (R : α → β → Prop) : List α → List β → Prop
  | nil : All2 R [] []
  | cons {a : α} {b : β} {as : List α} {bs : List β} : R a b → All2 R as bs → All2 R (a :: as) (b :: bs)
namespace All2
variable {α β : Type} {R R' : α → β → Prop} {as as' : List α} {bs bs' : List β}
theorem mono (h : All2 R as bs) (k : ∀ a b, R a b → R' a b) : All2 R' as bs := by
  induction h with
  | nil => exact .nil
  | cons r _ ih => exact .cons (k _ _ r) ih
theorem len (h : All2 R as bs) : as.length = bs.length := by
  induction h with
  | nil => rfl
  | cons _ _ ih => rw [List.length_cons, List.length_cons, ih]
theorem app (h : All2 R as bs) (h' : All2 R as' bs') : All2 R (as ++ as') (bs ++ bs') := by
  induction h with
  | nil => exact h'
  | cons r _ ih => exact .cons r ih
theorem one {a : α} {b : β} (r : R a b) : All2 R [a] [b] := .cons r .nil
theorem push {a : α} {b : β} (h : All2 R as bs) (r : R a b) : All2 R (as ++ [a]) (bs ++ [b]) := h.app (one r)
theorem pop : ∀ {as : List α} {bs : List β} {b : β}, All2 R as (bs ++ [b]) → ∃ as' a, as = as' ++ [a] ∧ All2 R as' bs ∧ R a b
  | [], [], _, h => nomatch h
  | [], _ :: _, _, h => nomatch h
  | a :: as, [], b, h => by
    cases h with
    | cons r h' => cases h' with
      | nil => exact ⟨[], a, rfl, .nil, r⟩
  | a :: as, b0 :: bs, b, h => by
    cases h with
    | cons r h' =>
      obtain ⟨as', x, rfl, h1, h2⟩ := pop h'
      exact ⟨a :: as', x, rfl, .cons r h1, h2⟩
theorem at_ (h : All2 R as bs) : ∀ {i : Nat} {b : β}, bs[i]? = some b → ∃ a, as[i]? = some a ∧ R a b := by
  induction h with
  | nil => intro i b h; simp at h
  | cons r _ ih =>
    intro i b h
    cases i with
    | zero =>
      rw [List.getElem?_cons_zero] at h
      cases h
      exact ⟨_, rfl, r⟩
    | succ i => exact ih (by rwa [List.getElem?_cons_succ] at h)
theorem take (h : All2 R as bs) (n : Nat) : All2 R (as.take n) (bs.take n) := by
  induction h generalizing n with
  | nil => simp; exact .nil
  | cons r _ ih => cases n with
    | zero => exact .nil
    | succ n => exact .cons r (ih n)
end All2
section
variable {K : PySem.W.Frag} {σ : L2.St} {H : Hp}
theorem q_popP {i a b : Nat} {pw t : Addr} {xs : List V} {u v : V} {D : Ends} {tz : TS} (h0 : σ[i]? = some (some (.ref pw))) (h : H pw = some (.lst (xs ++ [.ref t]))) (ht : H t = some (.tup [u, v])) (k : tz D ((σ.set a (some u)).set b (some v)) (upd H pw (.lst xs))) :
    tSeq (tAsg (tBM0 K "list" rPop (tVar i)) (gTup K 2 (gCons (gName a) (gCons (gName b) gNil)))) tz D σ H := by
  have hne : t ≠ pw := fun z => by rw [z, h] at ht; cases ht
  refine ⟨.ref pw, h0, Or.inl ⟨rfl, _, sq_of h⟩, pw, xs ++ [.ref t], .ref t, rfl, rfl, h, by simp, ?_⟩
  rw [List.dropLast_concat]
  exact ⟨t, _, rfl, st_of (by rw [upd_ne hne]; exact ht), rfl, u, [v], rfl, v, [], rfl, rfl, k⟩
theorem s_appT {i : Nat} {l : Addr} {xs : List V} {te : TE} {D : Ends} (h0 : σ[i]? = some (some (.ref l))) (hl : H l = some (.lst xs)) (h : te σ H fun v H2 => rAppend (.ref l) [v] H2 fun _ H3 => D.nx σ H3) : tDrop (tBM K "list" rAppend (tVar i) (tCons te tNil)) D σ H := ⟨.ref l, h0, Or.inl ⟨rfl, xs, sq_of hl⟩, h⟩
end
end Wg
set_option Elab.async false
set_option linter.all false
set_option maxRecDepth 100000
set_option maxHeartbeats 2000000
/-! len(set(ints)), dicts that serve as sets of numbers, dict comprehensions, comprehensions of two clauses -/
namespace Wd
open PySem PySem.Spec PyProof.Rows L2 Evl Wc Wt Wg
theorem hu1 {A : Around} (h : A.units + 64 < cLine) : A.units + 1 < cLine := by omega
theorem len_nodup {α : Type} {l l' : List α} (h1 : l.Nodup) (h2 : l'.Nodup) (h : ∀ a, a ∈ l ↔ a ∈ l') : l.length = l'.length := ((List.perm_ext_iff_of_nodup h1 h2).mpr h).length_eq
/-- the distinct ones -/
def uniq : List Int → List Int
  | [] => []
  | x :: xs => if x ∈ xs then uniq xs else x :: uniq xs
theorem mem_uniq {z : Int} : ∀ {l : List Int}, z ∈ uniq l ↔ z ∈ l
  | [] => Iff.rfl
  | x :: xs => by
    unfold uniq
    split
    · rename_i h
      rw [mem_uniq, List.mem_cons]
      exact ⟨.inr, fun z => z.elim (fun e => e ▸ h) id⟩
    · rw [List.mem_cons, List.mem_cons, mem_uniq]
theorem uniq_nodup : ∀ l : List Int, (uniq l).Nodup
  | [] => List.Pairwise.nil
  | x :: xs => by
    unfold uniq
    split
    · exact uniq_nodup xs
    · rename_i h
      exact List.nodup_cons.mpr ⟨fun z => h (mem_uniq.mp z), uniq_nodup xs⟩
theorem uniq_le : ∀ l : List Int, (uniq l).length ≤ l.length
  | [] => Nat.le_refl _
  | x :: xs => by
    have := uniq_le xs
    unfold uniq
    split
    · rw [List.length_cons]; omega
    · rw [List.length_cons, List.length_cons]; omega
theorem uniq_all {l : List Int} (h : l.Nodup) : (uniq l).length = l.length := len_nodup (uniq_nodup l) h fun _ => mem_uniq
section
variable {X : Cx}
def rSetN (K : PySem.W.Frag) (w : World) : List V → Hp → VK → Prop := fun vs H Q => ∃ (p : Addr) (ns : List Int), vs = [.ref p] ∧ SqL K H p (ns.map V.int) ∧ ns.length ≤ 4000 ∧ ∀ q, H q = none → Q (.ref q) (upd H q (SetO w q (fun j => decide (j ∈ ns)) (uniq ns).length))
theorem cr_setN (hc : X.calm = true) : CallR X (.type "set") (rSetN X.K X.w) := by
  intro pins s σ H vs us Q I r h
  obtain ⟨p, ns, rfl, hp, hl, q⟩ := h
  rw [Vals.ref1 r]
  obtain ⟨its, rv, pl, hz⟩ := I.list hp
  refine call_set_ints (P := X.prog) (xs := ns) (I.ok.hd hc) pl.isList (ints_of_vals rv) (by unfold scanBound; omega) fun h2 tk c R m k => ?_
  have hn : H s.heap.objs.size = none := I.hok.fresh (Nat.le_refl _)
  have hc : c = (uniq ns).length := by
    obtain ⟨o, es, ep, t, _, _, _, _, nd, hm, _, _, hn, _⟩ := R
    rw [← hn, ← Array.length_toList, ← List.length_map (f := keyOf)]
    exact len_nodup nd (uniq_nodup ns) fun z => (hm z).symm.trans (decide_eq_true_iff.trans mem_uniq.symm)
  subst hc
  exact ⟨.ref _, upd H s.heap.objs.size (SetO X.w s.heap.objs.size (fun j => decide (j ∈ ns)) (uniq ns).length), I.laid (t' := tk) k (Nat.le_refl _) (setO_new R), rfl, q _ hn⟩
theorem ksetN {K : PySem.W.Frag} {w : World} (hc : X.calm = true := by rfl) (hK : X.K = K := by rfl) (hw : X.w = w := by rfl) : CallR X (.type "set") (rSetN K w) := by
  subst hK hw
  exact cr_setN hc
def rLenO (w : World) : List V → Hp → VK → Prop := fun vs H Q => ∃ (p : Addr) (S : Int → Bool) (n : Nat), vs = [.ref p] ∧ H p = some (SetO w p S n) ∧ n ≤ 4000 ∧ Q (.int (n : Int)) H
theorem cr_lenO : CallR X (.builtin "len") (rLenO X.w) := by
  intro pins s σ H vs us Q I r h
  obtain ⟨p, S, n, rfl, hp, hl, q⟩ := h
  rw [Vals.ref1 r]
  obtain ⟨o, es, ep, t, ho, hex, hd, _, _, _, _, hf, hn, _⟩ := setO_get I hp
  exact call_len_set ho hex hd hf (by omega) ⟨.int (n : Int), H, I.tok _, ⟨_, by rw [hn]⟩, q⟩
theorem kLenO {w : World} (hw : X.w = w := by rfl) : CallR X (.builtin "len") (rLenO w) := by
  subst hw
  exact cr_lenO
def rDictP (K : PySem.W.Frag) : List V → Hp → VK → Prop := fun xs H Q => ∃ (a : Addr) (ps : List Addr) (kvs : List (Key × V)), xs = [.ref a] ∧ SqL K H a (ps.map V.ref) ∧ Paired (fun p kv => SqT K H p [kV kv.1, kv.2]) ps kvs ∧
    ∀ p, H p = none → Q (.ref p) (upd H p (.dK (mergeK [] kvs)))
theorem kDictP {K : PySem.W.Frag} (hc : X.calm = true := by rfl) (hK : X.K = K := by rfl) : CallR X (.type "dict") (rDictP K) := by
  subst hK
  exact call_dictP hc
end
section
variable {K : PySem.W.Frag} {w : World} {σ : L2.St} {H : Hp} {ta td ty tv : TE} {D : Ends}
theorem ev_lenSet {p : Addr} {ns : List Int} (h : Ev ta σ H (.ref p)) (hp : SqL K H p (ns.map V.int)) (hl : ns.length ≤ 4000) : Ev (tCB (rLenO w) (tCons (tCB (rSetN K w) (tCons ta tNil)) tNil)) σ H (.int ((uniq ns).length : Int)) := fun H1 e Q q =>
  h H1 e _ fun H2 e2 => ⟨p, ns, rfl, ex_l (e.trans e2) hp, hl, fun r hr => ⟨r, _, _, rfl, upd_same, by have := uniq_le ns; omega, q _ (e2.trans (Ex.new hr))⟩⟩
/-! ### dicts as sets of numbers -/
def DS (ks : List Nat) : List (Key × V) := ks.map fun (n : Nat) => ((Sum.inl (n : Int) : Key), V.bl true)
def addN (ks : List Nat) (n : Nat) : List Nat := if n ∈ ks then ks else ks ++ [n]
theorem mem_addN {ks : List Nat} {n m : Nat} : m ∈ addN ks n ↔ m ∈ ks ∨ m = n := by
  unfold addN
  split
  · rename_i h
    exact ⟨.inl, fun z => z.elim id fun e => e ▸ h⟩
  · rw [List.mem_append, List.mem_singleton]
theorem addN_nodup {ks : List Nat} {n : Nat} (h : ks.Nodup) : (addN ks n).Nodup := by
  unfold addN
  split
  · exact h
  · rename_i hn
    refine List.nodup_append.mpr ⟨h, List.pairwise_singleton _ _, fun a ha b hb => ?_⟩
    rw [List.mem_singleton.mp hb]
    exact fun z => hn (z ▸ ha)
theorem addN_len (ks : List Nat) (n : Nat) : (addN ks n).length ≤ ks.length + 1 := by
  unfold addN
  split
  · omega
  · simp
theorem val_DS (ks : List Nat) (n : Nat) : valV (DS ks) (Sum.inl (n : Int)) = if n ∈ ks then some (.bl true) else none := by
  induction ks with
  | nil => rfl
  | cons m ks ih =>
    by_cases h : m = n
    · subst h
      show valV ((Sum.inl (m : Int), V.bl true) :: DS ks) _ = _
      rw [valV_pos rfl, if_pos List.mem_cons_self]
    · show valV ((Sum.inl (m : Int), V.bl true) :: DS ks) _ = _
      rw [valV_neg (fun z => h (Int.ofNat.inj (Sum.inl.inj z))), ih]
      by_cases h2 : n ∈ ks
      · rw [if_pos h2, if_pos (List.mem_cons_of_mem _ h2)]
      · rw [if_neg h2, if_neg fun z => (List.mem_cons.mp z).elim (fun e => h e.symm) h2]
theorem put_DS (ks : List Nat) (n : Nat) : putK (DS ks) (Sum.inl (n : Int)) (.bl true) = DS (addN ks n) := by
  have ha := valV_any (Sum.inl (n : Int) : Key) (DS ks)
  rw [val_DS] at ha
  unfold putK addN
  by_cases h : n ∈ ks
  · rw [if_pos h] at ha
    rw [if_pos (show ((DS ks).any fun kv => decide (kv.1 = (Sum.inl (n : Int) : Key))) = true from ha), if_pos h]
    unfold DS
    rw [List.map_map]
    refine List.map_congr_left fun m _ => ?_
    show (if (Sum.inl (m : Int) : Key) = Sum.inl (n : Int) then _ else _) = _
    split <;> rfl
  · rw [if_neg h] at ha
    rw [if_neg (show ¬ ((DS ks).any fun kv => decide (kv.1 = (Sum.inl (n : Int) : Key))) = true from fun z => Bool.false_ne_true (ha.symm.trans z)), if_neg h]
    unfold DS
    rw [List.map_append]
    rfl
theorem DS_len (ks : List Nat) : (DS ks).length = ks.length := by unfold DS; rw [List.length_map]
/-- d[n] = True -/
theorem s_putD {d : Addr} {ks : List Nat} {n : Nat} (hd : Ev td σ H (.ref d)) (hn : Ev ty σ H (.int (n : Int))) (h : H d = some (.dK (DS ks))) (hl : ks.length ≤ 10000) (k : ∀ H1, Ex H H1 → D.nx σ (upd H1 d (.dK (DS (addN ks n))))) : sDPut td ty (tC (.bl true)) D σ H :=
  hd H (Ex.refl _) _ fun H2 e2 => hn H2 e2 _ fun H3 e3 => ⟨d, _, rfl, DPut.k (k := Sum.inl (n : Int)) ((e2.trans e3) _ _ h) (by rw [DS_len]; unfold sizeLine; omega), by rw [put_DS]; exact k H3 (e2.trans e3)⟩
theorem q_putD {tz : TS} {d : Addr} {ks : List Nat} {n : Nat} (hd : Ev td σ H (.ref d)) (hn : Ev ty σ H (.int (n : Int))) (h : H d = some (.dK (DS ks))) (hl : ks.length ≤ 10000) (k : ∀ H1, Ex H H1 → tz D σ (upd H1 d (.dK (DS (addN ks n))))) : tSeq (sDPut td ty (tC (.bl true))) tz D σ H := s_putD (D := { D with nx := tz D }) hd hn h hl k
theorem some_if {b : Prop} [Decidable b] {v : V} : (if b then some v else none).isSome = decide b := by
  by_cases h : b
  · rw [if_pos h, decide_eq_true h]; rfl
  · rw [if_neg h, decide_eq_false h]; rfl
theorem ev_inD {d : Addr} {ks : List Nat} {n : Nat} (hn : Ev ty σ H (.int (n : Int))) (hd : Ev td σ H (.ref d)) (h : H d = some (.dK (DS ks))) : Ev (tDIn ty td) σ H (.bl (decide (n ∈ ks))) := fun H1 e Q q =>
  hn H1 e _ fun H2 e2 => hd H2 (e.trans e2) _ fun H3 e3 => ⟨d, _, rfl, DGet.k (k := Sum.inl (n : Int)) (((e.trans e2).trans e3) _ _ h), by rw [val_DS, some_if]; exact q H3 (e2.trans e3)⟩
theorem ev_notinD {d : Addr} {ks : List Nat} {n : Nat} (hn : Ev ty σ H (.int (n : Int))) (hd : Ev td σ H (.ref d)) (h : H d = some (.dK (DS ks))) : Ev (tDNotIn ty td) σ H (.bl (!decide (n ∈ ks))) := fun H1 e Q q =>
  hn H1 e _ fun H2 e2 => hd H2 (e.trans e2) _ fun H3 e3 => ⟨d, _, rfl, DGet.k (k := Sum.inl (n : Int)) (((e.trans e2).trans e3) _ _ h), by rw [val_DS, some_if]; exact q H3 (e2.trans e3)⟩
/-- list(d) -/
theorem el_listD {d : Addr} {ks : List Nat} (hd : Ev td σ H (.ref d)) (h : H d = some (.dK (DS ks))) : EvL (tCB rListD (tCons td tNil)) σ H (ks.map fun (n : Nat) => V.int (n : Int)) := fun H1 e Q q =>
  hd H1 e _ fun H2 e2 => ⟨d, DS ks, rfl, (e.trans e2) _ _ h, fun r hr => q r _ (fresh_back e2 hr) (e2.trans (Ex.new hr)) (by
    rw [upd_same]
    unfold DS
    rw [List.map_map]
    rfl)⟩
end
/-! ### numbers, ascending -/
/-- the members of ks, ascending, below n -/
def asc (n : Nat) (p : Nat → Bool) : List Nat := (List.range n).filter p
theorem asc_lt (n : Nat) (p : Nat → Bool) : (asc n p).Pairwise (· < ·) := List.Pairwise.filter _ List.pairwise_lt_range
theorem sorted_is {l l' : List Int} (h1 : l.Pairwise (· ≤ ·)) (h2 : l'.Pairwise (· ≤ ·)) (h : l.Perm l') : l = l' := h.eq_of_pairwise (fun a b _ _ h1 h2 => Int.le_antisymm h1 h2) h1 h2
/-- what any ascending order of ks is -/
theorem asc_is {n : Nat} {p : Nat → Bool} {ks : List Nat} {ys : List Int} (hk : ks.Nodup) (hm : ∀ m, m ∈ ks ↔ m < n ∧ p m = true) (hp : ys.Perm (ks.map fun (m : Nat) => (m : Int))) (hs : ys.Pairwise (· ≤ ·)) : ys = (asc n p).map fun (m : Nat) => (m : Int) := by
  refine sorted_is hs ?_ (hp.trans (List.Perm.map _ ?_))
  · exact List.pairwise_map.mpr ((asc_lt n p).imp fun h => by omega)
  · refine (List.perm_ext_iff_of_nodup hk ((asc_lt n p).imp fun h => Nat.ne_of_lt h)).mpr fun m => ?_
    unfold asc
    rw [hm, List.mem_filter, List.mem_range]
end Wd
set_option Elab.async false
set_option linter.all false
set_option maxRecDepth 100000
set_option maxHeartbeats 2000000
/-! dict comprehensions, comprehensions of two clauses -/
namespace Wd
open PySem PySem.Spec PyProof.Rows L2 Evl Wc Wt Wg
section
variable {J : It} {n : Nat} {G : Hp → Prop} {Y : Nat → Hp → V → Hp → Prop}
theorem dc_it (w : Walk J n G Y) {g : TG} {tt : TT} {tk tv : TE} {vs : List Nat} {σ : L2.St} {H1 : Hp} {D : Addr} {Qd : Hp → Prop} (Pv : Nat → Hp → Prop) (h0 : Pv 0 (upd H1 D (.dK []))) (hG : ∀ i H, i ≤ n → Pv i H → G H)
    (hs : ∀ i x H H', i < n → Pv i H → Y i H x H' → g x (wipe σ vs) H' fun σ2 H2 => wipe σ2 vs = wipe σ vs ∧ tt σ2 H2 fun b H3 =>
      if b = true then tk σ2 H3 fun y H4 => tv σ2 H4 fun z H5 => ∃ kvs k, y = kV k ∧ H5 D = some (.dK kvs) ∧ kvs.length < sizeLine ∧ Pv (i + 1) (upd H5 D (.dK (putK kvs k z))) else Pv (i + 1) H3) (hd : ∀ H, Pv n H → Qd H) :
    ∃ W : Nat → Nat → Hp → Prop, (∃ m, W 0 m (upd H1 D (.dK []))) ∧ ∀ i m H, W i m H →
      (J.stop i H ∧ Qd H) ∨ (J.go i H ∧ ∃ Nx : Hp → Prop, (∀ H', Nx H' → ∃ m', m' < m ∧ W (i + 1) m' H') ∧ ∀ x H', J.yld i H x H' → g x (wipe σ vs) H' fun σ2 H2 => wipe σ2 vs = wipe σ vs ∧ tt σ2 H2 fun b H3 =>
        if b = true then tk σ2 H3 fun y H4 => tv σ2 H4 fun z H5 => ∃ kvs k, y = kV k ∧ H5 D = some (.dK kvs) ∧ kvs.length < sizeLine ∧ Nx (upd H5 D (.dK (putK kvs k z))) else Nx H3) := by
  refine ⟨fun i m H => m = n - i ∧ i ≤ n ∧ Pv i H, ⟨n, by simp, Nat.zero_le _, h0⟩, ?_⟩
  rintro i m H ⟨rfl, hi, p⟩
  have q := hG i H hi p
  by_cases hlt : i < n
  · exact .inr ⟨w.goes i H hlt q, Pv (i + 1), fun H' p' => ⟨n - (i + 1), by omega, rfl, hlt, p'⟩, fun x H' y => hs i x H H' hlt p (w.yields i H x H' hlt q y)⟩
  · have e : i = n := by omega
    subst e
    exact .inl ⟨w.stops H q, hd H p⟩
theorem in_it (w : Walk J n G Y) {g : TG} {tt : TT} {te : TE} {vs : List Nat} {σ : L2.St} {H1 : Hp} {D : Addr} {Qd : Hp → Prop} (Pv : Nat → Hp → Prop) (h0 : Pv 0 H1) (hG : ∀ i H, i ≤ n → Pv i H → G H)
    (hs : ∀ i x H H', i < n → Pv i H → Y i H x H' → g x (wipe σ vs) H' fun σ2 H2 => wipe σ2 vs = wipe σ vs ∧ tt σ2 H2 fun b H3 =>
      if b = true then te σ2 H3 fun y H4 => ∃ acc, H4 D = some (.lst acc) ∧ acc.length < sizeLine ∧ Pv (i + 1) (upd H4 D (.lst (acc ++ [y]))) else Pv (i + 1) H3) (hd : ∀ H, Pv n H → Qd H) :
    ∃ W : Nat → Nat → Hp → Prop, (∃ m, W 0 m H1) ∧ ∀ i m H, W i m H →
      (J.stop i H ∧ Qd H) ∨ (J.go i H ∧ ∃ Nx : Hp → Prop, (∀ H', Nx H' → ∃ m', m' < m ∧ W (i + 1) m' H') ∧ ∀ x H', J.yld i H x H' → g x (wipe σ vs) H' fun σ2 H2 => wipe σ2 vs = wipe σ vs ∧ tt σ2 H2 fun b H3 =>
        if b = true then te σ2 H3 fun y H4 => ∃ acc, H4 D = some (.lst acc) ∧ acc.length < sizeLine ∧ Nx (upd H4 D (.lst (acc ++ [y]))) else Nx H3) := by
  refine ⟨fun i m H => m = n - i ∧ i ≤ n ∧ Pv i H, ⟨n, by simp, Nat.zero_le _, h0⟩, ?_⟩
  rintro i m H ⟨rfl, hi, p⟩
  have q := hG i H hi p
  by_cases hlt : i < n
  · exact .inr ⟨w.goes i H hlt q, Pv (i + 1), fun H' p' => ⟨n - (i + 1), by omega, rfl, hlt, p'⟩, fun x H' y => hs i x H H' hlt p (w.yields i H x H' hlt q y)⟩
  · have e : i = n := by omega
    subst e
    exact .inl ⟨w.stops H q, hd H p⟩
end
def addAll (ks ns : List Nat) : List Nat := ns.foldl addN ks
theorem mem_addAll {m : Nat} : ∀ {ns ks : List Nat}, m ∈ addAll ks ns ↔ m ∈ ks ∨ m ∈ ns
  | [], ks => ⟨.inl, fun z => z.elim id fun h => nomatch h⟩
  | n :: ns, ks => by
    show m ∈ addAll (addN ks n) ns ↔ _
    rw [mem_addAll, mem_addN, List.mem_cons, or_assoc]
theorem addAll_nodup : ∀ {ns ks : List Nat}, ks.Nodup → (addAll ks ns).Nodup
  | [], _, h => h
  | n :: ns, ks, h => addAll_nodup (ns := ns) (addN_nodup h)
theorem addAll_len : ∀ (ns ks : List Nat), (addAll ks ns).length ≤ ks.length + ns.length
  | [], _ => Nat.le_refl _
  | n :: ns, ks => by
    have h1 := addAll_len ns (addN ks n)
    have h2 := addN_len ks n
    show (addAll (addN ks n) ns).length ≤ _
    rw [List.length_cons]
    omega
theorem addAll_succ {ns : List Nat} {i n : Nat} (h : ns[i]? = some n) : addAll [] (ns.take (i + 1)) = addN (addAll [] (ns.take i)) n := by
  rw [List.take_add_one, h]
  unfold addAll
  rw [List.foldl_append]
  rfl
section
variable {K : PySem.W.Frag} {σ : L2.St} {H : Hp} {te : TE} {Q : VK}
/-- {n: True for n in ns} -/
theorem dc_nums {wi : TI} {j : Nat} {vs : List Nat} {own : Addr → Prop} (ns : List Nat) (hs : Src wi σ H ns.length own (fun i v _ => (ns.map fun (n : Nat) => V.int (n : Int))[i]? = some v)) (hn : ns.length ≤ 4000) (hw : ∀ x, wipe ((wipe σ vs).set j (some x)) vs = wipe σ vs) (hj : ∀ x, ((wipe σ vs).set j (some x))[j]? = some (some x))
    (k : ∀ d H2, H d = none → Ex H H2 → H2 d = some (.dK (DS (addAll [] ns))) → Q (.ref d) H2) : tDc wi (gName j) tYes (tVar j) (tC (.bl true)) vs σ H Q :=
  hs H (Ex.refl H) _ fun J H1 S e1 w hS => fun Dl hD => by
    refine dc_it w (Qd := fun H3 => Q (.ref Dl) H3) (fun i Hi => Ex H1 Hi ∧ Hi Dl = some (.dK (DS (addAll [] (ns.take i))))) ?_ (fun i Hi hi p => hS (fun _ => False) Hi (fun b z => z.elim) (.of p.1)) ?_ ?_
    · exact ⟨Ex.new hD, upd_same⟩
    · rintro i x Ha Hb hi ⟨R, h1⟩ ⟨ey, hP⟩
      obtain ⟨n, hn1, rfl⟩ := at_map hP
      refine ⟨hw _, ?_⟩
      unfold tYes
      dsimp only
      rw [if_pos rfl]
      refine ⟨.int (n : Int), hj _, ?_⟩
      have hl := addAll_len (ns.take i) []
      refine ⟨DS (addAll [] (ns.take i)), Sum.inl (n : Int), rfl, ey _ _ h1, ?_, Ex.mut (R.trans ey) hD, ?_⟩
      · rw [DS_len]
        rw [List.length_take] at hl
        have : ([] : List Nat).length = 0 := rfl
        unfold sizeLine
        omega
      · rw [upd_same, put_DS, addAll_succ hn1]
    · rintro H3 ⟨R, h1⟩
      rw [List.take_length] at h1
      exact k Dl H3 (fresh_back e1 hD) (e1.trans R) h1
theorem sum_part {α : Type} (f : α → Nat) (xs : List α) (i : Nat) : ((xs.take i).map f).sum ≤ (xs.map f).sum := by
  conv => rhs; rw [← List.take_append_drop i xs, List.map_append, List.sum_append]
  omega
/-- [g a b for a in xs for b in ys a] -/
theorem el_lc2 {α β : Type} {wi wi1 : TI} {j j1 : Nat} {vs vs1 : List Nat} {own : Addr → Prop} {own1 : α → Addr → Prop} {f : α → V} {h : β → V} {g : α → β → V} (xs : List α) (ys : α → List β) (hs : Src wi σ H xs.length own (fun i v _ => (xs.map f)[i]? = some v))
    (hs1 : ∀ a H1, Ex H H1 → a ∈ xs → Src wi1 ((wipe σ vs).set j (some (f a))) H1 (ys a).length (own1 a) (fun i v _ => ((ys a).map h)[i]? = some v))
    (ho : ∀ a c, own1 a c → H c ≠ none) (hz : (xs.map fun a => (ys a).length).sum ≤ 40000) (hw : ∀ x, wipe ((wipe σ vs).set j (some x)) vs = wipe σ vs) (hw1 : ∀ x y, wipe ((wipe ((wipe σ vs).set j (some x)) vs1).set j1 (some y)) vs1 = wipe ((wipe σ vs).set j (some x)) vs1)
    (he : ∀ a b H1, Ex H H1 → a ∈ xs → b ∈ ys a → Ev te ((wipe ((wipe σ vs).set j (some (f a))) vs1).set j1 (some (h b))) H1 (g a b)) :
    EvL (tLc2 wi (gName j) tYes wi1 (gName j1) tYes te vs vs1) σ H (xs.flatMap fun a => (ys a).map (g a)) := fun H0 e0 Q q => hs H0 e0 _ fun J H1 S e1 w hS => fun Dl hD => by
  have e01 := e0.trans e1
  refine ⟨fun i m Hi => m = xs.length - i ∧ i ≤ xs.length ∧ Ex H1 Hi ∧ Hi Dl = some (.lst ((xs.take i).flatMap fun a => (ys a).map (g a))), ⟨xs.length, by simp, Nat.zero_le _, Ex.new hD, upd_same⟩, ?_⟩
  rintro i m Hi ⟨rfl, hi, hE, hL⟩
  have hG : S Hi := hS (fun _ => False) Hi (fun b z => z.elim) (.of hE)
  by_cases hlt : i < xs.length
  · refine .inr ⟨w.goes i Hi hlt hG, fun H' => Ex H1 H' ∧ H' Dl = some (.lst ((xs.take (i + 1)).flatMap fun a => (ys a).map (g a))), fun H' p' => ⟨xs.length - (i + 1), by omega, rfl, hlt, p'.1, p'.2⟩, fun x H' y => ?_⟩
    obtain ⟨ey, hP⟩ := w.yields i Hi x H' hlt hG y
    obtain ⟨a, ha, rfl⟩ := at_map hP
    have ham := List.mem_of_getElem? ha
    have hEy := hE.trans ey
    refine ⟨hw _, ?_⟩
    show wi1 ((wipe σ vs).set j (some (f a))) H' _
    refine hs1 a H' (e01.trans hEy) ham H' (Ex.refl _) _ fun J1 H4 S1 e4 w1 hS1 => ?_
    have hL4 : H4 Dl = some (.lst ((xs.take i).flatMap fun a => (ys a).map (g a))) := e4 _ _ (ey _ _ hL)
    have hE4 := hEy.trans e4
    have htk : (xs.take (i + 1)).flatMap (fun a => (ys a).map (g a)) = (xs.take i).flatMap (fun a => (ys a).map (g a)) ++ (ys a).map (g a) := by
      rw [List.take_add_one, ha, List.flatMap_append]
      simp
    refine in_it w1 (Qd := fun H' => Ex H1 H' ∧ H' Dl = some (.lst ((xs.take (i + 1)).flatMap fun a => (ys a).map (g a)))) (fun t Ht => Ex H1 Ht ∧ Exc (fun c => c = Dl) H4 Ht ∧ Ht Dl = some (.lst ((xs.take i).flatMap (fun a => (ys a).map (g a)) ++ ((ys a).take t).map (g a)))) ?_ ?_ ?_ ?_
    · exact ⟨hE4, Exc.refl _, by rw [hL4]; simp⟩
    · intro t Ht ht p
      refine hS1 (fun c => c = Dl) Ht (fun b z => ?_) p.2.1
      subst z
      exact ⟨(by rw [ey _ _ hL]; exact fun z => nomatch z), fun z => ho a b z (fresh_back e01 hD)⟩
    · rintro t y Ht Hu ht ⟨p1, p2, p3⟩ ⟨eu, hy⟩
      obtain ⟨b, hb, rfl⟩ := at_map hy
      refine ⟨hw1 _ _, ?_⟩
      show te ((wipe ((wipe σ vs).set j (some (f a))) vs1).set j1 (some (h b))) Hu fun y H7 => _
      refine he a b Hu (e01.trans (p1.trans eu)) ham (List.mem_of_getElem? hb) Hu (Ex.refl _) _ fun H7 e7 => ?_
      refine ⟨_, e7 _ _ (eu _ _ p3), ?_, Ex.mut (p1.trans (eu.trans e7)) hD, (p2.then (eu.trans e7)).upd (.inl rfl), ?_⟩
      · refine sz_lt ?_
        rw [List.length_append, List.length_flatMap, List.length_map, List.length_take]
        have h1 := sum_part (fun a => (ys a).length) xs (i + 1)
        rw [List.take_add_one, ha, List.map_append, List.sum_append] at h1
        simp at h1 ⊢
        omega
      · rw [upd_same, List.take_add_one, hb, List.map_append, List.append_assoc]
        rfl
    · rintro Ht ⟨p1, _, p3⟩
      rw [List.take_length] at p3
      exact ⟨p1, by rw [p3, htk]⟩
  · have e : i = xs.length := by omega
    subst e
    rw [List.take_length] at hL
    exact .inl ⟨w.stops Hi hG, q Dl Hi (fresh_back e1 hD) (e1.trans hE) hL⟩
end
end Wd
set_option Elab.async false
set_option linter.all false
set_option maxRecDepth 100000
set_option maxHeartbeats 2000000
/-! set comprehensions of any kind of things -/
namespace Ws
open PySem PySem.Spec PyProof.Rows L2 Evl Wc Wt Wg Wd
/-- how a set of some kind begins (nw) and takes one thing more (ad) -/
structure Fill (P : Program) (w : World) (nw : Addr → HO) (ad : Addr → HO → V → HO → Prop) : Prop where
  new : ∀ (H : Hp) (h : Heap), ObjOk P w H (h.push (so w)) h.objs.size (nw h.objs.size)
  add : ∀ (X : Cx), X.prog = P → X.w = w → ∀ (pins : List (Addr × Obj)) (σ : L2.St) (H : Hp) (s : Shared) (E : Value → Shared → Prop) (D : Addr) (o o' : HO) (y : V) (v : Value) (Q : Value → Shared → Prop), Inv X pins σ H s → H D = some o → ad D o y o' → RelV y v →
    (∀ s', Inv X pins σ (upd H D o') s' → Q .none s') → wpAny (model X.prog X.w) X.A (call (.builtin "set.add") [.ref D, v]) Q E s
/-- one turn's end: the thing y goes into the set at D, behind it Z -/
def tInto (ad : Addr → HO → V → HO → Prop) (D : Addr) (Z : Hp → Prop) : VK := fun y H => ∃ o o', H D = some o ∧ ad D o y o' ∧ Z (upd H D o')
/-- {te for g in wi if tt} -/
def tSet (nw : Addr → HO) (ad : Addr → HO → V → HO → Prop) (wi : TI) (g : TG) (tt : TT) (te : TE) (vs : List Nat) : TE := fun σ H Q => wi σ H fun J H1 => ∀ D, H1 D = none → ∃ W : Nat → Nat → Hp → Prop, (∃ m, W 0 m (upd H1 D (nw D))) ∧ ∀ i m H, W i m H →
  (J.stop i H ∧ Q (.ref D) H) ∨ (J.go i H ∧ ∃ Z : Hp → Prop, (∀ H', Z H' → ∃ m', m' < m ∧ W (i + 1) m' H') ∧ ∀ x H', J.yld i H x H' →
    g x (wipe σ vs) H' fun σ2 H2 => wipe σ2 vs = wipe σ vs ∧ tt σ2 H2 fun b H3 => if b = true then te σ2 H3 (tInto ad D Z) else Z H3)
/-- {te for g in wi if tt for g1 in wi1 if tt1} -/
def tSet2 (nw : Addr → HO) (ad : Addr → HO → V → HO → Prop) (wi : TI) (g : TG) (tt : TT) (wi1 : TI) (g1 : TG) (tt1 : TT) (te : TE) (vs vs1 : List Nat) : TE := fun σ H Q => wi σ H fun J H1 => ∀ D, H1 D = none → ∃ W : Nat → Nat → Hp → Prop, (∃ m, W 0 m (upd H1 D (nw D))) ∧ ∀ i m H, W i m H →
  (J.stop i H ∧ Q (.ref D) H) ∨ (J.go i H ∧ ∃ Z : Hp → Prop, (∀ H', Z H' → ∃ m', m' < m ∧ W (i + 1) m' H') ∧ ∀ x H', J.yld i H x H' →
    g x (wipe σ vs) H' fun σ2 H2 => wipe σ2 vs = wipe σ vs ∧ tt σ2 H2 fun b H3 => if b = true then
      wi1 σ2 H3 fun J1 H4 => ∃ W1 : Nat → Nat → Hp → Prop, (∃ m, W1 0 m H4) ∧ ∀ j k H, W1 j k H →
        (J1.stop j H ∧ Z H) ∨ (J1.go j H ∧ ∃ Z1 : Hp → Prop, (∀ H', Z1 H' → ∃ k', k' < k ∧ W1 (j + 1) k' H') ∧ ∀ x H', J1.yld j H x H' →
          g1 x (wipe σ2 vs1) H' fun σ3 H5 => wipe σ3 vs1 = wipe σ2 vs1 ∧ tt1 σ3 H5 fun b H6 => if b = true then te σ3 H6 (tInto ad D Z1) else Z1 H6)
    else Z H3)
/-! ### the turns of two clauses -/
section
variable {prog : Program} {w : World} {A : Around} {R : Result → Shared → Prop} {s : Shared} {elt t0 i0 t1 i1 : Expr} {ifs0 ifs1 : List Expr} {scope : Scope} {pos : Pos} {it acc : Value} {env : Env}
theorem turn_first (elt t0 i0 t1 i1 : Expr) (ifs0 ifs1 : List Expr) (scope : Scope) (pos : Pos) (it acc : Value) (env : Env) :
    compTurn (.SetComp elt [⟨t0, i0, ifs0, 0⟩, ⟨t1, i1, ifs1, 0⟩] scope pos) 0 it acc env = (do
      standAt i0.pos
      match ← pyNext it with
      | none => pure (.done .next)
      | some v =>
        letOwnedTupleGo t0 it v
        assign t0 env v
        let mut ok := true
        for c in ifs0 do
          if ok then ok ← isTrue c env (eval c env)
        if ok then
          let x ← eval i1 env
          standAt i1.pos
          let x ← foldedSetIterable i1 env x
          let _ ← runOwn (.compStart (.SetComp elt [⟨t0, i0, ifs0, 0⟩, ⟨t1, i1, ifs1, 0⟩] scope pos) 1 (← holding [x] (pyIter x)) acc env) env
        again (.compLoop (.SetComp elt [⟨t0, i0, ifs0, 0⟩, ⟨t1, i1, ifs1, 0⟩] scope pos) 0 it acc env)) := by rfl
theorem turn_second (elt t0 i0 t1 i1 : Expr) (ifs0 ifs1 : List Expr) (scope : Scope) (pos : Pos) (it acc : Value) (env : Env) :
    compTurn (.SetComp elt [⟨t0, i0, ifs0, 0⟩, ⟨t1, i1, ifs1, 0⟩] scope pos) 1 it acc env = (do
      standAt i1.pos
      match ← pyNext it with
      | none => pure (.done .next)
      | some v =>
        letOwnedTupleGo t1 it v
        assign t1 env v
        let mut ok := true
        for c in ifs1 do
          if ok then ok ← isTrue c env (eval c env)
        if ok then
          (do let v ← eval elt env; standAt elt.pos; let _ ← call (.builtin "set.add") [acc, v])
        again (.compLoop (.SetComp elt [⟨t0, i0, ifs0, 0⟩, ⟨t1, i1, ifs1, 0⟩] scope pos) 1 it acc env)) := by rfl
/-- a raise out of the block -/
abbrev Out (prog : Program) (w : World) (A : Around) (env : Env) (R : Result → Shared → Prop) : Value → Shared → Prop := notedBy (model prog w) A env fun e s' => R (.error e) s'
/-- the tests of a clause -/
abbrev oks (ifs : List Expr) (env : Env) : Sem Bool := forIn ifs true fun c r => if r = true then do let ok ← isTrue c env (eval c env); pure (ForInStep.yield ok) else pure (ForInStep.yield r)
theorem loop_first (hs : ∀ x, foldedSetIterable i1 env x = pure x) (I : Nat → Shared → Prop)
    (turn : ∀ n s, I n s → wpAny (model prog w) A (pyNext it) (fun r s₁ => match r with
      | none => R (.ok .next) s₁
      | some v => wpAny (model prog w) A (letOwnedTupleGo t0 it v) (fun _ s₂ => wpAny (model prog w) A (assign t0 env v) (fun _ s₃ => wpAny (model prog w) A (oks ifs0 env) (fun ok s₄ =>
            if ok = true then wpAny (model prog w) A (eval i1 env) (fun x s₅ => wpAny (model prog w) A (pyIter x) (fun it1 s₆ =>
              codeAny (model prog w) A (.compStart (.SetComp elt [⟨t0, i0, ifs0, 0⟩, ⟨t1, i1, ifs1, 0⟩] scope pos) 1 it1 acc env) (fun r s' => match r with
                | .ok _ => ∃ m, m < n ∧ I m s'
                | .error _ => False) s₆) (Out prog w A env R) s₅) (Out prog w A env R) s₄
            else ∃ m, m < n ∧ I m s₄) (Out prog w A env R) s₃) (Out prog w A env R) s₂) (Out prog w A env R) s₁) (Out prog w A env R) s)
    (n : Nat) (h : I n s) : codeAny (model prog w) A (.compLoop (.SetComp elt [⟨t0, i0, ifs0, 0⟩, ⟨t1, i1, ifs1, 0⟩] scope pos) 0 it acc env) R s := by
  refine codeAny_loop rfl I (fun n s hI => ?_) n h
  show wpAny _ A ((compTurn (.SetComp elt [⟨t0, i0, ifs0, 0⟩, ⟨t1, i1, ifs1, 0⟩] scope pos) 0 it acc env).onRaise (fun x => do noteFrame x env; theTreesLotGoes x)) _ _ s
  refine wpAny_noted ?_
  rw [turn_first]
  refine wpAny_bind (wpAny_standAt (wpAny_bind (wpAny_mono (turn n s hI) (fun r s₁ h₁ => ?_) fun _ _ z => z)))
  cases r with
  | none => exact wpAny_pure h₁
  | some v =>
    refine wpAny_bind (wpAny_mono h₁ (fun _ s₂ h₂ => wpAny_bind (wpAny_mono h₂ (fun _ s₃ h₃ => wpAny_bind (wpAny_mono h₃ (fun ok s₄ h₄ => ?_) fun _ _ z => z)) fun _ _ z => z)) fun _ _ z => z)
    cases ok with
    | false => exact wpAny_pure ⟨rfl, h₄⟩
    | true =>
      refine wpAny_bind (wpAny_mono h₄ (fun x s₅ h₅ => wpAny_bind (wpAny_standAt (wpAny_bind (wpAny_of_eq (hs x) (wpAny_bind (wpAny_holding (wpAny_mono h₅ (fun it1 s₆ h₆ => wpAny_bind (wpAny_runOwn ?_)) fun _ _ z => z))))))) fun _ _ z => z)
      rw [Around.mark_none]
      refine codeAny_mono h₆ fun r s' hr => ?_
      cases r with
      | error e => exact hr.elim
      | ok f => first | exact wpAny_pure ⟨rfl, hr⟩ | exact wpAny_bind (wpAny_pure (wpAny_pure ⟨rfl, hr⟩))
theorem loop_second (I : Nat → Shared → Prop)
    (turn : ∀ n s, I n s → wpAny (model prog w) A (pyNext it) (fun r s₁ => match r with
      | none => R (.ok .next) s₁
      | some v => wpAny (model prog w) A (letOwnedTupleGo t1 it v) (fun _ s₂ => wpAny (model prog w) A (assign t1 env v) (fun _ s₃ => wpAny (model prog w) A (oks ifs1 env) (fun ok s₄ =>
            if ok = true then wpAny (model prog w) A (eval elt env) (fun x s₅ => wpAny (model prog w) A (call (.builtin "set.add") [acc, x]) (fun _ s₆ => ∃ m, m < n ∧ I m s₆) (Out prog w A env R) s₅) (Out prog w A env R) s₄
            else ∃ m, m < n ∧ I m s₄) (Out prog w A env R) s₃) (Out prog w A env R) s₂) (Out prog w A env R) s₁) (Out prog w A env R) s)
    (n : Nat) (h : I n s) : codeAny (model prog w) A (.compLoop (.SetComp elt [⟨t0, i0, ifs0, 0⟩, ⟨t1, i1, ifs1, 0⟩] scope pos) 1 it acc env) R s := by
  refine codeAny_loop rfl I (fun n s hI => ?_) n h
  show wpAny _ A ((compTurn (.SetComp elt [⟨t0, i0, ifs0, 0⟩, ⟨t1, i1, ifs1, 0⟩] scope pos) 1 it acc env).onRaise (fun x => do noteFrame x env; theTreesLotGoes x)) _ _ s
  refine wpAny_noted ?_
  rw [turn_second]
  refine wpAny_bind (wpAny_standAt (wpAny_bind (wpAny_mono (turn n s hI) (fun r s₁ h₁ => ?_) fun _ _ z => z)))
  cases r with
  | none => exact wpAny_pure h₁
  | some v =>
    refine wpAny_bind (wpAny_mono h₁ (fun _ s₂ h₂ => wpAny_bind (wpAny_mono h₂ (fun _ s₃ h₃ => wpAny_bind (wpAny_mono h₃ (fun ok s₄ h₄ => ?_) fun _ _ z => z)) fun _ _ z => z)) fun _ _ z => z)
    cases ok with
    | false => exact wpAny_pure ⟨rfl, h₄⟩
    | true => exact wpAny_bind (wpAny_bind (wpAny_mono h₄ (fun x s₅ h₅ => wpAny_bind (wpAny_standAt (wpAny_bind (wpAny_mono h₅ (fun _ s₆ h₆ => wpAny_pure (wpAny_pure ⟨rfl, h₆⟩)) fun _ _ z => z)))) fun _ _ z => z))
theorem start_second (h0 : codeAny (model prog w) A (.compLoop (.SetComp elt [⟨t0, i0, ifs0, 0⟩, ⟨t1, i1, ifs1, 0⟩] scope pos) 1 it acc env) R s)
    (h : wpAny (model prog w) A (pyIter it) (fun it' s' => codeAny (model prog w) A (.compLoop (.SetComp elt [⟨t0, i0, ifs0, 0⟩, ⟨t1, i1, ifs1, 0⟩] scope pos) 1 it' acc env) R s') (Out prog w A env R) s) :
    codeAny (model prog w) A (.compStart (.SetComp elt [⟨t0, i0, ifs0, 0⟩, ⟨t1, i1, ifs1, 0⟩] scope pos) 1 it acc env) R s := by
  refine codeAny_of_tree ?_
  show wpAny _ _ ((compStart (.SetComp elt [⟨t0, i0, ifs0, 0⟩, ⟨t1, i1, ifs1, 0⟩] scope pos) 1 it acc env).onRaise (fun x => do noteFrame x env; standAt theWindowsPlace)) _ _ s
  refine wpAny_notedAt ?_
  unfold compStart
  show wpAny _ _ (ask >>= _) _ _ s
  refine wpAny_bind (wpAny_askSetting (wpAny_ite ?_))
  split
  · first
      | exact wpAny_bind (wpAny_pure (wpAny_pure (And.intro rfl h0)))
      | exact wpAny_pure (And.intro rfl h0)
  · first
      | exact wpAny_bind (wpAny_rule (wpAny_bind (wpAny_standAt (wpAny_bind (wpAny_mono h (fun it' s' h' => wpAny_pure (And.intro rfl h')) fun _ _ x => x)))))
      | (refine wpAny_bind (wpAny_rule ?_); show wpAny _ _ (standAt i1.pos >>= _) _ _ s; exact wpAny_bind (wpAny_standAt (wpAny_bind (wpAny_mono h (fun it' s' h' => wpAny_pure (And.intro rfl h')) fun _ _ x => x))))
end
section
variable {X : Cx} {nw : Addr → HO} {ad : Addr → HO → V → HO → Prop}
/-- what a rule of a block's part tells at each of its contexts -/
abbrev InBlk (X : Cx) (scope : Scope) (G : Cx → Prop) : Prop := ∀ (s : Shared) (H : Hp) (C : Addr) (cl : List (PySem.Str × Addr)) (fp : List Addr), G (X.blk s H scope (compEnvC scope cl C X.env) fp)
/-- the block's frame stands: H3 what is there, D the set, s3 the state ahead of the frame, ce its names -/
structure Frame (X : Cx) (pins : List (Addr × Obj)) (σ : L2.St) (vs : List Nat) (scope : Scope) (H3 : Hp) (s3 s4 : Shared) (ce : Env) (fp : List Addr) : Prop where
  loc : ce.locals = s3.heap.objs.size
  inv : Inv X pins σ H3 s3
  fps : ∀ b ∈ fp, FpOk X pins H3 b ∧ b < s3.heap.objs.size
  blk : Inv (X.blk s3 H3 scope ce fp) [] (wipe σ vs) H3 s4
/-- the source's objects at a turn -/
theorem Frame.stat {pins : List (Addr × Obj)} {σ σ' : L2.St} {vs : List Nat} {scope : Scope} {H3 H' : Hp} {s3 s4 s' : Shared} {ce : Env} {fp : List Addr} (F : Frame X pins σ vs scope H3 s3 s4 ce fp) (I : Inv (X.blk s3 H3 scope ce fp) [] σ' H' s') (hn : ∀ b ∈ fp, H' b = none) : ∀ b ∈ fp, FpOk (X.blk s3 H3 scope ce fp) [] H' b := fun b hb =>
  ⟨hn b hb, (I.ok.exf b hb).1, I.ok.exfs b hb, .inl hb, fun x c e => (I.ok.exf b hb).2 x c e, fun p hp => absurd (show p ∈ ([] : List (Addr × Obj)) ++ [] from hp) (by simp)⟩
/-- the block's frame goes -/
theorem Frame.leave {pins : List (Addr × Obj)} {σ σ' : L2.St} {vs : List Nat} {scope : Scope} {H3 H' : Hp} {s3 s4 s' : Shared} {ce : Env} {fp : List Addr} {Q : V → Prop} {D : Addr} {use : Option (Value → Sem Unit)} {Qf : Value → Shared → Prop} (F : Frame X pins σ vs scope H3 s3 s4 ce fp) (I : Inv (X.blk s3 H3 scope ce fp) [] σ' H' s')
    (k : ∀ m, Inv X pins σ H' s' → s'.heap.Ns s3.heap.objs.size m → FpOk X pins H' s3.heap.objs.size → compPost (model X.prog X.w) X.A X.xe use Qf (.ref D) s3.heap.objs.size (.ok .next) s') : compPost (model X.prog X.w) X.A X.xe use Qf (.ref D) s3.heap.objs.size (.ok .next) s' := by
  have nC : H' s3.heap.objs.size = none := F.loc ▸ (show H' ce.locals = none from I.free)
  obtain ⟨m, hn, _⟩ := I.loc
  have hn : s'.heap.Ns ce.locals m := hn
  rw [F.loc] at hn
  refine k m (F.inv.call' (ch := fp) I.os I.base I.hok I.bare fun b hb => ?_) hn (F.inv.fpOk (Nat.le_refl _) nC)
  obtain ⟨⟨_, a1, a2, a3, a4, a5⟩, _⟩ := F.fps b hb
  exact ⟨a3, a1, a4, a5⟩
/-- the way into the block: the first source, the empty set, the block's frame. What is left is the loop. -/
theorem set_in {pins : List (Addr × Obj)} {s : Shared} {σ : L2.St} {H : Hp} {elt tg iter : Expr} {ifs : List Expr} {more : List Comprehension} {scope : Scope} {own : List (PySem.Str × Nat)} {pos pos' : Pos} {wi : TI} {use : Option (Value → Sem Unit)} {Qf : Value → Shared → Prop} {KJ : It → Hp → Prop}
    (fl : Fill X.prog X.w nw ad) (hN : X.N.Nodup) (I : Inv X pins σ H s) (hi : PI X tg iter wi) (ok : BlkOk X.N X.env.scope scope own) (hs : ∀ x, foldedSetIterable iter X.env x = pure x) (h : wi σ H KJ)
    (loop : ∀ (J : It) (H2 H3 : Hp) (s3 s4 : Shared) (D it : Addr) (fp : List Addr) (tn : Nat → Heap → Prop) (cl : List (PySem.Str × Addr)), KJ J H2 → H2 D = none → H3 = upd H2 D (nw D) → Frame X pins σ (own.map (·.2)) scope H3 s3 s4 (compEnvC scope cl s3.heap.objs.size X.env) fp → Turn X.prog X.w X.K tg J fp it tn → tn 0 s4.heap →
      codeAny (model X.prog X.w) X.A (.compLoop (.SetComp elt (⟨tg, iter, ifs, 0⟩ :: more) scope pos) 0 (.ref it) (.ref D) (compEnvC scope cl s3.heap.objs.size X.env)) (compPost (model X.prog X.w) X.A X.xe use Qf (.ref D) s3.heap.objs.size) s4) :
    wpAny (model X.prog X.w) X.A (comprehension (.SetComp elt (⟨tg, iter, ifs, 0⟩ :: more) scope pos) scope X.env pos' (newSet (.type "set")) false (eval iter X.env) use) Qf X.xe s := by
  have hfree : ∀ y ∈ scope.names, y.2 = .free → ∃ c, X.env.cells.lookup y.1 = some c := fun y hy e => (ok.free y hy e).elim (fun k => I.ok.has _ (.inl k)) fun k => I.ok.has _ (.inr k)
  refine wpAny_comprehension_free (use := use) rfl hs (closure_ok hfree) ok.kind (fun y hy e => by rw [ok.uniq y hy, e]) (thn (hi.run pins s σ H _ I h) fun xv s1 hx => thn hx fun itv s2 h2 => ?_)
  obtain ⟨it, fp, tn, J, H2, rfl, I2, T, st2, f2, q⟩ := h2
  refine PpSet.newSet_ok (newEnv_comp ?_)
  have none2 : H2 s2.heap.objs.size = none := I2.hok.fresh (Nat.le_refl _)
  have I3 := I2.laid (t' := s2.toks) (fun b o e => Heap.get?_push_of_some (so X.w) e) (Nat.le_refl _) (fl.new _ s2.heap)
  have old : ∀ b ∈ fp, b < s2.heap.objs.size := fun b hb => by
    obtain ⟨o, e, _⟩ := T.obj _ _ st2 b hb
    exact Heap.lt_size e
  have f3 : ∀ b ∈ fp, FpOk X pins (upd H2 s2.heap.objs.size (nw s2.heap.objs.size)) b ∧ b < (s2.heap.push (so X.w)).objs.size := fun b hb => by
    refine ⟨⟨?_, (f2 b hb).2⟩, by rw [Heap.size_push]; exact Nat.lt_succ_of_lt (old b hb)⟩
    rw [upd_ne (Nat.ne_of_lt (old b hb))]
    exact (f2 b hb).1
  have st3 : tn 0 (s2.heap.push (so X.w)) := T.keep _ _ _ st2 fun b _ o e => Heap.get?_push_of_some _ e
  have I4 := block_start I3 ok hN f3
  have st4 : tn 0 (pushCells ((s2.heap.push (so X.w)).push { cls := .type "dict", data := .dict #[] }) scope.names) := T.keep _ _ _ st3 fun b _ o e => pushCells_keeps _ _ _ _ (Heap.get?_push_of_some _ e)
  have L := loop J H2 _ { s2 with heap := s2.heap.push (so X.w) } _ s2.heap.objs.size it fp tn _ q none2 rfl ⟨rfl, I3, f3, I4⟩ T st4
  exact PpSet.codeAny_compStart_set L (T.self X.A 0 _ _ _ st4 L)
/-- what is pinned behind a turn's store stands behind the turn -/
theorem turn_end {Y : Cx} {pins : List (Addr × Obj)} {fp : List Addr} {h7 : Heap} {σ8 σ0 : L2.St} {H' : Hp} {s' : Shared} {tg : Expr} {J : It} {it : Addr} {tn : Nat → Heap → Prop} {i : Nat} (T : Turn Y.prog Y.w Y.K tg J fp it tn) (st : tn i h7)
    (I : Inv Y (pins ++ pinsAt fp h7) σ8 H' s') (hl : σ0.length = σ8.length) (hk : ∀ (j : Nat) v, σ0[j]? = some (some v) → σ8[j]? = some (some v)) : Inv Y pins σ0 H' s' ∧ tn i s'.heap ∧ ∀ b ∈ fp, H' b = none := by
  have pin' : ∀ b ∈ fp, ∀ o, h7.get? b = some o → s'.heap.get? b = some o ∧ H' b = none := fun b hb o e =>
    let z := I.pin (b, o) (List.mem_append_right _ (List.mem_append_right _ (mem_pinsAt hb e)))
    ⟨z.1, z.2.1⟩
  refine ⟨I.unpinned.weak hl hk, T.keep _ _ _ st fun b hb o e => (pin' b hb o e).1, fun b hb => ?_⟩
  obtain ⟨o, e, _⟩ := T.obj _ _ st b hb
  exact (pin' b hb o e).2
theorem set_one {pins : List (Addr × Obj)} {s : Shared} {σ : L2.St} {H : Hp} {Q : VK} {elt tg iter : Expr} {ifs : List Expr} {scope : Scope} {own : List (PySem.Str × Nat)} {pos pos' : Pos} {wi : TI} {g : TG} {tt : TT} {te : TE} {use : Option (Value → Sem Unit)} {Qf : Value → Shared → Prop}
    (fl : Fill X.prog X.w nw ad) (hc : X.calm = true) (hN : X.N.Nodup) (I : Inv X pins σ H s) (hi : PI X tg iter wi) (ok : BlkOk X.N X.env.scope scope own) (hg : InBlk X scope fun Y => PG Y tg g) (ht : InBlk X scope fun Y => PTs Y ifs tt) (he : InBlk X scope fun Y => PE Y elt te)
    (hs : ∀ x, foldedSetIterable iter X.env x = pure x) (h : tSet nw ad wi g tt te (own.map (·.2)) σ H Q)
    (fin : ∀ D C s' m H', Inv X pins σ H' s' → Q (.ref D) H' → s'.heap.Ns C m → FpOk X pins H' C → compPost (model X.prog X.w) X.A X.xe use Qf (.ref D) C (.ok .next) s') :
    wpAny (model X.prog X.w) X.A (comprehension (.SetComp elt [⟨tg, iter, ifs, 0⟩] scope pos) scope X.env pos' (newSet (.type "set")) false (eval iter X.env) use) Qf X.xe s := by
  refine set_in fl hN I hi ok hs h fun J H2 H3 s3 s4 D it fp tn cl q none2 e3 F T st4 => ?_
  obtain ⟨W, ⟨m0, w0⟩, turn⟩ := q D none2
  rw [← e3] at w0
  have pg := hg s3 H3 s3.heap.objs.size cl fp
  have pt := ht s3 H3 s3.heap.objs.size cl fp
  have pe := he s3 H3 s3.heap.objs.size cl fp
  generalize compEnvC scope cl s3.heap.objs.size X.env = ce at F pg pt pe ⊢
  refine PpSet.compLoopS_any (fun n s' => ∃ i H', Inv (X.blk s3 H3 scope ce fp) [] (wipe σ (own.map (·.2))) H' s' ∧ tn i s'.heap ∧ (∀ b ∈ fp, H' b = none) ∧ W i n H') ?_ m0 ⟨0, H3, F.blk, st4, fun b hb => (F.fps b hb).1.1, w0⟩
  rintro n s5 ⟨i, H5, I5, st5, n5, w5⟩
  rcases turn i n H5 w5 with ⟨stop, qq⟩ | ⟨go, Z, hZ, step⟩
  · refine thnF (T.done (X.blk s3 H3 scope ce fp) rfl rfl rfl hc i [] s5 _ H5 (fun _ _ => False) I5 (F.stat I5 n5) st5 stop) fun r s6 ⟨hr, I6⟩ => ?_
    subst hr
    exact F.leave (Q := fun _ => True) I6 fun m I7 hn hf => fin D _ s6 m H5 I7 qq hn hf
  · refine thnF (T.item (X.blk s3 H3 scope ce fp) rfl rfl rfl hc i [] s5 _ H5 (fun _ _ => False) I5 (F.stat I5 n5) st5 go) fun r s6 ⟨u, hr, h6⟩ => ?_
    subst hr
    refine thnF h6 fun _ s7 ⟨x, H7, I7, r7, y7, st7, n7⟩ => ?_
    refine thnF (pg.run _ s7 _ H7 x u _ (I7.pinned (F.stat I7 n7) (T.obj _ _ st7)) r7 (step x H7 y7)) fun _ s8 ⟨σ8, H8, I8, hw8, q8⟩ => ?_
    refine thnF (pt.run _ s8 σ8 H8 _ I8 q8) fun b s9 ⟨H9, I9, q9⟩ => ?_
    have back : ∀ {s' : Shared} {H' : Hp}, Inv (X.blk s3 H3 scope ce fp) ([] ++ pinsAt fp s7.heap) σ8 H' s' → Z H' → ∃ m, m < n ∧ ∃ i H', Inv (X.blk s3 H3 scope ce fp) [] (wipe σ (own.map (·.2))) H' s' ∧ tn i s'.heap ∧ (∀ b ∈ fp, H' b = none) ∧ W i m H' := fun {s' H'} I' z => by
      obtain ⟨m', hm, w'⟩ := hZ H' z
      obtain ⟨a1, a2, a3⟩ := turn_end (Y := X.blk s3 H3 scope ce fp) (σ0 := wipe σ (own.map (·.2))) T st7 I' (by rw [← hw8, wipe_length]) fun j v e => by
        rw [← hw8] at e
        exact (wipe_some e).1
      exact ⟨m', hm, i + 1, H', a1, a2, a3, w'⟩
    cases b with
    | false =>
      simp only [Bool.false_eq_true, if_false] at q9 ⊢
      exact back I9 q9
    | true =>
      simp only [if_true] at q9 ⊢
      refine thnF (pe.run _ s9 σ8 H9 _ I9 q9) fun z s10 ⟨y, H10, I10, r10, o, o', ho, hy, nx⟩ => ?_
      exact fl.add (X.blk s3 H3 scope ce fp) rfl rfl _ _ _ _ _ _ _ _ _ _ _ I10 ho hy r10 fun s11 I11 => back I11 nx
theorem set_two {pins : List (Addr × Obj)} {s : Shared} {σ : L2.St} {H : Hp} {Q : VK} {elt tg iter tg1 iter1 : Expr} {ifs ifs1 : List Expr} {scope : Scope} {own : List (PySem.Str × Nat)} {vs1 : List Nat} {pos pos' : Pos} {wi wi1 : TI} {g g1 : TG} {tt tt1 : TT} {te : TE} {use : Option (Value → Sem Unit)} {Qf : Value → Shared → Prop}
    (fl : Fill X.prog X.w nw ad) (hc : X.calm = true) (hN : X.N.Nodup) (I : Inv X pins σ H s) (hi : PI X tg iter wi) (ok : BlkOk X.N X.env.scope scope own) (hv : ∀ i ∈ vs1, i ∈ own.map (·.2)) (hg : InBlk X scope fun Y => PG Y tg g) (ht : InBlk X scope fun Y => PTs Y ifs tt)
    (hi1 : InBlk X scope fun Y => PI Y tg1 iter1 wi1) (hg1 : InBlk X scope fun Y => PG Y tg1 g1) (ht1 : InBlk X scope fun Y => PTs Y ifs1 tt1) (he : InBlk X scope fun Y => PE Y elt te)
    (hs : ∀ x, foldedSetIterable iter X.env x = pure x) (hs1 : ∀ env x, foldedSetIterable iter1 env x = pure x) (h : tSet2 nw ad wi g tt wi1 g1 tt1 te (own.map (·.2)) vs1 σ H Q)
    (fin : ∀ D C s' m H', Inv X pins σ H' s' → Q (.ref D) H' → s'.heap.Ns C m → FpOk X pins H' C → compPost (model X.prog X.w) X.A X.xe use Qf (.ref D) C (.ok .next) s') :
    wpAny (model X.prog X.w) X.A (comprehension (.SetComp elt [⟨tg, iter, ifs, 0⟩, ⟨tg1, iter1, ifs1, 0⟩] scope pos) scope X.env pos' (newSet (.type "set")) false (eval iter X.env) use) Qf X.xe s := by
  refine set_in fl hN I hi ok hs h fun J H2 H3 s3 s4 D it fp tn cl q none2 e3 F T st4 => ?_
  obtain ⟨W, ⟨m0, w0⟩, turn⟩ := q D none2
  rw [← e3] at w0
  have pg := hg s3 H3 s3.heap.objs.size cl fp
  have pt := ht s3 H3 s3.heap.objs.size cl fp
  have pe := he s3 H3 s3.heap.objs.size cl fp
  have pi1 := hi1 s3 H3 s3.heap.objs.size cl fp
  have pg1 := hg1 s3 H3 s3.heap.objs.size cl fp
  have pt1 := ht1 s3 H3 s3.heap.objs.size cl fp
  generalize compEnvC scope cl s3.heap.objs.size X.env = ce at F pg pt pe pi1 pg1 pt1 ⊢
  refine loop_first (hs1 ce) (fun n s' => ∃ i H', Inv (X.blk s3 H3 scope ce fp) [] (wipe σ (own.map (·.2))) H' s' ∧ tn i s'.heap ∧ (∀ b ∈ fp, H' b = none) ∧ W i n H') ?_ m0 ⟨0, H3, F.blk, st4, fun b hb => (F.fps b hb).1.1, w0⟩
  rintro n s5 ⟨i, H5, I5, st5, n5, w5⟩
  rcases turn i n H5 w5 with ⟨stop, qq⟩ | ⟨go, Z, hZ, step⟩
  · refine thnF (T.done (X.blk s3 H3 scope ce fp) rfl rfl rfl hc i [] s5 _ H5 (fun _ _ => False) I5 (F.stat I5 n5) st5 stop) fun r s6 ⟨hr, I6⟩ => ?_
    subst hr
    exact F.leave (Q := fun _ => True) I6 fun m I7 hn hf => fin D _ s6 m H5 I7 qq hn hf
  · refine thnF (T.item (X.blk s3 H3 scope ce fp) rfl rfl rfl hc i [] s5 _ H5 (fun _ _ => False) I5 (F.stat I5 n5) st5 go) fun r s6 ⟨u, hr, h6⟩ => ?_
    subst hr
    refine thnF h6 fun _ s7 ⟨x, H7, I7, r7, y7, st7, n7⟩ => ?_
    refine thnF (pg.run _ s7 _ H7 x u _ (I7.pinned (F.stat I7 n7) (T.obj _ _ st7)) r7 (step x H7 y7)) fun _ s8 ⟨σ8, H8, I8, hw8, q8⟩ => ?_
    refine thnF (pt.run _ s8 σ8 H8 _ I8 q8) fun b s9 ⟨H9, I9, q9⟩ => ?_
    have back : ∀ {σ9 : L2.St} {s' : Shared} {H' : Hp}, Inv (X.blk s3 H3 scope ce fp) ([] ++ pinsAt fp s7.heap) σ9 H' s' → (wipe σ (own.map (·.2))).length = σ9.length → (∀ (j : Nat) v, (wipe σ (own.map (·.2)))[j]? = some (some v) → σ9[j]? = some (some v)) → Z H' →
        ∃ m, m < n ∧ ∃ i H', Inv (X.blk s3 H3 scope ce fp) [] (wipe σ (own.map (·.2))) H' s' ∧ tn i s'.heap ∧ (∀ b ∈ fp, H' b = none) ∧ W i m H' := fun {σ9 s' H'} I' hl hk z => by
      obtain ⟨m', hm, w'⟩ := hZ H' z
      obtain ⟨a1, a2, a3⟩ := turn_end (Y := X.blk s3 H3 scope ce fp) T st7 I' hl hk
      exact ⟨m', hm, i + 1, H', a1, a2, a3, w'⟩
    have len8 : (wipe σ (own.map (·.2))).length = σ8.length := by rw [← hw8, wipe_length]
    have kept8 : ∀ (j : Nat) v, (wipe σ (own.map (·.2)))[j]? = some (some v) → σ8[j]? = some (some v) ∧ j ∉ vs1 := fun j v e => by
      rw [← hw8] at e
      obtain ⟨e1, e2⟩ := wipe_some e
      exact ⟨e1, fun z => e2 (hv j z)⟩
    cases b with
    | false =>
      simp only [Bool.false_eq_true, if_false] at q9 ⊢
      exact back I9 len8 (fun j v e => (kept8 j v e).1) q9
    | true =>
      simp only [if_true] at q9 ⊢
      refine thnF (pi1.run _ s9 σ8 H9 _ I9 q9) fun xv s10 hx => thnF hx fun itv s11 h11 => ?_
      obtain ⟨it1, fp1, tn1, J1, H11, rfl, I11, T1, st11, f11, W1, ⟨m1, w1⟩, turn1⟩ := h11
      have inner : codeAny (model X.prog X.w) X.A (.compLoop (.SetComp elt [⟨tg, iter, ifs, 0⟩, ⟨tg1, iter1, ifs1, 0⟩] scope pos) 1 (.ref it1) (.ref D) ce)
          (fun r s' => match r with
            | .ok _ => ∃ m, m < n ∧ ∃ i H', Inv (X.blk s3 H3 scope ce fp) [] (wipe σ (own.map (·.2))) H' s' ∧ tn i s'.heap ∧ (∀ b ∈ fp, H' b = none) ∧ W i m H'
            | .error _ => False) s11 := by
        have stat1 : ∀ {H' : Hp}, (∀ b ∈ fp1, H' b = none) → ∀ b ∈ fp1, FpOk (X.blk s3 H3 scope ce fp) ([] ++ pinsAt fp s7.heap) H' b := fun hn b hb => ⟨hn b hb, (f11 b hb).2⟩
        refine loop_second (fun k s' => ∃ j H', Inv (X.blk s3 H3 scope ce fp) ([] ++ pinsAt fp s7.heap) (wipe σ8 vs1) H' s' ∧ tn1 j s'.heap ∧ (∀ b ∈ fp1, H' b = none) ∧ W1 j k H') ?_ m1 ⟨0, H11, I11.weak (wipe_length _ _) (fun j v e => (wipe_some e).1), st11, fun b hb => (f11 b hb).1, w1⟩
        rintro k s12 ⟨j, H12, I12, st12, n12, w12⟩
        rcases turn1 j k H12 w12 with ⟨stop1, z1⟩ | ⟨go1, Z1, hZ1, step1⟩
        · refine thnF (T1.done (X.blk s3 H3 scope ce fp) rfl rfl rfl hc j _ s12 (wipe σ8 vs1) H12 (fun _ _ => False) I12 (stat1 n12) st12 stop1) fun r s13 ⟨hr, I13⟩ => ?_
          subst hr
          exact back I13 (len8.trans (wipe_length σ8 vs1).symm) (fun j v e => by rw [wipe_out (kept8 j v e).2]; exact (kept8 j v e).1) z1
        · refine thnF (T1.item (X.blk s3 H3 scope ce fp) rfl rfl rfl hc j _ s12 (wipe σ8 vs1) H12 (fun _ _ => False) I12 (stat1 n12) st12 go1) fun r s13 ⟨u1, hr, h13⟩ => ?_
          subst hr
          refine thnF h13 fun _ s14 ⟨x1, H14, I14, r14, y14, st14, n14⟩ => ?_
          refine thnF (pg1.run _ s14 (wipe σ8 vs1) H14 x1 u1 _ (I14.pinned (stat1 n14) (T1.obj _ _ st14)) r14 (step1 x1 H14 y14)) fun _ s15 ⟨σ15, H15, I15, hw15, q15⟩ => ?_
          refine thnF (pt1.run _ s15 σ15 H15 _ I15 q15) fun b1 s16 ⟨H16, I16, q16⟩ => ?_
          have back1 : ∀ {s' : Shared} {H' : Hp}, Inv (X.blk s3 H3 scope ce fp) (([] ++ pinsAt fp s7.heap) ++ pinsAt fp1 s14.heap) σ15 H' s' → Z1 H' → ∃ m, m < k ∧ ∃ j H', Inv (X.blk s3 H3 scope ce fp) ([] ++ pinsAt fp s7.heap) (wipe σ8 vs1) H' s' ∧ tn1 j s'.heap ∧ (∀ b ∈ fp1, H' b = none) ∧ W1 j m H' := fun {s' H'} I' z => by
            obtain ⟨m', hm, w'⟩ := hZ1 H' z
            obtain ⟨a1, a2, a3⟩ := turn_end (Y := X.blk s3 H3 scope ce fp) (σ0 := wipe σ8 vs1) T1 st14 I' (by rw [← hw15, wipe_length]) fun j v e => by
              rw [← hw15] at e
              exact (wipe_some e).1
            exact ⟨m', hm, j + 1, H', a1, a2, a3, w'⟩
          cases b1 with
          | false =>
            simp only [Bool.false_eq_true, if_false] at q16 ⊢
            exact back1 I16 q16
          | true =>
            simp only [if_true] at q16 ⊢
            refine thnF (pe.run _ s16 σ15 H16 _ I16 q16) fun z s17 ⟨y, H17, I17, r17, o, o', ho, hy, nx⟩ => ?_
            exact fl.add (X.blk s3 H3 scope ce fp) rfl rfl _ _ _ _ _ _ _ _ _ _ _ I17 ho hy r17 fun s18 I18 => back1 I18 nx
      exact start_second inner (T1.self X.A 0 _ _ _ st11 inner)
/-- as a value, one clause -/
theorem pe_set {elt tg iter : Expr} {ifs : List Expr} {scope : Scope} {own : List (PySem.Str × Nat)} {pos : Pos} {wi : TI} {g : TG} {tt : TT} {te : TE} (fl : Fill X.prog X.w nw ad) (hc : X.calm = true) (hN : X.N.Nodup) (hi : PI X tg iter wi) (ok : BlkOk X.N X.env.scope scope own)
    (hg : InBlk X scope fun Y => PG Y tg g) (ht : InBlk X scope fun Y => PTs Y ifs tt) (he : InBlk X scope fun Y => PE Y elt te) (hs : ∀ x, foldedSetIterable iter X.env x = pure x := by intro _; rfl) : PE X (.SetComp elt [⟨tg, iter, ifs, 0⟩] scope pos) (tSet nw ad wi g tt te (own.map (·.2))) := by
  refine ⟨fun pins s σ H Q I h => ?_⟩
  rw [PpSet.eval_SetComp]
  refine set_one fl hc hN I hi ok hg ht he hs h fun D C s' m H' I' q hn ⟨f0, f1, f2, f3, f4, f5⟩ => ⟨m, hn, fun h'' sb => ?_⟩
  exact ⟨.ref D, H', I'.turned (t' := s'.toks) (fun b o hb e => (sb.2 b hb).trans e) f0 f1 f3 f4 f5, rfl, q⟩
/-- as a value, two clauses -/
theorem pe_set2 {elt tg iter tg1 iter1 : Expr} {ifs ifs1 : List Expr} {scope : Scope} {own : List (PySem.Str × Nat)} {vs1 : List Nat} {pos : Pos} {wi wi1 : TI} {g g1 : TG} {tt tt1 : TT} {te : TE} (fl : Fill X.prog X.w nw ad) (hc : X.calm = true) (hN : X.N.Nodup) (hi : PI X tg iter wi) (ok : BlkOk X.N X.env.scope scope own) (hv : ∀ i ∈ vs1, i ∈ own.map (·.2))
    (hg : InBlk X scope fun Y => PG Y tg g) (ht : InBlk X scope fun Y => PTs Y ifs tt) (hi1 : InBlk X scope fun Y => PI Y tg1 iter1 wi1) (hg1 : InBlk X scope fun Y => PG Y tg1 g1) (ht1 : InBlk X scope fun Y => PTs Y ifs1 tt1) (he : InBlk X scope fun Y => PE Y elt te)
    (hs : ∀ x, foldedSetIterable iter X.env x = pure x := by intro _; rfl) (hs1 : ∀ env x, foldedSetIterable iter1 env x = pure x := by intro _ _; rfl) : PE X (.SetComp elt [⟨tg, iter, ifs, 0⟩, ⟨tg1, iter1, ifs1, 0⟩] scope pos) (tSet2 nw ad wi g tt wi1 g1 tt1 te (own.map (·.2)) vs1) := by
  refine ⟨fun pins s σ H Q I h => ?_⟩
  rw [PpSet.eval_SetComp]
  refine set_two fl hc hN I hi ok hv hg ht hi1 hg1 ht1 he hs hs1 h fun D C s' m H' I' q hn ⟨f0, f1, f2, f3, f4, f5⟩ => ⟨m, hn, fun h'' sb => ?_⟩
  exact ⟨.ref D, H', I'.turned (t' := s'.toks) (fun b o hb e => (sb.2 b hb).trans e) f0 f1 f3 f4 f5, rfl, q⟩
end
end Ws
set_option Elab.async false
set_option linter.all false
set_option maxRecDepth 100000
set_option maxHeartbeats 4000000
/-! set comprehensions of texts and of numbers; sorted of them; len of a set of texts; set(tuple of texts) -/
namespace Ws
open PySem PySem.Spec PyProof.Rows L2 Evl Wc Wt Wg Wd
/-- one text more, if it is not there yet -/
def addX (l : List Tx) (x : Tx) : List Tx := if x ∈ l then l else x :: l
def setX (l : List Tx) : List Tx := l.foldl addX []
theorem mem_addX {l : List Tx} {x y : Tx} : y ∈ addX l x ↔ y ∈ l ∨ y = x := by
  unfold addX
  split
  · rename_i h
    exact ⟨.inl, fun z => z.elim id fun e => e ▸ h⟩
  · rw [List.mem_cons]
    exact Or.comm
theorem addX_nodup {l : List Tx} {x : Tx} (h : l.Nodup) : (addX l x).Nodup := by
  unfold addX
  split
  · exact h
  · rename_i hx
    exact List.nodup_cons.mpr ⟨hx, h⟩
theorem addX_len (l : List Tx) (x : Tx) : (addX l x).length ≤ l.length + 1 := by
  unfold addX
  split
  · omega
  · simp
theorem fold_addX : ∀ (xs l : List Tx), (∀ y, y ∈ xs.foldl addX l ↔ y ∈ l ∨ y ∈ xs) ∧ (l.Nodup → (xs.foldl addX l).Nodup) ∧ (xs.foldl addX l).length ≤ l.length + xs.length
  | [], l => ⟨fun y => ⟨.inl, fun z => z.elim id fun h => nomatch h⟩, id, Nat.le_refl _⟩
  | x :: xs, l => by
    obtain ⟨h1, h2, h3⟩ := fold_addX xs (addX l x)
    refine ⟨fun y => ?_, fun h => h2 (addX_nodup h), ?_⟩
    · show y ∈ xs.foldl addX (addX l x) ↔ _
      rw [h1, mem_addX, List.mem_cons, or_assoc]
    · have := addX_len l x
      show (xs.foldl addX (addX l x)).length ≤ _
      rw [List.length_cons]
      omega
theorem mem_setX {l : List Tx} {y : Tx} : y ∈ setX l ↔ y ∈ l := ((fold_addX l []).1 y).trans ⟨fun z => z.elim (fun h => nomatch h) id, .inr⟩
theorem setX_nodup (l : List Tx) : (setX l).Nodup := (fold_addX l []).2.1 List.nodup_nil
theorem setX_len (l : List Tx) : (setX l).length ≤ l.length := by
  have := (fold_addX l []).2.2
  rwa [List.length_nil, Nat.zero_add] at this
theorem setX_snoc (l : List Tx) (x : Tx) : setX (l ++ [x]) = addX (setX l) x := List.foldl_append
/-- the texts without repetition, ascending -/
def setS (l : List Tx) : List Tx := sortT (setX l)
theorem mem_setS {l : List Tx} {y : Tx} : y ∈ setS l ↔ y ∈ l := sortT_mem.trans mem_setX
theorem setS_nodup (l : List Tx) : (setS l).Nodup := (sortT_perm _).nodup_iff.mpr (setX_nodup l)
theorem setS_len (l : List Tx) : (setS l).length ≤ l.length := by
  unfold setS
  rw [sortT_len]
  exact setX_len l
theorem sortT_of_perm {a b : List Tx} (h : a.Perm b) : sortT a = sortT b := (((sortT_perm a).trans h).trans (sortT_perm b).symm).eq_of_pairwise (fun x y _ _ h1 h2 => List.le_antisymm h1 h2) (sortT_pw a) (sortT_pw b)
theorem sortT_same {a b : List Tx} (ha : a.Nodup) (hb : b.Nodup) (h : ∀ x, x ∈ a ↔ x ∈ b) : sortT a = sortT b := sortT_of_perm ((List.perm_ext_iff_of_nodup ha hb).mpr h)
theorem setS_uniq {l ys : List Tx} (u : Uniq l ys) : sortT ys = setS l := sortT_same u.nd (setX_nodup l) fun x => (u.mem x).trans mem_setX.symm
theorem setS_same {a b : List Tx} (h : ∀ x, x ∈ a ↔ x ∈ b) : setS a = setS b := sortT_same (setX_nodup a) (setX_nodup b) fun x => mem_setX.trans ((h x).trans mem_setX.symm)
theorem setX_map_add (l : List Tx) (x : Tx) : (if SX.S x ∈ l.map SX.S then l.map SX.S else SX.S x :: l.map SX.S) = (addX l x).map SX.S := by
  have e : SX.S x ∈ l.map SX.S ↔ x ∈ l := by
    rw [List.mem_map]
    exact ⟨fun ⟨y, hy, q⟩ => S_inj q ▸ hy, fun h => ⟨x, h, rfl⟩⟩
  unfold addX
  by_cases h : x ∈ l
  · rw [if_pos (e.mpr h), if_pos h]
  · rw [if_neg fun z => h (e.mp z), if_neg h]
    rfl
section
variable {P : Program} {w : World} {A : Around} {E : Value → Shared → Prop} {s : Shared} {a : Addr} {l : List Str}
theorem SetX.typeIs (R : SetX P w s.heap a l) : s.TypeIs (.ref a) "set" := by
  obtain ⟨o, _, _, _, ho, hx, _⟩ := R
  exact ⟨o, ho, hx.1⟩
/-- a.add(k) -/
theorem addText {k : Str} {u : Tok} {Q : Value → Shared → Prop} (R : SetX P w s.heap a l) (room : l.length + 1 < scanBound)
    (hQ : ∀ h', Heap.SameBut a s.heap h' → SetX P w h' a (if k ∈ l then l else k :: l) → Q .none { s with heap := h', toks := s.toks + 1 }) : wpAny (model P w) A (call (.builtin "set.add") [.ref a, .str k u]) Q E s := by
  refine wpAny_call_entry F.slot_set_add (SetX.typeIs R) F.entry_set_add ?_ (F.args_set_add_2 _ _)
  unfold Builtin.«set.add» Builtin.Frozenset.oneOther
  simp only [List.isEmpty_nil, bind_assoc]
  unfold Builtin.Frozenset.addrOf setAdd
  refine wpAny_bind (wpAny_pure ?_)
  try dsimp only
  refine wpAny_bind (wpAny_pure ?_)
  try dsimp only
  refine wpAny_bind (wpAny_holding (wpAny_bind ((PySem.strKind P w).pyHash (k := k) (PySem.strKind_is _ _ _ _) ?_)))
  refine add_text (s := { s with toks := s.toks + 1 }) R room fun h' b sb r => ?_
  show wpAny _ _ (ret Value.none) _ _ _
  exact wpAny_pure ⟨_, rfl, hQ h' sb r⟩
end
def nwX (P : Program) (w : World) (D : Addr) : HO := SetXO P w D []
def adX (P : Program) (w : World) (D : Addr) (o : HO) (y : V) (o' : HO) : Prop := ∃ (l : List Tx) (x : Tx), o = SetXO P w D (l.map SX.S) ∧ y = T x ∧ l.length + 1 < scanBound ∧ o' = SetXO P w D ((addX l x).map SX.S)
theorem fillX (P : Program) (w : World) : Fill P w (nwX P w) (adX P w) := by
  refine ⟨fun H h => setXO_new (SetX.new (Heap.get?_push_size _ rfl)), ?_⟩
  rintro X rfl rfl pins σ H s E D o o' y v Q I hD ⟨l, x, rfl, rfl, room, rfl⟩ r k
  obtain ⟨t, rfl⟩ := r
  refine addText (I.hok D _ hD).1 (by rw [List.length_map]; exact room) fun h' sb R => ?_
  rw [setX_map_add] at R
  have he : ∃ u, h'.get? D = some u := by
    have ⟨o, _, _, _, ho, _⟩ := R
    exact ⟨o, ho⟩
  exact k _ (I.write (e := D) (t' := s.toks + 1) (by rw [hD]; trivial) (.inl rfl) (fun b u hb hu => (sb.2 b hb).trans hu) he (setXO_new R))
def nwN (w : World) (D : Addr) : HO := SetO w D (fun _ => false) 0
def adN (w : World) (D : Addr) (o : HO) (y : V) (o' : HO) : Prop := ∃ (S : Int → Bool) (n : Nat) (k : Int), o = SetO w D S n ∧ y = .int k ∧ n + 1 < scanBound ∧ o' = SetO w D (fun j => S j || decide (j = k)) (if S k = true then n else n + 1)
theorem fillN (P : Program) (w : World) : Fill P w (nwN w) (adN w) := by
  refine ⟨fun H h => setO_new (setR_fresh w), ?_⟩
  rintro X rfl rfl pins σ H s E D o o' y v Q I hD ⟨S, n, k, rfl, rfl, room, rfl⟩ r kk
  obtain ⟨t, rfl⟩ := r
  refine setR_add (setO_get I hD) room fun h' sb R => ?_
  have he : ∃ u, h'.get? D = some u := by
    have ⟨o, _, _, _, ho, _⟩ := R
    exact ⟨o, ho⟩
  exact kk _ (I.write (e := D) (t' := s.toks + 1) (by rw [hD]; trivial) (.inl rfl) (fun b u hb hu => (sb.2 b hb).trans hu) he (setO_new R))
section
variable {K : PySem.W.Frag} {P : Program} {w : World} {σ : L2.St} {H : Hp} {te : TE} {tt : TT} {Q : VK}
/-- what a comprehension of texts leaves, one clause, no test -/
theorem el_setX {α : Type} {wi : TI} {j : Nat} {vs : List Nat} {own : Addr → Prop} {f : α → V} {g : α → Tx} (xs : List α) (hs : Src wi σ H xs.length own (fun i v _ => (xs.map f)[i]? = some v)) (hz : xs.length ≤ 4000) (hw : ∀ x, wipe ((wipe σ vs).set j (some x)) vs = wipe σ vs)
    (he : ∀ a H1, Ex H H1 → a ∈ xs → Ev te ((wipe σ vs).set j (some (f a))) H1 (T (g a)))
    (k : ∀ d H2, H d = none → Ex H H2 → H2 d = some (SetXO P w d ((setX (xs.map g)).map SX.S)) → Q (.ref d) H2) : tSet (nwX P w) (adX P w) wi (gName j) tYes te vs σ H Q :=
  hs H (Ex.refl H) _ fun J H1 S e1 wk hS => fun D hD => by
    refine ⟨fun i m Hi => m = xs.length - i ∧ i ≤ xs.length ∧ Ex H1 Hi ∧ Hi D = some (SetXO P w D ((setX ((xs.take i).map g)).map SX.S)), ⟨xs.length, by simp, Nat.zero_le _, Ex.new hD, upd_same⟩, ?_⟩
    rintro i m Hi ⟨rfl, hi, hE, hL⟩
    have hG : S Hi := hS (fun _ => False) Hi (fun b z => z.elim) (.of hE)
    by_cases hlt : i < xs.length
    · refine .inr ⟨wk.goes i Hi hlt hG, fun H' => Ex H1 H' ∧ H' D = some (SetXO P w D ((setX ((xs.take (i + 1)).map g)).map SX.S)), fun H' p' => ⟨xs.length - (i + 1), by omega, rfl, hlt, p'.1, p'.2⟩, fun x H' y => ?_⟩
      obtain ⟨ey, hP⟩ := wk.yields i Hi x H' hlt hG y
      obtain ⟨a, ha, rfl⟩ := at_map hP
      refine ⟨hw _, ?_⟩
      unfold tYes
      dsimp only
      rw [if_pos rfl]
      refine he a H' ((e1.trans hE).trans ey) (List.mem_of_getElem? ha) H' (Ex.refl _) _ fun H4 e4 => ?_
      refine ⟨_, _, e4 _ _ (ey _ _ hL), ⟨_, _, rfl, rfl, ?_, rfl⟩, Ex.mut (hE.trans (ey.trans e4)) hD, ?_⟩
      · have := setX_len ((xs.take i).map g)
        rw [List.length_map, List.length_take] at this
        unfold scanBound
        omega
      · rw [upd_same, List.take_add_one, ha, List.map_append]
        show some (SetXO P w D ((addX (setX ((xs.take i).map g)) (g a)).map SX.S)) = some (SetXO P w D ((setX ((xs.take i).map g ++ [g a])).map SX.S))
        rw [setX_snoc]
    · have e : i = xs.length := by omega
      subst e
      rw [List.take_length] at hL
      exact .inl ⟨wk.stops Hi hG, k D Hi (fresh_back e1 hD) (e1.trans hE) hL⟩
/-- what a comprehension of numbers leaves, one clause, no test -/
theorem el_setN {α : Type} {wi : TI} {j : Nat} {vs : List Nat} {own : Addr → Prop} {f : α → V} {g : α → Int} (xs : List α) (hs : Src wi σ H xs.length own (fun i v _ => (xs.map f)[i]? = some v)) (hz : xs.length ≤ 4000) (hw : ∀ x, wipe ((wipe σ vs).set j (some x)) vs = wipe σ vs)
    (he : ∀ a H1, Ex H H1 → a ∈ xs → Ev te ((wipe σ vs).set j (some (f a))) H1 (.int (g a)))
    (k : ∀ d H2 S c, H d = none → Ex H H2 → (∀ z, S z = true ↔ z ∈ xs.map g) → c ≤ xs.length → H2 d = some (SetO w d S c) → Q (.ref d) H2) : tSet (nwN w) (adN w) wi (gName j) tYes te vs σ H Q :=
  hs H (Ex.refl H) _ fun J H1 S e1 wk hS => fun D hD => by
    refine ⟨fun i m Hi => m = xs.length - i ∧ i ≤ xs.length ∧ Ex H1 Hi ∧ ∃ B c, Hi D = some (SetO w D B c) ∧ c ≤ i ∧ ∀ z, B z = true ↔ z ∈ (xs.take i).map g, ⟨xs.length, by simp, Nat.zero_le _, Ex.new hD, _, _, upd_same, Nat.le_refl _, fun z => by simp⟩, ?_⟩
    rintro i m Hi ⟨rfl, hi, hE, B, c, hL, hc, hB⟩
    have hG : S Hi := hS (fun _ => False) Hi (fun b z => z.elim) (.of hE)
    by_cases hlt : i < xs.length
    · refine .inr ⟨wk.goes i Hi hlt hG, fun H' => Ex H1 H' ∧ ∃ B c, H' D = some (SetO w D B c) ∧ c ≤ i + 1 ∧ ∀ z, B z = true ↔ z ∈ (xs.take (i + 1)).map g, fun H' p' => ⟨xs.length - (i + 1), by omega, rfl, hlt, p'.1, p'.2⟩, fun x H' y => ?_⟩
      obtain ⟨ey, hP⟩ := wk.yields i Hi x H' hlt hG y
      obtain ⟨a, ha, rfl⟩ := at_map hP
      refine ⟨hw _, ?_⟩
      unfold tYes
      dsimp only
      rw [if_pos rfl]
      refine he a H' ((e1.trans hE).trans ey) (List.mem_of_getElem? ha) H' (Ex.refl _) _ fun H4 e4 => ?_
      refine ⟨_, _, e4 _ _ (ey _ _ hL), ⟨B, c, g a, rfl, rfl, by unfold scanBound; omega, rfl⟩, Ex.mut (hE.trans (ey.trans e4)) hD, _, _, upd_same, by split <;> omega, fun z => ?_⟩
      rw [List.take_add_one, ha, List.map_append, List.mem_append, Bool.or_eq_true, decide_eq_true_eq, hB]
      simp
    · have e : i = xs.length := by omega
      subst e
      rw [List.take_length] at hB
      exact .inl ⟨wk.stops Hi hG, k D Hi B c (fresh_back e1 hD) (e1.trans hE) hB hc hL⟩
/-- what a comprehension of texts leaves, two clauses, the second with a test -/
theorem el_setX2 {α β : Type} {wi wi1 : TI} {j j1 : Nat} {vs vs1 : List Nat} {own : Addr → Prop} {own1 : α → Addr → Prop} {f : α → V} {h : β → V} {p : α → β → Bool} {g : α → β → Tx} (xs : List α) (ys : α → List β) (hs : Src wi σ H xs.length own (fun i v _ => (xs.map f)[i]? = some v))
    (hs1 : ∀ a H1, Ex H H1 → a ∈ xs → Src wi1 ((wipe σ vs).set j (some (f a))) H1 (ys a).length (own1 a) (fun i v _ => ((ys a).map h)[i]? = some v))
    (ho : ∀ a c, own1 a c → H c ≠ none) (hz : (xs.map fun a => (ys a).length).sum ≤ 4000) (hw : ∀ x, wipe ((wipe σ vs).set j (some x)) vs = wipe σ vs) (hw1 : ∀ x y, wipe ((wipe ((wipe σ vs).set j (some x)) vs1).set j1 (some y)) vs1 = wipe ((wipe σ vs).set j (some x)) vs1)
    (ht : ∀ a b H1, Ex H H1 → a ∈ xs → b ∈ ys a → EvT tt ((wipe ((wipe σ vs).set j (some (f a))) vs1).set j1 (some (h b))) H1 (p a b))
    (he : ∀ a b H1, Ex H H1 → a ∈ xs → b ∈ ys a → p a b = true → Ev te ((wipe ((wipe σ vs).set j (some (f a))) vs1).set j1 (some (h b))) H1 (T (g a b)))
    (k : ∀ d H2, H d = none → Ex H H2 → H2 d = some (SetXO P w d ((setX (xs.flatMap fun a => ((ys a).filter (p a)).map (g a))).map SX.S)) → Q (.ref d) H2) :
    tSet2 (nwX P w) (adX P w) wi (gName j) tYes wi1 (gName j1) tt te vs vs1 σ H Q := hs H (Ex.refl H) _ fun J H1 S e1 wk hS => fun D hD => by
  let row := fun a => ((ys a).filter (p a)).map (g a)
  have hrow : ∀ i, ((xs.take i).flatMap row).length ≤ 4000 := fun i => by
    refine Nat.le_trans ?_ hz
    refine Nat.le_trans ?_ (sum_part (fun a => (ys a).length) xs i)
    rw [List.length_flatMap]
    induction xs.take i with
    | nil => exact Nat.le_refl _
    | cons a l ih =>
      rw [List.map_cons, List.map_cons, List.sum_cons, List.sum_cons]
      have h1 : (row a).length ≤ (ys a).length := by
        show (((ys a).filter (p a)).map (g a)).length ≤ _
        rw [List.length_map]
        exact List.length_filter_le _ _
      omega
  refine ⟨fun i m Hi => m = xs.length - i ∧ i ≤ xs.length ∧ Ex H1 Hi ∧ Hi D = some (SetXO P w D ((setX ((xs.take i).flatMap row)).map SX.S)), ⟨xs.length, by simp, Nat.zero_le _, Ex.new hD, upd_same⟩, ?_⟩
  rintro i m Hi ⟨rfl, hi, hE, hL⟩
  have hG : S Hi := hS (fun _ => False) Hi (fun b z => z.elim) (.of hE)
  by_cases hlt : i < xs.length
  · refine .inr ⟨wk.goes i Hi hlt hG, fun H' => Ex H1 H' ∧ H' D = some (SetXO P w D ((setX ((xs.take (i + 1)).flatMap row)).map SX.S)), fun H' p' => ⟨xs.length - (i + 1), by omega, rfl, hlt, p'.1, p'.2⟩, fun x H' y => ?_⟩
    obtain ⟨ey, hP⟩ := wk.yields i Hi x H' hlt hG y
    obtain ⟨a, ha, rfl⟩ := at_map hP
    have ham := List.mem_of_getElem? ha
    have hEy := hE.trans ey
    have htk : (xs.take (i + 1)).flatMap row = (xs.take i).flatMap row ++ row a := by
      rw [List.take_add_one, ha, List.flatMap_append]
      simp
    have hbig := hrow (i + 1)
    rw [htk] at hbig
    refine ⟨hw _, ?_⟩
    unfold tYes
    dsimp only
    rw [if_pos rfl]
    refine hs1 a H' ((e1.trans hE).trans ey) ham H' (Ex.refl _) _ fun J1 H4 S1 e4 w1 hS1 => ?_
    refine ⟨fun t m Ht => m = (ys a).length - t ∧ t ≤ (ys a).length ∧ Ex H1 Ht ∧ Exc (fun c => c = D) H4 Ht ∧ Ht D = some (SetXO P w D ((setX ((xs.take i).flatMap row ++ (((ys a).take t).filter (p a)).map (g a))).map SX.S)), ⟨(ys a).length, by simp, Nat.zero_le _, hEy.trans e4, Exc.refl _, by
      rw [e4 _ _ (ey _ _ hL), List.take_zero, List.filter_nil, List.map_nil, List.append_nil]⟩, ?_⟩
    rintro t m Ht ⟨rfl, htl, p1, p2, p3⟩
    have hG1 : S1 Ht := by
      refine hS1 (fun c => c = D) Ht (fun b z => ?_) p2
      subst z
      exact ⟨(by rw [ey _ _ hL]; exact fun z => nomatch z), fun z => ho a b z (fresh_back e1 hD)⟩
    by_cases hlt1 : t < (ys a).length
    · refine .inr ⟨w1.goes t Ht hlt1 hG1, fun Hn => Ex H1 Hn ∧ Exc (fun c => c = D) H4 Hn ∧ Hn D = some (SetXO P w D ((setX ((xs.take i).flatMap row ++ (((ys a).take (t + 1)).filter (p a)).map (g a))).map SX.S)), fun Hn q => ⟨(ys a).length - (t + 1), by omega, rfl, hlt1, q⟩, fun y Hu yy => ?_⟩
      obtain ⟨eu, hy⟩ := w1.yields t Ht y Hu hlt1 hG1 yy
      obtain ⟨b, hb, rfl⟩ := at_map hy
      have hbm := List.mem_of_getElem? hb
      have eH : Ex H Hu := e1.trans (p1.trans eu)
      refine ⟨hw1 _ _, ?_⟩
      refine ht a b Hu eH ham hbm Hu (Ex.refl _) _ fun H6 e6 => ?_
      by_cases hp : p a b = true
      · rw [if_pos hp]
        refine he a b H6 (eH.trans e6) ham hbm hp H6 (Ex.refl _) _ fun H7 e7 => ?_
        have e47 := eu.trans (e6.trans e7)
        refine ⟨_, _, e47 _ _ p3, ⟨_, _, rfl, rfl, ?_, rfl⟩, Ex.mut (p1.trans e47) hD, (p2.then e47).upd (.inl rfl), ?_⟩
        · refine Nat.lt_of_le_of_lt (Nat.succ_le_succ (Nat.le_trans (setX_len _) (Nat.le_trans ?_ hbig))) (by decide)
          rw [List.length_append, List.length_append, List.length_map]
          show _ ≤ _ + (((ys a).filter (p a)).map (g a)).length
          rw [List.length_map]
          exact Nat.add_le_add_left ((List.Sublist.filter _ (List.take_sublist _ _)).length_le) _
        · rw [upd_same, List.take_add_one, hb, List.filter_append, List.map_append, ← List.append_assoc]
          show some (SetXO P w D _) = some (SetXO P w D ((setX (_ ++ ((([b] : List β)).filter (p a)).map (g a))).map SX.S))
          rw [List.filter_cons_of_pos hp, List.filter_nil, List.map_cons, List.map_nil, setX_snoc]
      · rw [if_neg hp]
        have e46 := eu.trans e6
        refine ⟨p1.trans e46, p2.then e46, ?_⟩
        rw [e46 _ _ p3, List.take_add_one, hb, List.filter_append]
        show _ = some (SetXO P w D ((setX (_ ++ (_ ++ ([b] : List β).filter (p a)).map (g a))).map SX.S))
        rw [List.filter_cons_of_neg hp, List.filter_nil, List.append_nil]
    · have e : t = (ys a).length := by omega
      subst e
      rw [List.take_length] at p3
      exact .inl ⟨w1.stops Ht hG1, p1, by rw [p3, htk]⟩
  · have e : i = xs.length := by omega
    subst e
    rw [List.take_length] at hL
    exact .inl ⟨wk.stops Hi hG, k D Hi (fresh_back e1 hD) (e1.trans hE) hL⟩
/-- sorted(..) of a new set of texts -/
theorem el_sortX {ts : TE} {l : List Tx} (h : ∀ Q : VK, (∀ d H2, H d = none → Ex H H2 → H2 d = some (SetXO P w d ((setX l).map SX.S)) → Q (.ref d) H2) → ts σ H Q) (Q : VK) (k : ∀ q H2, H q = none → Ex H H2 → H2 q = some (.lst ((setS l).map T)) → Q (.ref q) H2) : tCB (rSortX K P w) (tCons ts tNil) σ H Q :=
  h _ fun d H2 hd e2 h2 => .inr ⟨d, _, rfl, h2, fun zs q pz hq => k q _ (fresh_back e2 hq) (e2.trans (Ex.new hq)) (by rw [upd_same, sortT_of_perm pz]; rfl)⟩
end
end Ws
set_option Elab.async false
set_option linter.all false
set_option maxRecDepth 100000
set_option maxHeartbeats 2000000
/-! zip(a, t) of a text and a tuple -/
namespace Ws
open PySem PySem.Spec PyProof.Rows L2 Evl Wc Wt Wg Wd
def ItzM (K : PySem.W.Frag) (a : Tx) (b : Addr) : It :=
  ⟨fun i H => i < a.length ∧ ∃ ys, SqT K H b ys ∧ i < ys.length, fun i H v H' => ∃ t c y, v = .ref t ∧ H t = none ∧ H' = upd H t (.tup [T [c], y]) ∧ a[i]? = some c ∧ ∀ ys, SqT K H b ys → ys[i]? = some y,
    fun i H => ∃ ys, SqT K H b ys ∧ i = min a.length ys.length⟩
theorem turn_zipM {P : Program} {w : World} {K : PySem.W.Frag} {elts : List Expr} {kk : Nat} {tpos : Pos} {a : Tx} {b : Addr} {ta : Tok} {z TI TO i1 i2 : Addr} (D : ZipSep2 z TI TO i1 i2 [i1] [i2, b]) (hne : b ≠ i2) :
    Turn P w K (.Tuple elts kk tpos) (ItzM K a b) [z, TI, TO, i1, i2] z (fun i h => IsZip h z TI TO .none ∧ IsTupOf2 h TI (.ref i1) (.ref i2) ∧ (∃ x y, IsTupOf2 h TO x y) ∧ h.IsStrIter i1 (strIterType (SX.S a)) (SX.S a) ta i ∧ h.IsTupleIter i2 b i) where
  mem := by simp
  obj := fun i h st c hc => by
    obtain ⟨hz, hTI, ⟨x, y, hTO⟩, ⟨o1, e1, _, d1⟩, ⟨o2, e2, _, d2⟩⟩ := st
    have e' : c = z ∨ c = TI ∨ c = TO ∨ c = i1 ∨ c = i2 := by simpa using hc
    rcases e' with q | q | q | q | q
    · rw [q]; exact ⟨_, hz, fun v q => nomatch q⟩
    · rw [q]; exact ⟨_, hTI, fun v q => nomatch q⟩
    · rw [q]; exact ⟨_, hTO, fun v q => nomatch q⟩
    · rw [q]; exact ⟨o1, e1, fun v q => by rw [d1] at q; cases q⟩
    · rw [q]; exact ⟨o2, e2, fun v q => by rw [d2] at q; cases q⟩
  keep := fun i h h' st k => by
    obtain ⟨hz, hTI, ⟨x, y, hTO⟩, ⟨o1, e1, f1⟩, h2⟩ := st
    exact ⟨k z (by simp) _ hz, k TI (by simp) _ hTI, ⟨x, y, k TO (by simp) _ hTO⟩, ⟨o1, k i1 (by simp) _ e1, f1⟩, h2.at fun o q => k i2 (by simp) o q⟩
  item := by
    intro X hP hw hK hc i pins s σ H E I hf st hg
    subst hP hw hK
    obtain ⟨hz, hTI, ⟨x0, y0, hTO⟩, h1, h2⟩ := st
    obtain ⟨hlt, ys, hqy, hly⟩ := hg
    obtain ⟨its, rv, p, _⟩ := I.tuple hqy
    have D1 := Draws.text (prog := X.prog) (w := X.w) (A := X.A.in1) (I.ok.hd hc) i1 (SX.S a) ta
    have D2 := Draws.tuple (prog := X.prog) (w := X.w) (A := X.A.in1) (I.ok.hd hc) i2 b hne its.toArray
    have s1 : (SX.S a).cps.size = a.length := by simp [SX.S]
    have s2 : its.toArray.size = ys.length := by simp [rv.length]
    have hzl : z < s.heap.objs.size := Heap.lt_size hz
    refine wpAny_pyNext_zipD2_item D D1 D2 hz hTI hTO h1 ⟨h2, p⟩ (by omega) (by omega) fun u u2 h' tk p1 p2 z' TO' h1' h2' hT hsz hk => ?_
    obtain ⟨c, hcx, ru⟩ := sgn p1
    obtain ⟨y, hy, ru2⟩ : ∃ y, ys[i]? = some y ∧ RelV y u2 := by
      obtain ⟨v, hv, rr⟩ := rv.get (List.getElem?_eq_getElem hly)
      have e : its.toArray[i]? = some v := by simpa using hv
      rw [p2] at e
      cases e
      exact ⟨_, List.getElem?_eq_getElem hly, rr⟩
    refine ⟨_, rfl, wpAny_letOwnedTupleGo_zip (s := { s with heap := h', toks := tk }) z' fun h'' z'' sb => ?_⟩
    have hT2 : h''.get? s.heap.objs.size = some { cls := .type "tuple", data := .seq #[u, u2] } := (sb.2 _ (Nat.ne_of_gt hzl)).trans hT
    have new : ObjOk X.prog X.w (upd H s.heap.objs.size (.tup [T [c], y])) h'' s.heap.objs.size (.tup [T [c], y]) :=
      ⟨by show 2 ≤ sizeLine; decide, [u, u2], .cons ru (.cons ru2 .nil), ⟨_, hT2, rfl, _, rfl⟩⟩
    have I1 : Inv X pins σ (upd H s.heap.objs.size (.tup [T [c], y])) { s with heap := h'', toks := tk } :=
      I.turnedNew (ch := [z, TI, TO, i1, i2]) (fun c o hb q => (sb.2 c (fun q' => hb (by simp [q']))).trans (hk c o (fun q' => hb (by simp [q'])) (fun q' => hb (by simp [q'])) (fun q' => hb (by simp [q'])) (fun q' => hb (by simp [q'])) q)) hf (Nat.le_refl _) new
    refine ⟨.ref s.heap.objs.size, _, I1, rfl, ⟨_, c, y, rfl, I.hok.fresh (Nat.le_refl _), rfl, hcx, fun l hl => by rw [I.tuple_inj hl hqy]; exact hy⟩, ⟨z'', ?_, ⟨u, u2, ?_⟩, ?_, ?_⟩, fun c hcm => ?_⟩
    · exact (sb.2 _ D.TIz).trans (hk _ _ D.TIz D.TITO D.TIi1 D.TIi2 hTI)
    · exact (sb.2 _ D.TOz).trans TO'
    · obtain ⟨o1, e1, f1⟩ := h1'
      exact ⟨o1, (sb.2 _ (Ne.symm D.zi1)).trans e1, f1⟩
    · exact h2'.1.at fun o q => (sb.2 _ (Ne.symm D.zi2)).trans q
    · have hlt : c < s.heap.objs.size := by
        have e' : c = z ∨ c = TI ∨ c = TO ∨ c = i1 ∨ c = i2 := by simpa using hcm
        rcases e' with q | q | q | q | q
        · rw [q]; exact hzl
        · rw [q]; exact Heap.lt_size hTI
        · rw [q]; exact Heap.lt_size hTO
        · rw [q]; obtain ⟨_, e1, _⟩ := h1; exact Heap.lt_size e1
        · rw [q]; obtain ⟨_, e2, _⟩ := h2; exact Heap.lt_size e2
      rw [upd_ne (Nat.ne_of_lt hlt)]
      exact (hf c hcm).1
  done := by
    intro X hP hw hK hc i pins s σ H E I hf st hg
    subst hP hw hK
    obtain ⟨hz, hTI, ⟨x0, y0, hTO⟩, h1, h2⟩ := st
    obtain ⟨ys, hqy, hend⟩ := hg
    obtain ⟨its, rv, p, _⟩ := I.tuple hqy
    have D1 := Draws.text (prog := X.prog) (w := X.w) (A := X.A.in1) (I.ok.hd hc) i1 (SX.S a) ta
    have D2 := Draws.tuple (prog := X.prog) (w := X.w) (A := X.A.in1) (I.ok.hd hc) i2 b hne its.toArray
    have s1 : (SX.S a).cps.size = a.length := by simp [SX.S]
    have s2 : its.toArray.size = ys.length := by simp [rv.length]
    exact wpAny_pyNext_zipD2_end D D1 D2 hz hTI hTO h1 ⟨h2, p⟩ (by omega) (by omega) (by omega) fun h' tk hk => ⟨rfl, I.turnedL (t' := tk) (ch := [z, TI, TO, i1, i2]) (fun c o hb q =>
      hk c o (fun q' => hb (by simp [q'])) (fun q' => hb (by simp [q'])) (fun q' => hb (by simp [q'])) (fun q' => hb (by simp [q'])) q) hf⟩
  self := fun A i s Q E st h => wpAny_pyIter_zip st.1 h
def iZipM (K : PySem.W.Frag) (ta : TA) : TI := fun σ H R => ta σ H fun vs H1 => ∃ (a : Tx) (b : Addr) (ys : List V), vs = [T a, .ref b] ∧ SqT K H1 b ys ∧ R (ItzM K a b) H1
theorem pi_zipM {X : Cx} {e e2 : Expr} {ta : TA} {p pos tpos : Pos} {elts : List Expr} {kk : Nat} (hg : Gl X "zip") (hm : X.mg "zip" = none) (ha : PA X [e, e2] ta)
    (hs : starEach [e, e2] X.env = (false, eval e X.env) :: starEach [e2] X.env := by rfl) (hpl : (backTo pos (starEach [e2] X.env)).any (·.1) = false := by rfl) :
    PI X (.Tuple elts kk tpos) (.Call (.Name "zip" p) [e, e2] [] pos) (iZipM X.K ta) := by
  refine ⟨fun pins s σ H R I h => ?_⟩
  refine Call_ (ld_blt I hg hm PyProof.Rows.boot_zip (PyProof.Rows.callWith_type1 (thn (ha.run pos pins s σ H _ I h) fun us s1 ⟨vs, H1, I1, r1, q1⟩ => ?_) hs hpl))
  obtain ⟨a, b, ys, ex, hqy, q⟩ := q1
  subst ex
  cases r1 with
  | cons r rr =>
    cases rr with
    | cons r' rr =>
      cases rr
      obtain ⟨ta, rfl⟩ := r
      cases r'
      obtain ⟨its, rv, p, _⟩ := I1.tuple hqy
      obtain ⟨o2, ho2, _⟩ := id p
      have hlt := Heap.lt_size ho2
      have fresh5 : ∀ c, c ∈ [s1.heap.objs.size + 4, s1.heap.objs.size + 2, s1.heap.objs.size + 3, s1.heap.objs.size, s1.heap.objs.size + 1] → FpOk X pins H1 c := fun c hcm => by
        have e' : c = s1.heap.objs.size + 4 ∨ c = s1.heap.objs.size + 2 ∨ c = s1.heap.objs.size + 3 ∨ c = s1.heap.objs.size ∨ c = s1.heap.objs.size + 1 := by simpa using hcm
        have hle : s1.heap.objs.size ≤ c := by omega
        exact I1.fpOk hle (I1.hok.fresh hle)
      refine zip_begins2 (begins_text (SX.S a) ta) (begins_tuple b its.toArray) trivial p fun h' hz hTI hTO h1 h2 hsz hk => wpAny_pyIter_zip hz ?_
      have I2 : Inv X pins σ H1 { s1 with heap := h' } := I1.kept (t' := s1.toks) hk
      exact ⟨s1.heap.objs.size + 4, [s1.heap.objs.size + 4, s1.heap.objs.size + 2, s1.heap.objs.size + 3, s1.heap.objs.size, s1.heap.objs.size + 1], _, _, H1, rfl, I2, turn_zipM (ta := ta) (zip_sep2 (fun b hb => by cases hb) (fun c hb => by rw [List.mem_singleton.mp hb]; exact hlt)) (Nat.ne_of_lt (Nat.lt_succ_of_lt hlt)), ⟨hz, hTI, ⟨_, _, hTO⟩, ⟨_, h1, rfl, rfl⟩, ⟨_, h2, rfl, rfl⟩⟩, fresh5, q⟩
section
variable {K : PySem.W.Frag} {σ : L2.St} {H : Hp}
theorem kizm {X : Cx} {tg iter : Expr} {ta : TA} (h : PI X tg iter (iZipM X.K ta)) (hK : X.K = K := by rfl) : PI X tg iter (iZipM K ta) := hK ▸ h
theorem src_zipM {a : Tx} {b : Addr} {ys : List V} {tl tr : TE} (h : Ev tl σ H (T a)) (h2 : Ev tr σ H (.ref b)) (hq : SqT K H b ys) : Src (iZipM K (tCons tl (tCons tr tNil))) σ H (min a.length ys.length) (fun c => c = b) (fun i v Hb => ∃ p c y, v = .ref p ∧ a[i]? = some c ∧ ys[i]? = some y ∧ Hb p = some (.tup [T [c], y])) := fun H1 e R q =>
  h H1 e _ fun H2 e2 => h2 H2 (e.trans e2) _ fun H3 e3 => by
    have e13 := e.trans (e2.trans e3)
    refine ⟨a, b, ys, rfl, ex_t e13 hq, q _ H3 (fun Ha => SqT K Ha b ys) (e2.trans e3) ⟨fun i Ha hi hs => ⟨by omega, ys, hs, by omega⟩, fun Ha hs => ⟨ys, hs, rfl⟩, fun i Ha v Hb hi hs y => ?_⟩ fun B Ha hB ea => ?_⟩
    · obtain ⟨t, c, y, rfl, hn, rfl, h1, h2⟩ := y
      exact ⟨Ex.new hn, t, c, y, rfl, h1, h2 ys hs, upd_same⟩
    · exact ea.tp (fun z => (hB b z).2 rfl) (ex_t e13 hq)
end
end Ws
set_option Elab.async false
set_option linter.all false
set_option maxRecDepth 100000
set_option maxHeartbeats 4000000
/-! dicts as sets of texts; set(tuple of texts), len of a set of texts -/
namespace Ws
open PySem PySem.Spec PyProof.Rows L2 Evl Wc Wt Wg Wd
/-- a text as a key -/
abbrev kx (t : Tx) : Key := Sum.inr (SX.S t)
def DX (ks : List Tx) : List (Key × V) := ks.map fun t => (kx t, V.bl true)
def addT (ks : List Tx) (t : Tx) : List Tx := if t ∈ ks then ks else ks ++ [t]
theorem mem_addT {ks : List Tx} {n m : Tx} : m ∈ addT ks n ↔ m ∈ ks ∨ m = n := by
  unfold addT
  split
  · rename_i h
    exact ⟨.inl, fun z => z.elim id fun e => e ▸ h⟩
  · rw [List.mem_append, List.mem_singleton]
theorem addT_nodup {ks : List Tx} {n : Tx} (h : ks.Nodup) : (addT ks n).Nodup := by
  unfold addT
  split
  · exact h
  · rename_i hn
    refine List.nodup_append.mpr ⟨h, List.pairwise_singleton _ _, fun a ha b hb => ?_⟩
    rw [List.mem_singleton.mp hb]
    exact fun z => hn (z ▸ ha)
theorem addT_len (ks : List Tx) (n : Tx) : (addT ks n).length ≤ ks.length + 1 := by
  unfold addT
  split
  · omega
  · simp
theorem kx_inj {a b : Tx} (h : kx a = kx b) : a = b := S_inj (Sum.inr.inj h)
theorem val_DX (ks : List Tx) (n : Tx) : valV (DX ks) (kx n) = if n ∈ ks then some (.bl true) else none := by
  induction ks with
  | nil => rfl
  | cons m ks ih =>
    by_cases h : m = n
    · subst h
      show valV ((kx m, V.bl true) :: DX ks) _ = _
      rw [valV_pos rfl, if_pos List.mem_cons_self]
    · show valV ((kx m, V.bl true) :: DX ks) _ = _
      rw [valV_neg (fun z => h (kx_inj z)), ih]
      by_cases h2 : n ∈ ks
      · rw [if_pos h2, if_pos (List.mem_cons_of_mem _ h2)]
      · rw [if_neg h2, if_neg fun z => (List.mem_cons.mp z).elim (fun e => h e.symm) h2]
theorem put_DX (ks : List Tx) (n : Tx) : putK (DX ks) (kx n) (.bl true) = DX (addT ks n) := by
  have ha := valV_any (kx n) (DX ks)
  rw [val_DX] at ha
  unfold putK addT
  by_cases h : n ∈ ks
  · rw [if_pos h] at ha
    rw [if_pos (show ((DX ks).any fun kv => decide (kv.1 = kx n)) = true from ha), if_pos h]
    unfold DX
    rw [List.map_map]
    refine List.map_congr_left fun m _ => ?_
    show (if kx m = kx n then _ else _) = _
    split <;> rfl
  · rw [if_neg h] at ha
    rw [if_neg (show ¬ ((DX ks).any fun kv => decide (kv.1 = kx n)) = true from fun z => Bool.false_ne_true (ha.symm.trans z)), if_neg h]
    unfold DX
    rw [List.map_append]
    rfl
theorem DX_len (ks : List Tx) : (DX ks).length = ks.length := by unfold DX; rw [List.length_map]
def addAllT (ks ns : List Tx) : List Tx := ns.foldl addT ks
theorem mem_addAllT {m : Tx} : ∀ {ns ks : List Tx}, m ∈ addAllT ks ns ↔ m ∈ ks ∨ m ∈ ns
  | [], ks => ⟨.inl, fun z => z.elim id fun h => nomatch h⟩
  | n :: ns, ks => by
    show m ∈ addAllT (addT ks n) ns ↔ _
    rw [mem_addAllT, mem_addT, List.mem_cons, or_assoc]
theorem addAllT_nodup : ∀ {ns ks : List Tx}, ks.Nodup → (addAllT ks ns).Nodup
  | [], _, h => h
  | n :: ns, ks, h => addAllT_nodup (ns := ns) (addT_nodup h)
theorem addAllT_len : ∀ (ns ks : List Tx), (addAllT ks ns).length ≤ ks.length + ns.length
  | [], _ => Nat.le_refl _
  | n :: ns, ks => by
    have h1 := addAllT_len ns (addT ks n)
    have h2 := addT_len ks n
    show (addAllT (addT ks n) ns).length ≤ _
    rw [List.length_cons]
    omega
theorem addAllT_succ {ns : List Tx} {i : Nat} {n : Tx} (h : ns[i]? = some n) : addAllT [] (ns.take (i + 1)) = addT (addAllT [] (ns.take i)) n := by
  rw [List.take_add_one, h]
  unfold addAllT
  rw [List.foldl_append]
  rfl
theorem addAllT_id : ∀ {ns ks : List Tx}, (ks ++ ns).Nodup → addAllT ks ns = ks ++ ns
  | [], ks, _ => (List.append_nil ks).symm
  | n :: ns, ks, h => by
    have hn : n ∉ ks := fun z => (List.nodup_append.mp h).2.2 n z n List.mem_cons_self rfl
    show addAllT (addT ks n) ns = _
    have e : addT ks n = ks ++ [n] := by unfold addT; rw [if_neg hn]
    rw [e, addAllT_id (by rw [List.append_assoc]; exact h), List.append_assoc]
    rfl
section
variable {K : PySem.W.Frag} {w : World} {P : Program} {σ : L2.St} {H : Hp} {ta td ty tv te : TE} {D : Ends} {Q : VK}
/-- d[t] = True -/
theorem s_putX {d : Addr} {ks : List Tx} {n : Tx} (hd : Ev td σ H (.ref d)) (hn : Ev ty σ H (T n)) (h : H d = some (.dK (DX ks))) (hl : ks.length ≤ 10000) (k : ∀ H1, Ex H H1 → D.nx σ (upd H1 d (.dK (DX (addT ks n))))) : sDPut td ty (tC (.bl true)) D σ H :=
  hd H (Ex.refl H) _ fun H2 e2 => hn H2 e2 _ fun H3 e3 => ⟨d, _, rfl, DPut.k (k := kx n) ((e2.trans e3) _ _ h) (by rw [DX_len]; unfold sizeLine; omega), by rw [put_DX]; exact k H3 (e2.trans e3)⟩
theorem q_putX {tz : TS} {d : Addr} {ks : List Tx} {n : Tx} (hd : Ev td σ H (.ref d)) (hn : Ev ty σ H (T n)) (h : H d = some (.dK (DX ks))) (hl : ks.length ≤ 10000) (k : ∀ H1, Ex H H1 → tz D σ (upd H1 d (.dK (DX (addT ks n))))) : tSeq (sDPut td ty (tC (.bl true))) tz D σ H := s_putX (D := { D with nx := tz D }) hd hn h hl k
theorem ev_inX {d : Addr} {ks : List Tx} {n : Tx} (hn : Ev ty σ H (T n)) (hd : Ev td σ H (.ref d)) (h : H d = some (.dK (DX ks))) : Ev (tDIn ty td) σ H (.bl (decide (n ∈ ks))) := fun H1 e Q q =>
  hn H1 e _ fun H2 e2 => hd H2 (e.trans e2) _ fun H3 e3 => ⟨d, _, rfl, DGet.k (k := kx n) (((e.trans e2).trans e3) _ _ h), by rw [val_DX, some_if]; exact q H3 (e2.trans e3)⟩
theorem ev_notinX {d : Addr} {ks : List Tx} {n : Tx} (hn : Ev ty σ H (T n)) (hd : Ev td σ H (.ref d)) (h : H d = some (.dK (DX ks))) : Ev (tDNotIn ty td) σ H (.bl (!decide (n ∈ ks))) := fun H1 e Q q =>
  hn H1 e _ fun H2 e2 => hd H2 (e.trans e2) _ fun H3 e3 => ⟨d, _, rfl, DGet.k (k := kx n) (((e.trans e2).trans e3) _ _ h), by rw [val_DX, some_if]; exact q H3 (e2.trans e3)⟩
/-- list(d) -/
theorem el_listX {d : Addr} {ks : List Tx} (hd : Ev td σ H (.ref d)) (h : H d = some (.dK (DX ks))) : EvL (tCB rListD (tCons td tNil)) σ H (ks.map T) := fun H1 e Q q =>
  hd H1 e _ fun H2 e2 => ⟨d, DX ks, rfl, (e.trans e2) _ _ h, fun r hr => q r _ (fresh_back e2 hr) (e2.trans (Ex.new hr)) (by
    rw [upd_same]
    unfold DX
    rw [List.map_map]
    rfl)⟩
/-- {t: True for t in ns} -/
theorem dc_texts {wi : TI} {j : Nat} {vs : List Nat} {own : Addr → Prop} (ns : List Tx) (hs : Src wi σ H ns.length own (fun i v _ => (ns.map T)[i]? = some v)) (hn : ns.length ≤ 4000) (hw : ∀ x, wipe ((wipe σ vs).set j (some x)) vs = wipe σ vs) (hj : ∀ x, ((wipe σ vs).set j (some x))[j]? = some (some x))
    (k : ∀ d H2, H d = none → Ex H H2 → H2 d = some (.dK (DX (addAllT [] ns))) → Q (.ref d) H2) : tDc wi (gName j) tYes (tVar j) (tC (.bl true)) vs σ H Q :=
  hs H (Ex.refl H) _ fun J H1 S e1 wk hS => fun Dl hD => by
    refine dc_it wk (Qd := fun H3 => Q (.ref Dl) H3) (fun i Hi => Ex H1 Hi ∧ Hi Dl = some (.dK (DX (addAllT [] (ns.take i))))) ?_ (fun i Hi hi p => hS (fun _ => False) Hi (fun b z => z.elim) (.of p.1)) ?_ ?_
    · exact ⟨Ex.new hD, upd_same⟩
    · rintro i x Ha Hb hi ⟨R, h1⟩ ⟨ey, hP⟩
      obtain ⟨n, hn1, rfl⟩ := at_map hP
      refine ⟨hw _, ?_⟩
      unfold tYes
      dsimp only
      rw [if_pos rfl]
      refine ⟨T n, hj _, ?_⟩
      have hl := addAllT_len (ns.take i) []
      refine ⟨DX (addAllT [] (ns.take i)), kx n, rfl, ey _ _ h1, ?_, Ex.mut (R.trans ey) hD, ?_⟩
      · rw [DX_len]
        rw [List.length_take] at hl
        have : ([] : List Tx).length = 0 := rfl
        unfold sizeLine
        omega
      · show (upd Hb Dl (.dK (putK (DX (addAllT [] (ns.take i))) (kx n) (.bl true)))) Dl = _
        rw [upd_same, put_DX, addAllT_succ hn1]
    · rintro H3 ⟨R, h1⟩
      rw [List.take_length] at h1
      exact k Dl H3 (fresh_back e1 hD) (e1.trans R) h1
theorem merge_DX : ∀ (xs : List Tx) (ks : List Tx), mergeK (DX ks) (xs.map fun x => (kx x, V.bl true)) = DX (addAllT ks xs)
  | [], ks => rfl
  | x :: xs, ks => by
    show mergeK (putK (DX ks) (kx x) (.bl true)) (xs.map fun x => (kx x, V.bl true)) = DX (addAllT (addT ks x) xs)
    rw [put_DX, merge_DX xs]
end
/-! ### set(tuple of texts), its len -/
section
variable {P : Program} {w : World} {A : Around} {E : Value → Shared → Prop} {s : Shared}
set_option maxHeartbeats 3200000 in
theorem call_setT {src : Addr} {its : Array Value} {xs : List Str} {Q : Value → Shared → Prop} (noH : A.handled = none) (isl : s.heap.IsTuple src its) (hit : StrsAre its.toList xs) (room : xs.length + 1 < scanBound)
    (fin : ∀ (h2 : Heap) (tk : Nat) (l : List Str), Met xs xs.length l → SetX P w h2 s.heap.objs.size l → (∀ b o, s.heap.get? b = some o → h2.get? b = some o) → Q (.ref s.heap.objs.size) { s with heap := h2, toks := tk }) :
    wpAny (model P w) A (call (.type "set") [.ref src]) Q E s := by
  have lx : xs.length = its.size := by rw [← Array.length_toList, hit.len_eq]
  obtain ⟨c, tl, q0⟩ := PySem.F.called_set.mro
  have q1 := PySem.F.called_set.made; have q2 := PySem.F.called_set.sub
  refine wpAny_call (codeAny_of_tree (wpAny_pure ⟨Code.quiet_builtin _ (by decide +kernel), codeAny_builtin PySem.F.entry_type_call ?_⟩))
  rw [Around.under_plain (weight_type_call_type "set" [.ref src] []) rfl]
  have q3 := PySem.F.called_set.notType; have q4 := PySem.F.called_set.canCreate
  have q5 := PySem.F.typeCall_set_1 (.ref src)
  repeat (any_goals (first | assumption | wp_step))
  refine codeAny_mono (code_set_led1 (.ref src) (E := E) (Q₁ := fun ob t1 => ob = .ref s.heap.objs.size ∧ t1 = { s with heap := s.heap.push (so w) }) ⟨rfl, rfl⟩) fun r t1 hr => ?_
  match r, hr with
  | .error e, hr => exact hr
  | .ok (.ret ob), hr =>
    obtain ⟨rfl, rfl⟩ := hr
    have atS : (s.heap.push (so w)).get? s.heap.objs.size = some (so w) := Heap.get?_push_size _ rfl
    have tyS : Shared.TypeIs { s with heap := s.heap.push (so w) } (.ref s.heap.objs.size) "set" := ⟨_, atS, rfl⟩
    have q6 := PySem.F.called_set.init.lookup
    have q7 := PySem.F.called_set.init.bind (.ref s.heap.objs.size)
    repeat (any_goals (first | assumption | wp_step))
    refine codeAny_mono (codeAny_call_builtin (R := wants (fun r t2 => r = .none ∧ ∃ h2 tk l, t2 = { s with heap := h2, toks := tk } ∧ Met xs xs.length l ∧ SetX P w h2 s.heap.objs.size l ∧ ∀ b o, s.heap.get? b = some o → h2.get? b = some o) E) PySem.F.called_set.init.plain PySem.F.entry_set_init (check_set_init_1 tyS ?_)) fun r2 t2 hr2 => ?_
    · obtain ⟨ol, atl, cl, nl, dl⟩ := isl
      obtain ⟨ocls, odict, odata, oslots⟩ := ol
      simp only at cl dl
      subst cl; subst dl
      have lt := Heap.lt_size atl
      have isl2 : (s.heap.push (so w)).IsTuple src its := ⟨_, Heap.get?_push_of_some _ atl, rfl, nl, rfl⟩
      have q8 := PySem.F.sub_tuple_set; have q9 := PySem.F.sub_tuple_frozenset
      have q10 : (Value.type "tuple" == Value.type "dict") = false := by decide
      have atl2 : (s.heap.push (so w)).get? src = some { cls := .type "tuple", dict := odict, data := .seq its nl, slots := oslots } := Heap.get?_push_of_some _ atl
      unfold Builtin.«set.__init__» noKeywords Builtin.Frozenset.updateFrom
      generalize hI : pyIter = iter
      wp_walk
      subst hI
      refine wpAny_pyIter_tuple isl2 (wpAny_bind (wpAny_runValue ?_))
      have no3 : A.in1.in1.in1.handled = none := by simp [noH]
      have zI : (s.heap.push (so w)).objs.size = s.heap.objs.size + 1 := Heap.size_push ..
      have ne1 : src ≠ (s.heap.push (so w)).objs.size := by rw [zI]; exact Nat.ne_of_lt (Nat.lt_succ_of_lt lt)
      have out1 : s.heap.objs.size ∉ [(s.heap.push (so w)).objs.size, src] := by
        rw [zI]
        intro z
        rcases List.mem_cons.mp z with z | z
        · exact absurd z (Nat.ne_of_lt (Nat.lt_succ_self _))
        · exact absurd (List.mem_singleton.mp z) (Nat.ne_of_gt lt)
      refine fill_texts (P := P) (xs := xs) ((Walks.tuple no3 _ src ne1 its).toS) out1 lx (by rw [← lx]; exact room) (fun i v hv => ?_) its.size 0 _ [] (by omega) ⟨⟨_, Heap.get?_push_size _ rfl, rfl, rfl⟩, isl2.push _⟩ ⟨List.nodup_nil, fun x => by simp, Nat.le_refl _⟩ (SetX.new (Heap.get?_push_of_some _ atS)) fun s2 l2 mv m2 X2 => ?_
      · obtain ⟨y, u, h1, h2⟩ := hit.item i v (by rw [Array.getElem?_toList]; exact hv)
        exact ⟨y, u, h2, h1⟩
      · obtain ⟨h2, g2, d2, tk2, os2⟩ := s2
        obtain rfl : g2 = s.gens := mv.gens
        obtain rfl : d2 = s.drawn := mv.drawn
        obtain rfl : os2 = s.os := mv.os
        rw [← lx] at m2
        show wpAny _ _ (Bind.bind (pure _) _) _ _ _
        refine wpAny_pure (wpAny_pure ⟨rfl, h2, tk2, l2, rfl, m2, X2, fun b o e => ?_⟩)
        have hb := Heap.lt_size e
        refine mv.heap b o (fun z => ?_) (Heap.get?_push_of_some _ (Heap.get?_push_of_some _ e))
        rw [zI] at z
        rcases List.mem_cons.mp z with z | z
        · exact absurd z (Nat.ne_of_lt hb)
        · exact absurd (List.mem_singleton.mp z) (Nat.ne_of_lt (Nat.lt_succ_of_lt hb))
    · match r2, hr2 with
      | .error e, hr2 => exact hr2
      | .ok (.ret v2), hr2 =>
        obtain ⟨rfl, h2, tk, l, rfl, m, X, k⟩ := hr2
        repeat (any_goals (first | assumption | wp_step))
        exact fin _ _ _ m X k
end
section
variable {X : Cx}
def rSetTup (K : PySem.W.Frag) (P : Program) (w : World) : List V → Hp → VK → Prop := fun vs H Q => ∃ (p : Addr) (xs : List Tx), vs = [.ref p] ∧ SqT K H p (xs.map T) ∧ xs.length ≤ 4000 ∧ ∀ q ys, Uniq xs ys → ys.length ≤ xs.length → H q = none → Q (.ref q) (upd H q (SetXO P w q (ys.map SX.S)))
theorem cr_setTup (hc : X.calm = true) : CallR X (.type "set") (rSetTup X.K X.prog X.w) := by
  intro pins s σ H vs us Q I r h
  obtain ⟨p, xs, rfl, hp, hl, q⟩ := h
  rw [Vals.ref1 r]
  obtain ⟨its, rv, pl, hz⟩ := I.tuple hp
  refine call_setT (P := X.prog) (xs := xs.map SX.S) (I.ok.hd hc) pl (by simpa using strs_of_each (each_of_vals rv)) (by rw [List.length_map]; unfold scanBound; omega) fun h2 tk l m R k => ?_
  obtain ⟨ys, rfl, u, hly⟩ := uniq_of m
  have hn : H s.heap.objs.size = none := I.hok.fresh (Nat.le_refl _)
  exact ⟨.ref _, upd H s.heap.objs.size (SetXO X.prog X.w s.heap.objs.size (ys.map SX.S)), I.laid (t' := tk) k (Nat.le_refl _) (setXO_new R), rfl, q _ ys u hly hn⟩
theorem ksetTup {K : PySem.W.Frag} {P : Program} {w : World} (hc : X.calm = true := by rfl) (hK : X.K = K := by rfl) (hP : X.prog = P := by rfl) (hw : X.w = w := by rfl) : CallR X (.type "set") (rSetTup K P w) := by
  subst hK hP hw
  exact cr_setTup hc
def rLenX (P : Program) (w : World) : List V → Hp → VK → Prop := fun vs H Q => ∃ (p : Addr) (l : List Tx), vs = [.ref p] ∧ H p = some (SetXO P w p (l.map SX.S)) ∧ l.length ≤ 4000 ∧ Q (.int (l.length : Int)) H
theorem cr_lenX : CallR X (.builtin "len") (rLenX X.prog X.w) := by
  intro pins s σ H vs us Q I r h
  obtain ⟨p, l, rfl, hp, hl, q⟩ := h
  rw [Vals.ref1 r]
  obtain ⟨o, es, ep, t, ho, hex, hd, py⟩ := (I.hok p _ hp).1
  have hn := py.size
  rw [List.length_map] at hn
  exact call_len_set ho hex hd py.fit (by omega) ⟨.int (l.length : Int), H, I.tok _, ⟨_, by rw [hn]⟩, q⟩
theorem kLenX {P : Program} {w : World} (hP : X.prog = P := by rfl) (hw : X.w = w := by rfl) : CallR X (.builtin "len") (rLenX P w) := by
  subst hP hw
  exact cr_lenX
end
section
variable {K : PySem.W.Frag} {w : World} {P : Program} {σ : L2.St} {H : Hp} {ta : TE}
theorem uniq_len {xs ys : List Tx} (u : Uniq xs ys) : ys.length = (setX xs).length := len_nodup' u.nd (setX_nodup xs) fun x => (u.mem x).trans mem_setX.symm
where len_nodup' {l l' : List Tx} (h1 : l.Nodup) (h2 : l'.Nodup) (h : ∀ a, a ∈ l ↔ a ∈ l') : l.length = l'.length := ((List.perm_ext_iff_of_nodup h1 h2).mpr h).length_eq
/-- len(set(tuple of texts)) -/
theorem ev_lenSetT {p : Addr} {xs : List Tx} (h : Ev ta σ H (.ref p)) (hp : SqT K H p (xs.map T)) (hl : xs.length ≤ 4000) : Ev (tCB (rLenX P w) (tCons (tCB (rSetTup K P w) (tCons ta tNil)) tNil)) σ H (.int ((setX xs).length : Int)) := fun H1 e Q q =>
  h H1 e _ fun H2 e2 => ⟨p, xs, rfl, ex_t (e.trans e2) hp, hl, fun r ys u hle hr => ⟨r, ys, rfl, upd_same, by omega, by rw [uniq_len u]; exact q _ (e2.trans (Ex.new hr))⟩⟩
end
end Ws
set_option Elab.async false
set_option linter.all false
set_option maxRecDepth 100000
set_option maxHeartbeats 4000000
/-! sorted(tuple of texts); the place of a sign in "abcd" -/
namespace Ws
open PySem PySem.Spec PyProof.Rows L2 Evl Wc Wt Wg Wd
section
variable {P : Program} {w : World} {A : Around} {E : Value → Shared → Prop} {s : Shared}
/-- the items of a tuple; the heap only grows -/
theorem collectTup {it : Addr} {items : Array Value} {Q : List Value → Shared → Prop} (hl : s.heap.IsTuple it items) (hsz : items.size ≤ sizeLine)
    (hQ : ∀ h', (∀ b o', s.heap.get? b = some o' → h'.get? b = some o') → s.heap.objs.size ≤ h'.objs.size → Q items.toList { s with heap := h' }) : wpAny (model P w) A (collect (.ref it)) Q E s := by
  obtain ⟨o, ho, hc, n, hd⟩ := hl
  have atL : (s.heap.push { cls := .type "list", data := .seq ([] : List Value).toArray }).get? s.heap.objs.size = some { cls := .type "list", data := .seq #[] 0 } := Heap.get?_push_size _ rfl
  have at2 := Heap.get?_update_self (Obj.mapSeq (· ++ items)) atL rfl
  have big : s.heap.objs.size ≤ ((s.heap.push { cls := .type "list", data := .seq ([] : List Value).toArray }).update s.heap.objs.size (Obj.mapSeq (· ++ items))).objs.size := by
    rw [Heap.size_update, Heap.size_push]
    exact Nat.le_succ _
  unfold collect
  refine wpAny_bind (wpAny_runValue (codeAny_builtin F.entry_proto_collect ?_))
  rw [Around.under_plainId F.plain_proto_collect _]
  show wpAny _ A.in1 (newList [] >>= fun l => again (.builtin "list.__iadd__" ⟨[l, .ref it], []⟩)) _ _ s
  refine wpAny_bind (wpAny_newObj_type (wpAny_pure ⟨plainId_quiet F.plain_list_iadd _, codeAny_builtin F.entry_list_iadd ?_⟩))
  rw [Around.under_plainId F.plain_list_iadd _]
  show wpAny _ A.in1 (Builtin.List.listExtendWith (.ref s.heap.objs.size) (.ref it) (.ref s.heap.objs.size)) _ _ _
  have last : wpAny (model P w) A (match Value.ref s.heap.objs.size with
      | Value.ref a => do
        match (← load a).data with
          | Data.seq xs _ => pure xs.toList
          | _ => unsupported "internal:collect"
      | _ => unsupported "internal:collect") Q E { s with heap := (s.heap.push { cls := .type "list", data := .seq ([] : List Value).toArray }).update s.heap.objs.size (Obj.mapSeq (· ++ items)) } := by
    show wpAny _ A (load s.heap.objs.size >>= _) _ _ _
    refine wpAny_bind (wpAny_load at2 (wpAny_pure ?_))
    show Q ((#[] : Array Value) ++ items).toList _
    rw [show ((#[] : Array Value) ++ items).toList = items.toList from by simp]
    exact hQ _ (fun b o' hb => (Heap.get?_update_other _ _ (Nat.ne_of_gt (Heap.lt_size hb))).trans (Heap.get?_push_of_some _ hb)) big
  refine wpAny_mono (wpAny_extend_seq (hsz := hsz) (A := A) (R := fun r s' => r = .ok (.ret (.ref s.heap.objs.size)) ∧ s' = { s with heap := (s.heap.push { cls := .type "list", data := .seq ([] : List Value).toArray }).update s.heap.objs.size (Obj.mapSeq (· ++ items)) })
    (s := { s with heap := s.heap.push { cls := .type "list", data := .seq ([] : List Value).toArray } }) _ it _ 0 (.inr rfl) atL (Heap.get?_push_of_some _ ho) hc hd ⟨rfl, rfl⟩) (fun fin s' h => ?_) (fun e s' h => absurd h.1 (by simp))
  cases fin with
  | done f =>
    obtain ⟨e, rfl⟩ := h
    cases e
    exact last
  | again c' => exact ⟨h.1, codeAny_mono h.2 fun r s'' hr => by obtain ⟨rfl, rfl⟩ := hr; exact last⟩
end
section
variable {X : Cx}
def rSortTup (K : PySem.W.Frag) : List V → Hp → VK → Prop := fun vs H Q => ∃ (p : Addr) (xs : List Tx), vs = [.ref p] ∧ SqT K H p (xs.map T) ∧ ∀ q, H q = none → Q (.ref q) (upd H q (.lst ((sortT xs).map T)))
theorem cr_sortTup (hu : X.A.units + 64 < cLine) : CallR X (.builtin "sorted") (rSortTup X.K) := by
  intro pins s σ H vs us Q I r h
  obtain ⟨p, xs, rfl, hp, q⟩ := h
  rw [Vals.ref1 r]
  obtain ⟨its, rv, pl, hz⟩ := I.tuple hp
  obtain ⟨o, ho, hc, n, hd⟩ := id pl
  have ez := each_of_vals rv
  rw [List.length_map] at hz
  have li := ez.length
  refine Calls.call_function_entry kind_sorted plain_sorted entry_sorted (args_sorted1 _) ?_
  unfold Builtin.«sorted»
  refine wpAny_bind (m := checkCount "sorted" 1 1 _) (wpAny_pure (wpAny_bind (collectTup (A := X.A.in1) pl (by simp; omega) fun h' k1 sz => ?_)))
  rw [List.toList_toArray]
  have small : its.length ≤ sizeLine := by omega
  refine wpAny_bind (wpAny_newList ?_ small)
  have atL : (h'.push (seqObj "list" its.toArray 0)).get? h'.objs.size = some (seqObj "list" its.toArray 0) := Heap.get?_push_size _ rfl
  refine wpAny_bind (wpAny_holding (PySem.W.list_sort_data (s := { s with heap := h'.push (seqObj "list" its.toArray 0) }) (R := IsT) (enc := fun b : Tx => PyData.str (SX.S b)) atL ez (reads_out ez) (alike_tx xs) (sortable_tx xs) (by omega) (fun b _ => ?_) fun out hlen eo => ?_))
  · show X.A.in1.units + 1 + _ < cLine
    have h1 : X.A.in1.units ≤ X.A.units + 8 := by
      show X.A.units + _ ≤ _
      first | omega | exact Nat.add_le_add_left (by decide) _
    have : (PyData.str (SX.S b)).depth ≤ 1 := by simp [PyData.depth]
    omega
  · rw [enc_le] at eo
    obtain ⟨c, hc2⟩ := sortedHeap_at (vs := its) (out := out.toArray) atL
    have kk : ∀ b u, s.heap.get? b = some u → (sortedHeap (h'.push (seqObj "list" its.toArray 0)) h'.objs.size its out.toArray).get? b = some u := fun b u e => by
      have lt := Heap.lt_size (k1 b u e)
      rw [sortedHeap_old (Nat.ne_of_lt lt) (by rw [size_push']; exact Nat.lt_succ_of_lt lt)]
      exact Heap.get?_push_of_some _ (k1 b u e)
    have hn : H h'.objs.size = none := I.hok.fresh sz
    refine wpAny_pure ⟨_, rfl, .ref h'.objs.size, _, ?_, rfl, q _ hn⟩
    exact I.laid (t' := s.toks) kk sz ⟨by rw [List.length_map, sortT_len]; omega, out, c, vals_of_each eo, hc2⟩
theorem ksortTup {K : PySem.W.Frag} (hu : X.A.units + 64 < cLine) (hK : X.K = K := by rfl) : CallR X (.builtin "sorted") (rSortTup K) := by
  subst hK
  exact cr_sortTup hu
/-- the letters -/
abbrev AB : Tx := [97, 98, 99, 100]
theorem at_AB {c : Nat} (h1 : 97 ≤ c) (h2 : c ≤ 100) : c = 97 ∨ c = 98 ∨ c = 99 ∨ c = 100 := by omega
def rIndexA : V → List V → Hp → VK → Prop := fun x xs H Q => ∃ c : Nat, 97 ≤ c ∧ c ≤ 100 ∧ x = T AB ∧ xs = [T [c]] ∧ Q (.int ((c - 97 : Nat) : Int)) H
theorem mt_indexA : MtR X "str.index" rIndexA := by
  intro pins s σ H x xs v us Q I rx r h
  obtain ⟨c, h1, h2, rfl, rfl, q⟩ := h
  refine mt_sindex pins s σ H _ _ v us Q I rx r ?_
  rcases at_AB h1 h2 with rfl | rfl | rfl | rfl
  · exact ⟨_, _, 0, [], rfl, rfl, by decide +kernel, q⟩
  · exact ⟨_, _, 1, [], rfl, rfl, by decide +kernel, q⟩
  · exact ⟨_, _, 2, [], rfl, rfl, by decide +kernel, q⟩
  · exact ⟨_, _, 3, [], rfl, rfl, by decide +kernel, q⟩
end
section
variable {K : PySem.W.Frag} {σ : L2.St} {H : Hp} {te : TE}
theorem rm_indexA {c : Nat} (h1 : 97 ≤ c) (h2 : c ≤ 100) : RM rIndexA (T AB) [T [c]] H (.int ((c - 97 : Nat) : Int)) := fun H1 e Q q => ⟨c, h1, h2, rfl, rfl, q H1 (Ex.refl _)⟩
theorem el_sortTup {p : Addr} {xs : List Tx} (h : Ev te σ H (.ref p)) (hp : SqT K H p (xs.map T)) : EvL (tCB (rSortTup K) (tCons te tNil)) σ H ((sortT xs).map T) := fun H1 e _ q => h H1 e _ fun H2 e2 => ⟨p, xs, rfl, ex_t (e.trans e2) hp, fun r hr => q r _ (fresh_back e2 hr) (e2.trans (Ex.new hr)) upd_same⟩
end
end Ws
set_option Elab.async false
set_option linter.all false
set_option maxRecDepth 100000
set_option maxHeartbeats 2000000
namespace K21
open PySem PySem.Spec PyProof.Rows L2 Evl Wc Wt Wg Ws _root_.Wd
def areSigns (a : Tx) (most : Int) : Bool := decide ((a.length : Int) ≤ most) && a.all fun c => decide (c ∈ [97, 98, 99, 100])
def sp_are_signs : Sp := fun vs H Q _ => ∃ (a : Tx) (most : Int), vs = [T a, .int most] ∧ a.length ≤ 20000 ∧ RetV (.bl (areSigns a most)) H Q
def sp_is_text : Sp := fun vs H Q _ => ∃ (a : Tx), vs = [T a] ∧ a.length ≤ 20000 ∧ RetV (.bl (areSigns a 400)) H Q
def sp_need_text : Sp := fun vs H Q _ => ∃ (a : Tx), vs = [T a] ∧ a.length ≤ 20000 ∧ areSigns a 400 = true ∧ RetV .non H Q
theorem areSigns_ok {a : Tx} {m : Nat} (h1 : a.length ≤ m) (h2 : ∀ c ∈ a, abcd c) : areSigns a (m : Int) = true := by
  unfold areSigns
  rw [Bool.and_eq_true, decide_eq_true_eq, List.all_eq_true]
  refine ⟨by omega, fun c hc => decide_eq_true ?_⟩
  have := h2 c hc
  unfold abcd at this
  have h4 : c = 97 ∨ c = 98 ∨ c = 99 ∨ c = 100 := by omega
  rcases h4 with rfl | rfl | rfl | rfl <;> decide
/-- what is replaced by texts -/
structure IsRep (rep : List Tx) : Prop where
  ne : rep ≠ []
  few : rep.length ≤ 4
  wd : Wd 12 rep
def RepAt (p : Addr) (rep : List Tx) (H : Hp) : Prop := H p = some (.tup (rep.map T)) ∧ IsRep rep
theorem RepAt.ex {p : Addr} {rep : List Tx} {H H1 : Hp} (h : RepAt p rep H) (e : Ex H H1) : RepAt p rep H1 := ⟨e _ _ h.1, h.2⟩
theorem IsRep.pos {rep : List Tx} (h : IsRep rep) : 0 < rep.length := List.length_pos_iff.mpr h.ne
/-- the first n signs -/
def Own (n : Nat) (t : Tx) : Prop := ∀ c ∈ t, 97 ≤ c ∧ c < 97 + n
theorem Own.abcd {n : Nat} {t : Tx} (hn : n ≤ 4) (h : Own n t) : ∀ c ∈ t, abcd c := fun c hc => by
  have := h c hc
  unfold K21.abcd
  omega
theorem mem_AB {c n : Nat} (hn : n ≤ 4) : c ∈ AB.take n ↔ 97 ≤ c ∧ c < 97 + n := by
  have h : n = 0 ∨ n = 1 ∨ n = 2 ∨ n = 3 ∨ n = 4 := by omega
  rcases h with rfl | rfl | rfl | rfl | rfl <;> simp [AB] <;> omega
section
variable {P : Program} {w : World} {K : PySem.W.Frag} {mg : Str → Option Value} {base : Heap}
theorem ok_are_signs {f : Addr} {fd : FuncData} (F : Fun K "are_signs" "are_signs" st_are_signs f fd) (M : Md K mg) : FnOk P w K mg base CX0 1 f fd ["thing", "most"] sp_are_signs := by
  have nd := sc_are_signs.nd
  refine F.ok sc_are_signs (fun vs H Q E h => ?_) (fun cdv A outer s H vs Q E hr h => ?_)
  · obtain ⟨_, _, rfl, _⟩ := h
    rfl
  · obtain ⟨a, most, rfl, ha, k⟩ := h
    refine ⟨_, (pss_one (ps_ret (pe_and (pe_callB (kcr K (r := rIsiB) cr_isi) (by rfl) M.n_isinstance boot_isinstance (pa_cons (pv 0) (pa_cons (pe_bltn (v := .ty "str") rfl M.n_str boot_str rfl) pa_nil))) (pe_and (pe_cmpR op_le (pe_callB cr_lenT (by rfl) M.n_len boot_len (pa_cons (pv 0) pa_nil)) (pv 1) (nomark _)) (pe_one (pe_callB (kcr K (r := rAll) (cr_all rfl)) (by rfl) M.n_all boot_all (pa_cons (pe_lc (own := [("sign", 2)]) rfl nd (pi_str (pv 0)) (blkOk_by (N := N_are_signs) (sc := defScope st_are_signs) (by decide +kernel)) (fun _ _ _ _ _ => (pg_name (i := 2) nd rfl (Or.inl rfl))) (fun _ _ _ _ _ => pts_nil) (fun _ _ _ _ _ => (pe_cmpR op_inT (pv 2) (pe_gT M.c_SIGNS [97, 98, 99, 100]) (by rfl)))) pa_nil))))))), ?_⟩
    exact s_ret (ev_andV (ev_cb (ea_cons (ev_var rfl) (ea_cons ev_c ea_nil)) (rc_isi (fun _ _ => .base (.str _)) k_str_str)) fun _ => ev_andV (ev_op (ev_cb (ea_cons (ev_var rfl) ea_nil) (rc_lenT (by omega))) (ev_var rfl) rv_I0) fun _ =>
      ev_cbL (el_lcM a (src_str (ev_var rfl)) (by omega) (fun _ => rfl) fun c H1 e1 hc => ev_op (ev_var rfl) ev_c rv_inT) fun p H1 hp e1 => rc_allM (sq_of hp)) k
theorem ok_is_text {f : Addr} {fd : FuncData} (F : Fun K "is_text" "is_text" st_is_text f fd) (M : Md K mg) (C_are_signs : Cal P w K mg base "are_signs" st_are_signs 1 ["thing", "most"] sp_are_signs) : FnOk P w K mg base CX0 2 f fd ["thing"] sp_is_text := by
  have nd := sc_is_text.nd
  refine F.ok sc_is_text (fun vs H Q E h => ?_) (fun cdv A outer s H vs Q E hr h => ?_)
  · obtain ⟨_, rfl, _⟩ := h
    rfl
  · obtain ⟨a, rfl, ha, k⟩ := h
    refine ⟨_, (pss_one (ps_ret (pe_cl C_are_signs hr (pa_cons (pv 0) (pa_cons (pe_gI M.c_MOST_SIGNS) pa_nil))))), ?_⟩
    exact s_ret (ev_call (ea_cons (ev_var rfl) (ea_cons ev_c ea_nil)) fun H1 e1 Q q E => ⟨a, 400, rfl, ha, q⟩) k
theorem ok_need_text {f : Addr} {fd : FuncData} (F : Fun K "need_text" "need_text" st_need_text f fd) (M : Md K mg) (C_is_text : Cal P w K mg base "is_text" st_is_text 2 ["thing"] sp_is_text) : FnOk P w K mg base CX0 3 f fd ["text"] sp_need_text := by
  have nd := sc_need_text.nd
  refine F.ok sc_need_text (fun vs H Q E h => ?_) (fun cdv A outer s H vs Q E hr h => ?_)
  · obtain ⟨_, rfl, _⟩ := h
    rfl
  · obtain ⟨a, rfl, ha, hs, k⟩ := h
    refine ⟨_, (pss_one (ps_if (pt_not (pt_val (pe_cl C_is_text hr (pa_cons (pv 0) pa_nil))))
  (pss_one ps_never)
  pss_nil)), ?_⟩
    refine s_when (et_not (et_B (ev_call (ea_cons (ev_var rfl) ea_nil) fun H1 e1 Q q E => ⟨a, rfl, ha, q⟩))) (fun hb => ?_) (fun _ => k)
    rw [hs] at hb
    cases hb
def sp_is_rep : Sp := fun vs H Q _ => ∃ (p : Addr) (rep : List Tx), vs = [.ref p] ∧ RepAt p rep H ∧ RetV (.bl true) H Q
def sp_need_rep : Sp := fun vs H Q _ => ∃ (p : Addr) (rep : List Tx), vs = [.ref p] ∧ RepAt p rep H ∧ RetV .non H Q
theorem ok_is_replacing {f : Addr} {fd : FuncData} (F : Fun K "is_replacing" "is_replacing" st_is_replacing f fd) (M : Md K mg) (C_are_signs : Cal P w K mg base "are_signs" st_are_signs 1 ["thing", "most"] sp_are_signs) : FnOk P w K mg base CX0 2 f fd ["thing"] sp_is_rep := by
  have nd := sc_is_replacing.nd
  refine F.ok sc_is_replacing (fun vs H Q E h => ?_) (fun cdv A outer s H vs Q E hr h => ?_)
  · obtain ⟨_, _, rfl, _⟩ := h
    rfl
  · obtain ⟨p, rep, rfl, ⟨hp, hL⟩, k⟩ := h
    refine ⟨_, (pss_cons (ps_if (PW.pt (pw_or (pt_not (pt_val (pe_callB (kcr K (r := rIsiB) cr_isi) (by rfl) M.n_isinstance boot_isinstance (pa_cons (pv 0) (pa_cons (pe_bltn (v := .ty "tuple") rfl M.n_tuple boot_tuple rfl) pa_nil))))) (pw_or1 (pt_not (pt_chain op_le op_le pe_int (pe_callB (kcr K (r := rLenS) call_len_seq) (by rfl) M.n_len boot_len (pa_cons (pv 0) pa_nil)) (pe_callB cr_lenT (by rfl) M.n_len boot_len (pa_cons (pe_gT M.c_SIGNS [97, 98, 99, 100]) pa_nil)))))))
  (pss_one (ps_ret pe_bl))
  pss_nil)
  (pss_one (ps_ret (pe_callB (kcr K (r := rAll) (cr_all rfl)) (by rfl) M.n_all boot_all (pa_cons (pe_lc (own := [("text", 1)]) rfl nd (kit K (pi_tup (pv 0))) (blkOk_by (N := N_is_replacing) (sc := defScope st_is_replacing) (by decide +kernel)) (fun _ _ _ _ _ => (pg_name (i := 1) nd rfl (Or.inl rfl))) (fun _ _ _ _ _ => pts_nil) (fun _ _ _ _ _ => (pe_cl C_are_signs hr (pa_cons (pv 1) (pa_cons (pe_gI M.c_MOST_LETTERS) pa_nil))))) pa_nil))))), ?_⟩
    have hpos : 0 < rep.length := hL.pos
    have hfew := hL.few
    refine q_when (b := false) (et_is (et_or (et_not (et_B (ev_cb (ea_cons (ev_var rfl) (ea_cons ev_c ea_nil)) (rc_isi (b := true) (fun H1 e => .base (.tup (e _ _ hp))) k_tuple_tuple)))) fun _ => et_not (et_test (ev_chain ev_c (ev_lenU (ev_var rfl) (st_of hp)) rv_I0 (ev_cb (ea_cons ev_c ea_nil) (rc_lenT (by decide))) rv_I0))) ?_) (fun z => by cases z) (fun _ H1 e1 => ?_)
    · rw [List.length_map]
      simp
      omega
    · exact s_ret (ev_cbL (el_lcM (j := 1) (vs := [1]) (f := T) (g := fun _ => V.bl true) rep (src_tupM (ev_var rfl) (st_of (e1 _ _ hp))) (by omega) (fun _ => rfl) fun t H2 e2 ht => ev_is (ev_call (ea_cons (ev_var rfl) (ea_cons ev_c ea_nil)) fun H3 e3 Q3 q3 E => ⟨t, 12, rfl, by have := (hL.wd t ht).1; omega, q3⟩) (by rw [show areSigns t 12 = true from areSigns_ok (m := 12) (hL.wd t ht).1 (hL.wd t ht).2])) fun p H2 hp e2 => rc_allT (sq_of hp)) (RetV.mono k e1)
theorem ok_need_replacing {f : Addr} {fd : FuncData} (F : Fun K "need_replacing" "need_replacing" st_need_replacing f fd) (M : Md K mg) (C_is_replacing : Cal P w K mg base "is_replacing" st_is_replacing 2 ["thing"] sp_is_rep) : FnOk P w K mg base CX0 3 f fd ["replacing"] sp_need_rep := by
  have nd := sc_need_replacing.nd
  refine F.ok sc_need_replacing (fun vs H Q E h => ?_) (fun cdv A outer s H vs Q E hr h => ?_)
  · obtain ⟨_, _, rfl, _⟩ := h
    rfl
  · obtain ⟨p, rep, rfl, hL, k⟩ := h
    refine ⟨_, (pss_one (ps_if (pt_not (pt_val (pe_cl C_is_replacing hr (pa_cons (pv 0) pa_nil))))
  (pss_one ps_never)
  pss_nil)), ?_⟩
    exact s_when (b := false) (et_is (et_not (et_B (ev_call (ea_cons (ev_var rfl) ea_nil) fun H1 e1 Q q E => ⟨p, rep, rfl, hL.ex e1, q⟩))) rfl) (fun z => by cases z) (fun _ => k)
/-- 'abcd'[:len(replacing)] -/
theorem ev_own {σ : L2.St} {H : Hp} {i : Nat} {p : Addr} {rep : List Tx} (h0 : σ[i]? = some (some (.ref p))) (hR : RepAt p rep H) : Ev (tSl rSlT (tC (T AB)) tNoPart (tPart (tCB (rLenS K) (tCons (tVar i) tNil)))) σ H (T (AB.take rep.length)) := by
  have h1 : Ev (tCB (rLenS K) (tCons (tVar i) tNil)) σ H (.int (rep.length : Int)) := ev_is (ev_lenU (ev_var h0) (st_of hR.1)) (by rw [List.length_map])
  exact ev_is (ev_slT ev_c eo_none (eo_some h1) (by decide)) (by rw [cutT_to])
/-- all signs of a text are replaced -/
theorem ev_allOwn {σ : L2.St} {H : Hp} {i j : Nat} {p : Addr} {rep : List Tx} {t : Tx} {te : TE} (ht : Ev te σ H (T t)) (hR : RepAt p rep H) (hw : ∀ x, wipe ((wipe σ [j]).set j (some x)) [j] = wipe σ [j]) (h0 : ∀ x, ((wipe σ [j]).set j (some x))[i]? = some (some (.ref p))) (h1 : ∀ x, ((wipe σ [j]).set j (some x))[j]? = some (some x)) (hl : t.length ≤ 40000) (ho : Own rep.length t) :
    Ev (tCB (rAll K) (tCons (tLc (iStr te) (gName j) tYes (tOp rInT (tVar j) (tSl rSlT (tC (T AB)) tNoPart (tPart (tCB (rLenS K) (tCons (tVar i) tNil))))) [j]) tNil)) σ H (.bl true) :=
  ev_cbL (el_lcM (j := j) (vs := [j]) (f := fun c => T [c]) (g := fun _ => V.bl true) t (src_str ht) hl hw fun c H1 e1 hc => ev_is (ev_op (ev_var (h1 _)) (ev_own (h0 _) (hR.ex e1)) rv_inT) (by rw [decide_eq_true ((mem_AB hR.2.few).mpr (ho c hc))])) fun p H2 hp e2 => rc_allT (sq_of hp)
def sp_need_own : Sp := fun vs H Q _ => ∃ (p : Addr) (rep : List Tx) (t : Tx), vs = [.ref p, T t] ∧ RepAt p rep H ∧ t.length ≤ 400 ∧ Own rep.length t ∧ RetV .non H Q
theorem ok_need_own_text {f : Addr} {fd : FuncData} (F : Fun K "need_own_text" "need_own_text" st_need_own_text f fd) (M : Md K mg) (C_is_text : Cal P w K mg base "is_text" st_is_text 2 ["thing"] sp_is_text) : FnOk P w K mg base CX0 3 f fd ["replacing", "text"] sp_need_own := by
  have nd := sc_need_own_text.nd
  refine F.ok sc_need_own_text (fun vs H Q E h => ?_) (fun cdv A outer s H vs Q E hr h => ?_)
  · obtain ⟨_, _, _, rfl, _⟩ := h
    rfl
  · obtain ⟨p, rep, t, rfl, hR, hl, ho, k⟩ := h
    refine ⟨_, (pss_one (ps_if (PW.pt (pw_or (pt_not (pt_val (pe_cl C_is_text hr (pa_cons (pv 1) pa_nil)))) (pw_or1 (pt_not (pt_val (pe_callB (kcr K (r := rAll) (cr_all rfl)) (by rfl) M.n_all boot_all (pa_cons (pe_lc (own := [("sign", 2)]) rfl nd (pi_str (pv 1)) (blkOk_by (N := N_need_own_text) (sc := defScope st_need_own_text) (by decide +kernel)) (fun _ _ _ _ _ => (pg_name (i := 2) nd rfl (Or.inl rfl))) (fun _ _ _ _ _ => pts_nil) (fun _ _ _ _ _ => (pe_cmpR op_inT (pv 2) (pe_slice sl_T (pe_gT M.c_SIGNS [97, 98, 99, 100]) po_none (po_some (pe_callB (kcr K (r := rLenS) call_len_seq) (by rfl) M.n_len boot_len (pa_cons (pv 0) pa_nil)))) (by rfl)))) pa_nil)))))))
  (pss_one ps_never)
  pss_nil)), ?_⟩
    have hs : areSigns t 400 = true := areSigns_ok (m := 400) hl (ho.abcd hR.2.few)
    refine s_when (b := false) (et_is (et_or (et_not (et_B (ev_call (ea_cons (ev_var rfl) ea_nil) fun H1 e1 Q q E => ⟨t, rfl, by omega, q⟩))) fun _ => et_not (et_B (ev_allOwn (j := 2) (i := 0) (ev_var rfl) hR (fun _ => rfl) (fun _ => rfl) (fun _ => rfl) (by omega) ho))) ?_) (fun z => by cases z) (fun _ => k)
    rw [hs]
    rfl
end
end K21
set_option Elab.async false
set_option linter.all false
set_option maxRecDepth 100000
set_option maxHeartbeats 2000000
namespace K21
open PySem PySem.Spec PyProof.Rows L2 Evl Wc Wt Wg Ws _root_.Wd
/-- the word i stands at place -/
def stands (lot : List Tx) (text : Tx) (place i : Nat) : Bool := match lot[i]? with
  | some wd => decide (wd ≠ [] ∧ place + wd.length ≤ text.length ∧ StAt text wd place)
  | none => false
/-- the indexes of the words that stand at place -/
def wordsAt (lot : List Tx) (text : Tx) (place : Nat) : List Nat := (List.range lot.length).filter (stands lot text place)
theorem wordsAt_is {lot : List Tx} {text : Tx} {place i : Nat} (h : i ∈ wordsAt lot text place) : ∃ wd, lot[i]? = some wd ∧ place + wd.length ≤ text.length ∧ StAt text wd place ∧ wd ≠ [] := by
  unfold wordsAt at h
  obtain ⟨_, h2⟩ := List.mem_filter.mp h
  unfold stands at h2
  cases hw : lot[i]? with
  | none => rw [hw] at h2; cases h2
  | some wd =>
    rw [hw] at h2
    exact ⟨wd, rfl, (of_decide_eq_true h2).2.1, (of_decide_eq_true h2).2.2, (of_decide_eq_true h2).1⟩
theorem wordsAt_mk {lot : List Tx} {text : Tx} {place i : Nat} {wd : Tx} (h : lot[i]? = some wd) (h0 : wd ≠ []) (h1 : place + wd.length ≤ text.length) (h2 : StAt text wd place) : i ∈ wordsAt lot text place :=
  List.mem_filter.mpr ⟨List.mem_range.mpr (List.getElem?_eq_some_iff.mp h).1, by unfold stands; rw [h]; exact decide_eq_true ⟨h0, h1, h2⟩⟩
theorem wordsAt_len (lot : List Tx) (text : Tx) (place : Nat) : (wordsAt lot text place).length ≤ lot.length := by
  unfold wordsAt
  have := List.length_filter_le (stands lot text place) (List.range lot.length)
  rw [List.length_range] at this
  exact this
theorem words_lt (lot : List Tx) (text : Tx) (p : Nat) : (wordsAt lot text p).Pairwise (· < ·) := List.Pairwise.filter _ List.pairwise_lt_range
def wl (lot : List Tx) (i : Nat) : Nat := (lot.getD i []).length
theorem wl_of {lot : List Tx} {i : Nat} {wd : Tx} (h : lot[i]? = some wd) : wl lot i = wd.length := by
  unfold wl
  rw [List.getD_eq_getElem?_getD, h]
  rfl
/-! ### all cuts of what is behind a place, ascending -/
def cutsF (lot : List Tx) (text : Tx) : Nat → Nat → List (List Nat)
  | 0, p => if p = text.length then [[]] else []
  | d + 1, p => if p = text.length then [[]] else (wordsAt lot text p).flatMap fun i => (cutsF lot text d (p + wl lot i)).map (i :: ·)
def cutsAt (lot : List Tx) (text : Tx) (p : Nat) : List (List Nat) := cutsF lot text (text.length - p) p
theorem flatMap_same {α β : Type} {l : List α} {f g : α → List β} (h : ∀ a ∈ l, f a = g a) : l.flatMap f = l.flatMap g := by
  rw [List.flatMap_def, List.flatMap_def, List.map_congr_left h]
theorem word_pos {lot : List Tx} {text : Tx} {p i : Nat} (h : i ∈ wordsAt lot text p) : 0 < wl lot i ∧ p + wl lot i ≤ text.length ∧ i < lot.length := by
  obtain ⟨wd, h1, h2, _, h3⟩ := wordsAt_is h
  rw [wl_of h1]
  exact ⟨List.length_pos_iff.mpr h3, h2, (List.getElem?_eq_some_iff.mp h1).1⟩
theorem cutsF_fuel {lot : List Tx} {text : Tx} : ∀ d d' p, p ≤ text.length → text.length - p ≤ d → text.length - p ≤ d' → cutsF lot text d p = cutsF lot text d' p := fun d => by
  induction d with
  | zero =>
    intro d' p hp h1 h2
    have : p = text.length := by omega
    cases d' with
    | zero => rfl
    | succ d' =>
      unfold cutsF
      rw [if_pos this, if_pos this]
  | succ d ih =>
    intro d' p hp h1 h2
    by_cases h : p = text.length
    · cases d' with
      | zero =>
        unfold cutsF
        rw [if_pos h, if_pos h]
      | succ d' =>
        unfold cutsF
        rw [if_pos h, if_pos h]
    · cases d' with
      | zero => omega
      | succ d' =>
        unfold cutsF
        rw [if_neg h, if_neg h]
        refine flatMap_same fun i hi => ?_
        have := word_pos hi
        rw [ih d' (p + wl lot i) (by omega) (by omega) (by omega)]
theorem cuts_last (lot : List Tx) (text : Tx) : cutsAt lot text text.length = [[]] := by
  unfold cutsAt
  rw [Nat.sub_self]
  unfold cutsF
  rw [if_pos rfl]
theorem cuts_step {lot : List Tx} {text : Tx} {p : Nat} (hp : p < text.length) : cutsAt lot text p = (wordsAt lot text p).flatMap fun i => (cutsAt lot text (p + wl lot i)).map (i :: ·) := by
  obtain ⟨d, hd⟩ : ∃ d, text.length - p = d + 1 := ⟨text.length - p - 1, by omega⟩
  have e : cutsAt lot text p = cutsF lot text (d + 1) p := by unfold cutsAt; rw [hd]
  rw [e]
  unfold cutsF
  rw [if_neg (by omega)]
  refine flatMap_same fun i hi => ?_
  have := word_pos hi
  unfold cutsAt
  rw [cutsF_fuel d (text.length - (p + wl lot i)) (p + wl lot i) (by omega) (by omega) (by omega)]
/-- the words of these indexes, one behind the other -/
def put (lot : List Tx) (c : List Nat) : Tx := (c.map fun i => lot.getD i []).flatten
theorem put_cons (lot : List Tx) (i : Nat) (c : List Nat) : put lot (i :: c) = lot.getD i [] ++ put lot c := rfl
theorem put_app (lot : List Tx) (c d : List Nat) : put lot (c ++ d) = put lot c ++ put lot d := by
  unfold put
  rw [List.map_append, List.flatten_append]
def Ixs (lot : List Tx) (c : List Nat) : Prop := ∀ i ∈ c, i < lot.length ∧ lot.getD i [] ≠ []
theorem stAt_drop {text wd : Tx} {p : Nat} : StAt text wd p ↔ (text.drop p).take wd.length = wd := Iff.rfl
theorem mem_cuts {lot : List Tx} {text : Tx} : ∀ d p, p + d = text.length → ∀ c, c ∈ cutsAt lot text p ↔ Ixs lot c ∧ put lot c = text.drop p := by
  intro d
  induction d using Nat.strongRecOn with
  | _ d ih =>
    intro p hp c
    by_cases hd : d = 0
    · have : p = text.length := by omega
      subst this
      rw [cuts_last, List.mem_singleton, List.drop_length]
      constructor
      · rintro rfl
        exact ⟨fun i hi => (nomatch hi), rfl⟩
      · rintro ⟨h1, h2⟩
        cases c with
        | nil => rfl
        | cons i c =>
          rw [put_cons] at h2
          exact absurd (List.append_eq_nil_iff.mp h2).1 (h1 i List.mem_cons_self).2
    · rw [cuts_step (by omega), List.mem_flatMap]
      constructor
      · rintro ⟨i, hi, hc⟩
        obtain ⟨c', hc', rfl⟩ := List.mem_map.mp hc
        have hw := word_pos hi
        obtain ⟨h1, h2⟩ := (ih (d - wl lot i) (by omega) (p + wl lot i) (by omega) c').mp hc'
        obtain ⟨wd, w1, w2, w3, w0⟩ := wordsAt_is hi
        refine ⟨fun j hj => ?_, ?_⟩
        · rcases List.mem_cons.mp hj with rfl | hj
          · exact ⟨hw.2.2, by rw [List.getD_eq_getElem?_getD, w1]; exact w0⟩
          · exact h1 j hj
        · rw [put_cons, h2, wl_of w1]
          have e : lot.getD i [] = wd := by rw [List.getD_eq_getElem?_getD, w1]; rfl
          rw [e, ← List.drop_drop]
          conv => rhs; rw [← List.take_append_drop wd.length (text.drop p)]
          rw [stAt_drop.mp w3]
      · rintro ⟨h1, h2⟩
        cases c with
        | nil =>
          have := congrArg List.length h2
          rw [List.length_drop] at this
          simp [put] at this
          omega
        | cons i c' =>
          obtain ⟨hi, hz⟩ := h1 i List.mem_cons_self
          have w1 := List.getElem?_eq_getElem hi
          have e : lot.getD i [] = lot[i] := by rw [List.getD_eq_getElem?_getD, w1]; rfl
          rw [put_cons, e] at h2
          have hl := congrArg List.length h2
          rw [List.length_append, List.length_drop] at hl
          rw [e] at hz
          have hpos := List.length_pos_iff.mpr hz
          have hst : StAt text lot[i] p := stAt_drop.mpr (by rw [← h2, List.take_left])
          refine ⟨i, wordsAt_mk w1 hz (by omega) hst, List.mem_map.mpr ⟨c', ?_, rfl⟩⟩
          rw [wl_of w1]
          refine (ih (d - lot[i].length) (by omega) (p + lot[i].length) (by omega) c').mpr ⟨fun j hj => h1 j (List.mem_cons_of_mem _ hj), ?_⟩
          rw [← List.drop_drop, ← h2, List.drop_left]
theorem nodup_cuts {lot : List Tx} {text : Tx} : ∀ d p, p + d = text.length → (cutsAt lot text p).Nodup := by
  intro d
  induction d using Nat.strongRecOn with
  | _ d ih =>
    intro p hp
    by_cases hd : d = 0
    · have : p = text.length := by omega
      subst this
      rw [cuts_last]
      exact List.pairwise_singleton _ _
    · rw [cuts_step (by omega)]
      show List.Pairwise _ _
      rw [List.pairwise_flatMap]
      refine ⟨fun i hi => ?_, List.Pairwise.imp_of_mem (fun {a b} ha hb hab x hx y hy => ?_) (words_lt lot text p)⟩
      · have := word_pos hi
        rw [List.pairwise_map]
        exact List.Pairwise.imp (fun {a b} h z => h (List.cons.inj z).2) (ih (d - wl lot i) (by omega) (p + wl lot i) (by omega))
      · obtain ⟨x', _, rfl⟩ := List.mem_map.mp hx
        obtain ⟨y', _, rfl⟩ := List.mem_map.mp hy
        intro z
        have := (List.cons.inj z).1
        omega
/-! ### cuts of beginnings, by their last words -/
def endsAt (lot : List Tx) (text : Tx) (e : Nat) : List Nat := (List.range lot.length).filter fun i => decide (wl lot i ≤ e) && stands lot text (e - wl lot i) i
def preF (lot : List Tx) (text : Tx) : Nat → Nat → List (List Nat)
  | 0, e => if e = 0 then [[]] else []
  | d + 1, e => if e = 0 then [[]] else (endsAt lot text e).flatMap fun i => (preF lot text d (e - wl lot i)).map (· ++ [i])
def preAt (lot : List Tx) (text : Tx) (e : Nat) : List (List Nat) := preF lot text e e
theorem ends_is {lot : List Tx} {text : Tx} {e i : Nat} (h : i ∈ endsAt lot text e) : ∃ wd, lot[i]? = some wd ∧ wl lot i = wd.length ∧ 0 < wd.length ∧ wd.length ≤ e ∧ e ≤ text.length ∧ StAt text wd (e - wd.length) := by
  obtain ⟨h1, h2⟩ := List.mem_filter.mp h
  rw [Bool.and_eq_true, decide_eq_true_eq] at h2
  obtain ⟨h2, h3⟩ := h2
  unfold stands at h3
  cases hw : lot[i]? with
  | none => rw [hw] at h3; cases h3
  | some wd =>
    rw [hw, wl_of hw] at h3
    rw [wl_of hw] at h2
    have := of_decide_eq_true h3
    exact ⟨wd, rfl, wl_of hw, List.length_pos_iff.mpr this.1, h2, by omega, this.2.2⟩
theorem preF_fuel {lot : List Tx} {text : Tx} : ∀ d d' e, e ≤ d → e ≤ d' → preF lot text d e = preF lot text d' e := fun d => by
  induction d with
  | zero =>
    intro d' e h1 h2
    have : e = 0 := by omega
    cases d' with
    | zero => rfl
    | succ d' =>
      unfold preF
      rw [if_pos this, if_pos this]
  | succ d ih =>
    intro d' e h1 h2
    by_cases h : e = 0
    · cases d' with
      | zero =>
        unfold preF
        rw [if_pos h, if_pos h]
      | succ d' =>
        unfold preF
        rw [if_pos h, if_pos h]
    · cases d' with
      | zero => omega
      | succ d' =>
        unfold preF
        rw [if_neg h, if_neg h]
        refine flatMap_same fun i hi => ?_
        obtain ⟨wd, _, w2, w3, _⟩ := ends_is hi
        rw [ih d' (e - wl lot i) (by omega) (by omega)]
theorem pre_first (lot : List Tx) (text : Tx) : preAt lot text 0 = [[]] := by
  unfold preAt preF
  rw [if_pos rfl]
theorem pre_step {lot : List Tx} {text : Tx} {e : Nat} (he : 0 < e) : preAt lot text e = (endsAt lot text e).flatMap fun i => (preAt lot text (e - wl lot i)).map (· ++ [i]) := by
  obtain ⟨d, rfl⟩ : ∃ d, e = d + 1 := ⟨e - 1, by omega⟩
  unfold preAt
  rw [preF, if_neg (by omega)]
  refine flatMap_same fun i hi => ?_
  obtain ⟨wd, _, w2, w3, _⟩ := ends_is hi
  rw [preF_fuel d (d + 1 - wl lot i) (d + 1 - wl lot i) (by omega) (by omega)]
theorem mem_pre {lot : List Tx} {text : Tx} : ∀ e, e ≤ text.length → ∀ c, c ∈ preAt lot text e ↔ Ixs lot c ∧ put lot c = text.take e := by
  intro e
  induction e using Nat.strongRecOn with
  | _ e ih =>
    intro he c
    by_cases h0 : e = 0
    · subst h0
      rw [pre_first, List.mem_singleton, List.take_zero]
      constructor
      · rintro rfl
        exact ⟨fun i hi => (nomatch hi), rfl⟩
      · rintro ⟨h1, h2⟩
        cases c with
        | nil => rfl
        | cons i c =>
          rw [put_cons] at h2
          exact absurd (List.append_eq_nil_iff.mp h2).1 (h1 i List.mem_cons_self).2
    · rw [pre_step (by omega), List.mem_flatMap]
      constructor
      · rintro ⟨i, hi, hc⟩
        obtain ⟨c', hc', rfl⟩ := List.mem_map.mp hc
        obtain ⟨wd, w1, w2, w3, w4, w5, w6⟩ := ends_is hi
        rw [w2] at hc'
        obtain ⟨h1, h2⟩ := (ih (e - wd.length) (by omega) (by omega) c').mp hc'
        refine ⟨fun j hj => ?_, ?_⟩
        · rcases List.mem_append.mp hj with hj | hj
          · exact h1 j hj
          · rw [List.mem_singleton.mp hj]
            exact ⟨(List.getElem?_eq_some_iff.mp w1).1, by rw [List.getD_eq_getElem?_getD, w1]; exact List.length_pos_iff.mp w3⟩
        · have e1 : put lot [i] = wd := by
            unfold put
            simp [w1]
          rw [put_app, h2, e1]
          obtain ⟨b, hb⟩ : ∃ b, b + wd.length = e := ⟨e - wd.length, by omega⟩
          subst hb
          rw [Nat.add_sub_cancel] at w6 ⊢
          rw [List.take_add, stAt_drop.mp w6]
      · rintro ⟨h1, h2⟩
        have hne : c ≠ [] := fun z => by
          subst z
          have := congrArg List.length h2
          rw [List.length_take] at this
          simp [put] at this
          omega
        obtain ⟨c', i, rfl⟩ : ∃ c' i, c = c' ++ [i] := ⟨c.dropLast, c.getLast hne, (List.dropLast_concat_getLast hne).symm⟩
        obtain ⟨hi, hz⟩ := h1 i (List.mem_append_right _ (List.mem_singleton.mpr rfl))
        have w1 := List.getElem?_eq_getElem hi
        have e1 : put lot [i] = lot[i] := by
          unfold put
          simp [w1]
        rw [put_app, e1] at h2
        have hl := congrArg List.length h2
        rw [List.length_append, List.length_take] at hl
        rw [List.getD_eq_getElem?_getD, w1] at hz
        have hz : lot[i] ≠ [] := hz
        have hpos := List.length_pos_iff.mpr hz
        have hb : (put lot c').length + lot[i].length = e := by omega
        have h3 : text.take e = text.take (put lot c').length ++ (text.drop (put lot c').length).take lot[i].length := by rw [← hb, List.take_add]
        rw [h3] at h2
        obtain ⟨a1, a2⟩ := List.append_inj h2 (by rw [List.length_take]; omega)
        refine ⟨i, List.mem_filter.mpr ⟨List.mem_range.mpr hi, ?_⟩, List.mem_map.mpr ⟨c', ?_, rfl⟩⟩
        · rw [Bool.and_eq_true, decide_eq_true_eq, wl_of w1]
          refine ⟨by omega, ?_⟩
          unfold stands
          rw [w1]
          refine decide_eq_true ⟨hz, by omega, ?_⟩
          rw [show e - lot[i].length = (put lot c').length by omega]
          exact stAt_drop.mpr a2.symm
        · rw [wl_of w1]
          refine (ih (e - lot[i].length) (by omega) (by omega) c').mpr ⟨fun j hj => h1 j (List.mem_append_left _ hj), ?_⟩
          rw [show e - lot[i].length = (put lot c').length by omega]
          exact a1
theorem nodup_pre {lot : List Tx} {text : Tx} : ∀ e, (preAt lot text e).Nodup := by
  intro e
  induction e using Nat.strongRecOn with
  | _ e ih =>
    by_cases h0 : e = 0
    · subst h0
      rw [pre_first]
      exact List.pairwise_singleton _ _
    · rw [pre_step (by omega)]
      show List.Pairwise _ _
      rw [List.pairwise_flatMap]
      refine ⟨fun i hi => ?_, List.Pairwise.imp_of_mem (fun {a b} ha hb hab x hx y hy => ?_) (List.Pairwise.filter _ List.pairwise_lt_range)⟩
      · obtain ⟨wd, w1, w2, w3, w4, _⟩ := ends_is hi
        rw [List.pairwise_map]
        exact List.Pairwise.imp (fun {a b} h z => h (List.append_cancel_right z)) (ih (e - wl lot i) (by omega))
      · obtain ⟨x', _, rfl⟩ := List.mem_map.mp hx
        obtain ⟨y', _, rfl⟩ := List.mem_map.mp hy
        intro z
        have := congrArg List.getLast? z
        simp at this
        omega
theorem len_same {α : Type} {l l' : List α} (h1 : l.Nodup) (h2 : l'.Nodup) (h : ∀ a, a ∈ l ↔ a ∈ l') : l.length = l'.length := ((List.perm_ext_iff_of_nodup h1 h2).mpr h).length_eq
/-- as many from the beginning on as from the end -/
theorem same_pre (lot : List Tx) (text : Tx) (c : List Nat) : c ∈ preAt lot text text.length ↔ c ∈ cutsAt lot text 0 := by
  rw [mem_pre _ (Nat.le_refl _), mem_cuts text.length 0 (by omega), List.take_length, List.drop_zero]
theorem count_pre (lot : List Tx) (text : Tx) : (preAt lot text text.length).length = (cutsAt lot text 0).length := len_same (nodup_pre _) (nodup_cuts text.length 0 (by omega)) (same_pre lot text)
def sumL {β : Type} (f : Nat → List β) (l : List Nat) : Nat := (l.map fun i => (f i).length).sum
theorem sumL_all {β : Type} (f : Nat → List β) (l : List Nat) : (l.flatMap f).length = sumL f l := by
  unfold sumL
  rw [List.length_flatMap]
theorem cuts_count {lot : List Tx} {text : Tx} {p : Nat} (hp : p < text.length) : (cutsAt lot text p).length = sumL (fun i => cutsAt lot text (p + wl lot i)) (wordsAt lot text p) := by
  rw [cuts_step hp, sumL_all]
  unfold sumL
  simp
theorem pre_count {lot : List Tx} {text : Tx} {e : Nat} (he : 0 < e) : (preAt lot text e).length = sumL (fun i => preAt lot text (e - wl lot i)) (endsAt lot text e) := by
  rw [pre_step he, sumL_all]
  unfold sumL
  simp
/-! ### the signs of indexes -/
def tl (c : List Nat) : Tx := c.map (97 + ·)
theorem tl_inj {a b : List Nat} (h : tl a = tl b) : a = b := (List.map_inj_right fun x y h => by omega).mp h
theorem tl_app (a b : List Nat) : tl (a ++ b) = tl a ++ tl b := List.map_append
theorem tl_len (a : List Nat) : (tl a).length = a.length := List.length_map _
/-- each sign replaced -/
def byR (rep : List Tx) (t : Tx) : Tx := (t.map fun c => rep.getD (c - 97) []).flatten
theorem by_tl (rep : List Tx) (c : List Nat) : byR rep (tl c) = put rep c := by
  unfold byR tl put
  rw [List.map_map]
  congr 1
  refine List.map_congr_left fun i _ => ?_
  show rep.getD (97 + i - 97) [] = _
  rw [Nat.add_sub_cancel_left]
theorem getD_mem {rep : List Tx} {i : Nat} (h : i < rep.length) : rep.getD i [] ∈ rep := by
  rw [List.getD_eq_getElem?_getD, List.getElem?_eq_getElem h]
  exact List.getElem_mem h
theorem by_len {rep : List Tx} (h : IsRep rep) : ∀ {t : Tx}, Own rep.length t → (byR rep t).length ≤ 12 * t.length
  | [], _ => Nat.le_refl _
  | c :: t, ho => by
    have h1 := by_len h (t := t) fun c' hc' => ho c' (List.mem_cons_of_mem _ hc')
    have h2 := ho c List.mem_cons_self
    have h3 := (h.wd _ (getD_mem (rep := rep) (i := c - 97) (by omega))).1
    have e : byR rep (c :: t) = rep.getD (c - 97) [] ++ byR rep t := rfl
    rw [e, List.length_append, List.length_cons]
    omega
theorem by_abcd {rep : List Tx} (h : IsRep rep) {t : Tx} (ho : Own rep.length t) : ∀ c ∈ byR rep t, abcd c := fun c hc => by
  unfold byR at hc
  obtain ⟨x, hx, hcx⟩ := List.mem_flatten.mp hc
  obtain ⟨d, hd, rfl⟩ := List.mem_map.mp hx
  have h2 := ho d hd
  exact (h.wd _ (getD_mem (rep := rep) (i := d - 97) (by omega))).2 c hcx
theorem put_long {lot : List Tx} : ∀ {c : List Nat}, Ixs lot c → c.length ≤ (put lot c).length
  | [], _ => Nat.zero_le _
  | i :: c, h => by
    have h1 := put_long (c := c) fun j hj => h j (List.mem_cons_of_mem _ hj)
    have h2 := List.length_pos_iff.mpr (h i List.mem_cons_self).2
    rw [put_cons, List.length_append, List.length_cons]
    omega
/-- the texts that a text is made of, ascending -/
def backS (rep : List Tx) (text : Tx) : List Tx := sortT ((cutsAt rep text 0).map tl)
theorem map_tl_nodup {l : List (List Nat)} (h : l.Nodup) : (l.map tl).Nodup := by
  show List.Pairwise _ _
  rw [List.pairwise_map]
  exact List.Pairwise.imp (fun {a b} h z => h (tl_inj z)) h
theorem back_pre (rep : List Tx) (text : Tx) : sortT ((preAt rep text text.length).map tl) = backS rep text := sortT_same (map_tl_nodup (nodup_pre _)) (map_tl_nodup (nodup_cuts text.length 0 (by omega))) fun x => by
  rw [List.mem_map, List.mem_map]
  exact ⟨fun ⟨c, h1, h2⟩ => ⟨c, (same_pre rep text c).mp h1, h2⟩, fun ⟨c, h1, h2⟩ => ⟨c, (same_pre rep text c).mpr h1, h2⟩⟩
theorem back_len (rep : List Tx) (text : Tx) : (backS rep text).length = (cutsAt rep text 0).length := by
  unfold backS
  rw [sortT_len, List.length_map]
theorem back_mem {rep : List Tx} {text x : Tx} (h : x ∈ backS rep text) : byR rep x = text ∧ Own rep.length x ∧ x.length ≤ text.length := by
  obtain ⟨c, hc, rfl⟩ := List.mem_map.mp (sortT_mem.mp h)
  obtain ⟨h1, h2⟩ := (mem_cuts text.length 0 (by omega) c).mp hc
  rw [List.drop_zero] at h2
  refine ⟨by rw [by_tl, h2], fun s hs => ?_, ?_⟩
  · obtain ⟨i, hi, rfl⟩ := List.mem_map.mp hs
    have := (h1 i hi).1
    show 97 ≤ 97 + i ∧ 97 + i < 97 + rep.length
    omega
  · have := put_long h1
    rw [tl_len, ← h2]
    exact this
theorem cuts_short {rep : List Tx} {text : Tx} {p : Nat} (hp : p ≤ text.length) {c : List Nat} (h : c ∈ cutsAt rep text p) : c.length ≤ text.length := by
  obtain ⟨h1, h2⟩ := (mem_cuts (text.length - p) p (by omega) c).mp h
  have := put_long h1
  rw [h2, List.length_drop] at this
  omega
theorem pre_mem {rep : List Tx} {text : Tx} {e : Nat} (he : e ≤ text.length) {c : List Nat} (h : c ∈ preAt rep text e) : Ixs rep c ∧ c.length ≤ e := by
  obtain ⟨h1, h2⟩ := (mem_pre e he c).mp h
  refine ⟨h1, ?_⟩
  have := put_long h1
  rw [h2, List.length_take] at this
  omega
/-! ### rows of numbers -/
def numV (c : List Nat) : List V := c.map fun (n : Nat) => V.int (n : Int)
def behN (lot : List Tx) (text : Tx) : List Nat := (List.range (text.length + 1)).map fun p => (cutsAt lot text p).length
theorem behN_at {lot : List Tx} {text : Tx} {p : Nat} (hp : p ≤ text.length) : (numV (behN lot text))[p]? = some (.int ((cutsAt lot text p).length : Int)) := by
  unfold numV behN
  rw [List.getElem?_map, List.getElem?_map, List.getElem?_range (by omega)]
  rfl
/-- the sum over those of the first j words that stand at p -/
def wordJ (lot : List Tx) (text : Tx) (p j : Nat) : Nat := sumL (fun i => cutsAt lot text (p + wl lot i)) ((List.range j).filter (stands lot text p))
theorem wordJ_zero (lot : List Tx) (text : Tx) (p : Nat) : wordJ lot text p 0 = 0 := rfl
theorem wordJ_succ (lot : List Tx) (text : Tx) (p j : Nat) : wordJ lot text p (j + 1) = wordJ lot text p j + if stands lot text p j = true then (cutsAt lot text (p + wl lot j)).length else 0 := by
  unfold wordJ sumL
  rw [List.range_succ, List.filter_append, List.map_append, List.sum_append]
  congr 1
  cases z : stands lot text p j with
  | true => simp [z]
  | false => simp [z]
theorem wordJ_all {lot : List Tx} {text : Tx} {p : Nat} (hp : p < text.length) : wordJ lot text p lot.length = (cutsAt lot text p).length := (cuts_count hp).symm
theorem stands_at {lot : List Tx} {text wd : Tx} {p j : Nat} (h : lot[j]? = some wd) : stands lot text p j = decide (wd ≠ [] ∧ p + wd.length ≤ text.length ∧ StAt text wd p) := by
  unfold stands
  rw [h]
end K21
set_option Elab.async false
set_option linter.all false
set_option maxRecDepth 100000
set_option maxHeartbeats 2000000
/-! startswith and endswith; comprehensions that make an object for some of the things; comprehensions over things that stand -/
namespace Ws
open PySem PySem.Spec PyProof.Rows L2 Evl Wc Wt Wg Wd
def rStartT : V → List V → Hp → VK → Prop := fun x xs H Q => ∃ (a b : Tx), x = T a ∧ xs = [T b] ∧ Q (.bl (decide (a.take b.length = b))) H
theorem mt_startT {X : Cx} : MtR X "str.startswith" rStartT := by
  intro pins s σ H x xs v us Q I rx r h
  obtain ⟨a, b, rfl, rfl, q⟩ := h
  refine mt_startswith pins s σ H _ _ v us Q I rx r ⟨_, _, rfl, rfl, ?_⟩
  unfold Txt.startswith
  rw [S_length, S_length, subAt_T, ← Bool.decide_and]
  have e : decide (0 + b.length ≤ a.length ∧ StAt a b 0) = decide (a.take b.length = b) := decide_eq_decide.mpr ⟨fun h => h.2, fun h => ⟨by have := congrArg List.length h; rw [List.length_take] at this; omega, h⟩⟩
  rw [e]
  exact q
def rEndT : V → List V → Hp → VK → Prop := fun x xs H Q => ∃ (a b : Tx), x = T a ∧ xs = [T b] ∧ Q (.bl (decide (b.length ≤ a.length ∧ a.drop (a.length - b.length) = b))) H
theorem mt_endT {X : Cx} : MtR X "str.endswith" rEndT := by
  intro pins s σ H x xs v us Q I rx r h
  obtain ⟨a, b, rfl, rfl, q⟩ := h
  refine mt_endswith pins s σ H _ _ v us Q I rx r ⟨_, _, rfl, rfl, ?_⟩
  unfold Txt.endswith
  rw [S_length, S_length, subAt_T, ← Bool.decide_and]
  have e : decide (0 + b.length ≤ a.length ∧ StAt a b (a.length - b.length)) = decide (b.length ≤ a.length ∧ a.drop (a.length - b.length) = b) := decide_eq_decide.mpr (by
    rw [Nat.zero_add]
    refine and_congr_right fun hl => ?_
    show (a.drop (a.length - b.length)).take b.length = b ↔ _
    rw [List.take_of_length_le (by rw [List.length_drop]; omega)])
  rw [e]
  exact q
section
variable {K : PySem.W.Frag} {σ : L2.St} {H : Hp} {te : TE} {t : TT}
theorem rm_startT {a b : Tx} : RM rStartT (T a) [T b] H (.bl (decide (a.take b.length = b))) := fun H1 _ _ q => ⟨a, b, rfl, rfl, q H1 (Ex.refl _)⟩
theorem rm_start3T {a b : Tx} {i : Nat} : RM rStart3T (T a) [T b, .int (i : Int)] H (.bl (decide (i + b.length ≤ a.length ∧ StAt a b i))) := fun H1 _ _ q => ⟨a, b, i, rfl, rfl, q H1 (Ex.refl _)⟩
theorem rm_endT {a b : Tx} : RM rEndT (T a) [T b] H (.bl (decide (b.length ≤ a.length ∧ a.drop (a.length - b.length) = b))) := fun H1 _ _ q => ⟨a, b, rfl, rfl, q H1 (Ex.refl _)⟩
/-- a new object for each thing that is kept -/
theorem lcO {α : Type} {wi : TI} {g : TG} {vs : List Nat} {n : Nat} {own : Addr → Prop} {P : Nat → V → Hp → Prop} {Q : VK} {p : α → Bool} (xs : List α) (st : α → L2.St) (o : α → HO) (R : α → V → Hp → Prop) (hs : Src wi σ H n own P) (hn : n ≤ 40000) (hx : xs.length = n)
    (hP : ∀ i x H1, Ex H H1 → P i x H1 → ∃ a, xs[i]? = some a ∧ R a x H1) (hg : ∀ a x H1 (Q' : L2.St → Hp → Prop), R a x H1 → Q' (st a) H1 → g x (wipe σ vs) H1 Q') (hw : ∀ a, wipe (st a) vs = wipe σ vs)
    (ht : ∀ a H1, Ex H H1 → a ∈ xs → EvT t (st a) H1 (p a)) (he : ∀ a H1, Ex H H1 → a ∈ xs → p a = true → ∀ Q' : VK, (∀ q H2, H1 q = none → Ex H1 H2 → H2 q = some (o a) → Q' (.ref q) H2) → te (st a) H1 Q')
    (k : ∀ q H2 ps, H q = none → Ex H H2 → H2 q = some (.lst (ps.map V.ref)) → All2 (fun b a => H2 b = some (o a) ∧ H b = none ∧ b ≠ q) ps (xs.filter p) → Q (.ref q) H2) : tLc wi g t te vs σ H Q :=
  hs H (Ex.refl H) _ fun J H1 S e1 w hS => fun Dl hD => by
    have hDH : H Dl = none := fresh_back e1 hD
    have ftk : ∀ {i a}, xs[i]? = some a → (xs.take (i + 1)).filter p = (xs.take i).filter p ++ if p a = true then [a] else [] := fun {i a} ha => by
      rw [List.take_add_one, ha, List.filter_append]
      congr 1
      cases z : p a with
      | true => simp [z]
      | false => simp [z]
    refine lc_it w (Qd := fun H3 => Q (.ref Dl) H3) (fun i Hi => Ex H1 Hi ∧ ∃ ps : List Addr, Hi Dl = some (.lst (ps.map V.ref)) ∧ ps.length ≤ i ∧ All2 (fun b a => Hi b = some (o a) ∧ H b = none ∧ b ≠ Dl) ps ((xs.take i).filter p)) ?_ (fun i Hi hi p => hS (fun _ => False) Hi (fun b z => z.elim) (.of p.1)) ?_ ?_
    · exact ⟨Ex.new hD, [], upd_same, Nat.le_refl _, .nil⟩
    · rintro i x Ha Hb hi ⟨R1, ps, h1, h2, h3⟩ ⟨ey, hPi⟩
      have eB : Ex H Hb := e1.trans (R1.trans ey)
      obtain ⟨a, ha, hr⟩ := hP i x Hb eB hPi
      have hm := List.mem_of_getElem? ha
      refine hg a x Hb _ hr ⟨hw a, ht a Hb eB hm Hb (Ex.refl _) _ fun H3 e3 => ?_⟩
      have hft := ftk ha
      cases hp : p a with
      | true =>
        rw [hp, if_pos rfl] at hft
        show te (st a) H3 fun y H4 => ∃ acc, H4 Dl = some (.lst acc) ∧ acc.length < sizeLine ∧ _
        refine he a H3 (eB.trans e3) hm hp _ fun q H4 hq e4 h4 => ?_
        have hDl4 : H4 Dl = some (.lst (ps.map V.ref)) := e4 _ _ (e3 _ _ (ey _ _ h1))
        have nqD : q ≠ Dl := fun z => by rw [z, e3 _ _ (ey _ _ h1)] at hq; cases hq
        have eM : Ex H1 (upd H4 Dl (.lst (ps.map V.ref ++ [.ref q]))) := Ex.mut (((R1.trans ey).trans e3).trans e4) hD
        refine ⟨ps.map V.ref, hDl4, sz_lt (by rw [List.length_map]; omega), eM, ps ++ [q], by rw [upd_same, List.map_append]; rfl, by rw [List.length_append, List.length_singleton]; omega, ?_⟩
        rw [hft]
        exact (h3.mono fun b a' r => ⟨by rw [upd_ne r.2.2]; exact e4 _ _ (e3 _ _ (ey _ _ r.1)), r.2⟩).push ⟨by rw [upd_ne nqD]; exact h4, fresh_back (eB.trans e3) hq, nqD⟩
      | false =>
        rw [hp, if_neg Bool.false_ne_true, List.append_nil] at hft
        show Ex H1 H3 ∧ _
        refine ⟨(R1.trans ey).trans e3, ps, e3 _ _ (ey _ _ h1), by omega, ?_⟩
        rw [hft]
        exact h3.mono fun b a' r => ⟨e3 _ _ (ey _ _ r.1), r.2⟩
    · rintro H3 ⟨R1, ps, h1, h2, h3⟩
      rw [← hx, List.take_length] at h3
      exact k Dl H3 ps hDH (e1.trans R1) h1 h3
/-- as el_lcG, the heap of each turn known to be a greater one -/
theorem el_lcE {α : Type} {wi : TI} {g : TG} {vs : List Nat} {n : Nat} {own : Addr → Prop} {P : Nat → V → Hp → Prop} {gv : α → V} {p : α → Bool} (xs : List α) (st : α → L2.St) (hs : Src wi σ H n own P) (hn : n ≤ 40000) (hx : xs.length = n)
    (hP : ∀ i x H1, Ex H H1 → P i x H1 → ∃ a, xs[i]? = some a ∧ ∀ Q' : L2.St → Hp → Prop, Q' (st a) H1 → g x (wipe σ vs) H1 Q') (hw : ∀ a, wipe (st a) vs = wipe σ vs)
    (ht : ∀ a H1, Ex H H1 → a ∈ xs → EvT t (st a) H1 (p a)) (he : ∀ a H1, Ex H H1 → a ∈ xs → p a = true → Ev te (st a) H1 (gv a)) : EvL (tLc wi g t te vs) σ H ((xs.filter p).map gv) := fun H0 e Q q => by
  have hgm := given_map xs p gv (fun i => match xs[i]? with | some a => p a | none => false) (fun i => match xs[i]? with | some a => gv a | none => .non) (fun i a ha => by simp only [ha]) (fun i a ha => by simp only [ha])
  rw [hx] at hgm
  generalize hf : (fun (i : Nat) => match xs[i]? with | some a => p a | none => false) = f at hgm
  generalize hv : (fun (i : Nat) => match xs[i]? with | some a => gv a | none => V.non) = v at hgm
  exact hs H0 e _ fun J H1 S e1 w hS => fun Dl hD =>
    lc_it w (Qd := fun H3 => Q (.ref Dl) H3) (Cw H1 f v Dl) ⟨hD, Ex.new hD, upd_same⟩ (fun i Hi _ c => hS (fun _ => False) Hi (fun _ z => z.elim) (.of c.2.1)) (fun i x Hi Hj hi c hy => by
      obtain ⟨ey, hPi⟩ := hy
      have c' : Cw H1 f v Dl i Hj := ⟨c.1, c.2.1.trans ey, ey _ _ c.2.2⟩
      have eAll : Ex H Hj := (e.trans e1).trans c'.2.1
      obtain ⟨a, ha, hg⟩ := hP i x Hj eAll hPi
      have hm : a ∈ xs := List.mem_of_getElem? ha
      have fa : f i = p a := by rw [← hf]; simp only [ha]
      have va : v i = gv a := by rw [← hv]; simp only [ha]
      obtain ⟨c1, c2, c3⟩ := c'
      refine hg _ ⟨hw a, ht a Hj eAll hm Hj (Ex.refl _) _ fun H3 e3 => ?_⟩
      cases hp : p a with
      | true =>
        show te (st a) H3 fun y H4 => ∃ acc, H4 Dl = some (.lst acc) ∧ acc.length < sizeLine ∧ Cw H1 f v Dl (i + 1) (upd H4 Dl (.lst (acc ++ [y])))
        refine he a Hj eAll hm hp H3 e3 _ fun H4 e4 => ⟨given i f v, e4 Dl _ (e3 Dl _ c3), sz_lt (by have := given_len i f v; omega), c1, Ex.mut ((c2.trans e3).trans e4) c1, ?_⟩
        rw [given_yes (fa.trans hp), va]
        exact upd_same
      | false =>
        show Cw H1 f v Dl (i + 1) H3
        refine ⟨c1, c2.trans e3, ?_⟩
        rw [given_no (fa.trans hp)]
        exact e3 Dl _ c3) (fun H3 c => by
      refine q Dl H3 (fresh_back e1 c.1) (e1.trans c.2.1) ?_
      rw [← hgm]
      exact c.2.2)
/-- x in ts, of texts -/
theorem inV_T (x : Tx) (ts : List Tx) : inV (T x) (ts.map T) = decide (x ∈ ts) := by
  unfold inV
  rw [List.any_map]
  rw [Bool.eq_iff_iff, List.any_eq_true, decide_eq_true_eq]
  constructor
  · rintro ⟨y, hy, h⟩
    have h : eqV (T y) (T x) = true := h
    unfold eqV at h
    have := eq_of_beq h
    rw [SX.S_inj this] at hy
    exact hy
  · intro h
    refine ⟨x, h, ?_⟩
    show eqV (T x) (T x) = true
    unfold eqV
    exact beq_self_eq_true _
theorem flat_T (ts : List Tx) : (ts.map T).all flatV = true := by
  rw [List.all_map, List.all_eq_true]
  intro x _
  rfl
end
end Ws
set_option Elab.async false
set_option linter.all false
set_option maxRecDepth 100000
set_option maxHeartbeats 4000000
namespace K21
open PySem PySem.Spec PyProof.Rows L2 Evl Wc Wt Wg Ws _root_.Wd
theorem numV_map (c : List Nat) : numV c = (c.map fun (n : Nat) => (n : Int)).map V.int := by
  unfold numV
  rw [List.map_map]
  rfl
section
variable {P : Program} {w : World} {K : PySem.W.Frag} {mg : Str → Option Value} {base : Heap}
def sp_replaced_text : Sp := fun vs H Q _ => ∃ (p : Addr) (rep : List Tx) (t : Tx), vs = [.ref p, T t] ∧ RepAt p rep H ∧ t.length ≤ 400 ∧ Own rep.length t ∧ RetV (T (byR rep t)) H Q
theorem ok_replaced_text {f : Addr} {fd : FuncData} (F : Fun K "replaced_text" "replaced_text" st_replaced_text f fd) (M : Md K mg) : FnOk P w K mg base CX0 1 f fd ["replacing", "text"] sp_replaced_text := by
  have nd := sc_replaced_text.nd
  refine F.ok sc_replaced_text (fun vs H Q E h => ?_) (fun cdv A outer s H vs Q E hr h => ?_)
  · obtain ⟨_, _, _, rfl, _⟩ := h
    rfl
  · obtain ⟨p, rep, t, rfl, hR, hl, ho, k⟩ := h
    refine ⟨_, (pss_one (ps_ret (kbm K (pe_bm PySem.F.plainAttrs_str PySem.F.slot_str_join PySem.F.type_str_join (kmt K (r := rJoinT) mt_joinT) (pe_sT []) (pa_cons (pe_lc (own := [("sign", 2)]) rfl nd (pi_str (pv 1)) (blkOk_by (N := N_replaced_text) (sc := defScope st_replaced_text) (by decide +kernel)) (fun _ _ _ _ _ => (pg_name (i := 2) nd rfl (Or.inl rfl))) (fun _ _ _ _ _ => pts_nil) (fun _ _ _ _ _ => (pe_ix (kix K (r := L2.rIxT) ix_tup) (pv 0) (kbm K (pe_bm PySem.F.plainAttrs_str PySem.F.slot_str_index PySem.F.type_str_index mt_indexA (pe_gT M.c_SIGNS [97, 98, 99, 100]) (pa_cons (pv 2) pa_nil))) (fun _ _ => rfl)))) pa_nil))))), ?_⟩
    have hsum : ((t.map fun c => rep.getD (c - 97) []).map List.length).sum ≤ 16777216 := by
      have h1 := by_len hR.2 ho
      unfold byR at h1
      rw [List.length_flatten] at h1
      omega
    have hlc : EvL (tLc (iStr (tVar 1)) (gName 2) tYes (tOp (L2.rIxT K) (tVar 0) (tBM K "str" rIndexA (tC (T AB)) (tCons (tVar 2) tNil))) [2]) (start N_replaced_text [.ref p, T t]) H ((t.map fun c => rep.getD (c - 97) []).map T) := by
      rw [List.map_map]
      exact el_lcM (j := 2) (vs := [2]) (f := fun c => T [c]) (g := fun c => T (rep.getD (c - 97) [])) t (src_str (ev_var rfl)) (by omega) (fun _ => rfl) fun c H1 e1 hc => by
        have hcc := ho c hc
        have hi : c - 97 < rep.length := by omega
        exact ev_op (ev_var rfl) (ev_bmT ev_c (ea_cons (ev_var rfl) ea_nil) (rm_indexA hcc.1 (by have := hR.2.few; omega))) (rv_ixT (st_of (e1 _ _ hR.1)) (atI_nat (by rw [List.getElem?_map, List.getElem?_eq_getElem hi, List.getD_eq_getElem?_getD, List.getElem?_eq_getElem hi]; rfl)))
    exact s_ret (ev_bmTL ev_c hlc fun q H1 hq e1 => rm_join (.inl (sq_of hq)) hsum) k
def sp_ways : Sp := fun vs H Q _ => ∃ (p : Addr) (rep : List Tx) (t : Tx), vs = [.ref p, T t] ∧ RepAt p rep H ∧ t.length ≤ 400 ∧ RetL (numV (behN rep t)) H Q
theorem ok_ways_back {f : Addr} {fd : FuncData} (F : Fun K "ways_back" "ways_back" st_ways_back f fd) (M : Md K mg) : FnOk P w K mg base CX0 1 f fd ["replacing", "text"] sp_ways := by
  have nd := sc_ways_back.nd
  refine F.ok sc_ways_back (fun vs H Q E h => ?_) (fun cdv A outer s H vs Q E hr h => ?_)
  · obtain ⟨_, _, _, rfl, _⟩ := h
    rfl
  · obtain ⟨p, rep, text, rfl, hR, hlen, k⟩ := h
    refine ⟨_, (pss_cons (ps_set (i := 2) nd rfl (Or.inl rfl) (pe_op op_cat (pe_op op_rep (pe_lst (pa_cons pe_int pa_nil)) (pe_callB cr_lenT (by rfl) M.n_len boot_len (pa_cons (pv 1) pa_nil))) (pe_lst (pa_cons pe_int pa_nil))))
  (pss_cons (ps_for PassesOwn.never rfl (pi_range3 (by rfl) M.n_range (pa_cons (pe_op op_sub (pe_callB cr_lenT (by rfl) M.n_len boot_len (pa_cons (pv 1) pa_nil)) pe_int) (pa_cons (pe_un un_neg pe_int) (pa_cons (pe_un un_neg pe_int) pa_nil)))) (pg_name (i := 3) nd rfl (Or.inl rfl))
  (pss_one (ps_for PassesOwn.never rfl (kit K (pi_tup (pv 0))) (pg_name (i := 4) nd rfl (Or.inl rfl))
  (pss_one (ps_if (PW.pt (pw_and (pt_cmpR op_neT (pv 4) (pe_sT []) (nomark _)) (pw_and1 (pt_val (kbm K (pe_bm PySem.F.plainAttrs_str PySem.F.slot_str_startswith PySem.F.type_str_startswith mt_start3T (pv 1) (pa_cons (pv 4) (pa_cons (pv 3) pa_nil))))))))
  (pss_one (ps_augS (pv 2) (pv 3) (kget K) (pe_ix (kix K (r := L2.rIxL) ix_list) (pv 2) (pe_op op_add (pv 3) (pe_callB cr_lenT (by rfl) M.n_len boot_len (pa_cons (pv 4) pa_nil))) (fun _ _ => rfl)) ip_add set_list))
  pss_nil)))))
  (pss_one (ps_ret (pv 2))))), ?_⟩
    have hfew := hR.2.few
    have lenT : ∀ {σ : L2.St} {H' : Hp}, σ[1]? = some (some (T text)) → Ev (tCB rLenT (tCons (tVar 1) tNil)) σ H' (.int (text.length : Int)) := fun h0 => ev_cb (ea_cons (ev_var h0) ea_nil) (rc_lenT (by omega))
    refine q_asgL (xs := List.replicate text.length (V.int 0) ++ [V.int 1]) ?_ fun pc H2 fpc eA hpc' => ?_
    · have := el_catNN (el_rep (el_lst (ea_cons (ev_c (v := V.int 0)) ea_nil) (by show 1 ≤ 100000; decide)) (lenT rfl) (by simp; omega) (by omega)) (el_lst (ea_cons (ev_c (v := V.int 1)) ea_nil) (by show 1 ≤ 100000; decide) : EvL _ (start N_ways_back [.ref p, T text]) H [V.int 1]) (by rw [rep_one]; simp; omega)
      rw [rep_one] at this
      exact this
    have npl : p ≠ pc := fun z => by have := hR.1; rw [z, fpc] at this; cases this
    show tSeq _ _ _ [some (V.ref p), some (T text), some (V.ref pc), none, none] H2
    refine q_forW (fun c => c = pc) (src_down (n := text.length) (ea_cons (ev_op (lenT rfl) ev_c rv_I0) (ea_cons (ev_un ev_c ru_neg) (ea_cons (ev_un ev_c ru_neg) ea_nil))) (by omega)) ?_
      (fun Hs i σ' H' => ∃ (vs : List V) (v3 v4 : Option V), σ' = [some (V.ref p), some (T text), some (V.ref pc), v3, v4] ∧ Exc (fun c => c = pc) Hs H' ∧ H' pc = some (.lst vs) ∧ vs.length = text.length + 1 ∧
        (∀ q, text.length - i ≤ q → q ≤ text.length → vs[q]? = some (.int ((cutsAt rep text q).length : Int))) ∧ ∀ q, q < text.length - i → vs[q]? = some (.int 0)) ?_ ?_ ?_ ?_ ?_
    · rintro c rfl
      exact ⟨by rw [hpc']; exact fun z => (nomatch z), fun z => z⟩
    · intro Hs e
      refine ⟨_, none, none, rfl, Exc.refl _, e _ _ hpc', by simp, fun q h1 h2 => ?_, fun q h1 => ?_⟩
      · have : q = text.length := by omega
        subst this
        rw [List.getElem?_append_right (by simp), List.length_replicate, Nat.sub_self, cuts_last]
        rfl
      · rw [List.getElem?_append_left (by simp; omega), List.getElem?_replicate, if_pos (by omega)]
    · rintro Hs i σ' H' ⟨_, _, _, _, h, _⟩
      exact h
    · rintro Hs i σ' Ha Hb ⟨vs, v3, v4, h0, h1, h2, h3⟩ e
      exact ⟨vs, v3, v4, h0, h1.then e, e _ _ h2, h3⟩
    · rintro Hs i y σ' H' e hi ⟨vs, v3, v4, rfl, h1, h2, h3, h6, h7⟩ rfl
      obtain ⟨place, hpl⟩ : ∃ place : Nat, (text.length : Int) - 1 - (i : Int) = (place : Int) := ⟨text.length - 1 - i, by omega⟩
      have hplt : place = text.length - 1 - i := by omega
      have hp6 : H' p = some (.tup (rep.map T)) := h1 _ _ npl (e _ _ (eA _ _ hR.1))
      show tFor _ _ _ _ [some (.ref p), some (T text), some (.ref pc), some (.int ((text.length : Int) - 1 - (i : Int))), v4] H'
      rw [hpl]
      refine s_forW (fun c => c = pc) (src_tupM (f := T) (xs := rep) (ev_var rfl) (st_of hp6)) ?_
        (fun Ht j σ' H9 => ∃ (us : List V) (v4 : Option V), σ' = [some (V.ref p), some (T text), some (V.ref pc), some (.int (place : Int)), v4] ∧ Exc (fun c => c = pc) Ht H9 ∧ H9 pc = some (.lst us) ∧ us.length = text.length + 1 ∧ (∀ q, q ≠ place → us[q]? = vs[q]?) ∧ us[place]? = some (.int (wordJ rep text place j : Int))) ?_ ?_ ?_ ?_ ?_
      · rintro c rfl
        exact ⟨by rw [h2]; exact fun z => (nomatch z), fun z => npl z.symm⟩
      · intro Ht e9
        exact ⟨vs, _, rfl, Exc.refl _, e9 _ _ h2, h3, fun _ _ => rfl, h7 place (by omega)⟩
      · rintro Ht j σ' H9 ⟨_, _, _, h, _⟩
        exact h
      · rintro Ht j σ' Ha Hb ⟨us, v4, h0, k1, k2, k3⟩ e
        exact ⟨us, v4, h0, k1.then e, e _ _ k2, k3⟩
      · rintro Ht j y σ' H9 e9 hj ⟨us, v4, rfl, k1, k2, k3, k4, k5⟩ hy
        obtain ⟨wd, hw1, rfl⟩ := at_map hy
        have hwm := List.mem_of_getElem? hw1
        have hlw : wd.length ≤ 12 := (hR.2.wd wd hwm).1
        have hsucc := wordJ_succ rep text place j
        rw [stands_at hw1, wl_of hw1] at hsucc
        show tIfS _ _ _ _ [some (V.ref p), some (T text), some (V.ref pc), some (.int (place : Int)), some (T wd)] H9
        refine s_when (b := decide (wd ≠ [] ∧ place + wd.length ≤ text.length ∧ StAt text wd place)) (et_is (et_andI (b := decide (place + wd.length ≤ text.length ∧ StAt text wd place)) (et_test (ev_op (ev_var rfl) ev_c rv_neT)) fun _ => et_B (ev_bmT (ev_var rfl) (ea_cons (ev_var rfl) (ea_cons (ev_var rfl) ea_nil)) rm_start3T)) (by by_cases z : wd = [] <;> simp [z])) (fun hb Ha ea => ?_) (fun hb Ha ea => ?_)
        · obtain ⟨g1, g2, g3⟩ := of_decide_eq_true hb
          rw [if_pos hb] at hsucc
          have k2a := ea _ _ k2
          have z1 := h6 (place + wd.length) (by have := List.length_pos_iff.mpr g1; omega) g2
          rw [← k4 _ (by have := List.length_pos_iff.mpr g1; omega)] at z1
          refine ⟨.ref pc, rfl, .int (place : Int), rfl, pc, us, place, .int (wordJ rep text place j : Int), rfl, rfl, sq_of k2a, k5, ?_⟩
          refine (ev_op (x := .ref pc) (y := .int ((place + wd.length : Nat) : Int)) (ev_var rfl) (ev_op (ev_var rfl) (ev_cb (ea_cons (ev_var rfl) ea_nil) (rc_lenT (by omega))) rv_I0) (rv_ixL (sq_of k2a) (atI_nat z1)) : Ev (tOp (L2.rIxL K) (tVar 2) (tOp (rI0 fun i j => .int (i + j)) (tVar 3) (tCB rLenT (tCons (tVar 4) tNil)))) [some (V.ref p), some (T text), some (V.ref pc), some (.int (place : Int)), some (T wd)] Ha (.int ((cutsAt rep text (place + wd.length)).length : Int))) Ha (Ex.refl _) _ fun Hb eb => ?_
          refine ⟨_, _, rfl, rfl, pc, us, (place : Int), place, rfl, rfl, eb _ _ k2a, ixN_nat (by omega), ?_⟩
          refine ⟨us.set place (.int ((wordJ rep text place j : Int) + ((cutsAt rep text (place + wd.length)).length : Int))), _, rfl, (k1.then (ea.trans eb)).upd (.inl rfl), upd_same, by rw [List.length_set]; exact k3, fun q hq => by rw [List.getElem?_set_ne (Ne.symm hq)]; exact k4 q hq, ?_⟩
          rw [List.getElem?_set_self (by omega), hsucc]
          rfl
        · rw [if_neg (by rw [hb]; exact Bool.false_ne_true), Nat.add_zero] at hsucc
          exact ⟨us, _, rfl, k1.then ea, ea _ _ k2, k3, k4, by rw [hsucc]; exact k5⟩
      · rintro Ht σ' H9 e9 ⟨us, v4, rfl, k1, k2, k3, k4, k5⟩
        refine ⟨us, _, _, rfl, fun b o nb hb => k1 b o nb (e9 b o (h1 b o nb hb)), k2, k3, fun q y1 y2 => ?_, fun q y1 => ?_⟩
        · by_cases hq : q = place
          · subst hq
            rw [k5, wordJ_all (by omega)]
          · rw [k4 q hq]
            exact h6 q (by omega) y2
        · rw [k4 q (by omega)]
          exact h7 q (by omega)
    · rintro Hs σ' H' e ⟨vs, v3, v4, rfl, h1, h2, h3, h6, h7⟩
      refine s_ret (ev_var rfl) fun H3 e3 => k pc H3 fpc ?_ ?_
      · exact fun b o hb => e3 _ _ (h1 _ _ (ne_of_none hb fpc) (e _ _ (eA _ _ hb)))
      · rw [e3 _ _ h2]
        congr 2
        apply List.ext_getElem?
        intro q
        by_cases hq : q ≤ text.length
        · rw [h6 q (by omega) hq, behN_at hq]
        · rw [List.getElem?_eq_none (by omega), List.getElem?_eq_none (by unfold numV behN; rw [List.length_map, List.length_map, List.length_range]; omega)]
end
end K21
set_option Elab.async false
set_option linter.all false
set_option maxRecDepth 100000
set_option maxHeartbeats 4000000
namespace K21
open PySem PySem.Spec PyProof.Rows L2 Evl Wc Wt Wg Ws _root_.Wd
/-! ### texts by a pile of beginnings -/
abbrev Ent := List Nat × Nat
def remP (rep : List Tx) (text : Tx) (stk : List Ent) : List (List Nat) := stk.flatMap fun e => (cutsAt rep text e.2).map (e.1 ++ ·)
theorem remP_app (rep : List Tx) (text : Tx) (a b : List Ent) : remP rep text (a ++ b) = remP rep text a ++ remP rep text b := by
  unfold remP
  rw [List.flatMap_append]
theorem remP_one (rep : List Tx) (text : Tx) (e : Ent) : remP rep text [e] = (cutsAt rep text e.2).map (e.1 ++ ·) := by
  unfold remP
  simp
def goodW (rep : List Tx) (text : Tx) (p i : Nat) : Bool := stands rep text p i && decide (0 < (cutsAt rep text (p + wl rep i)).length)
def pushed (rep : List Tx) (text : Tx) (c : List Nat) (p j : Nat) : List Ent := ((List.range j).filter (goodW rep text p)).map fun i => (c ++ [i], p + wl rep i)
theorem pushed_zero (rep : List Tx) (text : Tx) (c : List Nat) (p : Nat) : pushed rep text c p 0 = [] := rfl
theorem pushed_succ (rep : List Tx) (text : Tx) (c : List Nat) (p j : Nat) : pushed rep text c p (j + 1) = pushed rep text c p j ++ if goodW rep text p j = true then [(c ++ [j], p + wl rep j)] else [] := by
  unfold pushed
  rw [List.range_succ, List.filter_append, List.map_append]
  congr 1
  cases z : goodW rep text p j with
  | true => simp [z]
  | false => simp [z]
theorem flatMap_ne {α β : Type} {f : α → List β} {q : α → Bool} : ∀ {l : List α}, (∀ a ∈ l, q a = false → f a = []) → (l.filter q).flatMap f = l.flatMap f
  | [], _ => rfl
  | a :: l, h => by
    rw [List.flatMap_cons]
    cases z : q a with
    | true =>
      rw [List.filter_cons_of_pos z, List.flatMap_cons, flatMap_ne fun b hb => h b (List.mem_cons_of_mem _ hb)]
    | false =>
      rw [List.filter_cons_of_neg (by rw [z]; exact Bool.false_ne_true), h a List.mem_cons_self z, List.nil_append, flatMap_ne fun b hb => h b (List.mem_cons_of_mem _ hb)]
theorem pushed_all {rep : List Tx} {text : Tx} {c : List Nat} {p : Nat} (hp : p < text.length) : remP rep text (pushed rep text c p rep.length) = (cutsAt rep text p).map (c ++ ·) := by
  have e2 : (List.range rep.length).filter (goodW rep text p) = (wordsAt rep text p).filter fun i => decide (0 < (cutsAt rep text (p + wl rep i)).length) := by
    unfold wordsAt
    rw [List.filter_filter]
    congr 1
    funext i
    unfold goodW
    rw [Bool.and_comm]
  unfold remP pushed
  rw [e2, List.flatMap_map, cuts_step hp, List.map_flatMap]
  rw [flatMap_ne (fun i hi hq => by
    have := of_decide_eq_false hq
    have hz : cutsAt rep text (p + wl rep i) = [] := List.length_eq_zero_iff.mp (by omega)
    show (cutsAt rep text (p + wl rep i)).map _ = []
    rw [hz]
    rfl)]
  refine flatMap_same fun i _ => ?_
  rw [List.map_map]
  refine List.map_congr_left fun t _ => ?_
  show (c ++ [i]) ++ t = c ++ (i :: t)
  rw [List.append_assoc]
  rfl
theorem good_is {rep : List Tx} {text : Tx} {p i : Nat} (hi : i < rep.length) (h : goodW rep text p i = true) : p < p + wl rep i ∧ p + wl rep i ≤ text.length ∧ cutsAt rep text (p + wl rep i) ≠ [] := by
  unfold goodW at h
  rw [Bool.and_eq_true, decide_eq_true_eq] at h
  have hw := word_pos (List.mem_filter.mpr ⟨List.mem_range.mpr hi, h.1⟩ : i ∈ wordsAt rep text p)
  exact ⟨by omega, hw.2.1, fun z => by rw [z] at h; exact absurd h.2 (by simp)⟩
theorem pushed_last {rep : List Tx} {text : Tx} {c : List Nat} : pushed rep text c text.length rep.length = [] := by
  unfold pushed
  rw [List.filter_eq_nil_iff.mpr]
  · rfl
  · intro i hi hg
    have := good_is (List.mem_range.mp hi) hg
    omega
theorem pushed_mem {rep : List Tx} {text : Tx} {c : List Nat} {p : Nat} {e : Ent} (h : e ∈ pushed rep text c p rep.length) : ∃ i, i < rep.length ∧ e = (c ++ [i], p + wl rep i) ∧ p < p + wl rep i ∧ p + wl rep i ≤ text.length ∧ cutsAt rep text (p + wl rep i) ≠ [] := by
  obtain ⟨i, hi, rfl⟩ := List.mem_map.mp h
  obtain ⟨h1, h2⟩ := List.mem_filter.mp hi
  have hil := List.mem_range.mp h1
  exact ⟨i, hil, rfl, good_is hil h2⟩
theorem pushed_len (rep : List Tx) (text : Tx) (c : List Nat) (p j : Nat) : (pushed rep text c p j).length ≤ j := by
  unfold pushed
  rw [List.length_map]
  refine Nat.le_trans (List.length_filter_le _ _) ?_
  rw [List.length_range]
  exact Nat.le_refl _
/-- what falls -/
def szS (text : Tx) (stk : List Ent) : Nat := (stk.map fun e => 5 ^ (text.length - e.2)).sum
theorem szS_app (text : Tx) (a b : List Ent) : szS text (a ++ b) = szS text a + szS text b := by
  unfold szS
  rw [List.map_append, List.sum_append]
theorem szS_one (text : Tx) (e : Ent) : szS text [e] = 5 ^ (text.length - e.2) := by
  unfold szS
  simp
theorem szS_pushed {rep : List Tx} {text : Tx} {c : List Nat} {p : Nat} (hp : p < text.length) : ∀ j, j ≤ rep.length → szS text (pushed rep text c p j) ≤ j * 5 ^ (text.length - p - 1)
  | 0, _ => by rw [pushed_zero]; exact Nat.zero_le _
  | j + 1, hj => by
    have ih := szS_pushed hp j (by omega) (rep := rep) (c := c)
    rw [pushed_succ, szS_app, Nat.succ_mul]
    refine Nat.add_le_add ih ?_
    cases hg : goodW rep text p j with
    | true =>
      rw [if_pos rfl, szS_one]
      have := good_is (by omega) hg
      exact Nat.pow_le_pow_right (by decide) (by show text.length - (p + wl rep j) ≤ _; omega)
    | false => exact Nat.zero_le _
theorem szS_less {rep : List Tx} (h4 : rep.length ≤ 4) {text : Tx} {c : List Nat} {p : Nat} (hp : p ≤ text.length) : szS text (pushed rep text c p rep.length) < 5 ^ (text.length - p) := by
  by_cases h : p = text.length
  · subst h
    rw [pushed_last]
    exact Nat.pow_pos (by decide)
  · have h1 := szS_pushed (c := c) (show p < text.length by omega) rep.length (Nat.le_refl _)
    obtain ⟨d, hd⟩ : ∃ d, text.length - p = d + 1 := ⟨text.length - p - 1, by omega⟩
    rw [hd] at h1 ⊢
    rw [Nat.add_sub_cancel] at h1
    have h2 : 0 < (5 : Nat) ^ d := Nat.pow_pos (by decide)
    have h3 : rep.length * 5 ^ d ≤ 4 * 5 ^ d := Nat.mul_le_mul_right _ h4
    rw [Nat.pow_succ]
    omega
theorem rem_long {rep : List Tx} {text : Tx} : ∀ {stk : List Ent}, (∀ e ∈ stk, cutsAt rep text e.2 ≠ []) → stk.length ≤ (remP rep text stk).length
  | [], _ => Nat.zero_le _
  | e :: stk, h => by
    have h1 := rem_long (stk := stk) fun x hx => h x (List.mem_cons_of_mem _ hx)
    have h2 := List.length_pos_iff.mpr (h e List.mem_cons_self)
    have e1 : remP rep text (e :: stk) = remP rep text [e] ++ remP rep text stk := remP_app rep text [e] stk
    rw [e1, remP_one, List.length_append, List.length_map, List.length_cons]
    omega
/-- the pile in the heap -/
def PileAt (H : Hp) (pw : Addr) (stk : List Ent) : Prop := ∃ ts : List Addr, H pw = some (.lst (ts.map V.ref)) ∧ All2 (fun t (e : Ent) => H t = some (.tup [.int (e.2 : Int), T (tl e.1)])) ts stk
theorem PileAt.go {H H1 : Hp} {pw pf : Addr} {stk : List Ent} {xs : List V} (h : PileAt H pw stk) (hf : H pf = some (.lst xs)) (e : Exc (fun c => c = pf) H H1) (hne : pf ≠ pw) : PileAt H1 pw stk := by
  obtain ⟨ts, h1, h2⟩ := h
  exact ⟨ts, e _ _ (Ne.symm hne) h1, h2.mono fun t en r => e _ _ (fun z => by rw [z, hf] at r; cases r) r⟩
theorem PileAt.ex {H H1 : Hp} {pw : Addr} {stk : List Ent} (h : PileAt H pw stk) (e : Ex H H1) : PileAt H1 pw stk := by
  obtain ⟨ts, h1, h2⟩ := h
  exact ⟨ts, e _ _ h1, h2.mono fun t en r => e _ _ r⟩
theorem PileAt.set {H : Hp} {pw : Addr} {ts : List Addr} {stk : List Ent} {xs : List V} (h1 : H pw = some (.lst xs)) (h2 : All2 (fun t (e : Ent) => H t = some (.tup [.int (e.2 : Int), T (tl e.1)])) ts stk) : PileAt (upd H pw (.lst (ts.map V.ref))) pw stk :=
  ⟨ts, upd_same, h2.mono fun t en r => by rw [upd_ne (fun z => by rw [z, h1] at r; cases r)]; exact r⟩
def entD (e : Ent) : PyData := .tuple [.int (e.2 : Int), dT (tl e.1)]
theorem lay_ent {e : Ent} (h : ∀ i ∈ e.1, i < 4) : (entD e).canLay0 = true := by
  show ((PyData.int (e.2 : Int)).canLay0 && ((dT (tl e.1)).canLay0 && true)) = true
  rw [lay_T (a := tl e.1) fun c hc => by
    obtain ⟨i, hi, rfl⟩ := List.mem_map.mp hc
    have := h i hi
    show 97 + i < 1000
    omega]
  rfl
theorem depth_ent (e : Ent) : (entD e).depth ≤ 3 := by
  show max 0 (max 0 0) + 1 ≤ 3
  omega
theorem dp_pile {K : PySem.W.Frag} {H : Hp} {ts : List Addr} {stk : List Ent} (h : All2 (fun t (e : Ent) => H t = some (.tup [.int (e.2 : Int), T (tl e.1)])) ts stk) : DpAll K H (ts.map V.ref) (stk.map entD) := by
  induction h with
  | nil => exact .nil
  | cons r _ ih => exact .cons (.tup (st_of r) (.cons (.int _) (.cons (.str _) .nil))) ih
theorem AB_at {i c : Nat} (h : AB[i]? = some c) : c = 97 + i := by
  have hl := (List.getElem?_eq_some_iff.mp h).1
  have : i = 0 ∨ i = 1 ∨ i = 2 ∨ i = 3 := by have : i < 4 := hl; omega
  rcases this with rfl | rfl | rfl | rfl <;> (cases h; rfl)
theorem q_par2 {ta tb : TE} {i j : Nat} {σ : L2.St} {H : Hp} {tz : TS} {D : Ends} (h : ta σ H fun v H1 => tb σ H1 fun w H2 => ∃ v' w', [v, w] = [v', w'] ∧ tz D ((σ.set i (some v')).set j (some w')) H2) : tSeq (tPar i j (tCons ta (tCons tb tNil))) tz D σ H := h
section
variable {P : Program} {w : World} {K : PySem.W.Frag} {mg : Str → Option Value} {base : Heap}
/-- what holds of a pile's entries -/
def EntOk (rep : List Tx) (text : Tx) (e : Ent) : Prop := e.2 ≤ text.length ∧ e.1.length ≤ e.2 ∧ cutsAt rep text e.2 ≠ [] ∧ ∀ i ∈ e.1, i < 4
def sp_texts_back : Sp := fun vs H Q _ => ∃ (p : Addr) (rep : List Tx) (t : Tx), vs = [.ref p, T t] ∧ RepAt p rep H ∧ t.length ≤ 400 ∧ (cutsAt rep t 0).length ≤ 300 ∧ RetL ((backS rep t).map T) H Q
theorem ok_texts_back {f : Addr} {fd : FuncData} (F : Fun K "texts_back" "texts_back" st_texts_back f fd) (M : Md K mg) (C_ways_back : Cal P w K mg base "ways_back" st_ways_back 1 ["replacing", "text"] sp_ways) : FnOk P w K mg base CX0 2 f fd ["replacing", "text"] sp_texts_back := by
  have nd := sc_texts_back.nd
  refine F.ok sc_texts_back (fun vs H Q E h => ?_) (fun cdv A outer s H vs Q E hr h => ?_)
  · obtain ⟨_, _, _, rfl, _⟩ := h
    rfl
  · obtain ⟨p, rep, text, rfl, hR, hlen, hN, ret⟩ := h
    refine ⟨_, (pss_cons (ps_par (i := 2) (j := 3) rfl nd rfl rfl (by decide) rfl rfl (pa_cons (pe_cl C_ways_back hr (pa_cons (pv 0) (pa_cons (pv 1) pa_nil))) (pa_cons (pe_lst pa_nil) pa_nil)) (by rfl))
  (pss_cut (ps_set (i := 4) nd rfl (Or.inl rfl) (pe_ifExp (pt_cmpR op_gt (pe_ix (kix K (r := L2.rIxL) ix_list) (pv 2) pe_int (fun _ _ => rfl)) pe_int (nomark _)) (pe_lst (pa_cons (pe_tup (pa_cons pe_int (pa_cons (pe_sT []) pa_nil))) pa_nil)) (pe_lst pa_nil)))
  (pss_cons (ps_while PassesOwn.never (pt_cmpR (kop K (r := rNeD) (op_neD hr.units)) (pv 4) (pe_lst pa_nil) (nomark _))
  (pss_cons (ps_asg (kbm0 K (pe_bm0 PySem.F.plainAttrs_list PySem.F.slot_list_pop PySem.F.type_list_pop mt_pop (pv 4))) (kgt K (n := 2) (pg_tup rfl (pgs_cons (pg_name (i := 5) nd rfl (Or.inl rfl)) (pgs_cons (pg_name (i := 6) nd rfl (Or.inl rfl)) pgs_nil)))))
  (pss_cons (ps_if (pt_cmpR op_eqI (pv 5) (pe_callB cr_lenT (by rfl) M.n_len boot_len (pa_cons (pv 1) pa_nil)) (nomark _))
  (pss_one (ps_expr (kbm K (pe_bm PySem.F.plainAttrs_list PySem.F.slot_list_append PySem.F.type_list_append mt_append (pv 3) (pa_cons (pv 6) pa_nil)))))
  pss_nil)
  (pss_one (ps_for PassesOwn.never rfl (kizm (K := K) (pi_zipM (by rfl) M.n_zip (pa_cons (pe_gT M.c_SIGNS [97, 98, 99, 100]) (pa_cons (pv 0) pa_nil)))) (kgt K (n := 2) (pg_tup rfl (pgs_cons (pg_name (i := 7) nd rfl (Or.inl rfl)) (pgs_cons (pg_name (i := 8) nd rfl (Or.inl rfl)) pgs_nil))))
  (pss_one (ps_if (PW.pt (pw_and (pt_cmpR op_neT (pv 8) (pe_sT []) (nomark _)) (pw_and (pt_val (kbm K (pe_bm PySem.F.plainAttrs_str PySem.F.slot_str_startswith PySem.F.type_str_startswith mt_start3T (pv 1) (pa_cons (pv 8) (pa_cons (pv 5) pa_nil))))) (pw_and1 (pt_cmpR op_gt (pe_ix (kix K (r := L2.rIxL) ix_list) (pv 2) (pe_op op_add (pv 5) (pe_callB cr_lenT (by rfl) M.n_len boot_len (pa_cons (pv 8) pa_nil))) (fun _ _ => rfl)) pe_int (nomark _))))))
  (pss_one (ps_expr (kbm K (pe_bm PySem.F.plainAttrs_list PySem.F.slot_list_append PySem.F.type_list_append mt_append (pv 4) (pa_cons (pe_tup (pa_cons (pe_op op_add (pv 5) (pe_callB cr_lenT (by rfl) M.n_len boot_len (pa_cons (pv 8) pa_nil))) (pa_cons (pe_op op_addT (pv 6) (pv 7)) pa_nil))) pa_nil)))))
  pss_nil)))))))
  (pss_one (ps_ret (pe_callB (ksorted P w K hr.units) (by rfl) M.n_sorted boot_sorted (pa_cons (pv 3) pa_nil))))))), ?_⟩
    have hfew := hR.2.few
    have lenT : ∀ {σ : L2.St} {H' : Hp}, σ[1]? = some (some (T text)) → Ev (tCB rLenT (tCons (tVar 1) tNil)) σ H' (.int (text.length : Int)) := fun h0 => ev_cb (ea_cons (ev_var h0) ea_nil) (rc_lenT (by omega))
    refine q_par2 ⟨.ref p, rfl, T text, rfl, p, rep, text, rfl, hR, hlen, fun pc H1 hpc e1 h1 => ⟨by decide, fun pf hpf => ⟨_, _, rfl, ?_⟩⟩⟩
    have e2 := Ex.new (o := HO.lst []) hpf
    have hpf0 : H pf = none := fresh_back e1 hpf
    have ncf : pc ≠ pf := ne_of_none h1 hpf
    have eA : Ex H (upd H1 pf (.lst [])) := e1.trans e2
    have hc2 := e2 _ _ h1
    have hf2 : (upd H1 pf (.lst [])) pf = some (.lst []) := upd_same
    generalize upd H1 pf (.lst []) = H2 at eA hc2 hf2 ⊢
    show tCut _ _ _ [some (.ref p), some (T text), some (.ref pc), some (.ref pf), none, none, none, none, none] H2
    refine q_cut (M := fun σ' H' => ∃ (pw : Addr) (stk : List Ent), σ' = [some (.ref p), some (T text), some (.ref pc), some (.ref pf), some (.ref pw), none, none, none, none] ∧ Ex H2 H' ∧ H2 pw = none ∧ PileAt H' pw stk ∧ (remP rep text stk).Perm (cutsAt rep text 0) ∧ ∀ e ∈ stk, EntOk rep text e) ?_ fun σ' H' hM => ?_
    · refine (et_is (et_test (ev_op (ev_op (ev_var rfl) ev_c (rv_ixL (sq_of hc2) (atI_nat (j := 0) (behN_at (Nat.zero_le _))))) ev_c rv_I0)) (decide_eq_decide.mpr (by omega)) : EvT (tTest (tOp (rI0 fun i j => .bl (decide (i > j))) (tOp (L2.rIxL K) (tVar 2) (tC (.int 0))) (tC (.int 0)))) [some (.ref p), some (T text), some (.ref pc), some (.ref pf), none, none, none, none, none] H2 (decide (0 < (cutsAt rep text 0).length))) H2 (Ex.refl _) _ fun H3 e3 => ?_
      by_cases hz : 0 < (cutsAt rep text 0).length
      · rw [decide_eq_true hz, if_pos rfl]
        refine ⟨by show 2 ≤ sizeLine; decide, fun t0 ht0 => ⟨by show 1 ≤ sizeLine; decide, fun pw hpw => ?_⟩⟩
        have e4 := Ex.new (o := HO.tup [.int 0, T []]) ht0
        have e5 := Ex.new (o := HO.lst [.ref t0]) hpw
        refine ⟨pw, [([], 0)], rfl, (e3.trans e4).trans e5, fresh_back (e3.trans e4) hpw, ⟨[t0], upd_same, .one (e5 _ _ upd_same)⟩, ?_, fun e he => ?_⟩
        · rw [remP_one]
          show ((cutsAt rep text 0).map fun t => [] ++ t).Perm _
          simp
        · rw [List.mem_singleton.mp he]
          exact ⟨Nat.zero_le _, Nat.le_refl _, (fun z => by rw [show cutsAt rep text 0 = [] from z] at hz; cases hz), fun i hi => (nomatch hi)⟩
      · rw [decide_eq_false hz, if_neg Bool.false_ne_true]
        refine ⟨by decide, fun pw hpw => ?_⟩
        have e5 := Ex.new (o := HO.lst []) hpw
        refine ⟨pw, [], rfl, e3.trans e5, fresh_back e3 hpw, ⟨[], upd_same, .nil⟩, ?_, fun e he => nomatch he⟩
        have : cutsAt rep text 0 = [] := List.length_eq_zero_iff.mp (by omega)
        rw [this]
        exact List.Perm.refl _
    · obtain ⟨pw, stk0, rfl, eB, hpw2, pile0, perm0, ok0⟩ := hM
      have hpw0 : H pw = none := fresh_back eA hpw2
      have nfw : pf ≠ pw := ne_of_none hf2 hpw2
      have ncw : pc ≠ pw := ne_of_none hc2 hpw2
      have eC : Ex H H' := eA.trans eB
      have hc3 := eB _ _ hc2
      have hf3 := eB _ _ hf2
      clear hpf hpw2 eA eB e1 e2
      obtain ⟨W, hW⟩ : ∃ W : Nat → L2.St → Hp → Prop, W = fun m σ' H9 => ∃ (stk : List Ent) (fs : List (List Nat)) (v5 v6 v7 v8 : Option V), σ' = [some (.ref p), some (T text), some (.ref pc), some (.ref pf), some (.ref pw), v5, v6, v7, v8] ∧ m = szS text stk ∧ Ex H H9 ∧ H9 pc = some (.lst (numV (behN rep text))) ∧ H9 pf = some (.lst ((fs.map tl).map T)) ∧ PileAt H9 pw stk ∧ (fs ++ remP rep text stk).Perm (cutsAt rep text 0) ∧ ∀ e ∈ stk, EntOk rep text e := ⟨_, rfl⟩
      refine q_while W (szS text stk0) ?_ fun m σ' H4 hw => ?_
      · rw [hW]
        exact ⟨stk0, [], none, none, none, none, rfl, rfl, eC, hc3, hf3, pile0, perm0, ok0⟩
      rw [hW] at hw
      obtain ⟨stk, fs, v5, v6, v7, v8, rfl, hm, eD, hc4, hf4, pile, perm, ok⟩ := hw
      have hNl := perm.length_eq
      rw [List.length_append] at hNl
      have hsl := rem_long (rep := rep) (text := text) (stk := stk) fun e he => (ok e he).2.2.1
      have hempty : Ev (tOp (rNeD K) (tVar 4) (tLst tNil)) [some (.ref p), some (T text), some (.ref pc), some (.ref pf), some (.ref pw), v5, v6, v7, v8] H4 (.bl (!decide (stk = []))) := fun H5 e5 Q5 q5 => ⟨.ref pw, rfl, by decide, fun pe hpe => by
        obtain ⟨ts2, x1, x2⟩ := pile.ex (e5.trans (Ex.new (o := HO.lst []) hpe))
        refine rv_neD (b := decide (stk = [])) (d := .list (stk.map entD)) (e := .list []) (fun H6 e6 => .lst (sq_of (e6 _ _ x1)) (DpAll.ex e6 (dp_pile x2))) (fun H6 e6 => .lst (sq_of (e6 _ _ upd_same)) .nil) (shaped_list (m := 3) (fun x hx => lay_ent (ok x hx).2.2.2) (fun x _ => depth_ent x) (by decide)) (by decide) ?_ _ (Ex.refl _) _ fun H6 e6 => q5 H6 ((Ex.new hpe).trans e6)
        cases stk <;> rfl⟩
      refine ⟨!decide (stk = []), et_test hempty, fun hb H5 e5 => ?_, fun hb H5 e5 => ?_⟩
      · refine ⟨fun σ2 H2 => ∃ m', m' < m ∧ W m' σ2 H2, fun _ _ z => z, ?_⟩
        have hne : stk ≠ [] := by simpa using hb
        obtain ⟨stk', en, rfl⟩ : ∃ stk' en, stk = stk' ++ [en] := ⟨stk.dropLast, stk.getLast hne, (List.dropLast_concat_getLast hne).symm⟩
        obtain ⟨c, q⟩ := en
        obtain ⟨hq1, hq2, hq3, hq4⟩ := ok (c, q) (List.mem_append_right _ (List.mem_singleton.mpr rfl))
        have hq1 : q ≤ text.length := hq1
        have hq2 : c.length ≤ q := hq2
        have hq4 : ∀ i ∈ c, i < 4 := hq4
        have ok' : ∀ e ∈ stk', EntOk rep text e := fun e he => ok e (List.mem_append_left _ he)
        rw [List.length_append, List.length_singleton] at hsl
        rw [remP_app, remP_one] at perm
        rw [szS_app, szS_one] at hm
        obtain ⟨ts, w1, w2⟩ := pile.ex e5
        obtain ⟨ts', t, rfl, w3, w4⟩ := w2.pop
        rw [List.map_append] at w1
        have w1 : H5 pw = some (.lst (ts'.map V.ref ++ [.ref t])) := w1
        refine q_popP (i := 4) (a := 5) (b := 6) rfl w1 w4 ?_
        have pl6 := PileAt.set w1 w3
        have eE : Ex H (upd H5 pw (.lst (ts'.map V.ref))) := Ex.mut (eD.trans e5) hpw0
        have hc6 : (upd H5 pw (.lst (ts'.map V.ref))) pc = some (.lst (numV (behN rep text))) := by rw [upd_ne ncw]; exact e5 _ _ hc4
        have hf6 : (upd H5 pw (.lst (ts'.map V.ref))) pf = some (.lst ((fs.map tl).map T)) := by rw [upd_ne nfw]; exact e5 _ _ hf4
        generalize upd H5 pw (.lst (ts'.map V.ref)) = H6 at pl6 eE hc6 hf6 ⊢
        clear w1 w2 w3 w4 pile hempty hb e5 eD hc4 hf4 ok
        show tSeq _ _ _ [some (.ref p), some (T text), some (.ref pc), some (.ref pf), some (.ref pw), some (.int (q : Int)), some (T (tl c)), v7, v8] H6
        -- the loop over the signs
        have loop : ∀ (fs2 : List (List Nat)) (H7 : Hp), Ex H H7 → H7 pc = some (.lst (numV (behN rep text))) → H7 pf = some (.lst ((fs2.map tl).map T)) → PileAt H7 pw stk' → (fs2 ++ remP rep text (stk' ++ pushed rep text c q rep.length)).Perm (cutsAt rep text 0) → ∀ {D' : Ends}, D'.nx = (fun σ2 H2 => ∃ m', m' < m ∧ W m' σ2 H2) → tFor (iZipM K (tCons (tC (T [97, 98, 99, 100])) (tCons (tVar 0) tNil))) (gTup K 2 (gCons (gName 7) (gCons (gName 8) gNil))) (tIfS (tAnd (tTest (tOp rNeT (tVar 8) (tC (T [])))) (tAnd (tB (tBM K "str" rStart3T (tVar 1) (tCons (tVar 8) (tCons (tVar 5) tNil)))) (tTest (tOp (rI0 fun i j => .bl (decide (i > j))) (tOp (L2.rIxL K) (tVar 2) (tOp (rI0 fun i j => .int (i + j)) (tVar 5) (tCB rLenT (tCons (tVar 8) tNil)))) (tC (.int 0)))))) (tDrop (tBM K "list" rAppend (tVar 4) (tCons (tTup (tCons (tOp (rI0 fun i j => .int (i + j)) (tVar 5) (tCB rLenT (tCons (tVar 8) tNil))) (tCons (tOp rAddT (tVar 6) (tVar 7)) tNil))) tNil))) tNext) D' [some (.ref p), some (T text), some (.ref pc), some (.ref pf), some (.ref pw), some (.int (q : Int)), some (T (tl c)), v7, v8] H7 := fun fs2 H7 eF hc7 hf7 pl7 perm7 {D'} hD' => by
          refine s_forW (fun x => x = pw) (src_zipM (a := AB) (ys := rep.map T) ev_c (ev_var rfl) (st_of (eF _ _ hR.1))) ?_
            (fun Ht j σ' H9 => ∃ (v7 v8 : Option V), σ' = [some (.ref p), some (T text), some (.ref pc), some (.ref pf), some (.ref pw), some (.int (q : Int)), some (T (tl c)), v7, v8] ∧ Exc (fun x => x = pw) Ht H9 ∧ PileAt H9 pw (stk' ++ pushed rep text c q j)) ?_ ?_ ?_ ?_ ?_
          · rintro x rfl
            obtain ⟨ts, w1, _⟩ := pl7
            exact ⟨by rw [w1]; exact fun z => (nomatch z), fun z => by rw [z, eF _ _ hR.1] at w1; cases w1⟩
          · intro Ht e9
            exact ⟨_, _, rfl, Exc.refl _, by rw [pushed_zero, List.append_nil]; exact pl7.ex e9⟩
          · rintro Ht j σ' H9 ⟨_, _, _, z, _⟩
            exact z
          · rintro Ht j σ' Ha Hb ⟨v7, v8, z0, z1, z2⟩ e
            exact ⟨v7, v8, z0, z1.then e, z2.ex e⟩
          · rintro Ht j y σ' H9 e9 hj ⟨v7, v8, rfl, z1, z2⟩ ⟨tq, cs, yv, rfl, hy1, hy2, hy3⟩
            obtain ⟨wd, hw1, rfl⟩ := at_map hy2
            have := AB_at hy1
            subst this
            have hjl : j < rep.length := (List.getElem?_eq_some_iff.mp hw1).1
            have hlw : wd.length ≤ 12 := (hR.2.wd wd (List.mem_of_getElem? hw1)).1
            have hc9 : H9 pc = some (.lst (numV (behN rep text))) := z1 _ _ ncw (e9 _ _ hc7)
            refine ⟨tq, _, rfl, st_of hy3, rfl, _, _, rfl, _, [], rfl, rfl, ?_⟩
            show tIfS _ _ _ _ [some (.ref p), some (T text), some (.ref pc), some (.ref pf), some (.ref pw), some (.int (q : Int)), some (T (tl c)), some (T [97 + j]), some (T wd)] H9
            have hps := pushed_succ rep text c q j
            rw [wl_of hw1] at hps
            have hgood : goodW rep text q j = (!decide (wd = []) && (decide (q + wd.length ≤ text.length ∧ StAt text wd q) && decide (0 < (cutsAt rep text (q + wd.length)).length))) := by
              unfold goodW
              rw [stands_at hw1, wl_of hw1]
              by_cases z : wd = [] <;> simp [z]
            refine s_when (b := goodW rep text q j) (et_is (et_andI (b := decide (q + wd.length ≤ text.length ∧ StAt text wd q) && decide (0 < (cutsAt rep text (q + wd.length)).length)) (et_test (ev_op (ev_var rfl) ev_c rv_neT)) fun _ => et_andI (b := decide (0 < (cutsAt rep text (q + wd.length)).length)) (et_B (ev_bmT (ev_var rfl) (ea_cons (ev_var rfl) (ea_cons (ev_var rfl) ea_nil)) rm_start3T)) fun hs => ?_) hgood.symm) (fun hg Ha ea => ?_) (fun hg Ha ea => ?_)
            · have hs := (of_decide_eq_true hs).1
              exact et_is (et_test (ev_op (ev_op (x := .ref pc) (y := .int ((q + wd.length : Nat) : Int)) (ev_var rfl) (ev_op (ev_var rfl) (ev_cb (ea_cons (ev_var rfl) ea_nil) (rc_lenT (by omega))) rv_I0) (rv_ixL (sq_of hc9) (atI_nat (behN_at hs)))) ev_c rv_I0)) (decide_eq_decide.mpr (by omega))
            · rw [if_pos hg] at hps
              obtain ⟨ts, w1, w2⟩ := z2.ex ea
              have hpl := pushed_len rep text c q j
              refine s_appU (ys := [.int ((q + wd.length : Nat) : Int), T (tl c ++ [97 + j])]) w1 (ev_var rfl) (eu_tup (ea_cons (ev_op (ev_var rfl) (ev_cb (ea_cons (ev_var rfl) ea_nil) (rc_lenT (by omega))) rv_I0) (ea_cons (ev_op (ev_var rfl) (ev_var rfl) (rv_addT (by rw [tl_len]; show c.length + 1 ≤ _; omega))) ea_nil)) (by show 2 ≤ 100000; decide)) (by rw [List.length_map, w2.len, List.length_append]; omega) fun tn Hb htn eb hb => ?_
              refine ⟨_, _, rfl, (z1.then (ea.trans eb)).upd (.inl rfl), ?_⟩
              rw [hps, ← List.append_assoc]
              have := PileAt.set (eb _ _ w1) ((w2.mono fun t en r => eb _ _ r).push (b := (c ++ [j], q + wd.length)) (a := tn) (by rw [hb, tl_app]; rfl))
              rw [List.map_append] at this
              exact this
            · rw [if_neg (by rw [hg]; exact Bool.false_ne_true), List.append_nil] at hps
              rw [hps]
              exact ⟨_, _, rfl, z1.then ea, z2.ex ea⟩
          · rintro Ht σ' H9 e9 ⟨v7, v8, rfl, z1, z2⟩
            have hmin : min AB.length (rep.map T).length = rep.length := by rw [List.length_map]; show min 4 _ = _; omega
            rw [hmin] at z2
            rw [hD']
            refine ⟨szS text (stk' ++ pushed rep text c q rep.length), ?_, ?_⟩
            · have := szS_less hfew (c := c) hq1
              rw [szS_app, hm]
              show _ < _ + 5 ^ (text.length - q)
              omega
            · rw [hW]
              refine ⟨_, fs2, _, _, _, _, rfl, rfl, fun b o hb => z1 _ _ (ne_of_none hb hpw0) (e9 _ _ (eF _ _ hb)), z1 _ _ ncw (e9 _ _ hc7), z1 _ _ nfw (e9 _ _ hf7), z2, perm7, fun e he => ?_⟩
              rcases List.mem_append.mp he with z | z
              · exact ok' e z
              · obtain ⟨i, hi, rfl, g1, g2, g3⟩ := pushed_mem z
                exact ⟨g2, by show (c ++ [i]).length ≤ q + wl rep i; rw [List.length_append, List.length_singleton]; omega, g3, fun x hx => by
                  rcases List.mem_append.mp hx with y | y
                  · exact hq4 x y
                  · rw [List.mem_singleton.mp y]; omega⟩
        refine q_when (b := decide (q = text.length)) (et_is (et_test (ev_op (ev_var rfl) (lenT rfl) rv_I0)) (decide_eq_decide.mpr (by omega))) (fun hb H7 e7 => ?_) (fun hb H7 e7 => ?_)
        · have hqe := of_decide_eq_true hb
          subst hqe
          refine s_app (e7 _ _ hf6) (ev_var rfl) (ev_var rfl) (by rw [List.length_map, List.length_map]; omega) fun H8 e8 => ?_
          refine loop (fs ++ [c]) _ (Ex.mut (eE.trans (e7.trans e8)) hpf0) (by rw [upd_ne ncf]; exact e8 _ _ (e7 _ _ hc6)) (by rw [upd_same, List.map_append, List.map_append]; rfl) (((pl6.ex (e7.trans e8))).go (e8 _ _ (e7 _ _ hf6)) ((Exc.refl _).upd (.inl rfl)) nfw) ?_ rfl
          rw [pushed_last, List.append_nil]
          refine List.Perm.trans ?_ perm
          rw [cuts_last, List.append_assoc]
          refine List.Perm.append_left _ ?_
          refine List.Perm.trans List.perm_append_comm ?_
          show (remP rep text stk' ++ [c]).Perm (remP rep text stk' ++ [c ++ []])
          rw [List.append_nil]
        · have hql := of_decide_eq_false hb
          refine loop fs H7 (eE.trans e7) (e7 _ _ hc6) (e7 _ _ hf6) (pl6.ex e7) ?_ rfl
          rw [remP_app, pushed_all (by omega)]
          exact perm
      · have hz : stk = [] := by simpa using hb
        subst hz
        have perm : (fs ++ []).Perm (cutsAt rep text 0) := perm
        rw [List.append_nil] at perm
        refine s_retL (el_sorted (ev_var rfl) (sq_of (e5 _ _ hf4))) fun r H6 hr e6 h6 => ret r H6 (fresh_back (eD.trans e5) hr) ((eD.trans e5).trans e6) ?_
        rw [h6, sortT_of_perm (perm.map tl)]
        rfl
end
end K21
set_option Elab.async false
set_option linter.all false
set_option maxRecDepth 100000
set_option maxHeartbeats 4000000
namespace K21
open PySem PySem.Spec PyProof.Rows L2 Evl Wc Wt Wg Ws _root_.Wd
def RetU (xs : List V) (H : Hp) (Q : VK) : Prop := ∀ p H', H p = none → Ex H H' → H' p = some (.tup xs) → Q (.ref p) H'
theorem eu_tupL {K : PySem.W.Frag} {σ : L2.St} {H : Hp} {te : TE} {xs : List V} (h : EvL te σ H xs) : EvU (tCB (rTupS K) (tCons te tNil)) σ H xs := fun H1 e1 Q q => h H1 e1 _ fun p H2 hp e2 h2 => ⟨p, xs, rfl, .inl ⟨sq_of h2, fun l hl => q l _ (fresh_back e2 hl) (e2.trans (Ex.new hl)) upd_same⟩⟩
theorem ev_ix0 {K : PySem.W.Frag} {σ : L2.St} {H : Hp} {te : TE} {xs : List V} {v : V} (h : EvL te σ H xs) (hv : xs[0]? = some v) : Ev (tOp (L2.rIxL K) te (tC (.int 0))) σ H v := ev_opL1 h (fun H1 e1 => ev_c) fun p H1 hp e1 => rv_ixL (sq_of hp) (atI_nat (j := 0) hv)
theorem flat_mem' {ws : List Tx} {c : Nat} (h : c ∈ ws.flatten) : ∃ t ∈ ws, c ∈ t := by
  obtain ⟨t, h1, h2⟩ := List.mem_flatten.mp h
  exact ⟨t, h1, h2⟩
theorem rep_flat {rep : List Tx} (h : IsRep rep) : rep.flatten.length ≤ 48 := by
  have h1 := sum_le (m := 12) fun t ht => (h.wd t ht).1
  have := h.few
  rw [flat_len]
  omega
section
variable {P : Program} {w : World} {K : PySem.W.Frag} {mg : Str → Option Value} {base : Heap}
def sp_replaced (CE : Addr) : Sp := fun vs H Q E => ∃ (p : Addr) (rep : List Tx) (t : Tx), vs = [.ref p, T t] ∧ RepAt p rep H ∧ t.length ≤ 400 ∧ Own rep.length t ∧ ((byR rep t).length ≤ 4000 → RetV (T (byR rep t)) H Q) ∧ (4000 < (byR rep t).length → ∀ H', Ex H H' → E (.ref CE) none H')
theorem ok_replaced {f CE : Addr} {fd : FuncData} (F : Fun K "replaced" "replaced" st_replaced f fd) (M : Md K mg) (E_TooMany : Err K mg "TooMany" CE) (C_need_replacing : Cal P w K mg base "need_replacing" st_need_replacing 3 ["replacing"] sp_need_rep) (C_need_own_text : Cal P w K mg base "need_own_text" st_need_own_text 3 ["replacing", "text"] sp_need_own) (C_replaced_text : Cal P w K mg base "replaced_text" st_replaced_text 1 ["replacing", "text"] sp_replaced_text) : FnOk P w K mg base (L2.CX P w) 4 f fd ["replacing", "text"] (sp_replaced CE) := by
  have nd := sc_replaced.nd
  refine F.okX sc_replaced (fun vs H Q E h => ?_) (fun cdv A outer s H vs Q E hr h => ?_)
  · obtain ⟨_, _, _, rfl, _⟩ := h
    rfl
  · obtain ⟨p, rep, t, rfl, hR, hl, ho, k1, k2⟩ := h
    refine ⟨_, (pss_cons (ps_expr (pe_cl C_need_replacing hr (pa_cons (pv 0) pa_nil)))
  (pss_cons (ps_expr (pe_cl C_need_own_text hr (pa_cons (pv 0) (pa_cons (pv 1) pa_nil))))
  (pss_cons (ps_set (i := 2) nd rfl (Or.inl rfl) (pe_cl C_replaced_text hr (pa_cons (pv 0) (pa_cons (pv 1) pa_nil))))
  (pss_cons (ps_if (pt_cmpR op_gt (pe_callB cr_lenT (by rfl) M.n_len boot_len (pa_cons (pv 2) pa_nil)) (pe_gI M.c_MOST_MADE) (nomark _))
  (pss_one (ps_raiseE rfl (takes_of rfl rfl rfl rfl) E_TooMany))
  pss_nil)
  (pss_one (ps_ret (pv 2))))))), ?_⟩
    have hbl := by_len hR.2 ho
    refine q_drop (ev_call (ea_cons (ev_var rfl) ea_nil) fun H1 e1 Q q E => ⟨p, rep, rfl, hR.ex e1, q⟩) fun H1 e1 => ?_
    refine q_drop (ev_call (ea_cons (ev_var rfl) (ea_cons (ev_var rfl) ea_nil)) fun H2 e2 Q q E => ⟨p, rep, t, rfl, hR.ex (e1.trans e2), hl, ho, q⟩) fun H2 e2 => ?_
    refine q_asg (ev_call (ea_cons (ev_var rfl) (ea_cons (ev_var rfl) ea_nil)) fun H3 e3 Q q E => ⟨p, rep, t, rfl, hR.ex ((e1.trans e2).trans e3), hl, ho, q⟩) fun H3 e3 => ?_
    show tSeq _ _ _ [some (.ref p), some (T t), some (T (byR rep t))] H3
    have e13 := (e1.trans e2).trans e3
    refine q_when (b := decide (4000 < (byR rep t).length)) (et_is (et_test (ev_op (ev_cb (ea_cons (ev_var rfl) ea_nil) (rc_lenT (by omega))) ev_c rv_I0)) (decide_eq_decide.mpr (by omega))) (fun hb H4 e4 => k2 (of_decide_eq_true hb) H4 (e13.trans e4)) (fun hb H4 e4 => ?_)
    have := of_decide_eq_false hb
    exact s_ret (ev_var rfl) (RetV.mono (k1 (by omega)) (e13.trans e4))
/-- all texts short -/
def Short (oth rep : List Tx) : Prop := ∀ t ∈ rep, (byR oth t).length ≤ 12
def sp_doubly (CE : Addr) : Sp := fun vs H Q E => ∃ (p q : Addr) (rep oth : List Tx), vs = [.ref p, .ref q] ∧ RepAt p rep H ∧ RepAt q oth H ∧ (∀ t ∈ rep, Own oth.length t) ∧ (Short oth rep → RetU ((rep.map (byR oth)).map T) H Q) ∧ (¬ Short oth rep → ∀ H', Ex H H' → E (.ref CE) none H')
theorem ok_doubly {f CE CR : Addr} {fd : FuncData} (F : Fun K "doubly" "doubly" st_doubly f fd) (M : Md K mg) (E_TooMany : Err K mg "TooMany" CE) (E_BadReplacing : Err K mg "BadReplacing" CR) (C_need_replacing : Cal P w K mg base "need_replacing" st_need_replacing 3 ["replacing"] sp_need_rep) (C_replaced_text : Cal P w K mg base "replaced_text" st_replaced_text 1 ["replacing", "text"] sp_replaced_text) : FnOk P w K mg base (L2.CX P w) 4 f fd ["replacing", "other"] (sp_doubly CE) := by
  have nd := sc_doubly.nd
  refine F.okX sc_doubly (fun vs H Q E h => ?_) (fun cdv A outer s H vs Q E hr h => ?_)
  · obtain ⟨_, _, _, _, rfl, _⟩ := h
    rfl
  · obtain ⟨p, q, rep, oth, rfl, hR, hO, how, k1, k2⟩ := h
    refine ⟨_, (pss_cons (ps_expr (pe_cl C_need_replacing hr (pa_cons (pv 0) pa_nil)))
  (pss_cons (ps_expr (pe_cl C_need_replacing hr (pa_cons (pv 1) pa_nil)))
  (pss_cons (ps_if (pt_not (pt_val (pe_callB (kcr K (r := rAll) (cr_all rfl)) (by rfl) M.n_all boot_all (pa_cons (pe_lc (own := [("sign", 2)]) rfl nd (pi_str (kbm K (pe_bm PySem.F.plainAttrs_str PySem.F.slot_str_join PySem.F.type_str_join (kmt K (r := rJoinT) mt_joinT) (pe_sT []) (pa_cons (pv 0) pa_nil)))) (blkOk_by (N := N_doubly) (sc := defScope st_doubly) (by decide +kernel)) (fun _ _ _ _ _ => (pg_name (i := 2) nd rfl (Or.inl rfl))) (fun _ _ _ _ _ => pts_nil) (fun _ _ _ _ _ => (pe_cmpR op_inT (pv 2) (pe_slice sl_T (pe_gT M.c_SIGNS [97, 98, 99, 100]) po_none (po_some (pe_callB (kcr K (r := rLenS) call_len_seq) (by rfl) M.n_len boot_len (pa_cons (pv 1) pa_nil)))) (by rfl)))) pa_nil))))
  (pss_one (ps_raiseE rfl (takes_of rfl rfl rfl rfl) E_BadReplacing))
  pss_nil)
  (pss_cons (ps_set (i := 3) nd rfl (Or.inl rfl) (pe_callTy (kcr K (r := rTupS) call_tuple_of) (by rfl) M.n_tuple boot_tuple (pa_cons (pe_lc (own := [("text", 4)]) rfl nd (kit K (pi_tup (pv 0))) (blkOk_by (N := N_doubly) (sc := defScope st_doubly) (by decide +kernel)) (fun _ _ _ _ _ => (pg_name (i := 4) nd rfl (Or.inl rfl))) (fun _ _ _ _ _ => pts_nil) (fun _ _ _ _ _ => (pe_cl C_replaced_text hr (pa_cons (pv 1) (pa_cons (pv 4) pa_nil))))) pa_nil)))
  (pss_cons (ps_if (pt_val (pe_callB (kcr K (r := rAny) (cr_any rfl)) (by rfl) M.n_any boot_any (pa_cons (pe_lc (own := [("text", 4)]) rfl nd (kit K (pi_tup (pv 3))) (blkOk_by (N := N_doubly) (sc := defScope st_doubly) (by decide +kernel)) (fun _ _ _ _ _ => (pg_name (i := 4) nd rfl (Or.inl rfl))) (fun _ _ _ _ _ => pts_nil) (fun _ _ _ _ _ => (pe_cmpR op_gt (pe_callB cr_lenT (by rfl) M.n_len boot_len (pa_cons (pv 4) pa_nil)) (pe_gI M.c_MOST_LETTERS) (nomark _)))) pa_nil)))
  (pss_one (ps_raiseE rfl (takes_of rfl rfl rfl rfl) E_TooMany))
  pss_nil)
  (pss_one (ps_ret (pv 3)))))))), ?_⟩
    have hfew := hR.2.few
    have hfl := rep_flat hR.2
    have hsum : (rep.map List.length).sum ≤ 48 := by rw [← flat_len]; exact hfl
    refine q_drop (ev_call (ea_cons (ev_var rfl) ea_nil) fun H1 e1 Q q E => ⟨p, rep, rfl, hR.ex e1, q⟩) fun H1 e1 => ?_
    refine q_drop (ev_call (ea_cons (ev_var rfl) ea_nil) fun H2 e2 Q q' E => ⟨q, oth, rfl, hO.ex (e1.trans e2), q'⟩) fun H2 e2 => ?_
    have e12 := e1.trans e2
    refine q_when (b := false) (et_is (et_not (et_B (ev_allOwn (j := 2) (i := 1) (t := rep.flatten) (ev_bmT ev_c (ea_cons (ev_var rfl) ea_nil) (rm_join (.inr (st_of (e12 _ _ hR.1))) (by omega))) (hO.ex e12) (fun _ => rfl) (fun _ => rfl) (fun _ => rfl) (by omega) (fun c hc => by
      obtain ⟨t, ht, hct⟩ := flat_mem' hc
      exact how t ht c hct)))) rfl) (fun z => by cases z) (fun _ H3 e3 => ?_)
    have e13 := e12.trans e3
    have hlc : EvL (tLc (iTup K (tVar 0)) (gName 4) tYes (tCall sp_replaced_text [] E0 (tCons (tVar 1) (tCons (tVar 4) tNil))) [4]) (start N_doubly [.ref p, .ref q]) H3 ((rep.map (byR oth)).map T) := by
      rw [List.map_map]
      exact el_lcM (j := 4) (vs := [4]) (f := T) (g := fun t => T (byR oth t)) rep (src_tupM (ev_var rfl) (st_of (e13 _ _ hR.1))) (by omega) (fun _ => rfl) fun t H4 e4 ht => ev_call (ea_cons (ev_var rfl) (ea_cons (ev_var rfl) ea_nil)) fun H5 e5 Q q' E => ⟨q, oth, t, rfl, hO.ex ((e13.trans e4).trans e5), by have := (hR.2.wd t ht).1; omega, how t ht, q'⟩
    refine q_asgU (eu_tupL hlc) fun pd H4 hpd e4 h4 => ?_
    have e14 := e13.trans e4
    show tSeq _ _ _ [some (.ref p), some (.ref q), none, some (.ref pd), none] H4
    have hbl : ∀ t ∈ rep, (byR oth t).length ≤ 144 := fun t ht => by
      have h1 := by_len hO.2 (how t ht)
      have := (hR.2.wd t ht).1
      omega
    refine q_when (b := (rep.map (byR oth)).any fun t => decide (12 < t.length)) (et_B (ev_cbL (el_lcM (j := 4) (vs := [4]) (f := T) (g := fun t => V.bl (decide (12 < t.length))) (rep.map (byR oth)) (src_tupM (ev_var rfl) (st_of h4)) (by rw [List.length_map]; omega) (fun _ => rfl) fun t H5 e5 ht => ?_) fun r H5 hr e5 => rc_anyM (sq_of hr))) (fun hb H5 e5 => ?_) (fun hb H5 e5 => ?_)
    · obtain ⟨t', ht', rfl⟩ := List.mem_map.mp ht
      have := hbl t' ht'
      exact ev_is (ev_op (ev_cb (ea_cons (ev_var rfl) ea_nil) (rc_lenT (by omega))) ev_c rv_I0) (congrArg V.bl (decide_eq_decide.mpr (by omega)))
    · refine k2 (fun hs => ?_) H5 (e14.trans e5)
      rw [List.any_eq_true] at hb
      obtain ⟨x, hx, hxl⟩ := hb
      obtain ⟨t, ht, rfl⟩ := List.mem_map.mp hx
      have h1 := hs t ht
      have h2 := of_decide_eq_true hxl
      omega
    · refine s_ret (ev_var rfl) fun H6 e6 => k1 (fun t ht => ?_) pd H6 (fresh_back e13 hpd) ((e14.trans e5).trans e6) ((e5.trans e6) _ _ h4)
      rw [List.any_eq_false] at hb
      have := hb _ (List.mem_map_of_mem ht)
      have h2 : ¬ (12 < (byR oth t).length) := fun z => this (decide_eq_true z)
      omega
/-- what comes of putting back -/
structure BackTo (CE : Addr) (rep : List Tx) (text : Tx) (H : Hp) (Q : VK) (E : XK) : Prop where
  none_ : [] ∈ rep → 0 < (cutsAt rep text 0).length → RetV .non H Q
  no : [] ∈ rep → (cutsAt rep text 0).length = 0 → RetL [] H Q
  all : [] ∉ rep → (cutsAt rep text 0).length ≤ 300 → RetL ((backS rep text).map T) H Q
  many : [] ∉ rep → 300 < (cutsAt rep text 0).length → ∀ H', Ex H H' → E (.ref CE) none H'
def sp_put_back (CE : Addr) : Sp := fun vs H Q E => ∃ (p : Addr) (rep : List Tx) (text : Tx), vs = [.ref p, T text] ∧ RepAt p rep H ∧ text.length ≤ 400 ∧ (∀ c ∈ text, abcd c) ∧ BackTo CE rep text H Q E
theorem ok_put_back {f CE : Addr} {fd : FuncData} (F : Fun K "put_back" "put_back" st_put_back f fd) (M : Md K mg) (E_TooMany : Err K mg "TooMany" CE) (C_need_replacing : Cal P w K mg base "need_replacing" st_need_replacing 3 ["replacing"] sp_need_rep) (C_need_text : Cal P w K mg base "need_text" st_need_text 3 ["text"] sp_need_text) (C_ways_back : Cal P w K mg base "ways_back" st_ways_back 1 ["replacing", "text"] sp_ways) (C_texts_back : Cal P w K mg base "texts_back" st_texts_back 2 ["replacing", "text"] sp_texts_back) : FnOk P w K mg base (L2.CX P w) 4 f fd ["replacing", "text"] (sp_put_back CE) := by
  have nd := sc_put_back.nd
  refine F.okX sc_put_back (fun vs H Q E h => ?_) (fun cdv A outer s H vs Q E hr h => ?_)
  · obtain ⟨_, _, _, rfl, _⟩ := h
    rfl
  · obtain ⟨p, rep, text, rfl, hR, hlen, hsg, out⟩ := h
    refine ⟨_, (pss_cons (ps_expr (pe_cl C_need_replacing hr (pa_cons (pv 0) pa_nil)))
  (pss_cons (ps_expr (pe_cl C_need_text hr (pa_cons (pv 1) pa_nil)))
  (pss_cons (ps_set (i := 2) nd rfl (Or.inl rfl) (pe_ix (kix K (r := L2.rIxL) ix_list) (pe_cl C_ways_back hr (pa_cons (pv 0) (pa_cons (pv 1) pa_nil))) pe_int (fun _ _ => rfl)))
  (pss_cons (ps_if (pt_cmpR (kop K (r := fun K => rIn K false) op_in_seq) (pe_sT []) (pv 0) (by rfl))
  (pss_one (ps_ret (pe_ifExp (pt_cmpR op_gt (pv 2) pe_int (nomark _)) pe_non (pe_lst pa_nil))))
  pss_nil)
  (pss_cons (ps_if (pt_cmpR op_gt (pv 2) (pe_gI M.c_MOST_BACK) (nomark _))
  (pss_one (ps_raiseE rfl (takes_of rfl rfl rfl rfl) E_TooMany))
  pss_nil)
  (pss_one (ps_ret (pe_cl C_texts_back hr (pa_cons (pv 0) (pa_cons (pv 1) pa_nil)))))))))), ?_⟩
    refine q_drop (ev_call (ea_cons (ev_var rfl) ea_nil) fun H1 e1 Q q E => ⟨p, rep, rfl, hR.ex e1, q⟩) fun H1 e1 => ?_
    refine q_drop (ev_call (ea_cons (ev_var rfl) ea_nil) fun H2 e2 Q q E => ⟨text, rfl, by omega, areSigns_ok (m := 400) hlen hsg, q⟩) fun H2 e2 => ?_
    have e12 := e1.trans e2
    refine q_asg (ev_ix0 (el_call (ea_cons (ev_var rfl) (ea_cons (ev_var rfl) ea_nil)) fun H3 e3 Q q E => ⟨p, rep, text, rfl, hR.ex (e12.trans e3), hlen, q⟩) (behN_at (Nat.zero_le _))) fun H3 e3 => ?_
    have e13 := e12.trans e3
    show tSeq _ _ _ [some (.ref p), some (T text), some (.int ((cutsAt rep text 0).length : Int))] H3
    refine q_when (b := decide ([] ∈ rep)) (et_is (et_test (ev_op ev_c (ev_var rfl) (rv_isT (st_of (e13 _ _ hR.1)) rfl (flat_T rep)))) (inV_T [] rep)) (fun hb H4 e4 => ?_) (fun hb H4 e4 => ?_)
    · have hm := of_decide_eq_true hb
      refine s_retIf (b := decide (0 < (cutsAt rep text 0).length)) (et_is (et_test (ev_op (ev_var rfl) ev_c rv_I0)) (decide_eq_decide.mpr (by omega))) (fun hc H5 e5 => ?_) (fun hc H5 e5 => ?_)
      · exact s_ret ev_c (RetV.mono (out.none_ hm (of_decide_eq_true hc)) ((e13.trans e4).trans e5))
      · have := of_decide_eq_false hc
        exact s_retL (el_lst ea_nil (by decide)) (RetL.mono (out.no hm (by omega)) ((e13.trans e4).trans e5))
    · have hm := of_decide_eq_false hb
      refine q_when (b := decide (300 < (cutsAt rep text 0).length)) (et_is (et_test (ev_op (ev_var rfl) ev_c rv_I0)) (decide_eq_decide.mpr (by omega))) (fun hc H5 e5 => out.many hm (of_decide_eq_true hc) H5 ((e13.trans e4).trans e5)) (fun hc H5 e5 => ?_)
      have hc := of_decide_eq_false hc
      have e15 := (e13.trans e4).trans e5
      exact s_retL (el_call (ea_cons (ev_var rfl) (ea_cons (ev_var rfl) ea_nil)) fun H6 e6 Q q E => ⟨p, rep, text, rfl, hR.ex (e15.trans e6), hlen, by omega, q⟩) (RetL.mono (out.all hm (by omega)) e15)
end
end K21
set_option Elab.async false
set_option linter.all false
set_option maxRecDepth 100000
set_option maxHeartbeats 4000000
namespace K21
open PySem PySem.Spec PyProof.Rows L2 Evl Wc Wt Wg Ws _root_.Wd
theorem find_AB {c : Nat} {r : Int} (h1 : 97 ≤ c) (h2 : c ≤ 100) (h : FindT AB [c] 0 r) : r = ((c - 97 : Nat) : Int) := by
  have hc := at_AB h1 h2
  cases h with
  | at_ k g1 g2 g3 g4 =>
    have hk : k = 0 ∨ k = 1 ∨ k = 2 ∨ k = 3 := by
      have : k + 1 ≤ 4 := g2
      omega
    have g5 : (AB.drop k).take 1 = [c] := g3
    rcases hk with rfl | rfl | rfl | rfl <;> (have := List.cons.inj g5; have := this.1; subst this; rfl)
  | no g =>
    exfalso
    refine g (c - 97) (Nat.zero_le _) (by show c - 97 + 1 ≤ 4; omega) ?_
    show (AB.drop (c - 97)).take 1 = [c]
    rcases hc with rfl | rfl | rfl | rfl <;> rfl
theorem wp_ifT {tu : TT} {ta tb : TE} {σ : L2.St} {H : Hp} {Q : VK} (h : EvT tu σ H true) (k : ∀ H1, Ex H H1 → ta σ H1 Q) : tIf tu ta tb σ H Q := h H (Ex.refl _) _ fun H1 e1 => by
  show (if (true : Bool) = true then ta σ H1 Q else tb σ H1 Q)
  rw [if_pos rfl]
  exact k H1 e1
theorem wp_ifF {tu : TT} {ta tb : TE} {σ : L2.St} {H : Hp} {Q : VK} (h : EvT tu σ H false) (k : ∀ H1, Ex H H1 → tb σ H1 Q) : tIf tu ta tb σ H Q := h H (Ex.refl _) _ fun H1 e1 => by
  show (if (false : Bool) = true then ta σ H1 Q else tb σ H1 Q)
  rw [if_neg Bool.false_ne_true]
  exact k H1 e1
section
variable {P : Program} {w : World} {K : PySem.W.Frag} {mg : Str → Option Value} {base : Heap}
def sp_law_so : Sp := fun vs H Q _ => ∃ (a b : Bool), vs = [.bl a, .bl b] ∧ RetV (.bl (decide (a = b))) H Q
theorem ok__law_so {f : Addr} {fd : FuncData} (F : Fun K "_law_so" "_law_so" st__law_so f fd) (M : Md K mg) : FnOk P w K mg base CX0 1 f fd ["actual", "due"] sp_law_so := by
  have nd := sc__law_so.nd
  refine F.ok sc__law_so (fun vs H Q E h => ?_) (fun cdv A outer s H vs Q E hr h => ?_)
  · obtain ⟨_, _, rfl, _⟩ := h
    rfl
  · obtain ⟨a, b, rfl, k⟩ := h
    refine ⟨_, (pss_one (ps_ret (pe_and (pe_callB (kcr K (r := rIsiB) cr_isi) (by rfl) M.n_isinstance boot_isinstance (pa_cons (pv 0) (pa_cons (pe_bltn (v := .ty "bool") rfl M.n_bool boot_bool rfl) pa_nil))) (pe_one (pe_cmpR op_eqB (pv 0) (pv 1) (nomark _)))))), ?_⟩
    exact s_ret (ev_andV (ev_cb (ea_cons (ev_var rfl) (ea_cons ev_c ea_nil)) (rc_isi (fun _ _ => .base (.bl _)) k_bool_bool)) fun _ => ev_op (ev_var rfl) (ev_var rfl) rv_eqB) k
theorem ok__law_list {f : Addr} {fd : FuncData} (F : Fun K "_law_list" "_law_list" st__law_list f fd) (M : Md K mg) : FnOk P w K mg base CX0 1 f fd ["actual", "due"] (sp_list_same K) := by
  have nd := sc__law_list.nd
  refine F.ok sc__law_list (fun vs H Q E h => ?_) (fun cdv A outer s H vs Q E hr h => ?_)
  · obtain ⟨_, _, _, rfl, _⟩ := h
    rfl
  · obtain ⟨p, q, xs, rfl, hp, hq, hx, hl, k⟩ := h
    refine ⟨_, (pss_cons (ps_if (PW.pt (pw_or (pt_not (pt_val (pe_callB (kcr K (r := rIsiB) cr_isi) (by rfl) M.n_isinstance boot_isinstance (pa_cons (pv 0) (pa_cons (pe_bltn (v := .ty "list") rfl M.n_list boot_list rfl) pa_nil))))) (pw_or1 (pt_cmpR (kop K (r := rNeD) (op_neD hr.units)) (pv 0) (pv 1) (nomark _)))))
  (pss_one (ps_ret pe_bl))
  pss_nil)
  (pss_one (ps_ret (pe_cmpR (kop K (r := rEqD) (op_eqD hr.units)) (pe_lc (own := [("part", 2)]) rfl nd (kil K (pi_list (pv 0))) (blkOk_by (N := N__law_list) (sc := defScope st__law_list) (by decide +kernel)) (fun _ _ _ _ _ => (pg_name (i := 2) nd rfl (Or.inl rfl))) (fun _ _ _ _ _ => (pts_one (pt_val (pe_callB (kcr K (r := rIsiB) cr_isi) (by rfl) M.n_isinstance boot_isinstance (pa_cons (pv 2) (pa_cons (pe_bltn (v := .ty "bool") rfl M.n_bool boot_bool rfl) pa_nil)))))) (fun _ _ _ _ _ => (pv 2))) (pe_lst pa_nil) (nomark _))))), ?_⟩
    obtain ⟨ds, hd, hlay, hdep⟩ := flat_data (K := K) (H := H) hx
    have hsh : SeqAt.shaped (.list ds) = true := shaped_of hlay (by show PyData.depthAll ds + 1 ≤ 64; omega)
    have hrefl : PyData.eqv (.list ds) (.list ds) = true := SeqAt.eqv_refl _ hlay
    refine q_when (b := false) (et_is (et_or (et_not (et_B (ev_cb (ea_cons (ev_var rfl) (ea_cons ev_c ea_nil)) (rc_isi (b := true) (fun H1 e => .base (.lst (e _ _ hp))) k_list_list)))) fun _ => et_test (ev_op (ev_var rfl) (ev_var rfl) (rv_neD (d := .list ds) (e := .list ds) (b := true) (fun H1 e => .lst (ex_l e (sq_of hp)) (DpAll.ex e hd)) (fun H1 e => .lst (ex_l e hq) (DpAll.ex e hd)) hsh hsh hrefl))) rfl) (fun z => by cases z) (fun _ H1 e1 => ?_)
    have hpart : ∀ v ∈ xs, ∃ t, kitB t "bool" = some false ∧ ∀ H2 : Hp, TyX K H2 v (.type t) := fun v hv => by
      obtain ⟨d, hd⟩ := hx v hv
      cases hd with
      | int i => exact ⟨"int", k_int_bool, fun H2 => .base (.int i)⟩
      | str _ => exact ⟨"str", k_str_bool, fun H2 => .base (.str _)⟩
    refine s_ret (ev_opLL (xs := []) (ys := []) ?_ (el_lst ea_nil (by decide)) (fun p1 q1 H2 h1 h2 e2 => rv_eqD (d := .list []) (e := .list []) (b := true) (fun H3 e3 => .lst (ex_l e3 (sq_of h1)) .nil) (fun H3 e3 => .lst (ex_l e3 (sq_of h2)) .nil) (by decide) (by decide) (by decide))) (RetV.mono k e1)
    have h0 := el_lcX (j := 2) (te := tVar 2) (t := tB (tCB (rIsiB K) (tCons (tVar 2) (tCons (tC (.ty "bool")) tNil)))) (σ := start N__law_list [.ref p, .ref q]) (H := H1) (vs := [2]) (p := fun _ => false) (g := fun v => v) xs (fun a x _ => x = a) (src_list (ev_var rfl : Ev (tVar 0) (start N__law_list [.ref p, .ref q]) H1 (.ref p)) (sq_of (K := K) (e1 _ _ hp))) (by omega) (fun _ => rfl) rfl (fun i x _ hi => ⟨x, hi, rfl⟩) (fun v x H2 e2 hv hr => by
      subst hr
      obtain ⟨t, ht, hty⟩ := hpart x hv
      exact et_B (ev_cb (ea_cons (ev_var rfl) (ea_cons ev_c ea_nil)) (rc_isi (fun H3 _ => hty H3) ht))) (fun _ _ _ _ _ _ z => by cases z)
    rw [List.filter_eq_nil_iff.mpr (fun _ _ z => by cases z)] at h0
    exact h0
theorem ok__law_by {f : Addr} {fd : FuncData} (F : Fun K "_law_by" "_law_by" st__law_by f fd) (M : Md K mg) : FnOk P w K mg base CX0 1 f fd ["replacing", "text"] sp_replaced_text := by
  have nd := sc__law_by.nd
  refine F.ok sc__law_by (fun vs H Q E h => ?_) (fun cdv A outer s H vs Q E hr h => ?_)
  · obtain ⟨_, _, _, rfl, _⟩ := h
    rfl
  · obtain ⟨p, rep, t, rfl, hR, hl, ho, k⟩ := h
    refine ⟨_, (pss_cons (ps_set (i := 2) nd rfl (Or.inl rfl) (pe_lst pa_nil))
  (pss_cons (ps_for PassesOwn.never rfl (pi_str (pv 1)) (pg_name (i := 3) nd rfl (Or.inl rfl))
  (pss_one (ps_expr (kbm K (pe_bm PySem.F.plainAttrs_list PySem.F.slot_list_append PySem.F.type_list_append mt_append (pv 2) (pa_cons (pe_ix (kix K (r := L2.rIxT) ix_tup) (pv 0) (kbm K (pe_bm PySem.F.plainAttrs_str PySem.F.slot_str_find PySem.F.type_str_find mt_findT (pe_sT [97, 98, 99, 100]) (pa_cons (pv 3) pa_nil))) (fun _ _ => rfl)) pa_nil))))))
  (pss_one (ps_ret (kbm K (pe_bm PySem.F.plainAttrs_str PySem.F.slot_str_join PySem.F.type_str_join (kmt K (r := rJoinT) mt_joinT) (pe_sT []) (pa_cons (pv 2) pa_nil))))))), ?_⟩
    refine q_asgL (el_lst ea_nil (by decide)) fun pf H1 hpf e1 h1 => ?_
    show tSeq _ _ _ [some (.ref p), some (T t), some (.ref pf), none] H1
    have np : pf ≠ p := fun z => by rw [z, hR.1] at hpf; cases hpf
    refine q_forW (fun c => c = pf) (src_str (a := t) (ev_var rfl)) ?_
      (fun Hs i σ' H' => ∃ (v3 : Option V), σ' = [some (.ref p), some (T t), some (.ref pf), v3] ∧ Exc (fun c => c = pf) Hs H' ∧ H' pf = some (.lst (((t.take i).map fun c => rep.getD (c - 97) []).map T))) ?_ ?_ ?_ ?_ ?_
    · rintro c rfl
      exact ⟨by rw [h1]; exact fun z => (nomatch z), fun z => z⟩
    · intro Hs e
      exact ⟨none, rfl, Exc.refl _, e _ _ h1⟩
    · rintro Hs i σ' H' ⟨_, _, h, _⟩
      exact h
    · rintro Hs i σ' Ha Hb ⟨v3, h0, h2, h3⟩ e
      exact ⟨v3, h0, h2.then e, e _ _ h3⟩
    · rintro Hs i x σ' H' e hi ⟨v3, rfl, h2, h3⟩ hx
      obtain ⟨c, hc, rfl⟩ := at_map hx
      have hcc := ho c (List.mem_of_getElem? hc)
      have hil : c - 97 < rep.length := by omega
      have hR' : H' p = some (.tup (rep.map T)) := h2 _ _ (Ne.symm np) (e _ _ (e1 _ _ hR.1))
      have htk : ((t.take (i + 1)).map fun c => rep.getD (c - 97) []).map T = ((t.take i).map fun c => rep.getD (c - 97) []).map T ++ [T (rep.getD (c - 97) [])] := by
        rw [List.take_add_one, hc, List.map_append, List.map_append]
        rfl
      show tDrop _ _ [some (.ref p), some (T t), some (.ref pf), some (T [c])] H'
      refine ⟨.ref pf, rfl, .inl ⟨rfl, _, sq_of h3⟩, .ref p, rfl, rfl, T [c], rfl, AB, [c], rfl, rfl, fun r hr => ?_⟩
      have hr2 := find_AB hcc.1 (by have := hR.2.few; omega) hr
      subst hr2
      refine ⟨p, _, _, T (rep.getD (c - 97) []), rfl, rfl, st_of hR', atI_nat (by rw [List.getElem?_map, List.getElem?_eq_getElem hil, List.getD_eq_getElem?_getD, List.getElem?_eq_getElem hil]; rfl), ?_⟩
      refine ⟨pf, _, _, rfl, rfl, h3, sz_lt (by rw [List.length_map, List.length_map, List.length_take]; omega), ?_⟩
      exact ⟨_, rfl, h2.upd (.inl rfl), by rw [upd_same, htk]⟩
    · rintro Hs σ' H' e ⟨v3, rfl, h2, h3⟩
      rw [List.take_length] at h3
      have hsum : ((t.map fun c => rep.getD (c - 97) []).map List.length).sum ≤ 16777216 := by
        have h1 := by_len hR.2 ho
        unfold byR at h1
        rw [List.length_flatten] at h1
        omega
      have eX : Ex H H' := fun b o hb => h2 _ _ (ne_of_none hb hpf) (e _ _ (e1 _ _ hb))
      exact s_ret (ev_bmT ev_c (ea_cons (ev_var rfl) ea_nil) (rm_join (.inl (sq_of h3)) hsum)) (RetV.mono k eX)
/-- the two errors and their base -/
structure ErrT (K : PySem.W.Frag) (mg : Str → Option Value) (CE CR CB : Addr) : Prop where
  xE : Err K mg "TooMany" CE
  iE : ErrI K CE
  gE : ∃ u, mg "TooMany" = some u ∧ RelV (.ref CE) u
  gR : ∃ u, mg "BadReplacing" = some u ∧ RelV (.ref CR) u
  gB : ∃ u, mg "CutError" = some u ∧ RelV (.ref CB) u
  eb : PySem.W.kitOne K (.ref CE) (.ref CB) = some true
  er : PySem.W.kitOne K (.ref CE) (.ref CR) = some false
theorem rc_err {D a B : Addr} {b : Bool} {H : Hp} (h : PySem.W.kitOne K (.ref D) (.ref B) = some b) : RC (rIsE2 K D a (.ref D) none) [.ref a, .ref B] H (.bl b) := fun H1 _ _ q => is_err h (q H1 (Ex.refl _))
abbrev tMany : Tx := [109, 97, 110, 121]
abbrev tTold : Tx := [116, 111, 108, 100]
/-- a pair of a word and what is told -/
def Told (v : V) (H : Hp) (Q : VK) : Prop := ∀ p H', Ex H H' → H' p = some (.tup [T tTold, v]) → Q (.ref p) H'
def Many (H : Hp) (Q : VK) : Prop := ∀ p H', Ex H H' → H' p = some (.tup [T tMany, .bl true]) → Q (.ref p) H'
def sp_asked : Sp := fun vs H Q _ => 
  (∃ (p : Addr) (rep : List Tx) (t : Tx), vs = [.int 0, .ref p, T t] ∧ RepAt p rep H ∧ t.length ≤ 400 ∧ Own rep.length t ∧ ((byR rep t).length ≤ 4000 → Told (T (byR rep t)) H Q) ∧ (4000 < (byR rep t).length → Many H Q)) ∨
  (∃ (p : Addr) (rep : List Tx) (t : Tx), vs = [.int 1, .ref p, T t] ∧ RepAt p rep H ∧ t.length ≤ 400 ∧ (∀ c ∈ t, abcd c) ∧ ([] ∈ rep → 0 < (cutsAt rep t 0).length → Told .non H Q) ∧
    (∀ xs, ([] ∈ rep ∧ (cutsAt rep t 0).length = 0 ∧ xs = [] ∨ [] ∉ rep ∧ (cutsAt rep t 0).length ≤ 300 ∧ xs = (backS rep t).map T) → ∀ p q H', Ex H H' → H' p = some (.tup [T tTold, .ref q]) → H q = none → H' q = some (.lst xs) → Q (.ref p) H') ∧
    ([] ∉ rep → 300 < (cutsAt rep t 0).length → Many H Q)) ∨
  (∃ (p q : Addr) (rep oth : List Tx), vs = [.int 2, .ref p, .ref q] ∧ RepAt p rep H ∧ RepAt q oth H ∧ (∀ t ∈ rep, Own oth.length t) ∧
    (Short oth rep → ∀ p q H', Ex H H' → H' p = some (.tup [T tTold, .ref q]) → H q = none → H' q = some (.tup ((rep.map (byR oth)).map T)) → Q (.ref p) H') ∧ (¬ Short oth rep → Many H Q))
theorem ok__law_asked {f CE CR CB : Addr} {fd : FuncData} (F : Fun K "_law_asked" "_law_asked" st__law_asked f fd) (M : Md K mg) (X : ErrT K mg CE CR CB) (S_replaced : CalS P w K mg base "replaced" st_replaced 4 ["replacing", "text"] (sp_replaced CE)) (S_put_back : CalS P w K mg base "put_back" st_put_back 4 ["replacing", "text"] (sp_put_back CE)) (S_doubly : CalS P w K mg base "doubly" st_doubly 4 ["replacing", "other"] (sp_doubly CE)) : FnOk P w K mg base CX0 5 f fd ["way", "one", "other"] sp_asked := by
  have nd := sc__law_asked.nd
  refine F.ok sc__law_asked (fun vs H Q E h => ?_) (fun cdv A outer s H vs Q E hr h => ?_)
  · rcases h with ⟨_, _, _, rfl, _⟩ | ⟨_, _, _, rfl, _⟩ | ⟨_, _, _, _, rfl, _⟩ <;> rfl
  · refine ⟨_, pss_cons (ps_set (i := 3) nd rfl (Or.inl rfl) (pe_tup (pa_cons (pe_sT tMany) (pa_cons pe_bl pa_nil))))
      (pss_cons (ps_try_as (i := 4) (tb := fun W => tAsg (tTup (tCons (tC (T tTold)) (tCons (tIf (tTest (tOp (rI0 fun i j => .bl (decide (i = j))) (tVar 0) (tC (.int 0)))) (tCallS (sp_replaced CE) (WE W) (tCons (tVar 1) (tCons (tVar 2) tNil))) (tIf (tTest (tOp (rI0 fun i j => .bl (decide (i = j))) (tVar 0) (tC (.int 1)))) (tCallS (sp_put_back CE) (WE W) (tCons (tVar 1) (tCons (tVar 2) tNil))) (tCallS (sp_doubly CE) (WE W) (tCons (tVar 1) (tCons (tVar 2) tNil))))) tNil))) (gName 3)) (ts := fun a cls d => tAsg (tTup (tCons (tC (T tMany)) (tCons (tAndV (tCB (rIsE2 K CE a cls d) (tCons (tVar 4) (tCons (tC (.ref CB)) tNil))) (tNotV (tCB (rIsE2 K CE a cls d) (tCons (tVar 4) (tCons (tC (.ref CR)) tNil))))) tNil))) (gName 3)) (Wout := fun _ _ _ _ => False) rfl rfl nd rfl rfl ⟨rfl, by decide, Or.inl X.xE.gP⟩ takes0
          (fun W pn xe tk _ => pss_one (ps_set (i := 3) nd rfl (Or.inl rfl) (by exact (pe_tup (pa_cons (pe_sT tTold) (pa_cons (pe_ifExp (pt_cmpR op_eqI (pv 0) pe_int (nomark _)) (pe_clS S_replaced hr tk (by exact (pa_cons (pv 1) (pa_cons (pv 2) pa_nil)))) (pe_ifExp (pt_cmpR op_eqI (pv 0) pe_int (nomark _)) (pe_clS S_put_back hr tk (by exact (pa_cons (pv 1) (pa_cons (pv 2) pa_nil)))) (pe_clS S_doubly hr tk (by exact (pa_cons (pv 1) (pa_cons (pv 2) pa_nil)))))) pa_nil))))))
          (fun a oe cls d pn hz hf => pss_one (ps_set (i := 3) nd rfl (Or.inl rfl) (by exact (pe_tup (pa_cons (pe_sT tMany) (pa_cons (pe_and (pe_callB (call_isE2 X.iE.cl hz hf) (by rfl) M.n_isinstance boot_isinstance (pa_cons (pv 4) (pa_cons (C8.pe_gc rfl X.gB) pa_nil))) (pe_one (pe_not (pe_callB (call_isE2 X.iE.cl hz hf) (by rfl) M.n_isinstance boot_isinstance (pa_cons (pv 4) (pa_cons (C8.pe_gc rfl X.gR) pa_nil)))))) pa_nil)))))))
      (pss_one (ps_ret (pv 3)))), ?_⟩
    refine q_asgU (xs := [T tMany, .bl false]) (eu_tup (ea_cons ev_c (ea_cons ev_c ea_nil)) (by show 2 ≤ 100000; decide)) fun t0 H1 ht0 e1 _ => ?_
    rcases h with ⟨p, rep, t, rfl, hR, hl, ho, k1, k2⟩ | ⟨p, rep, t, rfl, hR, hl, hs, k1, k2, k3⟩ | ⟨p, q, rep, oth, rfl, hR, hO, how, k1, k2⟩
    · show tSeq _ _ _ [some (.int 0), some (.ref p), some (T t), some (.ref t0), none] H1
      refine wp_ifT (et_test (ev_op (ev_var rfl) ev_c rv_I0)) fun H0 e0 => ?_
      replace e1 := e1.trans e0
      refine ⟨.ref p, rfl, T t, rfl, p, rep, t, rfl, hR.ex e1, hl, ho, fun hle H2 e2 => ?_, fun hgt H' e' => ?_⟩
      · exact ⟨by show 2 ≤ sizeLine; decide, fun r hr => ⟨.ref r, rfl, k1 hle r _ ((e1.trans e2).trans (Ex.new hr)) upd_same⟩⟩
      · refine ⟨true, X.iE.te, fun _ a ha => ?_, fun z => Bool.noConfusion z⟩
        refine s_asgU (xs := [T tMany, .bl true]) (eu_tup (ea_cons ev_c (ea_cons (ev_is (ev_andV (ev_cb (ea_cons (ev_var rfl) (ea_cons ev_c ea_nil)) (rc_err X.eb)) fun _ => ev_notV (ev_cb (ea_cons (ev_var rfl) (ea_cons ev_c ea_nil)) (rc_err X.er))) rfl) ea_nil)) (by show 2 ≤ 100000; decide)) fun r H3 hr e3 h3 => ⟨.ref r, rfl, k2 hgt r H3 ((e1.trans e').trans e3) h3⟩
    · show tSeq _ _ _ [some (.int 1), some (.ref p), some (T t), some (.ref t0), none] H1
      refine wp_ifF (et_test (ev_op (ev_var rfl) ev_c rv_I0)) fun H0 e0 => wp_ifT (et_test (ev_op (ev_var rfl) ev_c rv_I0)) fun H9 e9 => ?_
      replace e1 := (e1.trans e0).trans e9
      have lst : ∀ xs, ([] ∈ rep ∧ (cutsAt rep t 0).length = 0 ∧ xs = [] ∨ [] ∉ rep ∧ (cutsAt rep t 0).length ≤ 300 ∧ xs = (backS rep t).map T) → ∀ q H2, H9 q = none → Ex H9 H2 → H2 q = some (.lst xs) → ∀ r, H2 r = none → Q (.ref r) (upd H2 r (.tup [T tTold, .ref q])) := fun xs hx q H2 hq e2 h2 r hr => k2 xs hx r q _ ((e1.trans e2).trans (Ex.new hr)) upd_same (fresh_back e1 hq) ((Ex.new hr) _ _ h2)
      refine ⟨.ref p, rfl, T t, rfl, p, rep, t, rfl, hR.ex e1, hl, hs, ⟨fun hm hc H2 e2 => ?_, fun hm hc q H2 hq e2 h2 => ?_, fun hm hc q H2 hq e2 h2 => ?_, fun hm hc H' e' => ?_⟩⟩
      · exact ⟨by show 2 ≤ sizeLine; decide, fun r hr => ⟨.ref r, rfl, k1 hm hc r _ ((e1.trans e2).trans (Ex.new hr)) upd_same⟩⟩
      · exact ⟨by show 2 ≤ sizeLine; decide, fun r hr => ⟨.ref r, rfl, lst _ (.inl ⟨hm, hc, rfl⟩) q H2 hq e2 h2 r hr⟩⟩
      · exact ⟨by show 2 ≤ sizeLine; decide, fun r hr => ⟨.ref r, rfl, lst _ (.inr ⟨hm, hc, rfl⟩) q H2 hq e2 h2 r hr⟩⟩
      · refine ⟨true, X.iE.te, fun _ a ha => ?_, fun z => Bool.noConfusion z⟩
        refine s_asgU (xs := [T tMany, .bl true]) (eu_tup (ea_cons ev_c (ea_cons (ev_is (ev_andV (ev_cb (ea_cons (ev_var rfl) (ea_cons ev_c ea_nil)) (rc_err X.eb)) fun _ => ev_notV (ev_cb (ea_cons (ev_var rfl) (ea_cons ev_c ea_nil)) (rc_err X.er))) rfl) ea_nil)) (by show 2 ≤ 100000; decide)) fun r H3 hr e3 h3 => ⟨.ref r, rfl, k3 hm hc r H3 ((e1.trans e').trans e3) h3⟩
    · show tSeq _ _ _ [some (.int 2), some (.ref p), some (.ref q), some (.ref t0), none] H1
      refine wp_ifF (et_test (ev_op (ev_var rfl) ev_c rv_I0)) fun H0 e0 => wp_ifF (et_test (ev_op (ev_var rfl) ev_c rv_I0)) fun H9 e9 => ?_
      replace e1 := (e1.trans e0).trans e9
      refine ⟨.ref p, rfl, .ref q, rfl, p, q, rep, oth, rfl, hR.ex e1, hO.ex e1, how, fun hsh s H2 hs e2 h2 => ?_, fun hsh H' e' => ?_⟩
      · exact ⟨by show 2 ≤ sizeLine; decide, fun r hr => ⟨.ref r, rfl, k1 hsh r s _ ((e1.trans e2).trans (Ex.new hr)) upd_same (fresh_back e1 hs) ((Ex.new hr) _ _ h2)⟩⟩
      · refine ⟨true, X.iE.te, fun _ a ha => ?_, fun z => Bool.noConfusion z⟩
        refine s_asgU (xs := [T tMany, .bl true]) (eu_tup (ea_cons ev_c (ea_cons (ev_is (ev_andV (ev_cb (ea_cons (ev_var rfl) (ea_cons ev_c ea_nil)) (rc_err X.eb)) fun _ => ev_notV (ev_cb (ea_cons (ev_var rfl) (ea_cons ev_c ea_nil)) (rc_err X.er))) rfl) ea_nil)) (by show 2 ≤ 100000; decide)) fun r H3 hr e3 h3 => ⟨.ref r, rfl, k2 hsh r H3 ((e1.trans e').trans e3) h3⟩
end
end K21
set_option Elab.async false
set_option linter.all false
set_option maxRecDepth 100000
set_option maxHeartbeats 4000000
/-! rests: what comes of ends of words by words; lists and dicts of texts -/
namespace Wr
open PySem PySem.Spec PyProof.Rows L2 Evl Wc Wt Wg Ws Wd
/-- what comes of the rest r by the word w -/
def behO (r w : Tx) : List Tx := if w.take r.length = r then [w.drop r.length] else if r.take w.length = w then [r.drop w.length] else []
def behT (lot : List Tx) (r : Tx) : List Tx := lot.flatMap (behO r)
/-- a first rest -/
def Fst (lot : List Tx) (x : Tx) : Prop := ∃ w ∈ lot, ∃ o ∈ lot, w ≠ o ∧ w.take o.length = o ∧ x = w.drop o.length
/-- what comes of those of F, by words -/
inductive Rch (lot : List Tx) (F : Tx → Prop) : Tx → Prop
  | base {x : Tx} : F x → Rch lot F x
  | step {r x : Tx} : Rch lot F r → r ≠ [] → x ∈ behT lot r → Rch lot F x
theorem Rch.mono {lot : List Tx} {F G : Tx → Prop} (h : ∀ x, F x → Rch lot G x) {x : Tx} (hx : Rch lot F x) : Rch lot G x := by
  induction hx with
  | base f => exact h _ f
  | step _ hn hb ih => exact .step ih hn hb
/-- the ends of words -/
def sufs (lot : List Tx) : List Tx := lot.flatMap fun w => (List.range (w.length + 1)).map fun n => w.drop n
theorem mem_sufs {lot : List Tx} {x : Tx} : x ∈ sufs lot ↔ ∃ w ∈ lot, ∃ n, x = w.drop n := by
  unfold sufs
  rw [List.mem_flatMap]
  constructor
  · rintro ⟨w, hw, hx⟩
    obtain ⟨n, _, rfl⟩ := List.mem_map.mp hx
    exact ⟨w, hw, n, rfl⟩
  · rintro ⟨w, hw, n, rfl⟩
    refine ⟨w, hw, List.mem_map.mpr ?_⟩
    by_cases hn : n ≤ w.length
    · exact ⟨n, List.mem_range.mpr (by omega), rfl⟩
    · exact ⟨w.length, List.mem_range.mpr (by omega), by rw [List.drop_length, List.drop_eq_nil_of_le (by omega)]⟩
theorem sufs_len {m : Nat} : ∀ {lot : List Tx}, (∀ w ∈ lot, w.length ≤ m) → (sufs lot).length ≤ lot.length * (m + 1)
  | [], _ => Nat.zero_le _
  | w :: lot, h => by
    have h1 := sufs_len (lot := lot) fun x hx => h x (List.mem_cons_of_mem _ hx)
    have h2 := h w List.mem_cons_self
    have e : sufs (w :: lot) = ((List.range (w.length + 1)).map fun n => w.drop n) ++ sufs lot := rfl
    rw [e, List.length_append, List.length_map, List.length_range, List.length_cons, Nat.succ_mul]
    omega
theorem beh_sufs {lot : List Tx} {r x : Tx} (hr : r ∈ sufs lot) (h : x ∈ behT lot r) : x ∈ sufs lot := by
  obtain ⟨w, hw, hx⟩ := List.mem_flatMap.mp h
  unfold behO at hx
  by_cases h1 : w.take r.length = r
  · rw [if_pos h1] at hx
    rw [List.mem_singleton.mp hx]
    exact mem_sufs.mpr ⟨w, hw, _, rfl⟩
  · rw [if_neg h1] at hx
    by_cases h2 : r.take w.length = w
    · rw [if_pos h2] at hx
      rw [List.mem_singleton.mp hx]
      obtain ⟨v, hv, n, rfl⟩ := mem_sufs.mp hr
      exact mem_sufs.mpr ⟨v, hv, n + w.length, by rw [List.drop_drop]⟩
    · rw [if_neg h2] at hx
      cases hx
theorem Rch.sufs {lot : List Tx} {F : Tx → Prop} (hF : ∀ x, F x → x ∈ sufs lot) {x : Tx} (h : Rch lot F x) : x ∈ sufs lot := by
  induction h with
  | base f => exact hF _ f
  | step _ _ hb ih => exact beh_sufs ih hb
theorem fst_sufs {lot : List Tx} {x : Tx} (h : Fst lot x) : x ∈ sufs lot := by
  obtain ⟨w, hw, o, _, _, _, rfl⟩ := h
  exact mem_sufs.mpr ⟨w, hw, _, rfl⟩
theorem fst_ne {lot : List Tx} {x : Tx} (h : Fst lot x) : x ≠ [] := by
  obtain ⟨w, hw, o, _, hn, ht, rfl⟩ := h
  intro z
  refine hn ?_
  have h1 : w.take o.length = w := List.take_of_length_le (List.drop_eq_nil_iff.mp z)
  rw [h1] at ht
  exact ht
theorem suf_le {lot : List Tx} {m : Nat} (h : ∀ w ∈ lot, w.length ≤ m) {x : Tx} (hx : x ∈ sufs lot) : x.length ≤ m := by
  obtain ⟨w, hw, n, rfl⟩ := mem_sufs.mp hx
  have := h w hw
  rw [List.length_drop]
  omega
theorem suf_sign {lot : List Tx} {p : Nat → Prop} (h : ∀ w ∈ lot, ∀ c ∈ w, p c) {x : Tx} (hx : x ∈ sufs lot) : ∀ c ∈ x, p c := by
  obtain ⟨w, hw, n, rfl⟩ := mem_sufs.mp hx
  exact fun c hc => h w hw c (List.mem_of_mem_drop hc)
theorem len_sub : ∀ {ks l : List Tx}, ks.Nodup → (∀ x ∈ ks, x ∈ l) → ks.length ≤ l.length
  | [], _, _, _ => Nat.zero_le _
  | x :: ks, l, hn, hs => by
    have hx := hs x List.mem_cons_self
    have h1 := len_sub (ks := ks) (l := l.erase x) (List.nodup_cons.mp hn).2 fun y hy => (List.mem_erase_of_ne (fun z => (List.nodup_cons.mp hn).1 (by rw [← z]; exact hy))).mpr (hs y (List.mem_cons_of_mem _ hy))
    rw [List.length_erase_of_mem hx] at h1
    have := List.length_pos_of_mem hx
    rw [List.length_cons]
    omega
/-- while rests are found: ks met, wk on the pile -/
structure MetX (lot : List Tx) (F : Tx → Prop) (ks wk : List Tx) : Prop where
  nd : ks.Nodup
  reach : ∀ x ∈ ks, Rch lot F x
  has : ∀ x, F x → x ∈ ks
  wk : ∀ x ∈ wk, x ∈ ks
theorem MetX.few {lot : List Tx} {F : Tx → Prop} {ks wk : List Tx} (h : MetX lot F ks wk) (hF : ∀ x, F x → x ∈ sufs lot) : ks.length ≤ (sufs lot).length := len_sub h.nd fun x hx => (h.reach x hx).sufs hF
def ClosedX (lot ks : List Tx) (r : Tx) : Prop := ∀ x ∈ behT lot r, x ∈ ks
theorem met_all {lot : List Tx} {F : Tx → Prop} {ks : List Tx} (h : MetX lot F ks []) (hc : ∀ x ∈ ks, x ≠ [] → ClosedX lot ks x) (x : Tx) : x ∈ ks ↔ Rch lot F x := by
  refine ⟨h.reach x, fun z => ?_⟩
  induction z with
  | base z => exact h.has _ z
  | step _ hn hb ih => exact hc _ ih hn _ hb
theorem addT_keep {ks : List Tx} {n m : Tx} (h : m ∈ ks) : m ∈ addT ks n := mem_addT.mpr (.inl h)
/-- one more rest y is met, behind r; it goes on the pile or not -/
theorem MetX.add {lot : List Tx} {F : Tx → Prop} {ks wk wk' : List Tx} {r y : Tx} (h : MetX lot F ks wk) (hr : r ∈ ks) (hrn : r ≠ []) (hy : y ∈ behT lot r) (hw : ∀ x ∈ wk', x ∈ wk ∨ x = y) : MetX lot F (addT ks y) wk' := ⟨addT_nodup h.nd, fun m hm => by
    rcases mem_addT.mp hm with z | z
    · exact h.reach m z
    · rw [z]; exact .step (h.reach r hr) hrn hy, fun m hm => addT_keep (h.has m hm), fun m hm => (hw m hm).elim (fun z => addT_keep (h.wk m z)) fun z => mem_addT.mpr (.inr z)⟩
/-! ### lists of texts in the heap -/
theorem sh_T {c : List Tx} (h : ∀ t ∈ c, LowT t) : SeqAt.shaped (.list (c.map dT)) = true := shaped_list (m := 0) (fun x hx => lay_T (h x hx)) (fun _ _ => Nat.le_refl _) (by decide)
section
variable {K : PySem.W.Frag} {σ : L2.St} {H : Hp} {ta : TE}
theorem dp_T {p : Addr} {c : List Tx} (h : H p = some (.lst (c.map T))) : Dp K H (.ref p) (.list (c.map dT)) := dp_list (sq_of h) fun _ _ => .str _
theorem et_eqNilT {p : Addr} {c : List Tx} (h : H p = some (.lst (c.map T))) (hl : ∀ t ∈ c, LowT t) (hv : Ev ta σ H (.ref p)) : EvT (tTest (tOp (rEqD K) ta (tLst tNil))) σ H (decide (c = [])) := fun H2 e2 Q q => by
  refine hv H2 e2 _ fun H3 e3 => ⟨Nat.zero_le _, fun r hr => ?_⟩
  have e4 := Ex.new (o := HO.lst []) hr
  refine ⟨_, .list [], dp_T (((e2.trans e3).trans e4) _ _ h), .lst (sq_of upd_same) .nil, sh_T hl, rfl, decide (c = []), ?_, q _ (e3.trans e4)⟩
  cases c <;> rfl
theorem et_neNilT {p : Addr} {c : List Tx} (h : H p = some (.lst (c.map T))) (hl : ∀ t ∈ c, LowT t) (hv : Ev ta σ H (.ref p)) : EvT (tTest (tOp (rNeD K) ta (tLst tNil))) σ H (!decide (c = [])) := fun H2 e2 Q q => by
  refine hv H2 e2 _ fun H3 e3 => ⟨Nat.zero_le _, fun r hr => ?_⟩
  have e4 := Ex.new (o := HO.lst []) hr
  refine rv_neD (b := decide (c = [])) (fun H5 e5 => dp_T (e5 _ _ (((e2.trans e3).trans e4) _ _ h))) (fun H5 e5 => .lst (sq_of (e5 _ _ upd_same)) .nil) (sh_T hl) (by decide) ?_ _ (Ex.refl _) _ fun H5 e5 => ⟨_, rfl, q _ ((e3.trans e4).trans e5)⟩
  cases c <;> rfl
theorem last_T (c : List Tx) (n : Tx) : ((c ++ [n]).map T)[((c ++ [n]).map T).length - 1]? = some (T n) := by
  rw [List.length_map, List.length_append, List.getElem?_map]
  simp
theorem wp_popT {i : Nat} {pw : Addr} {c : List Tx} {n : Tx} {Q : VK} (h0 : σ[i]? = some (some (.ref pw))) (h : H pw = some (.lst ((c ++ [n]).map T))) (k : Q (T n) (upd H pw (.lst (c.map T)))) : tBM0 K "list" rPop (tVar i) σ H Q := by
  refine ⟨.ref pw, h0, Or.inl ⟨rfl, _, sq_of h⟩, pw, _, T n, rfl, rfl, h, last_T c n, ?_⟩
  have e : ((c ++ [n]).map T).dropLast = c.map T := by rw [List.map_append]; exact List.dropLast_concat
  rw [e]
  exact k
theorem q_popT {i a : Nat} {pw : Addr} {c : List Tx} {n : Tx} {D : Ends} {tz : TS} (h0 : σ[i]? = some (some (.ref pw))) (h : H pw = some (.lst ((c ++ [n]).map T))) (k : tz D (σ.set a (some (T n))) (upd H pw (.lst (c.map T)))) : tSeq (tAsg (tBM0 K "list" rPop (tVar i)) (gName a)) tz D σ H := wp_popT (Q := fun v H1 => tz D (σ.set a (some v)) H1) h0 h k
theorem pairedX {H : Hp} : ∀ {ps : List Addr} {ns : List Tx}, ps.length = ns.length → (∀ (i : Nat) (p : Addr) (n : Tx), ps[i]? = some p → ns[i]? = some n → H p = some (.tup [T n, .bl true])) → Paired (fun p (kv : Key × V) => SqT K H p [kV kv.1, kv.2]) ps (DX ns)
  | [], [], _, _ => .nil
  | p :: ps, n :: ns, hl, h => .cons (st_of (h 0 p n rfl rfl)) (pairedX (by simpa using hl) fun i p' n' h1 h2 => h (i + 1) p' n' (by simpa using h1) (by simpa using h2))
/-- x = {t: True for t in ns} -/
theorem q_dcX {wi : TI} {i j : Nat} {vs : List Nat} {own : Addr → Prop} {D : Ends} {tz : TS} (ns : List Tx) (hs : Src wi σ H ns.length own (fun i v _ => (ns.map T)[i]? = some v)) (hn : ns.length ≤ 4000) (hw : ∀ x, wipe ((wipe σ vs).set j (some x)) vs = wipe σ vs) (hj : ∀ x, ((wipe σ vs).set j (some x))[j]? = some (some x))
    (k : ∀ d H2, H d = none → Ex H H2 → H2 d = some (.dK (DX (addAllT [] ns))) → tz D (σ.set i (some (.ref d))) H2) : tSeq (tAsg (tDc wi (gName j) tYes (tVar j) (tC (.bl true)) vs) (gName i)) tz D σ H := dc_texts (Q := fun v H1 => tz D (σ.set i (some v)) H1) ns hs hn hw hj k
/-- dict([(t, True) for t in ts]) -/
theorem wp_dictX {i j : Nat} {pp : Addr} {ns : List Tx} {Q : VK} (h0 : σ[i]? = some (some (.ref pp))) (h : H pp = some (.lst (ns.map T))) (hl : ns.length ≤ 4000) (hw : ∀ x, wipe ((wipe σ [j]).set j (some x)) [j] = wipe σ [j]) (hj : ∀ x, ((wipe σ [j]).set j (some x))[j]? = some (some x))
    (k : ∀ d H1, H d = none → Ex H H1 → H1 d = some (.dK (DX (addAllT [] ns))) → Q (.ref d) H1) : tCB (rDictP K) (tCons (tLc (iList K (tVar i)) (gName j) tYes (tTup (tCons (tVar j) (tCons (tC (.bl true)) tNil))) [j]) tNil) σ H Q := by
  have key : tLc (iList K (tVar i)) (gName j) tYes (tTup (tCons (tVar j) (tCons (tC (.bl true)) tNil))) [j] σ H (fun v H1 => rDictP K [v] H1 Q) := by
    refine lcN (n := ns.length) (fun t => .tup [T (ns.getD t []), .bl true]) (src_listM (f := T) (ev_var h0) (sq_of h)) (by omega) hw (fun t x H1 ht hx e1 Q' q' => ?_) fun q H2 ps hq e2 h2 hpl hn hnq => ?_
    · obtain ⟨n, hn, rfl⟩ := at_map hx
      refine ⟨_, hj _, by show 2 ≤ sizeLine; decide, fun p hp => q' p _ hp (Ex.new hp) ?_⟩
      rw [upd_same, List.getD_eq_getElem?_getD, hn]
      rfl
    · refine ⟨q, ps, DX ns, rfl, sq_of h2, pairedX hpl fun i p n h3 h4 => ?_, fun d hd => ?_⟩
      · have := hn.at_ i p h3
        rw [List.getD_eq_getElem?_getD, h4] at this
        exact this
      · have : mergeK [] (DX ns) = DX (addAllT [] ns) := merge_DX ns []
        rw [this]
        exact k d _ (fresh_back e2 hd) (e2.trans (Ex.new hd)) upd_same
  exact key
end
end Wr
set_option Elab.async false
set_option linter.all false
set_option maxRecDepth 100000
set_option maxHeartbeats 2000000
/-! name = {k: v for ..} on one line, the name a local -/
namespace Ws
open PySem PySem.Spec PyProof.Rows L2 Evl Wc Wt Wg Wd
def rNotInT : R2 := fun x y H Q => ∃ (c : Nat) (z : Tx), x = T [c] ∧ y = T z ∧ Q (.bl (!decide (c ∈ z))) H
theorem op_notInT {X : Cx} : OpR X (compareOp .NotIn) rNotInT := by
  intro pins s σ H x y v u Q I rx ry h
  obtain ⟨c, z, rfl, rfl, q⟩ := h
  exact op_notIn_sign pins s σ H _ _ v u Q I rx ry ⟨c, SX.S z, rfl, rfl, q⟩
theorem rv_notInT {H : Hp} {c : Nat} {b : Tx} : RV rNotInT (T [c]) (T b) H (.bl (!decide (c ∈ b))) := rv_val fun H1 _ Q q => ⟨c, b, rfl, rfl, q⟩
/-- one named value -/
def sw1 {α : Type} : List α → List α → List α
  | [], [a] => [a]
  | _, _ => []
theorem sw1_rel {vs zs : List V} {us ws : List Value} (r : Vals vs us) (rz : Vals zs ws) : Vals (sw1 vs zs) (sw1 us ws) := by
  cases r with
  | cons => exact .nil
  | nil =>
    match zs, ws, rz with
    | [], _, .nil => exact .nil
    | [_], _, .cons h1 .nil => exact .cons h1 .nil
    | _ :: _ :: _, _, .cons _ (.cons _ _) => exact .nil
theorem kb1 {x : PySem.Str} {st : Stmt} {ps ks : List PySem.Str} (hp : ps.length = 1)
    (h : ∀ (kV doc pm : Value) (an : Option Addr) (cdv ct a : Value), bindArgs (PySem.W.fnOf x x (defArgs st) (defBody st) (defScope st) .none kV doc pm an cdv ct) ⟨[], ks.zip [a]⟩ = pure (ps.zip (sw1 [] [a]))) : KB x st 0 ps ks sw1 sw1 := by
  intro K f fd F
  obtain ⟨oc, od, kV, doc, pm, an, cdv, ct, osl, rfl, lk, hcd⟩ := F.ex
  refine ⟨fun s us ws _ hl => ?_, fun r rz => sw1_rel r rz⟩
  rw [hp] at hl
  match us, ws, hl with
  | [], [a], _ => exact .of_eq (h kV doc pm an cdv ct a)
  | [], [], hl => exact absurd hl (by simp [sw1])
  | [], _ :: _ :: _, hl => exact absurd hl (by simp [sw1])
  | _ :: _, ws, hl => exact absurd hl (by simp [sw1])
section
variable {X : Cx}
theorem sw_trueD {kx vx : Expr} {gs : List Comprehension} {scope : Scope} {pos py : Pos} {y : PySem.Str} {l : Nat} {env : Env} (hk : env.scope.kind = .function) (hy : env.scope.names.lookup y = some .local) (hl : (py.line == pos.line) = true)
    (ha : (scope.names.any fun (n, k) => n == y && (k == .local || k == .cell)) = false) : swapsWith (.DictComp kx vx gs scope pos) (some (.Name y py)) l env = pure true := by
  have ky : env.kindOf y = some .local := hy
  have hb : env.blockKind = .function := by unfold Env.blockKind; rw [hk]; rfl
  unfold swapsWith
  simp only [hb, ky, ha, Expr.pos, hl]
  rfl
theorem ps_setDc {i : Nat} {y : PySem.Str} {py : Pos} {kx vx tg iter : Expr} {ifs : List Expr} {scope : Scope} {own : List (PySem.Str × Nat)} {pos spos : Pos} {wi : TI} {g : TG} {tt : TT} {tk tv : TE} (hc : X.calm = true) (hN : X.N.Nodup) (hy : X.N[i]? = some y) (hyl : X.env.scope.names.lookup y = some .local)
    (hsw : swapsWith (.DictComp kx vx [⟨tg, iter, ifs, 0⟩] scope pos) (some (.Name y py)) spos.line X.env = pure true) (hi : PI X tg iter wi) (ok : BlkOk X.N X.env.scope scope own)
    (hg : ∀ (s : Shared) (H : Hp) (C : Addr) (cl : List (PySem.Str × Addr)) (fp : List Addr), PG (X.blk s H scope (compEnvC scope cl C X.env) fp) tg g) (ht : ∀ (s : Shared) (H : Hp) (C : Addr) (cl : List (PySem.Str × Addr)) (fp : List Addr), PTs (X.blk s H scope (compEnvC scope cl C X.env) fp) ifs tt)
    (hk : ∀ (s : Shared) (H : Hp) (C : Addr) (cl : List (PySem.Str × Addr)) (fp : List Addr), PE (X.blk s H scope (compEnvC scope cl C X.env) fp) kx tk)
    (he : ∀ (s : Shared) (H : Hp) (C : Addr) (cl : List (PySem.Str × Addr)) (fp : List Addr), PE (X.blk s H scope (compEnvC scope cl C X.env) fp) vx tv) (hs : ∀ x, foldedSetIterable iter X.env x = pure x := by intro _; rfl) :
    PS X (.Assign [.Name y py] (.DictComp kx vx [⟨tg, iter, ifs, 0⟩] scope pos) spos) (tAsg (tDc wi g tt tk tv (own.map (·.2))) (gName i)) := by
  refine ⟨fun pins s σ H D I h => ?_⟩
  rw [exec_Assign_Name_used _ _ _ _ hsw]
  refine wpAny_bind (wpAny_standAt (wpAny_bind ?_))
  show wpAny _ X.A (do let _ ← comprehension (.DictComp kx vx [⟨tg, iter, ifs, 0⟩] scope pos) scope X.env (firstIterPos [⟨tg, iter, ifs, 0⟩] pos) newDict false (eval iter X.env) (some (assign (.Name y py) X.env))) _ _ s
  have h : tDc wi g tt tk tv (own.map (·.2)) σ H (fun x H1 => gName i x σ H1 D.nx) := h
  refine wpAny_bind (thn (dc_core (Qf := fun _ s' => SP X pins D .next s') hc hN I hi ok hg ht hk he hs h fun L C s' m H' I' q hn f => ?_) fun _ s' hq => wpAny_pure (wpAny_pure hq))
  show wpAny _ _ (assign (.Name y py) X.env (.ref L)) _ _ _
  refine wpAny_assign_Name (store_ok2 (v := V.ref L) I' hN hy (.inl hyl) rfl (fun s2 I2 ⟨a, sb, ha⟩ => ?_) (.inr hyl))
  obtain ⟨f0, f1, f2, f3, f4, f5⟩ := f
  have haC : C ≠ a := by
    rcases ha with z | z
    · rw [z]; exact f1
    · exact fun e => f4 y a z e.symm
  refine ⟨m, hn.sameBut sb haC, fun h3 sb3 => ?_⟩
  exact ⟨_, H', I2.turned (t' := s2.toks) (fun b o hb e => (sb3.2 b hb).trans e) f0 f1 f3 f4 f5, q⟩
end
end Ws
set_option Elab.async false
set_option linter.all false
set_option maxRecDepth 100000
set_option maxHeartbeats 4000000
namespace K21
open PySem PySem.Spec PyProof.Rows L2 Evl Wc Wt Wg Ws Wr _root_.Wd
/-- some words -/
structure Wds (ws : List Tx) : Prop where
  few : ws.length ≤ 12
  wd : Wd 12 ws
  pos : ∀ t ∈ ws, t ≠ []
theorem Wds.sufs {ws : List Tx} (h : Wds ws) : (sufs ws).length ≤ 156 := by
  have h1 := sufs_len (m := 12) fun w hw => (h.wd w hw).1
  have h2 := h.few
  omega
theorem Wds.low {ws : List Tx} (h : Wds ws) {x : Tx} (hx : x ∈ Wr.sufs ws) : LowT x := suf_sign (p := fun c => c < 1000) (fun w hw c hc => by have := (h.wd w hw).2 c hc; unfold abcd at this; omega) hx
theorem Wds.short {ws : List Tx} (h : Wds ws) {x : Tx} (hx : x ∈ Wr.sufs ws) : x.length ≤ 12 := suf_le (fun w hw => (h.wd w hw).1) hx
/-- the rests that come -/
abbrev Rst (ws : List Tx) (x : Tx) : Prop := Rch ws (Fst ws) x
/-- pairs of a number and a rest -/
def PairsT (q : Addr) (ys : List Tx) (H : Hp) : Prop := ∃ ps : List Addr, H q = some (.lst (ps.map V.ref)) ∧ All2 (fun p y => ∃ i : Int, H p = some (.tup [.int i, T y])) ps ys
theorem PairsT.ex {q : Addr} {ys : List Tx} {H H1 : Hp} (h : PairsT q ys H) (e : Ex H H1) : PairsT q ys H1 := by
  obtain ⟨ps, h1, h2⟩ := h
  exact ⟨ps, e _ _ h1, h2.mono fun p y ⟨i, r⟩ => ⟨i, e _ _ r⟩⟩
def fstL (ws : List Tx) : List Tx := ws.flatMap fun w => (ws.filter fun o => !decide (w = o) && decide (w.take o.length = o)).map fun o => w.drop o.length
theorem mem_fstL {ws : List Tx} {x : Tx} : x ∈ fstL ws ↔ Fst ws x := by
  unfold fstL Fst
  rw [List.mem_flatMap]
  constructor
  · rintro ⟨w, hw, hx⟩
    obtain ⟨o, ho, rfl⟩ := List.mem_map.mp hx
    obtain ⟨h1, h2⟩ := List.mem_filter.mp ho
    rw [Bool.and_eq_true, decide_eq_true_eq, Bool.not_eq_true', decide_eq_false_iff_not] at h2
    exact ⟨w, hw, o, h1, h2.1, h2.2, rfl⟩
  · rintro ⟨w, hw, o, ho, h1, h2, rfl⟩
    refine ⟨w, hw, List.mem_map.mpr ⟨o, List.mem_filter.mpr ⟨ho, ?_⟩, rfl⟩⟩
    rw [Bool.and_eq_true, decide_eq_true_eq, Bool.not_eq_true', decide_eq_false_iff_not]
    exact ⟨h1, h2⟩
theorem fstL_len (ws : List Tx) : ∀ l : List Tx, (l.flatMap fun w => (ws.filter fun o => !decide (w = o) && decide (w.take o.length = o)).map fun o => w.drop o.length).length ≤ l.length * ws.length
  | [] => Nat.zero_le _
  | w :: l => by
    have h1 := fstL_len ws l
    rw [List.flatMap_cons, List.length_append, List.length_map, List.length_cons, Nat.succ_mul]
    have := List.length_filter_le (fun o => !decide (w = o) && decide (w.take o.length = o)) ws
    omega
theorem beh_take {ws : List Tx} {r w : Tx} {j : Nat} (h : ws[j]? = some w) : (ws.take (j + 1)).flatMap (behO r) = (ws.take j).flatMap (behO r) ++ behO r w := by
  rw [List.take_add_one, h, List.flatMap_append]
  simp
theorem q_forOf {K : PySem.W.Frag} {σ : L2.St} {H : Hp} {te0 : TE} {g : TG} {tb tz : TS} {D : Ends} (h : te0 σ H fun v H1 => tSeq (tFor (iList K (fun _ H' Q' => Q' v H')) g tb) tz D σ H1) : tSeq (tFor (iList K te0) g tb) tz D σ H := h
theorem s_forOf {K : PySem.W.Frag} {σ : L2.St} {H : Hp} {te0 : TE} {g : TG} {tb : TS} {D : Ends} (h : te0 σ H fun v H1 => tFor (iList K (fun _ H' Q' => Q' v H')) g tb D σ H1) : tFor (iList K te0) g tb D σ H := h
theorem ev_is' {σ : L2.St} {H : Hp} {v : V} : Ev (fun _ H' Q' => Q' v H') σ H v := fun H1 _ _ q => q H1 (Ex.refl _)
section
variable {P : Program} {w : World} {K : PySem.W.Frag} {mg : Str → Option Value} {base : Heap}
def sp_first_rests : Sp := fun vs H Q _ => ∃ (p : Addr) (ws : List Tx), vs = [.ref p] ∧ H p = some (.tup (ws.map T)) ∧ Wds ws ∧ RetL ((setS (fstL ws)).map T) H Q
theorem ok_first_rests {f : Addr} {fd : FuncData} (F : Fun K "first_rests" "first_rests" st_first_rests f fd) (M : Md K mg) : FnOk P w K mg base CX0 1 f fd ["lot"] sp_first_rests := by
  have nd := sc_first_rests.nd
  refine F.ok sc_first_rests (fun vs H Q E h => ?_) (fun cdv A outer s H vs Q E hr h => ?_)
  · obtain ⟨_, _, rfl, _⟩ := h
    rfl
  · obtain ⟨p, ws, rfl, hp, hW, k⟩ := h
    refine ⟨_, (pss_one (ps_ret (pe_callB (ksorted P w K hr.units) (by rfl) M.n_sorted boot_sorted (pa_cons (pe_set2 (own := [("word", 1), ("other", 2)]) (vs1 := [2]) (fillX P w) rfl nd (kit K (pi_tup (pv 0))) (blkOk_by (N := N_first_rests) (sc := defScope st_first_rests) (by decide +kernel)) (by decide) (fun _ _ _ _ _ => (pg_name (i := 1) nd rfl (Or.inl rfl))) (fun _ _ _ _ _ => pts_nil) (fun _ _ _ _ _ => (kit K (pi_tup (pv 0)))) (fun _ _ _ _ _ => (pg_name (i := 2) nd rfl (Or.inl rfl))) (fun _ _ _ _ _ => (pts_one (PW.pt (pw_and (pt_cmpR op_neT (pv 1) (pv 2) (nomark _)) (pw_and1 (pt_val (kbm K (pe_bm PySem.F.plainAttrs_str PySem.F.slot_str_startswith PySem.F.type_str_startswith mt_startT (pv 1) (pa_cons (pv 2) pa_nil))))))))) (fun _ _ _ _ _ => (pe_slice sl_T (pv 1) (po_some (pe_callB cr_lenT (by rfl) M.n_len boot_len (pa_cons (pv 2) pa_nil))) po_none))) pa_nil)))), ?_⟩
    have hsz : (ws.map fun _ => ws.length).sum ≤ 4000 := by
      have h1 : (ws.map fun _ => ws.length).sum = ws.length * ws.length := by
        rw [List.map_const']
        simp
      have h2 : ws.length * ws.length ≤ 12 * 12 := Nat.mul_le_mul hW.few hW.few
      omega
    refine el_sortX (l := fstL ws) (fun Q' k' => ?_) _ k
    refine el_setX2 (P := P) (w := w) (j := 1) (j1 := 2) (vs := [1, 2]) (vs1 := [2]) (f := T) (h := T) (p := fun w o => !decide (w = o) && decide (w.take o.length = o)) (g := fun w o => w.drop o.length) ws (fun _ => ws) (src_tupM (ev_var rfl) (st_of hp)) (fun a H1 e1 ha => src_tupM (ev_var rfl) (st_of (e1 _ _ hp))) (fun a c hc => by rw [hc, hp]; exact fun z => nomatch z) hsz (fun _ => rfl) (fun _ _ => rfl) (fun a b H1 e1 ha hb => ?_) (fun a b H1 e1 ha hb hpb => ?_) k'
    · exact et_and (et_test (ev_op (ev_var rfl) (ev_var rfl) rv_neT)) fun _ => et_B (ev_bmT (ev_var rfl) (ea_cons (ev_var rfl) ea_nil) rm_startT)
    · have h1 := (hW.wd a ha).1
      have h2 := (hW.wd b hb).1
      exact ev_is (ev_slT (ev_var rfl) (eo_some (ev_cb (ea_cons (ev_var rfl) ea_nil) (rc_lenT (by omega)))) eo_none (by omega)) (by rw [cutT_from])
def sp_rests_behind : Sp := fun vs H Q _ => ∃ (p : Addr) (ws : List Tx) (r : Tx), vs = [.ref p, T r] ∧ H p = some (.tup (ws.map T)) ∧ Wds ws ∧ r.length ≤ 12 ∧ ∀ q H', H q = none → Ex H H' → PairsT q (behT ws r) H' → Q (.ref q) H'
theorem ok_rests_behind {f : Addr} {fd : FuncData} (F : Fun K "rests_behind" "rests_behind" st_rests_behind f fd) (M : Md K mg) : FnOk P w K mg base CX0 1 f fd ["lot", "rest"] sp_rests_behind := by
  have nd := sc_rests_behind.nd
  refine F.ok sc_rests_behind (fun vs H Q E h => ?_) (fun cdv A outer s H vs Q E hr h => ?_)
  · obtain ⟨_, _, _, rfl, _⟩ := h
    rfl
  · obtain ⟨p, ws, r, rfl, hp, hW, hr12, k⟩ := h
    refine ⟨_, (pss_cons (ps_set (i := 2) nd rfl (Or.inl rfl) (pe_lst pa_nil))
  (pss_cons (ps_for PassesOwn.never rfl (kiet K (pi_enumT (by rfl) M.n_enumerate (pa_cons (pv 0) pa_nil))) (kgt K (n := 2) (pg_tup rfl (pgs_cons (pg_name (i := 3) nd rfl (Or.inl rfl)) (pgs_cons (pg_name (i := 4) nd rfl (Or.inl rfl)) pgs_nil))))
  (pss_one (ps_if (pt_val (kbm K (pe_bm PySem.F.plainAttrs_str PySem.F.slot_str_startswith PySem.F.type_str_startswith mt_startT (pv 4) (pa_cons (pv 1) pa_nil))))
  (pss_one (ps_expr (kbm K (pe_bm PySem.F.plainAttrs_list PySem.F.slot_list_append PySem.F.type_list_append mt_append (pv 2) (pa_cons (pe_tup (pa_cons (pv 3) (pa_cons (pe_slice sl_T (pv 4) (po_some (pe_callB cr_lenT (by rfl) M.n_len boot_len (pa_cons (pv 1) pa_nil))) po_none) pa_nil))) pa_nil)))))
  (pss_one (ps_if (pt_val (kbm K (pe_bm PySem.F.plainAttrs_str PySem.F.slot_str_startswith PySem.F.type_str_startswith mt_startT (pv 1) (pa_cons (pv 4) pa_nil))))
  (pss_one (ps_expr (kbm K (pe_bm PySem.F.plainAttrs_list PySem.F.slot_list_append PySem.F.type_list_append mt_append (pv 2) (pa_cons (pe_tup (pa_cons (pv 3) (pa_cons (pe_slice sl_T (pv 1) (po_some (pe_callB cr_lenT (by rfl) M.n_len boot_len (pa_cons (pv 4) pa_nil))) po_none) pa_nil))) pa_nil)))))
  pss_nil)))))
  (pss_one (ps_ret (pv 2))))), ?_⟩
    have hfew := hW.few
    refine q_asgL (el_lst ea_nil (by decide)) fun pf H1 hpf e1 h1 => ?_
    show tSeq _ _ _ [some (.ref p), some (T r), some (.ref pf), none, none] H1
    have np : pf ≠ p := fun z => by rw [z, hp] at hpf; cases hpf
    refine q_forW (fun c => c = pf) (src_enumT (ev_var rfl) (st_of (e1 _ _ hp))) ?_
      (fun Hs i σ' H' => ∃ (ps : List Addr) (v3 v4 : Option V), σ' = [some (.ref p), some (T r), some (.ref pf), v3, v4] ∧ Exc (fun c => c = pf) Hs H' ∧ H' pf = some (.lst (ps.map V.ref)) ∧ ps.length ≤ i ∧ All2 (fun q y => ∃ i : Int, H' q = some (.tup [.int i, T y])) ps ((ws.take i).flatMap (behO r))) ?_ ?_ ?_ ?_ ?_
    · rintro c rfl
      exact ⟨by rw [h1]; exact fun z => (nomatch z), fun z => np z⟩
    · intro Hs e
      exact ⟨[], none, none, rfl, Exc.refl _, e _ _ h1, Nat.le_refl _, .nil⟩
    · rintro Hs i σ' H' ⟨_, _, _, _, h, _⟩
      exact h
    · rintro Hs i σ' Ha Hb ⟨ps, v3, v4, h0, h2, h3, h4, h5⟩ e
      exact ⟨ps, v3, v4, h0, h2.then e, e _ _ h3, h4, h5.mono fun q y ⟨i, z⟩ => ⟨i, e _ _ z⟩⟩
    · rintro Hs i x σ' H' e hi ⟨ps, v3, v4, rfl, h2, h3, h4, h5⟩ ⟨tq, y, rfl, hy, hq⟩
      obtain ⟨wd, hw1, rfl⟩ := at_map hy
      have hlw := (hW.wd wd (List.mem_of_getElem? hw1)).1
      have hil : i < ws.length := (List.getElem?_eq_some_iff.mp hw1).1
      have hbt := beh_take (r := r) hw1
      refine ⟨tq, _, rfl, st_of hq, rfl, _, _, rfl, _, [], rfl, rfl, ?_⟩
      show tIfS _ _ _ _ [some (.ref p), some (T r), some (.ref pf), some (.int (i : Int)), some (T wd)] H'
      have h3' := h3
      rw [hbt]
      -- one more pair
      have more : ∀ (z : Tx) (tn : Addr) Hc, Ex H' Hc → H' tn = none → Hc tn = some (.tup [.int (i : Int), T z]) → ∃ (ps' : List Addr) (v3 v4 : Option V), [some (.ref p), some (T r), some (.ref pf), some (.int (i : Int)), some (T wd)] = [some (.ref p), some (T r), some (.ref pf), v3, v4] ∧ Exc (fun c => c = pf) Hs (upd Hc pf (.lst (ps.map V.ref ++ [.ref tn]))) ∧ (upd Hc pf (.lst (ps.map V.ref ++ [.ref tn]))) pf = some (.lst (ps'.map V.ref)) ∧ ps'.length ≤ i + 1 ∧ All2 (fun q y => ∃ i : Int, (upd Hc pf (.lst (ps.map V.ref ++ [.ref tn]))) q = some (.tup [.int i, T y])) ps' ((ws.take i).flatMap (behO r) ++ [z]) := fun z tn Hc ec htn hc => by
        have nt : tn ≠ pf := fun z => by rw [z, h3] at htn; cases htn
        refine ⟨ps ++ [tn], _, _, rfl, (h2.then ec).upd (.inl rfl), by rw [upd_same, List.map_append]; rfl, by rw [List.length_append, List.length_singleton]; omega, ?_⟩
        exact (h5.mono fun q y ⟨i, g⟩ => ⟨i, by rw [upd_ne (fun z => by rw [z, h3] at g; cases g)]; exact ec _ _ g⟩).push ⟨_, by rw [upd_ne nt]; exact hc⟩
      refine s_if (b := decide (wd.take r.length = r)) (et_B (ev_bmT (ev_var rfl) (ea_cons (ev_var rfl) ea_nil) rm_startT)) (fun hb Ha ea => ?_) (fun hb Ha ea => ?_)
      · have hb := of_decide_eq_true hb
        rw [show behO r wd = [wd.drop r.length] from if_pos hb]
        refine s_appU (ys := [.int (i : Int), T (wd.drop r.length)]) (ea _ _ h3) (ev_var rfl) (eu_tup (ea_cons (ev_var rfl) (ea_cons (ev_is (ev_slT (ev_var rfl) (eo_some (ev_cb (ea_cons (ev_var rfl) ea_nil) (rc_lenT (by omega)))) eo_none (by omega)) (by rw [cutT_from])) ea_nil)) (by show 2 ≤ 100000; decide)) (by rw [List.length_map]; omega) fun tn Hb htn eb hb2 => more _ tn Hb (ea.trans eb) (fresh_back ea htn) hb2
      · have hb := of_decide_eq_false hb
        refine s_if (b := decide (r.take wd.length = wd)) (et_B (ev_bmT (ev_var rfl) (ea_cons (ev_var rfl) ea_nil) rm_startT)) (fun hc Hb eb => ?_) (fun hc Hb eb => ?_)
        · have hc := of_decide_eq_true hc
          rw [show behO r wd = [r.drop wd.length] from (if_neg hb).trans (if_pos hc)]
          refine s_appU (ys := [.int (i : Int), T (r.drop wd.length)]) ((ea.trans eb) _ _ h3) (ev_var rfl) (eu_tup (ea_cons (ev_var rfl) (ea_cons (ev_is (ev_slT (ev_var rfl) (eo_some (ev_cb (ea_cons (ev_var rfl) ea_nil) (rc_lenT (by omega)))) eo_none (by omega)) (by rw [cutT_from])) ea_nil)) (by show 2 ≤ 100000; decide)) (by rw [List.length_map]; omega) fun tn Hc htn ec hb2 => more _ tn Hc ((ea.trans eb).trans ec) (fresh_back (ea.trans eb) htn) hb2
        · have hc := of_decide_eq_false hc
          rw [show behO r wd = [] from (if_neg hb).trans (if_neg hc), List.append_nil]
          have e9 := ea.trans eb
          exact ⟨ps, _, _, rfl, h2.then e9, e9 _ _ h3, by omega, h5.mono fun q y ⟨i, z⟩ => ⟨i, e9 _ _ z⟩⟩
    · rintro Hs σ' H' e ⟨ps, v3, v4, rfl, h2, h3, h4, h5⟩
      rw [List.length_map, List.take_length] at h5
      refine s_ret (ev_var rfl) fun H3 e3 => k pf H3 hpf (fun b o hb => e3 _ _ (h2 _ _ (ne_of_none hb hpf) (e _ _ (e1 _ _ hb)))) ⟨ps, e3 _ _ h3, h5.mono fun q y ⟨i, z⟩ => ⟨i, e3 _ _ z⟩⟩
def sp_all_rests : Sp := fun vs H Q _ => ∃ (p : Addr) (ws : List Tx), vs = [.ref p] ∧ H p = some (.tup (ws.map T)) ∧ Wds ws ∧ ∀ d ks H', H d = none → Ex H H' → H' d = some (.dK (DX ks)) → ks.Nodup → (∀ x, x ∈ ks ↔ Rst ws x) → Q (.ref d) H'
theorem ok_all_rests {f : Addr} {fd : FuncData} (F : Fun K "all_rests" "all_rests" st_all_rests f fd) (M : Md K mg) (C_first_rests : Cal P w K mg base "first_rests" st_first_rests 1 ["lot"] sp_first_rests) (C_rests_behind : Cal P w K mg base "rests_behind" st_rests_behind 1 ["lot", "rest"] sp_rests_behind) : FnOk P w K mg base CX0 2 f fd ["lot"] sp_all_rests := by
  have nd := sc_all_rests.nd
  refine F.ok sc_all_rests (fun vs H Q E h => ?_) (fun cdv A outer s H vs Q E hr h => ?_)
  · obtain ⟨_, _, rfl, _⟩ := h
    rfl
  · obtain ⟨p, ws, rfl, hp, hW, ret⟩ := h
    refine ⟨_, (pss_cons (ps_setDc (i := 1) (own := [("rest", 2)]) rfl nd rfl rfl (sw_trueD rfl rfl rfl (by decide +kernel)) (kil K (pi_list (pe_cl C_first_rests hr (pa_cons (pv 0) pa_nil)))) (blkOk_by (N := N_all_rests) (sc := defScope st_all_rests) (by decide +kernel)) (fun _ _ _ _ _ => (pg_name (i := 2) nd rfl (Or.inl rfl))) (fun _ _ _ _ _ => pts_nil) (fun _ _ _ _ _ => (pv 2)) (fun _ _ _ _ _ => pe_bl))
  (pss_cons (ps_set (i := 3) nd rfl (Or.inl rfl) (pe_callTy (call_list_dK rfl) (by rfl) M.n_list boot_list (pa_cons (pv 1) pa_nil)))
  (pss_cons (ps_while PassesOwn.never (pt_cmpR (kop K (r := rNeD) (op_neD hr.units)) (pv 3) (pe_lst pa_nil) (nomark _))
  (pss_one (ps_for PassesOwn.never rfl (kil K (pi_list (pe_cl C_rests_behind hr (pa_cons (pv 0) (pa_cons (kbm0 K (pe_bm0 PySem.F.plainAttrs_list PySem.F.slot_list_pop PySem.F.type_list_pop mt_pop (pv 3))) pa_nil))))) (kgt K (n := 2) (pg_tup rfl (pgs_cons (pg_name (i := 4) nd rfl (Or.inl rfl)) (pgs_cons (pg_name (i := 2) nd rfl (Or.inl rfl)) pgs_nil))))
  (pss_one (ps_if (pt_cmp (pc_dnotin (hu1 hr.units) (pv 2) (pv 1)))
  (pss_cons (ps_dput (hu1 hr.units) (pv 1) (pv 2) pe_bl (by rfl))
  (pss_one (ps_if (pt_cmpR op_neT (pv 2) (pe_sT []) (nomark _))
  (pss_one (ps_expr (kbm K (pe_bm PySem.F.plainAttrs_list PySem.F.slot_list_append PySem.F.type_list_append mt_append (pv 3) (pa_cons (pv 2) pa_nil)))))
  pss_nil)))
  pss_nil)))))
  (pss_one (ps_ret (pv 1)))))), ?_⟩
    have hU := hW.sufs
    have hFs : ∀ x, Fst ws x → x ∈ sufs ws := fun x hx => fst_sufs hx
    have hfl : (setS (fstL ws)).length ≤ 144 := by
      have h1 := setS_len (fstL ws)
      have h2 := fstL_len ws ws
      have h3 : ws.length * ws.length ≤ 12 * 12 := Nat.mul_le_mul hW.few hW.few
      unfold fstL at h1 ⊢
      omega
    refine q_dcX (setS (fstL ws)) (src_newLM (el_call (ea_cons (ev_var rfl) ea_nil) fun H1 e1 Q q E => ⟨p, ws, rfl, e1 _ _ hp, hW, q⟩)) (by omega) (fun _ => rfl) (fun _ => rfl) fun pd H1 hpd e1 h1 => ?_
    show tSeq _ _ _ [some (.ref p), some (.ref pd), none, none, none] H1
    rw [addAllT_id (by rw [List.nil_append]; exact setS_nodup _), List.nil_append] at h1
    refine q_asgL (el_listX (ev_var rfl) h1) fun pw H2 hpw e2 h2 => ?_
    show tSeq _ _ _ [some (.ref p), some (.ref pd), none, some (.ref pw), none] H2
    have hd2 := e2 _ _ h1
    have hpw0 := fresh_back e1 hpw
    have hdw : pd ≠ pw := fun z => by rw [← z, h1] at hpw; cases hpw
    have hmem0 : ∀ x, x ∈ setS (fstL ws) ↔ Fst ws x := fun x => mem_setS.trans mem_fstL
    have old : ∀ {b : Addr} {o : HO}, H b = some o → b ≠ pd ∧ b ≠ pw := fun hb => ⟨fun z => (by rw [z, hpd] at hb; cases hb), fun z => (by rw [z, hpw0] at hb; cases hb)⟩
    obtain ⟨W, hWd⟩ : ∃ W : Nat → L2.St → Hp → Prop, W = fun m σ' H9 => ∃ (ks wk : List Tx) (v2 v4 : Option V), σ' = [some (.ref p), some (.ref pd), v2, some (.ref pw), v4] ∧ Ex H H9 ∧ H9 pd = some (.dK (DX ks)) ∧ H9 pw = some (.lst (wk.map T)) ∧ MetX ws (Fst ws) ks wk ∧ (∀ x ∈ wk, x ≠ []) ∧ (∀ x ∈ ks, x ≠ [] → x ∈ wk ∨ ClosedX ws ks x) ∧ m + ks.length = wk.length + (sufs ws).length ∧ wk.length ≤ ks.length := ⟨_, rfl⟩
    have M0 : MetX ws (Fst ws) (setS (fstL ws)) (setS (fstL ws)) := ⟨setS_nodup _, fun x hx => .base ((hmem0 x).mp hx), fun x hx => (hmem0 x).mpr hx, fun x hx => hx⟩
    refine q_while W (sufs ws).length ?_ fun m σ' H4 hw => ?_
    · rw [hWd]
      exact ⟨_, _, none, none, rfl, e1.trans e2, hd2, h2, M0, fun x hx => fst_ne ((hmem0 x).mp hx), fun x hx _ => .inl hx, by omega, Nat.le_refl _⟩
    rw [hWd] at hw
    obtain ⟨ks, wk, v2, v4, rfl, eD, hd4, hw4, hM, hne, hC, hm, hwk⟩ := hw
    have hkf := hM.few hFs
    have hlow : ∀ x ∈ wk, LowT x := fun x hx => hW.low ((hM.reach x (hM.wk x hx)).sufs hFs)
    refine ⟨!decide (wk = []), et_neNilT hw4 hlow (ev_var rfl), fun hb H5 e5 => ?_, fun hb H5 e5 => ?_⟩
    · refine ⟨fun σ2 H2 => ∃ m', m' < m ∧ W m' σ2 H2, fun _ _ z => z, ?_⟩
      have hwne : wk ≠ [] := by simpa using hb
      obtain ⟨wk', r, rfl⟩ : ∃ wk' r, wk = wk' ++ [r] := ⟨wk.dropLast, wk.getLast hwne, (List.dropLast_concat_getLast hwne).symm⟩
      have hrk : r ∈ ks := hM.wk r (List.mem_append.mpr (.inr List.mem_cons_self))
      have hrn : r ≠ [] := hne r (List.mem_append.mpr (.inr List.mem_cons_self))
      have hr12 := hW.short ((hM.reach r hrk).sufs hFs)
      rw [List.length_append, List.length_singleton] at hm hwk
      refine s_forOf ⟨.ref p, rfl, wp_popT (i := 3) rfl (e5 _ _ hw4) ?_⟩
      have eE : Ex H (upd H5 pw (.lst (wk'.map T))) := Ex.mut (eD.trans e5) hpw0
      have hd6 : (upd H5 pw (.lst (wk'.map T))) pd = some (.dK (DX ks)) := by rw [upd_ne hdw]; exact e5 _ _ hd4
      have hw6 : (upd H5 pw (.lst (wk'.map T))) pw = some (.lst (wk'.map T)) := upd_same
      generalize upd H5 pw (.lst (wk'.map T)) = H6 at eE hd6 hw6 ⊢
      have hM6 : MetX ws (Fst ws) ks wk' := ⟨hM.nd, hM.reach, hM.has, fun x hx => hM.wk x (List.mem_append.mpr (.inl hx))⟩
      have hne6 : ∀ x ∈ wk', x ≠ [] := fun x hx => hne x (List.mem_append.mpr (.inl hx))
      have hC6 : ∀ x ∈ ks, x ≠ [] → x ∈ wk' ∨ x = r ∨ ClosedX ws ks x := fun x hx hxn => (hC x hx hxn).elim (fun z => (List.mem_append.mp z).elim .inl fun z => .inr (.inl (List.mem_singleton.mp z))) fun z => .inr (.inr z)
      clear hb hwne hM hne hC hw4 hd4 hlow
      refine ⟨p, ws, r, rfl, eE _ _ hp, hW, hr12, fun q H7 hq e7 hP => ?_⟩
      obtain ⟨ps, hq7, hps⟩ := hP
      have e07 := eE.trans e7
      have hd7 := e7 _ _ hd6
      have hw7 := e7 _ _ hw6
      have nqd : q ≠ pd := fun z => by rw [z, hd6] at hq; cases hq
      have nqw : q ≠ pw := fun z => by rw [z, hw6] at hq; cases hq
      show tFor _ _ _ _ [some (.ref p), some (.ref pd), v2, some (.ref pw), v4] H7
      refine s_forW (fun c => c = pd ∨ c = pw) (src_list ev_is' (sq_of hq7)) ?_
        (fun Ht j σ' H9 => ∃ (ks wk : List Tx) (v2 v4 : Option V), σ' = [some (.ref p), some (.ref pd), v2, some (.ref pw), v4] ∧ Exc (fun c => c = pd ∨ c = pw) Ht H9 ∧ H9 pd = some (.dK (DX ks)) ∧ H9 pw = some (.lst (wk.map T)) ∧ MetX ws (Fst ws) ks wk ∧ (∀ x ∈ wk, x ≠ []) ∧ r ∈ ks ∧ (∀ x ∈ ks, x ≠ [] → x ∈ wk ∨ x = r ∨ ClosedX ws ks x) ∧ wk.length + 1 + (sufs ws).length ≤ m + ks.length ∧ wk.length ≤ ks.length ∧ ∀ y ∈ (behT ws r).take j, y ∈ ks) ?_ ?_ ?_ ?_ ?_
      · rintro c (rfl | rfl)
        · exact ⟨(by rw [hd7]; exact fun z => nomatch z), fun z => nqd z.symm⟩
        · exact ⟨(by rw [hw7]; exact fun z => nomatch z), fun z => nqw z.symm⟩
      · intro Ht e9
        exact ⟨ks, wk', _, _, rfl, Exc.refl _, e9 _ _ hd7, e9 _ _ hw7, hM6, hne6, hrk, hC6, by omega, by omega, fun y hy => by simp at hy⟩
      · rintro Ht j σ' H9 ⟨_, _, _, _, _, h, _⟩
        exact h
      · rintro Ht j σ' Ha Hb ⟨ks, wk, v2, v4, h0, h1, h2, h3, h4⟩ e
        exact ⟨ks, wk, v2, v4, h0, h1.then e, e _ _ h2, e _ _ h3, h4⟩
      · rintro Ht j y σ' H9 e9 hj ⟨ks, wk, v2, v4, rfl, k1, k2, k3, k4, k5, k6, k7, k8, kw, k9⟩ hy
        rw [List.length_map, hps.len] at hj
        have hyj : (behT ws r)[j]? = some (behT ws r)[j] := List.getElem?_eq_getElem hj
        generalize (behT ws r)[j] = x at hyj
        obtain ⟨t, ht, i0, hti⟩ := hps.at_ hyj
        rw [List.getElem?_map, ht] at hy
        cases hy
        have ht9 : H9 t = some (.tup [.int i0, T x]) := k1 _ _ (fun z => z.elim (fun z => by (rw [z, hd7] at hti; cases hti)) (fun z => by (rw [z, hw7] at hti; cases hti))) (e9 _ _ hti)
        have hxb : x ∈ behT ws r := List.mem_of_getElem? hyj
        have hkf := k4.few hFs
        have htk : ∀ y, y ∈ (behT ws r).take (j + 1) ↔ y ∈ (behT ws r).take j ∨ y = x := fun y => by
          rw [List.take_add_one, hyj, List.mem_append]
          simp
        refine ⟨t, _, rfl, st_of ht9, rfl, _, _, rfl, _, [], rfl, rfl, ?_⟩
        show tIfS _ _ _ _ [some (.ref p), some (.ref pd), some (T x), some (.ref pw), some (.int i0)] H9
        refine s_when (et_B (ev_notinX (ev_var rfl) (ev_var rfl) k2)) (fun hc Ha ea => ?_) (fun hc Ha ea => ?_)
        · have hnx : x ∉ ks := by simpa using hc
          have hadd : addT ks x = ks ++ [x] := if_neg hnx
          have hal : (addT ks x).length = ks.length + 1 := by rw [hadd, List.length_append, List.length_singleton]
          refine q_putX (ev_var rfl) (ev_var rfl) (ea _ _ k2) (by omega) fun Hb eb => ?_
          have xc : Exc (fun c => c = pd ∨ c = pw) Ht (upd Hb pd (.dK (DX (addT ks x)))) := (k1.then (ea.trans eb)).upd (.inl (.inl rfl))
          have hwc : (upd Hb pd (.dK (DX (addT ks x)))) pw = some (.lst (wk.map T)) := by rw [upd_ne (Ne.symm hdw)]; exact eb _ _ (ea _ _ k3)
          have hdc : (upd Hb pd (.dK (DX (addT ks x)))) pd = some (.dK (DX (addT ks x))) := upd_same
          generalize upd Hb pd (.dK (DX (addT ks x))) = Hd at xc hwc hdc ⊢
          have hCx : ∀ (wk2 : List Tx), (∀ z ∈ wk, z ∈ wk2) → (x ≠ [] → x ∈ wk2) → ∀ z ∈ addT ks x, z ≠ [] → z ∈ wk2 ∨ z = r ∨ ClosedX ws (addT ks x) z := fun wk2 g1 g2 z hz hzn => by
            rcases mem_addT.mp hz with y | y
            · rcases k7 z y hzn with g | g | g
              · exact .inl (g1 z g)
              · exact .inr (.inl g)
              · exact .inr (.inr fun u hu => addT_keep (g u hu))
            · subst y
              exact .inl (g2 hzn)
          have h9 : ∀ y ∈ (behT ws r).take (j + 1), y ∈ addT ks x := fun y hy => ((htk y).mp hy).elim (fun z => addT_keep (k9 y z)) fun z => mem_addT.mpr (.inr z)
          have hwl : wk.length ≤ 1000 := by omega
          refine s_when (b := !decide (x = [])) (et_test (ev_op (ev_var rfl) ev_c rv_neT)) (fun hx Hx ex => ?_) (fun hx Hx ex => ?_)
          · have hxn : x ≠ [] := by simpa using hx
            refine s_app (ex _ _ hwc) (ev_var rfl) (ev_var rfl) (by rw [List.length_map]; omega) fun He ee => ?_
            refine ⟨addT ks x, wk ++ [x], _, _, rfl, (xc.then (ex.trans ee)).upd (.inl (.inr rfl)), by rw [upd_ne hdw]; exact ee _ _ (ex _ _ hdc), by rw [upd_same, List.map_append]; rfl, k4.add k6 hrn hxb (fun z hz => (List.mem_append.mp hz).imp id List.mem_singleton.mp), fun z hz => (List.mem_append.mp hz).elim (k5 z) fun y => by rw [List.mem_singleton.mp y]; exact hxn, addT_keep k6, hCx _ (fun z hz => List.mem_append.mpr (.inl hz)) (fun _ => List.mem_append.mpr (.inr List.mem_cons_self)), by rw [List.length_append, List.length_singleton]; omega, by rw [List.length_append, List.length_singleton]; omega, h9⟩
          · have hxn : x = [] := by simpa using hx
            exact ⟨addT ks x, wk, _, _, rfl, xc.then ex, ex _ _ hdc, ex _ _ hwc, k4.add k6 hrn hxb (fun z hz => .inl hz), k5, addT_keep k6, hCx _ (fun z hz => hz) (fun g => absurd hxn g), by omega, by omega, h9⟩
        · have hnx : x ∈ ks := by simpa using hc
          exact ⟨ks, wk, _, _, rfl, k1.then ea, ea _ _ k2, ea _ _ k3, k4, k5, k6, k7, k8, kw, fun y hy => ((htk y).mp hy).elim (k9 y) fun z => by rw [z]; exact hnx⟩
      · rintro Ht σ' H9 e9 ⟨ks, wk, v2, v4, rfl, k1, k2, k3, k4, k5, k6, k7, k8, kw, k9⟩
        rw [List.length_map, hps.len, List.take_length] at k9
        have hkf := k4.few hFs
        refine ⟨wk.length + (sufs ws).length - ks.length, by omega, ?_⟩
        rw [hWd]
        refine ⟨ks, wk, _, _, rfl, fun b o hb => k1 _ _ (fun z => z.elim (old hb).1 (old hb).2) (e9 _ _ (e07 _ _ hb)), k2, k3, k4, k5, fun x hx hxn => ?_, by omega, kw⟩
        rcases k7 x hx hxn with g | g | g
        · exact .inl g
        · subst g
          exact .inr k9
        · exact .inr g
    · have hz : wk = [] := by simpa using hb
      subst hz
      exact s_ret (ev_var rfl) fun H6 e6 => ret pd ks H6 hpd ((eD.trans e5).trans e6) ((e5.trans e6) _ _ hd4) hM.nd fun x => met_all hM (fun x hx hxn => (hC x hx hxn).elim (fun z => nomatch z) id) x
/-- each text is cut once at most -/
noncomputable def onceB (ws : List Tx) : Bool := @decide (¬ Rst ws []) (Classical.propDecidable _)
theorem onceB_of {ws ks : List Tx} (h : ∀ x, x ∈ ks ↔ Rst ws x) : (!decide ([] ∈ ks)) = onceB ws := by
  unfold onceB
  by_cases z : [] ∈ ks
  · rw [decide_eq_true z]
    exact (@decide_eq_false _ (Classical.propDecidable _) fun g => g ((h []).mp z)).symm
  · rw [decide_eq_false z]
    exact (@decide_eq_true _ (Classical.propDecidable _) fun g => z ((h []).mpr g)).symm
def sp_is_once : Sp := fun vs H Q _ => ∃ (p : Addr) (ws : List Tx), vs = [.ref p] ∧ H p = some (.tup (ws.map T)) ∧ Wds ws ∧ RetV (.bl (onceB ws)) H Q
theorem ok_is_once {f : Addr} {fd : FuncData} (F : Fun K "is_once" "is_once" st_is_once f fd) (M : Md K mg) (C_all_rests : Cal P w K mg base "all_rests" st_all_rests 2 ["lot"] sp_all_rests) : FnOk P w K mg base CX0 3 f fd ["lot"] sp_is_once := by
  have nd := sc_is_once.nd
  refine F.ok sc_is_once (fun vs H Q E h => ?_) (fun cdv A outer s H vs Q E hr h => ?_)
  · obtain ⟨_, _, rfl, _⟩ := h
    rfl
  · obtain ⟨p, ws, rfl, hp, hW, k⟩ := h
    refine ⟨_, (pss_one (ps_ret (pe_cmp (pc_dnotin (hu1 hr.units) (pe_sT []) (pe_cl C_all_rests hr (pa_cons (pv 0) pa_nil))) rfl))), ?_⟩
    refine ⟨.ref p, rfl, p, ws, rfl, hp, hW, fun d ks H1 hd e1 h1 hnd hm => ⟨d, _, rfl, DGet.k (k := kx []) h1, ?_⟩⟩
    rw [val_DX, some_if, onceB_of hm]
    exact k H1 e1
noncomputable def faithB (rep : List Tx) : Bool := !decide ([] ∈ rep) && (decide ((setX rep).length = rep.length) && onceB (sortT rep))
theorem rep_wds {rep : List Tx} (h : IsRep rep) (hn : [] ∉ rep) : Wds (sortT rep) := ⟨by rw [sortT_len]; have := h.few; omega, fun t ht => h.wd t (sortT_mem.mp ht), fun t ht z => hn (by rw [← z]; exact sortT_mem.mp ht)⟩
def sp_faithful : Sp := fun vs H Q _ => ∃ (p : Addr) (rep : List Tx), vs = [.ref p] ∧ RepAt p rep H ∧ RetV (.bl (faithB rep)) H Q
theorem ok_is_faithful {f : Addr} {fd : FuncData} (F : Fun K "is_faithful" "is_faithful" st_is_faithful f fd) (M : Md K mg) (C_need_replacing : Cal P w K mg base "need_replacing" st_need_replacing 3 ["replacing"] sp_need_rep) (C_is_once : Cal P w K mg base "is_once" st_is_once 3 ["lot"] sp_is_once) : FnOk P w K mg base CX0 4 f fd ["replacing"] sp_faithful := by
  have nd := sc_is_faithful.nd
  refine F.ok sc_is_faithful (fun vs H Q E h => ?_) (fun cdv A outer s H vs Q E hr h => ?_)
  · obtain ⟨_, _, rfl, _⟩ := h
    rfl
  · obtain ⟨p, rep, rfl, hR, k⟩ := h
    refine ⟨_, (pss_cons (ps_expr (pe_cl C_need_replacing hr (pa_cons (pv 0) pa_nil)))
  (pss_cons (ps_if (PW.pt (pw_or (pt_cmpR (kop K (r := fun K => rIn K false) op_in_seq) (pe_sT []) (pv 0) (by rfl)) (pw_or1 (pt_cmpR op_neI (pe_callB (kLenX (P := P) (w := w)) (by rfl) M.n_len boot_len (pa_cons (pe_callTy (ksetTup (K := K) (P := P) (w := w)) (by rfl) M.n_set boot_set (pa_cons (pv 0) pa_nil)) pa_nil)) (pe_callB (kcr K (r := rLenS) call_len_seq) (by rfl) M.n_len boot_len (pa_cons (pv 0) pa_nil)) (nomark _)))))
  (pss_one (ps_ret pe_bl))
  pss_nil)
  (pss_one (ps_ret (pe_cl C_is_once hr (pa_cons (pe_callTy (kcr K (r := rTupS) call_tuple_of) (by rfl) M.n_tuple boot_tuple (pa_cons (pe_callB (ksortTup (K := K) hr.units) (by rfl) M.n_sorted boot_sorted (pa_cons (pv 0) pa_nil)) pa_nil)) pa_nil)))))), ?_⟩
    have hfew := hR.2.few
    refine q_drop (ev_call (ea_cons (ev_var rfl) ea_nil) fun H1 e1 Q q E => ⟨p, rep, rfl, hR.ex e1, q⟩) fun H1 e1 => ?_
    have hp1 := e1 _ _ hR.1
    refine q_when (b := decide ([] ∈ rep) || !decide ((setX rep).length = rep.length)) (et_or (et_is (et_test (ev_op ev_c (ev_var rfl) (rv_isT (st_of hp1) rfl (flat_T rep)))) (inV_T [] rep)) fun _ => et_is (et_test (ev_op (ev_lenSetT (ev_var rfl) (st_of hp1) (by omega)) (ev_lenU (ev_var rfl) (st_of hp1)) rv_I0)) (by rw [List.length_map]; congr 1; exact decide_eq_decide.mpr (by omega))) (fun hb H2 e2 => ?_) (fun hb H2 e2 => ?_)
    · refine s_ret (v := .bl (faithB rep)) (ev_is ev_c ?_) (RetV.mono k (e1.trans e2))
      unfold faithB
      rw [Bool.or_eq_true] at hb
      rcases hb with z | z
      · rw [z]; rfl
      · rw [Bool.not_eq_true'] at z
        rw [z, Bool.false_and, Bool.and_false]
    · rw [Bool.or_eq_false_iff, decide_eq_false_iff_not, Bool.not_eq_false', decide_eq_true_eq] at hb
      refine (eu_tupL (el_sortTup (ev_var rfl) (st_of (e2 _ _ hp1))) : EvU _ (start N_is_faithful [.ref p]) H2 _) H2 (Ex.refl _) _ fun q H3 hq e3 h3 => ⟨q, sortT rep, rfl, h3, rep_wds hR.2 hb.1, ?_⟩
      have := RetV.mono k ((e1.trans e2).trans e3)
      unfold faithB at this
      rw [decide_eq_false hb.1, decide_eq_true hb.2] at this
      exact this
end
end K21
set_option Elab.async false
set_option linter.all false
set_option maxRecDepth 100000
set_option maxHeartbeats 4000000
namespace K21
open PySem PySem.Spec PyProof.Rows L2 Evl Wc Wt Wg Ws Wr _root_.Wd
/-- sorted(set(..)) of a standing list of texts -/
theorem el_setSV {P : Program} {w : World} {K : PySem.W.Frag} {σ : L2.St} {H : Hp} {te : TE} {p : Addr} {xs : List Tx} (h : Ev te σ H (.ref p)) (hp : H p = some (.lst (xs.map T))) (hl : xs.length ≤ 4000) : EvL (tCB (rSortX K P w) (tCons (tCB (rSetTx K P w) (tCons te tNil)) tNil)) σ H ((setS xs).map T) := fun H1 e1 Q q =>
  h H1 e1 _ fun H2 e2 => ⟨p, xs, rfl, sq_of ((e1.trans e2) _ _ hp), hl, fun d ys u hly hd => .inr ⟨d, ys, rfl, upd_same, fun zs r pz hr => q r _ (fresh_back (e2.trans (Ex.new hd)) hr) ((e2.trans (Ex.new hd)).trans (Ex.new hr)) (by rw [upd_same, sortT_of_perm pz, setS_uniq u])⟩⟩
def fst2L (ws : List Tx) (w : Tx) : List Tx := (ws.filter fun o => decide (o.length < w.length) && decide (w.take o.length = o)).map fun o => w.drop o.length
theorem fst2_same (ws : List Tx) : setS (ws.flatMap (fst2L ws)) = setS (fstL ws) := setS_same fun x => by
  rw [mem_fstL, List.mem_flatMap]
  unfold fst2L Fst
  constructor
  · rintro ⟨w, hw, hx⟩
    obtain ⟨o, ho, rfl⟩ := List.mem_map.mp hx
    obtain ⟨h1, h2⟩ := List.mem_filter.mp ho
    rw [Bool.and_eq_true, decide_eq_true_eq, decide_eq_true_eq] at h2
    exact ⟨w, hw, o, h1, fun z => by rw [z] at h2; omega, h2.2, rfl⟩
  · rintro ⟨w, hw, o, ho, h1, h2, rfl⟩
    refine ⟨w, hw, List.mem_map.mpr ⟨o, List.mem_filter.mpr ⟨ho, ?_⟩, rfl⟩⟩
    rw [Bool.and_eq_true, decide_eq_true_eq, decide_eq_true_eq]
    refine ⟨?_, h2⟩
    have hl := congrArg List.length h2
    rw [List.length_take] at hl
    by_cases z : o.length < w.length
    · exact z
    · exact absurd (by rw [← h2, List.take_of_length_le (by omega)]) h1
theorem fst2_len (ws : List Tx) : ∀ l : List Tx, (l.flatMap (fst2L ws)).length ≤ l.length * ws.length
  | [] => Nat.zero_le _
  | w :: l => by
    have h1 := fst2_len ws l
    rw [List.flatMap_cons, List.length_append, List.length_cons, Nat.succ_mul]
    unfold fst2L at h1 ⊢
    rw [List.length_map]
    have := List.length_filter_le (fun o => decide (o.length < w.length) && decide (w.take o.length = o)) ws
    omega
section
variable {P : Program} {w : World} {K : PySem.W.Frag} {mg : Str → Option Value} {base : Heap}
def sp_law_behind : Sp := fun vs H Q _ => ∃ (p : Addr) (ws : List Tx) (r : Tx), vs = [.ref p, T r] ∧ H p = some (.lst (ws.map T)) ∧ Wds ws ∧ r.length ≤ 12 ∧ RetL ((behT ws r).map T) H Q
theorem ok__law_behind_rest {f : Addr} {fd : FuncData} (F : Fun K "_law_behind_rest" "_law_behind_rest" st__law_behind_rest f fd) (M : Md K mg) : FnOk P w K mg base CX0 1 f fd ["lot", "rest"] sp_law_behind := by
  have nd := sc__law_behind_rest.nd
  refine F.ok sc__law_behind_rest (fun vs H Q E h => ?_) (fun cdv A outer s H vs Q E hr h => ?_)
  · obtain ⟨_, _, _, rfl, _⟩ := h
    rfl
  · obtain ⟨p, ws, r, rfl, hp, hW, hr12, k⟩ := h
    refine ⟨_, (pss_cons (ps_set (i := 2) nd rfl (Or.inl rfl) (pe_lst pa_nil))
  (pss_cons (ps_for PassesOwn.never rfl (kil K (pi_list (pv 0))) (pg_name (i := 3) nd rfl (Or.inl rfl))
  (pss_one (ps_if (pt_cmpR op_eqT (pe_slice sl_T (pv 3) po_none (po_some (pe_callB cr_lenT (by rfl) M.n_len boot_len (pa_cons (pv 1) pa_nil)))) (pv 1) (nomark _))
  (pss_one (ps_expr (kbm K (pe_bm PySem.F.plainAttrs_list PySem.F.slot_list_append PySem.F.type_list_append mt_append (pv 2) (pa_cons (pe_slice sl_T (pv 3) (po_some (pe_callB cr_lenT (by rfl) M.n_len boot_len (pa_cons (pv 1) pa_nil))) po_none) pa_nil)))))
  (pss_one (ps_if (pt_cmpR op_eqT (pe_slice sl_T (pv 1) po_none (po_some (pe_callB cr_lenT (by rfl) M.n_len boot_len (pa_cons (pv 3) pa_nil)))) (pv 3) (nomark _))
  (pss_one (ps_expr (kbm K (pe_bm PySem.F.plainAttrs_list PySem.F.slot_list_append PySem.F.type_list_append mt_append (pv 2) (pa_cons (pe_slice sl_T (pv 1) (po_some (pe_callB cr_lenT (by rfl) M.n_len boot_len (pa_cons (pv 3) pa_nil))) po_none) pa_nil)))))
  pss_nil)))))
  (pss_one (ps_ret (pv 2))))), ?_⟩
    have hfew := hW.few
    refine q_asgL (el_lst ea_nil (by decide)) fun pf H1 hpf e1 h1 => ?_
    show tSeq _ _ _ [some (.ref p), some (T r), some (.ref pf), none] H1
    have np : pf ≠ p := fun z => by rw [z, hp] at hpf; cases hpf
    refine q_forW (fun c => c = pf) (src_listM (f := T) (xs := ws) (ev_var rfl) (sq_of (e1 _ _ hp))) ?_
      (fun Hs i σ' H' => ∃ (v3 : Option V), σ' = [some (.ref p), some (T r), some (.ref pf), v3] ∧ Exc (fun c => c = pf) Hs H' ∧ H' pf = some (.lst (((ws.take i).flatMap (behO r)).map T)) ∧ ((ws.take i).flatMap (behO r)).length ≤ i) ?_ ?_ ?_ ?_ ?_
    · rintro c rfl
      exact ⟨by rw [h1]; exact fun z => (nomatch z), fun z => np z⟩
    · intro Hs e
      exact ⟨none, rfl, Exc.refl _, e _ _ h1, Nat.le_refl _⟩
    · rintro Hs i σ' H' ⟨_, _, h, _⟩
      exact h
    · rintro Hs i σ' Ha Hb ⟨v3, h0, h2, h3, h4⟩ e
      exact ⟨v3, h0, h2.then e, e _ _ h3, h4⟩
    · rintro Hs i x σ' H' e hi ⟨v3, rfl, h2, h3, h4⟩ hx
      obtain ⟨wd, hw1, rfl⟩ := at_map hx
      have hlw := (hW.wd wd (List.mem_of_getElem? hw1)).1
      have hil : i < ws.length := (List.getElem?_eq_some_iff.mp hw1).1
      rw [beh_take (r := r) hw1]
      show tIfS _ _ _ _ [some (.ref p), some (T r), some (.ref pf), some (T wd)] H'
      refine s_if (b := decide (wd.take r.length = r)) (et_is (et_test (ev_op (ev_slT (ev_var rfl) eo_none (eo_some (ev_cb (ea_cons (ev_var rfl) ea_nil) (rc_lenT (by omega)))) (by omega)) (ev_var rfl) rv_eqT)) (by rw [cutT_to])) (fun hb Ha ea => ?_) (fun hb Ha ea => ?_)
      · have hb := of_decide_eq_true hb
        rw [show behO r wd = [wd.drop r.length] from if_pos hb]
        refine s_app (ea _ _ h3) (ev_var rfl) (ev_is (ev_slT (ev_var rfl) (eo_some (ev_cb (ea_cons (ev_var rfl) ea_nil) (rc_lenT (by omega)))) eo_none (by omega)) (by rw [cutT_from])) (by rw [List.length_map]; omega) fun Hb eb => ?_
        exact ⟨_, rfl, (h2.then (ea.trans eb)).upd (.inl rfl), by rw [upd_same, List.map_append]; rfl, by rw [List.length_append, List.length_singleton]; omega⟩
      · have hb := of_decide_eq_false hb
        refine s_if (b := decide (r.take wd.length = wd)) (et_is (et_test (ev_op (ev_slT (ev_var rfl) eo_none (eo_some (ev_cb (ea_cons (ev_var rfl) ea_nil) (rc_lenT (by omega)))) (by omega)) (ev_var rfl) rv_eqT)) (by rw [cutT_to])) (fun hc Hb eb => ?_) (fun hc Hb eb => ?_)
        · have hc := of_decide_eq_true hc
          rw [show behO r wd = [r.drop wd.length] from (if_neg hb).trans (if_pos hc)]
          refine s_app ((ea.trans eb) _ _ h3) (ev_var rfl) (ev_is (ev_slT (ev_var rfl) (eo_some (ev_cb (ea_cons (ev_var rfl) ea_nil) (rc_lenT (by omega)))) eo_none (by omega)) (by rw [cutT_from])) (by rw [List.length_map]; omega) fun Hc ec => ?_
          exact ⟨_, rfl, (h2.then ((ea.trans eb).trans ec)).upd (.inl rfl), by rw [upd_same, List.map_append]; rfl, by rw [List.length_append, List.length_singleton]; omega⟩
        · have hc := of_decide_eq_false hc
          rw [show behO r wd = [] from (if_neg hb).trans (if_neg hc), List.append_nil]
          exact ⟨_, rfl, h2.then (ea.trans eb), (ea.trans eb) _ _ h3, by omega⟩
    · rintro Hs σ' H' e ⟨v3, rfl, h2, h3, h4⟩
      rw [List.take_length] at h3
      exact s_ret (ev_var rfl) fun H3 e3 => k pf H3 hpf (fun b o hb => e3 _ _ (h2 _ _ (ne_of_none hb hpf) (e _ _ (e1 _ _ hb)))) (e3 _ _ h3)
def sp_law_firsts : Sp := fun vs H Q _ => ∃ (p : Addr) (ws : List Tx), vs = [.ref p] ∧ H p = some (.lst (ws.map T)) ∧ Wds ws ∧ RetL ((setS (fstL ws)).map T) H Q
theorem ok__law_firsts {f : Addr} {fd : FuncData} (F : Fun K "_law_firsts" "_law_firsts" st__law_firsts f fd) (M : Md K mg) : FnOk P w K mg base CX0 1 f fd ["lot"] sp_law_firsts := by
  have nd := sc__law_firsts.nd
  refine F.ok sc__law_firsts (fun vs H Q E h => ?_) (fun cdv A outer s H vs Q E hr h => ?_)
  · obtain ⟨_, _, rfl, _⟩ := h
    rfl
  · obtain ⟨p, ws, rfl, hp, hW, k⟩ := h
    refine ⟨_, (pss_cons (ps_set (i := 1) nd rfl (Or.inl rfl) (pe_lst pa_nil))
  (pss_cons (ps_for PassesOwn.never rfl (kil K (pi_list (pv 0))) (pg_name (i := 2) nd rfl (Or.inr rfl))
  (pss_one (ps_expr (kbm K (pe_bm PySem.F.plainAttrs_list PySem.F.slot_list_extend PySem.F.type_list_extend mt_extend (pv 1) (pa_cons (pe_lc (own := [("other", 3)]) rfl nd (kil K (pi_list (pv 0))) (blkOk_by (N := N__law_firsts) (sc := defScope st__law_firsts) (by decide +kernel)) (fun _ _ _ _ _ => (pg_name (i := 3) nd rfl (Or.inl rfl))) (fun _ _ _ _ _ => (pts_one (PW.pt (pw_and (pt_cmpR op_lt (pe_callB cr_lenT (by rfl) M.n_len boot_len (pa_cons (pv 3) pa_nil)) (pe_callB cr_lenT (by rfl) M.n_len boot_len (pa_cons (pv 2) pa_nil)) (nomark _)) (pw_and1 (pt_cmpR op_eqT (pe_slice sl_T (pv 2) po_none (po_some (pe_callB cr_lenT (by rfl) M.n_len boot_len (pa_cons (pv 3) pa_nil)))) (pv 3) (nomark _))))))) (fun _ _ _ _ _ => (pe_slice sl_T (pv 2) (po_some (pe_callB cr_lenT (by rfl) M.n_len boot_len (pa_cons (pv 3) pa_nil))) po_none))) pa_nil))))))
  (pss_one (ps_ret (pe_callB (ksorted P w K hr.units) (by rfl) M.n_sorted boot_sorted (pa_cons (pe_callTy (kset P w K) (by rfl) M.n_set boot_set (pa_cons (pv 1) pa_nil)) pa_nil)))))), ?_⟩
    have hfew := hW.few
    refine q_asgL (el_lst ea_nil (by decide)) fun pf H1 hpf e1 h1 => ?_
    show tSeq _ _ _ [some (.ref p), some (.ref pf), none, none] H1
    have np : pf ≠ p := fun z => by rw [z, hp] at hpf; cases hpf
    have hlen : ∀ i, ((ws.take i).flatMap (fst2L ws)).length ≤ 144 := fun i => by
      have h1 := fst2_len ws (ws.take i)
      have h2 : (ws.take i).length * ws.length ≤ 12 * 12 := Nat.mul_le_mul (by rw [List.length_take]; omega) hfew
      omega
    refine q_forW (fun c => c = pf) (src_listM (f := T) (xs := ws) (ev_var rfl) (sq_of (e1 _ _ hp))) ?_
      (fun Hs i σ' H' => ∃ (v2 : Option V), σ' = [some (.ref p), some (.ref pf), v2, none] ∧ Exc (fun c => c = pf) Hs H' ∧ H' pf = some (.lst (((ws.take i).flatMap (fst2L ws)).map T))) ?_ ?_ ?_ ?_ ?_
    · rintro c rfl
      exact ⟨by rw [h1]; exact fun z => (nomatch z), fun z => np z⟩
    · intro Hs e
      exact ⟨none, rfl, Exc.refl _, e _ _ h1⟩
    · rintro Hs i σ' H' ⟨_, _, h, _⟩
      exact h
    · rintro Hs i σ' Ha Hb ⟨v2, h0, h2, h3⟩ e
      exact ⟨v2, h0, h2.then e, e _ _ h3⟩
    · rintro Hs i x σ' H' e hi ⟨v2, rfl, h2, h3⟩ hx
      obtain ⟨wd, hw1, rfl⟩ := at_map hx
      have hlw := (hW.wd wd (List.mem_of_getElem? hw1)).1
      have hp6 : H' p = some (.lst (ws.map T)) := h2 _ _ (Ne.symm np) (e _ _ (e1 _ _ hp))
      show tDrop _ _ [some (.ref p), some (.ref pf), some (T wd), none] H'
      have hlc : EvL (tLc (iList K (tVar 0)) (gName 3) (tAnd (tTest (tOp (rI0 fun i j => .bl (decide (i < j))) (tCB rLenT (tCons (tVar 3) tNil)) (tCB rLenT (tCons (tVar 2) tNil)))) (tTest (tOp rEqT (tSl rSlT (tVar 2) tNoPart (tPart (tCB rLenT (tCons (tVar 3) tNil)))) (tVar 3)))) (tSl rSlT (tVar 2) (tPart (tCB rLenT (tCons (tVar 3) tNil))) tNoPart) [3]) [some (.ref p), some (.ref pf), some (T wd), none] H' ((fst2L ws wd).map T) := by
        unfold fst2L
        rw [List.map_map]
        refine el_lcF (j := 3) (vs := [3]) (f := T) (g := fun o => T (wd.drop o.length)) ws (src_listM (ev_var rfl) (sq_of hp6)) (by omega) (fun _ => rfl) (fun o H4 e4 ho => ?_) (fun o H4 e4 ho _ => ?_)
        · have := (hW.wd o ho).1
          exact et_and (et_is (et_test (ev_op (ev_cb (ea_cons (ev_var rfl) ea_nil) (rc_lenT (by omega))) (ev_cb (ea_cons (ev_var rfl) ea_nil) (rc_lenT (by omega))) rv_I0)) (decide_eq_decide.mpr (by omega))) fun _ => et_is (et_test (ev_op (ev_slT (ev_var rfl) eo_none (eo_some (ev_cb (ea_cons (ev_var rfl) ea_nil) (rc_lenT (by omega)))) (by omega)) (ev_var rfl) rv_eqT)) (by rw [cutT_to])
        · have := (hW.wd o ho).1
          exact ev_is (ev_slT (ev_var rfl) (eo_some (ev_cb (ea_cons (ev_var rfl) ea_nil) (rc_lenT (by omega)))) eo_none (by omega)) (by rw [cutT_from])
      have htk : ((ws.take (i + 1)).flatMap (fst2L ws)).map T = ((ws.take i).flatMap (fst2L ws)).map T ++ (fst2L ws wd).map T := by
        rw [List.take_add_one, hw1, List.flatMap_append, List.map_append]
        simp
      have hl1 := hlen (i + 1)
      have hl2 := congrArg List.length htk
      simp only [List.length_append, List.length_map] at hl2
      refine s_ext h3 (ev_var rfl) hlc (by rw [List.length_map, List.length_map]; omega) fun Hb eb => ⟨_, rfl, (h2.then eb).upd (.inl rfl), by rw [upd_same, htk]⟩
    · rintro Hs σ' H' e ⟨v2, rfl, h2, h3⟩
      have hl := hlen ws.length
      rw [List.take_length] at h3 hl
      refine s_retL (el_setSV (ev_var rfl) h3 (by omega)) fun q H3 hq e3 h3' => ?_
      have eX : Ex H H' := fun b o hb => h2 _ _ (ne_of_none hb hpf) (e _ _ (e1 _ _ hb))
      rw [fst2_same] at h3'
      exact k q H3 (fresh_back eX hq) (eX.trans e3) h3'
def sp_closed : Sp := fun vs H Q _ => ∃ (p q : Addr) (ws F : List Tx), vs = [.ref p, .ref q] ∧ H p = some (.lst (ws.map T)) ∧ H q = some (.lst (F.map T)) ∧ Wds ws ∧ (∀ x ∈ F, x ∈ sufs ws) ∧ F.length ≤ 500 ∧ ∀ ks, ks.Nodup → (∀ x, x ∈ ks ↔ Rch ws (· ∈ F) x) → RetL ((sortT ks).map T) H Q
set_option maxHeartbeats 8000000 in
theorem ok__law_closed {f : Addr} {fd : FuncData} (F : Fun K "_law_closed" "_law_closed" st__law_closed f fd) (M : Md K mg) (C__law_behind_rest : Cal P w K mg base "_law_behind_rest" st__law_behind_rest 1 ["lot", "rest"] sp_law_behind) : FnOk P w K mg base CX0 2 f fd ["lot", "rests"] sp_closed := by
  have nd := sc__law_closed.nd
  refine F.ok sc__law_closed (fun vs H Q E h => ?_) (fun cdv A outer s H vs Q E hr h => ?_)
  · obtain ⟨_, _, _, _, rfl, _⟩ := h
    rfl
  · obtain ⟨p, q, ws, F, rfl, hp, hq, hW, hFs, hF, ret⟩ := h
    refine ⟨_, (pss_cons (ps_par (i := 2) (j := 3) rfl nd rfl rfl (by decide) rfl rfl (pa_cons (pe_callTy (kDictP (K := K)) (by rfl) M.n_dict boot_dict (pa_cons (pe_lc (own := [("rest", 4)]) rfl nd (kil K (pi_list (pv 1))) (blkOk_by (N := N__law_closed) (sc := defScope st__law_closed) (by decide +kernel)) (fun _ _ _ _ _ => (pg_name (i := 4) nd rfl (Or.inl rfl))) (fun _ _ _ _ _ => pts_nil) (fun _ _ _ _ _ => (pe_tup (pa_cons (pv 4) (pa_cons pe_bl pa_nil))))) pa_nil)) (pa_cons (pe_callTy (kcr K (r := rListS) call_list_of) (by rfl) M.n_list boot_list (pa_cons (pv 1) pa_nil)) pa_nil)) (by rfl))
  (pss_cons (ps_for PassesOwn.never rfl (pi_range1 (by rfl) M.n_range (pa_cons (pe_op op_add pe_int (pe_callB (kcr K (r := rLenS) call_len_seq) (by rfl) M.n_len boot_len (pa_cons (pv 1) pa_nil))) pa_nil)) (pg_name (i := 5) nd rfl (Or.inl rfl))
  (pss_cons (ps_if (pt_cmpR (kop K (r := rEqD) (op_eqD hr.units)) (pv 3) (pe_lst pa_nil) (nomark _))
  (pss_one ps_break)
  pss_nil)
  (pss_cons (ps_set (i := 4) nd rfl (Or.inl rfl) (kbm0 K (pe_bm0 PySem.F.plainAttrs_list PySem.F.slot_list_pop PySem.F.type_list_pop mt_pop (pv 3))))
  (pss_one (ps_for PassesOwn.never rfl (kil K (pi_list (pe_ifExp (pt_cmpR op_neT (pv 4) (pe_sT []) (nomark _)) (pe_cl C__law_behind_rest hr (pa_cons (pv 0) (pa_cons (pv 4) pa_nil))) (pe_lst pa_nil)))) (pg_name (i := 6) nd rfl (Or.inl rfl))
  (pss_one (ps_if (pt_cmp (pc_dnotin (hu1 hr.units) (pv 6) (pv 2)))
  (pss_cons (ps_dput (hu1 hr.units) (pv 2) (pv 6) pe_bl (by rfl))
  (pss_one (ps_expr (kbm K (pe_bm PySem.F.plainAttrs_list PySem.F.slot_list_append PySem.F.type_list_append mt_append (pv 3) (pa_cons (pv 6) pa_nil))))))
  pss_nil)))))))
  (pss_one (ps_ret (pe_callB (ksorted P w K hr.units) (by rfl) M.n_sorted boot_sorted (pa_cons (pe_callTy (call_list_dK rfl) (by rfl) M.n_list boot_list (pa_cons (pv 2) pa_nil)) pa_nil)))))), ?_⟩
    have hU := hW.sufs
    refine wp_dictX rfl hq (by omega) (fun _ => rfl) (fun _ => rfl) fun pd H1 hpd e1 hd1 => ?_
    refine (el_list (ev_var rfl) (sq_of (e1 _ _ hq)) : EvL (tCB (rListS K) (tCons (tVar 1) tNil)) (start N__law_closed [.ref p, .ref q]) H1 (F.map T)) H1 (Ex.refl _) _ fun pw H2 hpw e2 hw2 => ⟨_, _, rfl, ?_⟩
    have hd2 := e2 _ _ hd1
    have e02 := e1.trans e2
    have hpw0 := fresh_back e1 hpw
    have hdw : pd ≠ pw := fun z => by rw [← z, hd1] at hpw; cases hpw
    have old : ∀ {b : Addr} {o : HO}, H b = some o → b ≠ pd ∧ b ≠ pw := fun hb => ⟨fun z => (by rw [z, hpd] at hb; cases hb), fun z => (by rw [z, hpw0] at hb; cases hb)⟩
    generalize hk0 : addAllT [] F = ks0 at hd2
    have hm0 : ∀ m, m ∈ ks0 ↔ m ∈ F := fun m => by rw [← hk0, mem_addAllT]; exact ⟨fun z => z.elim (fun h => nomatch h) id, .inr⟩
    have hnd0 : ks0.Nodup := by rw [← hk0]; exact addAllT_nodup List.Pairwise.nil
    clear hk0 hd1 hpw
    show tSeq _ _ _ [some (.ref p), some (.ref q), some (.ref pd), some (.ref pw), none, none, none] H2
    have kp : ∀ {Hs Hx : Hp}, Ex H2 Hs → Exc (fun c => c = pd ∨ c = pw) Hs Hx → Ex H Hx := fun es ex b o hbo => ex _ _ (fun z => z.elim (old hbo).1 (old hbo).2) (es _ _ (e02 _ _ hbo))
    have fin : ∀ {Hx : Hp} {ks : List Tx} {v4 v5 v6 : Option V} {D : Ends}, Ex H Hx → Hx pd = some (.dK (DX ks)) → MetX ws (· ∈ F) ks [] → (∀ x ∈ ks, x ≠ [] → ClosedX ws ks x) → (∀ v H', Q v H' → D.rt v H') → tRet (tCB (rSortX K P w) (tCons (tCB rListD (tCons (tVar 2) tNil)) tNil)) D [some (.ref p), some (.ref q), some (.ref pd), some (.ref pw), v4, v5, v6] Hx := fun {Hx ks v4 v5 v6 D} ex hd hM hC hD => by
      refine el_listX (ev_var rfl) hd Hx (Ex.refl _) _ fun l H3 hl e3 h3 => .inl ⟨l, ks, rfl, sq_of h3, fun r hr => hD _ _ (ret ks hM.nd (met_all hM hC) r _ (fresh_back (ex.trans e3) hr) ((ex.trans e3).trans (Ex.new hr)) upd_same)⟩
    refine q_forW (fun c => c = pd ∨ c = pw) (src_range1 (n := 200 + F.length) (ea_cons (ev_is (ev_op ev_c (ev_len (ev_var rfl) (sq_of (e02 _ _ hq))) rv_I0) (by rw [List.length_map]; rfl)) ea_nil) (by omega)) ?_
      (fun Hs i σ' H' => ∃ (ks wk : List Tx) (v4 v5 v6 : Option V), σ' = [some (.ref p), some (.ref q), some (.ref pd), some (.ref pw), v4, v5, v6] ∧ Exc (fun c => c = pd ∨ c = pw) Hs H' ∧ H' pd = some (.dK (DX ks)) ∧ H' pw = some (.lst (wk.map T)) ∧ MetX ws (· ∈ F) ks wk ∧ (∀ x ∈ ks, x ≠ [] → x ∈ wk ∨ ClosedX ws ks x) ∧ wk.length + i + ks0.length = F.length + ks.length) ?_ ?_ ?_ ?_ ?_
    · rintro c (rfl | rfl)
      · exact ⟨(by rw [hd2]; exact fun z => nomatch z), fun z => z⟩
      · exact ⟨(by rw [hw2]; exact fun z => nomatch z), fun z => z⟩
    · intro Hs e
      exact ⟨ks0, F, none, none, none, rfl, Exc.refl _, e _ _ hd2, e _ _ hw2, ⟨hnd0, fun m hm => .base ((hm0 m).mp hm), fun m hm => (hm0 m).mpr hm, fun m hm => (hm0 m).mpr hm⟩, fun m hm _ => .inl ((hm0 m).mp hm), by omega⟩
    · rintro Hs i σ' H' ⟨_, _, _, _, _, _, h, _⟩
      exact h
    · rintro Hs i σ' Ha Hb ⟨ks, wk, v4, v5, v6, h0, h1, h2, h3, h4⟩ e
      exact ⟨ks, wk, v4, v5, v6, h0, h1.then e, e _ _ h2, e _ _ h3, h4⟩
    · rintro Hs i y σ' H' e hi ⟨ks, wk, v4, v5, v6, rfl, j1, j2, j3, j4, j5, j6⟩ rfl
      have hkf := j4.few hFs
      have hlow : ∀ x ∈ wk, LowT x := fun x hx => hW.low ((j4.reach x (j4.wk x hx)).sufs hFs)
      show tSeq _ _ _ [some (.ref p), some (.ref q), some (.ref pd), some (.ref pw), v4, some (.int (i : Int)), v6] H'
      refine q_when (et_eqNilT j3 hlow (ev_var rfl)) (fun hb H3 e3 => ?_) (fun hb H3 e3 => ?_)
      · have hw0 := of_decide_eq_true hb
        subst hw0
        exact fin (kp e (j1.then e3)) (e3 _ _ j2) j4 (fun x hx hxn => (j5 x hx hxn).elim (fun z => nomatch z) id) fun v H' q => q
      · have hwne := of_decide_eq_false hb
        obtain ⟨wk', r, rfl⟩ : ∃ wk' r, wk = wk' ++ [r] := ⟨wk.dropLast, wk.getLast hwne, (List.dropLast_concat_getLast hwne).symm⟩
        have hrk : r ∈ ks := j4.wk r (List.mem_append.mpr (.inr List.mem_cons_self))
        have hr12 := hW.short ((j4.reach r hrk).sufs hFs)
        rw [List.length_append, List.length_singleton] at j6
        refine q_popT rfl (e3 _ _ j3) ?_
        have x3 : Exc (fun c => c = pd ∨ c = pw) Hs (upd H3 pw (.lst (wk'.map T))) := (j1.then e3).upd (.inl (.inr rfl))
        have hd3 : (upd H3 pw (.lst (wk'.map T))) pd = some (.dK (DX ks)) := by rw [upd_ne hdw]; exact e3 _ _ j2
        have hw3 : (upd H3 pw (.lst (wk'.map T))) pw = some (.lst (wk'.map T)) := upd_same
        generalize upd H3 pw (.lst (wk'.map T)) = H4 at x3 hd3 hw3 ⊢
        have hM4 : MetX ws (· ∈ F) ks wk' := ⟨j4.nd, j4.reach, j4.has, fun m hm => j4.wk m (List.mem_append.mpr (.inl hm))⟩
        have hC4 : ∀ x ∈ ks, x ≠ [] → x ∈ wk' ∨ x = r ∨ ClosedX ws ks x := fun x hx hxn => (j5 x hx hxn).elim (fun z => (List.mem_append.mp z).elim .inl fun z => .inr (.inl (List.mem_singleton.mp z))) fun z => .inr (.inr z)
        clear hb hwne j1 j2 j3 j4 j5 hlow
        show tFor _ _ _ _ [some (.ref p), some (.ref q), some (.ref pd), some (.ref pw), some (T r), some (.int (i : Int)), v6] H4
        -- the loop over what comes
        have loop : ∀ (qb : Addr) (ys : List Tx) (H5 : Hp), Ex H4 H5 → H4 qb = none → H5 qb = some (.lst (ys.map T)) → (∀ y ∈ ys, r ≠ [] ∧ y ∈ behT ws r) → (r ≠ [] → ys = behT ws r) → ∀ {D' : Ends}, D'.nx = (fun σ2 H2 => ∃ (ks wk : List Tx) (v4 v5 v6 : Option V), σ2 = [some (.ref p), some (.ref q), some (.ref pd), some (.ref pw), v4, v5, v6] ∧ Exc (fun c => c = pd ∨ c = pw) Hs H2 ∧ H2 pd = some (.dK (DX ks)) ∧ H2 pw = some (.lst (wk.map T)) ∧ MetX ws (· ∈ F) ks wk ∧ (∀ x ∈ ks, x ≠ [] → x ∈ wk ∨ ClosedX ws ks x) ∧ wk.length + (i + 1) + ks0.length = F.length + ks.length) → tFor (iList K (fun _ H' Q' => Q' (.ref qb) H')) (gName 6) (tIfS (tB (tDNotIn (tVar 6) (tVar 2))) (tSeq (sDPut (tVar 2) (tVar 6) (tC (.bl true))) (tDrop (tBM K "list" rAppend (tVar 3) (tCons (tVar 6) tNil)))) tNext) D' [some (.ref p), some (.ref q), some (.ref pd), some (.ref pw), some (T r), some (.int (i : Int)), v6] H5 := fun qb ys H5 e5 hqb h5 hys1 hys2 {D'} hD' => by
          have nqd : qb ≠ pd := fun z => by rw [z, hd3] at hqb; cases hqb
          have nqw : qb ≠ pw := fun z => by rw [z, hw3] at hqb; cases hqb
          refine s_forW (fun c => c = pd ∨ c = pw) (src_listM (f := T) (xs := ys) ev_is' (sq_of h5)) ?_
            (fun Ht j σ' H9 => ∃ (ks wk : List Tx) (v6 : Option V), σ' = [some (.ref p), some (.ref q), some (.ref pd), some (.ref pw), some (T r), some (.int (i : Int)), v6] ∧ Exc (fun c => c = pd ∨ c = pw) Ht H9 ∧ H9 pd = some (.dK (DX ks)) ∧ H9 pw = some (.lst (wk.map T)) ∧ MetX ws (· ∈ F) ks wk ∧ r ∈ ks ∧ (∀ x ∈ ks, x ≠ [] → x ∈ wk ∨ x = r ∨ ClosedX ws ks x) ∧ wk.length + 1 + i + ks0.length = F.length + ks.length ∧ ∀ y ∈ ys.take j, y ∈ ks) ?_ ?_ ?_ ?_ ?_
          · rintro c (rfl | rfl)
            · exact ⟨(by rw [e5 _ _ hd3]; exact fun z => nomatch z), fun z => nqd z.symm⟩
            · exact ⟨(by rw [e5 _ _ hw3]; exact fun z => nomatch z), fun z => nqw z.symm⟩
          · intro Ht e9
            exact ⟨ks, wk', _, rfl, Exc.refl _, e9 _ _ (e5 _ _ hd3), e9 _ _ (e5 _ _ hw3), hM4, hrk, hC4, by omega, fun y hy => by simp at hy⟩
          · rintro Ht j σ' H9 ⟨_, _, _, _, h, _⟩
            exact h
          · rintro Ht j σ' Ha Hb ⟨ks, wk, v6, h0, h1, h2, h3, h4⟩ e
            exact ⟨ks, wk, v6, h0, h1.then e, e _ _ h2, e _ _ h3, h4⟩
          · rintro Ht j y σ' H9 e9 hj ⟨ks, wk, v6, rfl, k1, k2, k3, k4, k5, k6, k7, k8⟩ hy
            obtain ⟨x, hx1, rfl⟩ := at_map hy
            obtain ⟨hrn, hxb⟩ := hys1 x (List.mem_of_getElem? hx1)
            have hkf := k4.few hFs
            have htk : ∀ y, y ∈ ys.take (j + 1) ↔ y ∈ ys.take j ∨ y = x := fun y => by
              rw [List.take_add_one, hx1, List.mem_append]
              simp
            show tIfS _ _ _ _ [some (.ref p), some (.ref q), some (.ref pd), some (.ref pw), some (T r), some (.int (i : Int)), some (T x)] H9
            refine s_when (et_B (ev_notinX (ev_var rfl) (ev_var rfl) k2)) (fun hc Ha ea => ?_) (fun hc Ha ea => ?_)
            · have hnx : x ∉ ks := by simpa using hc
              have hadd : addT ks x = ks ++ [x] := if_neg hnx
              have hal : (addT ks x).length = ks.length + 1 := by rw [hadd, List.length_append, List.length_singleton]
              refine q_putX (ev_var rfl) (ev_var rfl) (ea _ _ k2) (by omega) fun Hb eb => ?_
              have xc : Exc (fun c => c = pd ∨ c = pw) Ht (upd Hb pd (.dK (DX (addT ks x)))) := (k1.then (ea.trans eb)).upd (.inl (.inl rfl))
              have hwc : (upd Hb pd (.dK (DX (addT ks x)))) pw = some (.lst (wk.map T)) := by rw [upd_ne (Ne.symm hdw)]; exact eb _ _ (ea _ _ k3)
              have hdc : (upd Hb pd (.dK (DX (addT ks x)))) pd = some (.dK (DX (addT ks x))) := upd_same
              generalize upd Hb pd (.dK (DX (addT ks x))) = Hd at xc hwc hdc ⊢
              have hwl : wk.length ≤ 2000 := by omega
              refine s_app hwc (ev_var rfl) (ev_var rfl) (by rw [List.length_map]; omega) fun He ee => ?_
              refine ⟨addT ks x, wk ++ [x], _, rfl, (xc.then ee).upd (.inl (.inr rfl)), by rw [upd_ne hdw]; exact ee _ _ hdc, by rw [upd_same, List.map_append]; rfl, k4.add k5 hrn hxb (fun z hz => (List.mem_append.mp hz).imp id List.mem_singleton.mp), addT_keep k5, fun z hz hzn => ?_, by rw [List.length_append, List.length_singleton]; omega, fun y hy => ((htk y).mp hy).elim (fun z => addT_keep (k8 y z)) fun z => mem_addT.mpr (.inr z)⟩
              rcases mem_addT.mp hz with g | g
              · rcases k6 z g hzn with u | u | u
                · exact .inl (List.mem_append.mpr (.inl u))
                · exact .inr (.inl u)
                · exact .inr (.inr fun y hy => addT_keep (u y hy))
              · exact .inl (List.mem_append.mpr (.inr (List.mem_singleton.mpr g)))
            · have hnx : x ∈ ks := by simpa using hc
              exact ⟨ks, wk, _, rfl, k1.then ea, ea _ _ k2, ea _ _ k3, k4, k5, k6, k7, fun y hy => ((htk y).mp hy).elim (k8 y) fun z => by rw [z]; exact hnx⟩
          · rintro Ht σ' H9 e9 ⟨ks, wk, v6, rfl, k1, k2, k3, k4, k5, k6, k7, k8⟩
            rw [List.take_length] at k8
            rw [hD']
            refine ⟨ks, wk, _, _, _, rfl, (x3.then (e5.trans e9)).trans k1, k2, k3, k4, fun x hx hxn => ?_, by omega⟩
            rcases k6 x hx hxn with g | g | g
            · exact .inl g
            · subst g
              exact .inr fun y hy => k8 y (by rw [hys2 hxn]; exact hy)
            · exact .inr g
        refine s_forOf ?_
        by_cases hr0 : r = []
        · refine wp_ifF (et_is (et_test (ev_op (ev_var rfl) ev_c rv_neT)) (by rw [decide_eq_true hr0]; rfl)) fun H5 e5 => (el_lst ea_nil (by decide) : EvL (tLst tNil) _ H5 []) H5 (Ex.refl _) _ fun qb H6 hqb e6 h6 => loop qb [] H6 (e5.trans e6) (fresh_back e5 hqb) h6 (fun y hy => nomatch hy) (fun z => absurd hr0 z) rfl
        · refine wp_ifT (et_is (et_test (ev_op (ev_var rfl) ev_c rv_neT)) (by rw [decide_eq_false hr0]; rfl)) fun H5 e5 => ⟨.ref p, rfl, T r, rfl, p, ws, r, rfl, e5 _ _ (kp e x3 _ _ hp), hW, hr12, fun qb H6 hqb e6 h6 => loop qb (behT ws r) H6 (e5.trans e6) (fresh_back e5 hqb) h6 (fun y hy => ⟨hr0, hy⟩) (fun _ => rfl) rfl⟩
    · rintro Hs σ' H' e ⟨ks, wk, v4, v5, v6, rfl, j1, j2, j3, j4, j5, j6⟩
      have := j4.few hFs
      exfalso
      omega
def sp_law_is_once : Sp := fun vs H Q _ => ∃ (p : Addr) (ws : List Tx), vs = [.ref p] ∧ H p = some (.lst (ws.map T)) ∧ Wds ws ∧ RetV (.bl (onceB ws)) H Q
theorem ok__law_is_once {f : Addr} {fd : FuncData} (F : Fun K "_law_is_once" "_law_is_once" st__law_is_once f fd) (M : Md K mg) (C__law_firsts : Cal P w K mg base "_law_firsts" st__law_firsts 1 ["lot"] sp_law_firsts) (C__law_closed : Cal P w K mg base "_law_closed" st__law_closed 2 ["lot", "rests"] sp_closed) : FnOk P w K mg base CX0 3 f fd ["lot"] sp_law_is_once := by
  have nd := sc__law_is_once.nd
  refine F.ok sc__law_is_once (fun vs H Q E h => ?_) (fun cdv A outer s H vs Q E hr h => ?_)
  · obtain ⟨_, _, rfl, _⟩ := h
    rfl
  · obtain ⟨p, ws, rfl, hp, hW, k⟩ := h
    refine ⟨_, (pss_one (ps_ret (pe_cmpR (kop K (r := fun K => rIn K true) op_notIn_seq) (pe_sT []) (pe_cl C__law_closed hr (pa_cons (pv 0) (pa_cons (pe_cl C__law_firsts hr (pa_cons (pv 0) pa_nil)) pa_nil))) (by rfl)))), ?_⟩
    have hm : ∀ x, x ∈ setS (fstL ws) ↔ Fst ws x := fun x => mem_setS.trans mem_fstL
    have hfl : (setS (fstL ws)).length ≤ 144 := by
      have h1 := setS_len (fstL ws)
      have h2 := fstL_len ws ws
      have h3 : ws.length * ws.length ≤ 12 * 12 := Nat.mul_le_mul hW.few hW.few
      unfold fstL at h1 ⊢
      omega
    refine ⟨.ref p, rfl, .ref p, rfl, p, ws, rfl, hp, hW, fun q H1 hq e1 h1 => ⟨p, q, ws, setS (fstL ws), rfl, e1 _ _ hp, h1, hW, fun x hx => fst_sufs ((hm x).mp hx), by omega, fun ks hnd hk r H2 hr e2 h2 => ?_⟩⟩
    refine ⟨r, _, rfl, .inl (sq_of h2), rfl, flat_T _, ?_⟩
    have hk2 : ∀ x, x ∈ sortT ks ↔ Rst ws x := fun x => sortT_mem.trans ((hk x).trans ⟨Rch.mono fun y hy => .base ((hm y).mp hy), Rch.mono fun y hy => .base ((hm y).mpr hy)⟩)
    show Q (.bl (!inV (T []) ((sortT ks).map T))) H2
    rw [inV_T, onceB_of hk2]
    exact k H2 (e1.trans e2)
theorem ok__law_faithful {f : Addr} {fd : FuncData} (F : Fun K "_law_faithful" "_law_faithful" st__law_faithful f fd) (M : Md K mg) (C__law_is_once : Cal P w K mg base "_law_is_once" st__law_is_once 3 ["lot"] sp_law_is_once) : FnOk P w K mg base CX0 4 f fd ["replacing"] sp_faithful := by
  have nd := sc__law_faithful.nd
  refine F.ok sc__law_faithful (fun vs H Q E h => ?_) (fun cdv A outer s H vs Q E hr h => ?_)
  · obtain ⟨_, _, rfl, _⟩ := h
    rfl
  · obtain ⟨p, rep, rfl, hR, k⟩ := h
    refine ⟨_, (pss_one (ps_ret (pe_and (pe_cmpR (kop K (r := fun K => rIn K true) op_notIn_seq) (pe_sT []) (pv 0) (by rfl)) (pe_and (pe_cmpR op_eqI (pe_callB (kLenX (P := P) (w := w)) (by rfl) M.n_len boot_len (pa_cons (pe_callTy (ksetTup (K := K) (P := P) (w := w)) (by rfl) M.n_set boot_set (pa_cons (pv 0) pa_nil)) pa_nil)) (pe_callB (kcr K (r := rLenS) call_len_seq) (by rfl) M.n_len boot_len (pa_cons (pv 0) pa_nil)) (nomark _)) (pe_one (pe_cl C__law_is_once hr (pa_cons (pe_callB (ksortTup (K := K) hr.units) (by rfl) M.n_sorted boot_sorted (pa_cons (pv 0) pa_nil)) pa_nil))))))), ?_⟩
    have hfew := hR.2.few
    refine s_ret (v := .bl (faithB rep)) ?_ k
    unfold faithB
    refine ev_andV (ev_is (ev_op ev_c (ev_var rfl) (rv_niT (st_of hR.1) rfl (flat_T rep))) (by rw [inV_T])) fun h1 => ?_
    have h1 : [] ∉ rep := by simpa using h1
    refine ev_andV (ev_is (ev_op (ev_lenSetT (ev_var rfl) (st_of hR.1) (by omega)) (ev_lenU (ev_var rfl) (st_of hR.1)) rv_I0) (by rw [List.length_map]; exact congrArg V.bl (decide_eq_decide.mpr (by omega)))) fun h2 => ?_
    exact fun H1 e1 Q' q' => (el_sortTup (ev_var rfl) (st_of (e1 _ _ hR.1)) : EvL _ (start N__law_faithful [.ref p]) H1 _) H1 (Ex.refl _) _ fun q H3 hq e3 h3 => ⟨q, sortT rep, rfl, h3, rep_wds hR.2 h1, fun H4 e4 => q' H4 (e3.trans e4)⟩
end
end K21
set_option Elab.async false
set_option linter.all false
set_option maxRecDepth 100000
set_option maxHeartbeats 8000000
namespace K21
open PySem PySem.Spec PyProof.Rows L2 Evl Wc Wt Wg Ws Wr _root_.Wd
theorem int_sum' (f : Nat → Nat) : ∀ l : List Nat, (l.map fun i => ((f i : Nat) : Int)).sum = (((l.map f).sum : Nat) : Int)
  | [] => rfl
  | a :: l => by
    rw [List.map_cons, List.map_cons, List.sum_cons, List.sum_cons, int_sum' f l, Int.natCast_add]
/-- a new list behind a standing one, put back at its place -/
theorem s_setLN {σ : L2.St} {H : Hp} {te ta tb : TE} {D : Ends} {l : Addr} {xs ys : List V} {j : Nat} (hl : H l = some (.lst xs)) (h : EvL te σ H ys) (ho : ∀ H1, Ex H H1 → Ev ta σ H1 (.ref l)) (hi : ∀ H1, Ex H H1 → Ev tb σ H1 (.int (j : Int))) (hj : j < xs.length) (k : ∀ p H1, H p = none → Ex H H1 → H1 p = some (.lst ys) → D.nx σ (upd H1 l (.lst (xs.set j (.ref p))))) : tAsg te (gSub ta tb rSetL) D σ H :=
  h H (Ex.refl _) _ fun p H1 hp e1 h1 => ho H1 e1 H1 (Ex.refl _) _ fun H2 e2 => hi H2 (e1.trans e2) H2 (Ex.refl _) _ fun H3 e3 => by
    refine ⟨l, xs, (j : Int), j, rfl, rfl, (e2.trans e3) _ _ (e1 _ _ hl), ixN_nat hj, ?_⟩
    exact k p H3 hp (e1.trans (e2.trans e3)) ((e2.trans e3) _ _ h1)
theorem q_lcO {α : Type} {σ : L2.St} {H : Hp} {te : TE} {t : TT} {wi : TI} {g : TG} {vs : List Nat} {n i : Nat} {own : Addr → Prop} {P : Nat → V → Hp → Prop} {p : α → Bool} {D : Ends} {tz : TS} (xs : List α) (st : α → L2.St) (o : α → HO) (R : α → V → Hp → Prop) (hs : Src wi σ H n own P) (hn : n ≤ 40000) (hx : xs.length = n)
    (hP : ∀ i x H1, Ex H H1 → P i x H1 → ∃ a, xs[i]? = some a ∧ R a x H1) (hg : ∀ a x H1 (Q' : L2.St → Hp → Prop), R a x H1 → Q' (st a) H1 → g x (wipe σ vs) H1 Q') (hw : ∀ a, wipe (st a) vs = wipe σ vs)
    (ht : ∀ a H1, Ex H H1 → a ∈ xs → EvT t (st a) H1 (p a)) (he : ∀ a H1, Ex H H1 → a ∈ xs → p a = true → ∀ Q' : VK, (∀ q H2, H1 q = none → Ex H1 H2 → H2 q = some (o a) → Q' (.ref q) H2) → te (st a) H1 Q')
    (k : ∀ q H2 ps, H q = none → Ex H H2 → H2 q = some (.lst (ps.map V.ref)) → All2 (fun b a => H2 b = some (o a) ∧ H b = none ∧ b ≠ q) ps (xs.filter p) → tz D (σ.set i (some (.ref q))) H2) : tSeq (tAsg (tLc wi g t te vs) (gName i)) tz D σ H := lcO (Q := fun v H1 => tz D (σ.set i (some v)) H1) xs st o R hs hn hx hP hg hw ht he k
/-- what stands behind the first i ends -/
def Lc (rep : List Tx) (text : Tx) (i e : Nat) : List Tx := if e ≤ i ∧ (preAt rep text e).length < 301 then (preAt rep text e).map tl else []
theorem Lc_big {rep : List Tx} {text : Tx} {i e : Nat} (h : i < e) : Lc rep text i e = [] := if_neg fun z => by omega
theorem Lc_is {rep : List Tx} {text : Tx} {i e : Nat} (h : e ≤ i) (h2 : (preAt rep text e).length < 301) : Lc rep text i e = (preAt rep text e).map tl := if_pos ⟨h, h2⟩
/-- the lists of texts, for each end -/
def RowsAt (pt : Addr) (L : Nat → List Tx) (n : Nat) (H : Hp) : Prop := ∃ rs : List Addr, H pt = some (.lst (rs.map V.ref)) ∧ rs.length = n + 1 ∧ ∀ e r, rs[e]? = some r → H r = some (.lst ((L e).map T)) ∧ r ≠ pt
theorem RowsAt.go {pt : Addr} {L : Nat → List Tx} {n : Nat} {H H1 : Hp} {B : Addr → Prop} (h : RowsAt pt L n H) (x : Exc B H H1) (hb : ∀ b xs, B b → H b = some (.lst xs) → (∀ rs : List Addr, xs ≠ rs.map V.ref) ∧ ∀ ts : List Tx, xs ≠ ts.map T) : RowsAt pt L n H1 := by
  obtain ⟨rs, h1, h2, h3⟩ := h
  exact ⟨rs, x _ _ (fun z => (hb _ _ z h1).1 rs rfl) h1, h2, fun e r hr => ⟨x _ _ (fun z => (hb _ _ z (h3 e r hr).1).2 _ rfl) (h3 e r hr).1, (h3 e r hr).2⟩⟩
theorem RowsAt.ex {pt : Addr} {L : Nat → List Tx} {n : Nat} {H H1 : Hp} (h : RowsAt pt L n H) (x : Ex H H1) : RowsAt pt L n H1 := by
  obtain ⟨rs, h1, h2, h3⟩ := h
  exact ⟨rs, x _ _ h1, h2, fun e r hr => ⟨x _ _ (h3 e r hr).1, (h3 e r hr).2⟩⟩
theorem RowsAt.same {pt : Addr} {L L' : Nat → List Tx} {n : Nat} {H : Hp} (h : RowsAt pt L n H) (hL : ∀ e, e ≤ n → L e = L' e) : RowsAt pt L' n H := by
  obtain ⟨rs, h1, h2, h3⟩ := h
  refine ⟨rs, h1, h2, fun e r hr => ?_⟩
  rw [← hL e (by have := (List.getElem?_eq_some_iff.mp hr).1; omega)]
  exact h3 e r hr
/-- the row e -/
theorem RowsAt.row {pt : Addr} {L : Nat → List Tx} {n e : Nat} {H : Hp} (h : RowsAt pt L n H) (he : e ≤ n) : ∃ r xs, H pt = some (.lst xs) ∧ xs[e]? = some (.ref r) ∧ xs.length = n + 1 ∧ H r = some (.lst ((L e).map T)) := by
  obtain ⟨rs, h1, h2, h3⟩ := h
  have hr : rs[e]? = some rs[e] := List.getElem?_eq_getElem (by omega)
  exact ⟨rs[e], rs.map V.ref, h1, by rw [List.getElem?_map, hr]; rfl, by rw [List.length_map]; exact h2, (h3 e _ hr).1⟩
/-- a new row at e -/
theorem RowsAt.put {pt r : Addr} {L L' : Nat → List Tx} {n e : Nat} {H H1 : Hp} {xs : List V} {ts : List Tx} (h : RowsAt pt L n H) (hx : H pt = some (.lst xs)) (hr : H r = none) (e1 : Ex H H1) (h1 : H1 r = some (.lst (ts.map T))) (he : e ≤ n) (hL : L' e = ts) (hL2 : ∀ i, i ≠ e → L' i = L i) : RowsAt pt L' n (upd H1 pt (.lst (xs.set e (.ref r)))) := by
  obtain ⟨rs, g1, g2, g3⟩ := h
  rw [hx] at g1
  cases g1
  have nr : r ≠ pt := fun z => by rw [z, hx] at hr; cases hr
  refine ⟨rs.set e r, by rw [upd_same, List.map_set], by rw [List.length_set]; exact g2, fun i q hq => ?_⟩
  by_cases hi : i = e
  · subst hi
    rw [List.getElem?_set_self (by omega)] at hq
    cases hq
    exact ⟨by rw [upd_ne nr, hL]; exact h1, nr⟩
  · rw [List.getElem?_set_ne (Ne.symm hi)] at hq
    obtain ⟨g4, g5⟩ := g3 i q hq
    exact ⟨by rw [upd_ne g5, hL2 i hi]; exact e1 _ _ g4, g5⟩
/-- those of the first j last words -/
def partJ (rep : List Tx) (text : Tx) (e j : Nat) : List Tx := ((endsAt rep text e).take j).flatMap fun i => ((preAt rep text (e - wl rep i)).map tl).map (· ++ [97 + i])
theorem partJ_zero (rep : List Tx) (text : Tx) (e : Nat) : partJ rep text e 0 = [] := by
  unfold partJ
  rw [List.take_zero]
  rfl
theorem partJ_succ {rep : List Tx} {text : Tx} {e j i : Nat} (h : (endsAt rep text e)[j]? = some i) : partJ rep text e (j + 1) = partJ rep text e j ++ ((preAt rep text (e - wl rep i)).map tl).map (· ++ [97 + i]) := by
  unfold partJ
  rw [List.take_add_one, h, List.flatMap_append]
  simp
theorem partJ_all {rep : List Tx} {text : Tx} {e : Nat} (he : 0 < e) : partJ rep text e (endsAt rep text e).length = (preAt rep text e).map tl := by
  unfold partJ
  rw [List.take_length, pre_step he, List.map_flatMap]
  refine flatMap_same fun i _ => ?_
  rw [List.map_map, List.map_map]
  refine List.map_congr_left fun c _ => ?_
  show tl c ++ [97 + i] = tl (c ++ [i])
  rw [tl_app]
  rfl
theorem partJ_len {rep : List Tx} {text : Tx} {e : Nat} (he : 0 < e) (j : Nat) : (partJ rep text e j).length ≤ (preAt rep text e).length := by
  have h1 := congrArg List.length (partJ_all (rep := rep) (text := text) he)
  rw [List.length_map] at h1
  rw [← h1]
  unfold partJ
  rw [List.take_length]
  conv => rhs; rw [← List.take_append_drop j (endsAt rep text e), List.flatMap_append, List.length_append]
  exact Nat.le_add_right _ _
theorem pre_part {rep : List Tx} {text : Tx} {e i : Nat} (he : 0 < e) (h : i ∈ endsAt rep text e) : (preAt rep text (e - wl rep i)).length ≤ (preAt rep text e).length := by
  rw [pre_step he]
  obtain ⟨s, t, hst⟩ := List.append_of_mem h
  rw [hst, List.flatMap_append, List.flatMap_cons, List.length_append, List.length_append, List.length_map]
  omega
section
variable {P : Program} {w : World} {K : PySem.W.Frag} {mg : Str → Option Value} {base : Heap}
def sp_back : Sp := fun vs H Q _ => ∃ (p : Addr) (rep : List Tx) (text : Tx), vs = [.ref p, T text] ∧ RepAt p rep H ∧ text.length ≤ 400 ∧ ∀ r q H', Ex H H' → H q = none → H' r = some (.tup [.int ((cutsAt rep text 0).length : Int), .ref q]) → ((cutsAt rep text 0).length ≤ 300 → H' q = some (.lst ((backS rep text).map T))) → Q (.ref r) H'
theorem ok__law_back {f : Addr} {fd : FuncData} (F : Fun K "_law_back" "_law_back" st__law_back f fd) (M : Md K mg) : FnOk P w K mg base CX0 1 f fd ["replacing", "text"] sp_back := by
  have nd := sc__law_back.nd
  refine F.ok sc__law_back (fun vs H Q E h => ?_) (fun cdv A outer s H vs Q E hr h => ?_)
  · obtain ⟨_, _, _, rfl, _⟩ := h
    rfl
  · obtain ⟨p, rep, text, rfl, hR, hlen, ret⟩ := h
    refine ⟨_, (pss_cons (ps_asg (pe_tup (pa_cons (pe_op op_cat (pe_lst (pa_cons pe_int pa_nil)) (pe_op op_rep (pe_lst (pa_cons pe_int pa_nil)) (pe_callB cr_lenT (by rfl) M.n_len boot_len (pa_cons (pv 1) pa_nil)))) (pa_cons (pe_op op_cat (pe_lst (pa_cons (pe_lst (pa_cons (pe_sT []) pa_nil)) pa_nil)) (pe_lc (own := [("sign", 4)]) rfl nd (pi_str (pv 1)) (blkOk_by (N := N__law_back) (sc := defScope st__law_back) (by decide +kernel)) (fun _ _ _ _ _ => (pg_name (i := 4) nd rfl (Or.inl rfl))) (fun _ _ _ _ _ => pts_nil) (fun _ _ _ _ _ => (pe_lst pa_nil)))) pa_nil))) (kgt K (n := 2) (pg_tup rfl (pgs_cons (pg_name (i := 2) nd rfl (Or.inr rfl)) (pgs_cons (pg_name (i := 3) nd rfl (Or.inl rfl)) pgs_nil)))))
  (pss_cons (ps_for PassesOwn.never rfl (pi_range2 (by rfl) M.n_range (pa_cons pe_int (pa_cons (pe_op op_add (pe_callB cr_lenT (by rfl) M.n_len boot_len (pa_cons (pv 1) pa_nil)) pe_int) pa_nil))) (pg_name (i := 5) nd rfl (Or.inr rfl))
  (pss_cons (ps_setLc (i := 6) (own := [("sign", 4), ("told", 7)]) rfl nd rfl rfl (sw_true rfl rfl rfl (by decide +kernel)) (kizm (K := K) (pi_zipM (by rfl) M.n_zip (pa_cons (pe_sT [97, 98, 99, 100]) (pa_cons (pv 0) pa_nil)))) (blkOk_by (N := N__law_back) (sc := defScope st__law_back) (by decide +kernel)) (fun _ _ _ _ _ => (kgt K (n := 2) (pg_tup rfl (pgs_cons (pg_name (i := 4) nd rfl (Or.inl rfl)) (pgs_cons (pg_name (i := 7) nd rfl (Or.inl rfl)) pgs_nil))))) (fun _ _ _ _ _ => (pts_one (PW.pt (pw_and (pt_cmpR op_neT (pv 7) (pe_sT []) (nomark _)) (pw_and1 (pt_val (kbm K (pe_bm PySem.F.plainAttrs_str PySem.F.slot_str_endswith PySem.F.type_str_endswith mt_endT (pe_slice sl_T (pv 1) po_none (po_some (pv 5))) (pa_cons (pv 7) pa_nil))))))))) (fun _ _ _ _ _ => (pe_tup (pa_cons (pv 4) (pa_cons (pe_op op_sub (pv 5) (pe_callB cr_lenT (by rfl) M.n_len boot_len (pa_cons (pv 7) pa_nil))) pa_nil)))))
  (pss_cons (ps_asg (pe_callB (kcr K (r := rSum) (cr_sum rfl)) (by rfl) M.n_sum boot_sum (pa_cons (pe_lc (own := [("sign", 4), ("begin", 8)]) rfl nd (kil K (pi_list (pv 6))) (blkOk_by (N := N__law_back) (sc := defScope st__law_back) (by decide +kernel)) (fun _ _ _ _ _ => (kgt K (n := 2) (pg_tup rfl (pgs_cons (pg_name (i := 4) nd rfl (Or.inl rfl)) (pgs_cons (pg_name (i := 8) nd rfl (Or.inl rfl)) pgs_nil))))) (fun _ _ _ _ _ => pts_nil) (fun _ _ _ _ _ => (pe_ix (kix K (r := L2.rIxL) ix_list) (pv 2) (pv 8) (fun _ _ => rfl)))) pa_nil)) (pg_sub (pv 2) (pv 5) set_list))
  (pss_one (ps_for PassesOwn.never rfl (kil K (pi_list (pe_ifExp (pt_cmpR op_lt (pe_ix (kix K (r := L2.rIxL) ix_list) (pv 2) (pv 5) (fun _ _ => rfl)) pe_int (nomark _)) (pv 6) (pe_lst pa_nil)))) (kgt K (n := 2) (pg_tup rfl (pgs_cons (pg_name (i := 4) nd rfl (Or.inr rfl)) (pgs_cons (pg_name (i := 8) nd rfl (Or.inl rfl)) pgs_nil))))
  (pss_one (ps_asg (pe_op op_cat (pe_ix (kix K (r := L2.rIxL) ix_list) (pv 3) (pv 5) (fun _ _ => rfl)) (pe_lc (own := [("one", 9)]) rfl nd (kil K (pi_list (pe_ix (kix K (r := L2.rIxL) ix_list) (pv 3) (pv 8) (fun _ _ => rfl)))) (blkOk_by (N := N__law_back) (sc := defScope st__law_back) (by decide +kernel)) (fun _ _ _ _ _ => (pg_name (i := 9) nd rfl (Or.inl rfl))) (fun _ _ _ _ _ => pts_nil) (fun _ _ _ _ _ => (pe_op op_addT (pv 9) (pv 4))))) (pg_sub (pv 3) (pv 5) set_list))))))))
  (pss_one (ps_ret (pe_tup (pa_cons (pe_ix (kix K (r := L2.rIxL) ix_list) (pv 2) (pe_callB cr_lenT (by rfl) M.n_len boot_len (pa_cons (pv 1) pa_nil)) (fun _ _ => rfl)) (pa_cons (pe_callB (ksorted P w K hr.units) (by rfl) M.n_sorted boot_sorted (pa_cons (pe_ix (kix K (r := L2.rIxL) ix_list) (pv 3) (pe_callB cr_lenT (by rfl) M.n_len boot_len (pa_cons (pv 1) pa_nil)) (fun _ _ => rfl)) pa_nil)) pa_nil))))))), ?_⟩
    have hfew := hR.2.few
    have lenT : ∀ {σ : L2.St} {H' : Hp}, σ[1]? = some (some (T text)) → Ev (tCB rLenT (tCons (tVar 1) tNil)) σ H' (.int (text.length : Int)) := fun h0 => ev_cb (ea_cons (ev_var h0) ea_nil) (rc_lenT (by omega))
    have h1st : EvL (tOp rCat (tLst (tCons (tC (.int 1)) tNil)) (tOp rRep (tLst (tCons (tC (.int 0)) tNil)) (tCB rLenT (tCons (tVar 1) tNil)))) (start N__law_back [.ref p, T text]) H ([V.int 1] ++ List.replicate text.length (V.int 0)) := by
      have := el_catNN (el_lst (ea_cons (ev_c (v := V.int 1)) ea_nil) (by show 1 ≤ 100000; decide) : EvL _ (start N__law_back [.ref p, T text]) H [V.int 1]) (el_rep (el_lst (ea_cons (ev_c (v := V.int 0)) ea_nil) (by show 1 ≤ 100000; decide)) (lenT rfl) (by simp; omega) (by omega)) (by rw [rep_one]; simp; omega)
      rw [rep_one] at this
      exact this
    refine h1st H (Ex.refl _) _ fun pa H1 hpa e1 ha1 => ?_
    refine ⟨by show 1 ≤ sizeLine; decide, fun r0 hr0 => ⟨by show 1 ≤ sizeLine; decide, fun l0 hl0 => ?_⟩⟩
    have eR := Ex.new (o := HO.lst [T []]) hr0
    have eL := Ex.new (o := HO.lst [.ref r0]) hl0
    have e1a := (e1.trans eR).trans eL
    refine lcN (n := text.length) (fun _ => .lst []) (src_str (ev_var rfl)) (by omega) (fun _ => rfl) (fun i x Ha hi hx ea Q' q' => ⟨by decide, fun q hq => q' q _ hq (Ex.new hq) upd_same⟩) fun l1 H2 ps hl1 e2 hl12 hpl hnews hnl => ?_
    refine ⟨l0, l1, [.ref r0], ps.map V.ref, rfl, rfl, e2 _ _ upd_same, hl12, sz_of (by rw [List.length_map, hpl]; show 1 + _ ≤ _; omega), fun pt hpt => ⟨by show 2 ≤ sizeLine; decide, fun tp htp => ⟨tp, _, rfl, st_of upd_same, rfl, _, _, rfl, _, [], rfl, rfl, ?_⟩⟩⟩
    have eT := Ex.new (o := HO.lst ([.ref r0] ++ ps.map V.ref)) hpt
    have eP := Ex.new (o := HO.tup [.ref pa, .ref pt]) htp
    have eAll : Ex H (upd (upd H2 pt (.lst ([.ref r0] ++ ps.map V.ref))) tp (.tup [.ref pa, .ref pt])) := ((e1a.trans e2).trans eT).trans eP
    have hpa3 : (upd (upd H2 pt (.lst ([.ref r0] ++ ps.map V.ref))) tp (.tup [.ref pa, .ref pt])) pa = some (.lst ([V.int 1] ++ List.replicate text.length (V.int 0))) := eP _ _ (eT _ _ (e2 _ _ (eL _ _ (eR _ _ ha1))))
    have hpt0 : H pt = none := fresh_back (e1a.trans e2) hpt
    have rows3 : RowsAt pt (Lc rep text 0) text.length (upd (upd H2 pt (.lst ([.ref r0] ++ ps.map V.ref))) tp (.tup [.ref pa, .ref pt])) := by
      refine ⟨r0 :: ps, by rw [eP _ _ upd_same]; rfl, by rw [List.length_cons, hpl], fun e r hr => ?_⟩
      cases e with
      | zero =>
        cases hr
        have g : H2 r0 = some (.lst [T []]) := e2 _ _ (eL _ _ upd_same)
        refine ⟨?_, fun z => by rw [z, hpt] at g; cases g⟩
        rw [eP _ _ (eT _ _ g), Lc_is (Nat.le_refl _) (by rw [pre_first]; decide), pre_first]
        rfl
      | succ e =>
        have hr : ps[e]? = some r := hr
        have g := hnews.at_ e r hr
        refine ⟨?_, fun z => by rw [z, hpt] at g; cases g⟩
        rw [eP _ _ (eT _ _ g), Lc_big (by omega)]
        rfl
    have nat : pa ≠ pt := fun z => by rw [← z, e2 _ _ (eL _ _ (eR _ _ ha1))] at hpt; cases hpt
    generalize upd (upd H2 pt (.lst ([.ref r0] ++ ps.map V.ref))) tp (.tup [.ref pa, .ref pt]) = H3 at eAll hpa3 rows3 ⊢
    clear e1 ha1 eR eL e1a e2 hl12 hnews hnl hpl eT eP hl1 hl0 hr0 hpt htp h1st
    show tSeq _ _ _ [some (.ref p), some (T text), some (.ref pa), some (.ref pt), none, none, none, none, none, none] H3
    have hpn : ∀ {b : Addr} {o : HO}, H b = some o → b ≠ pa ∧ b ≠ pt := fun hb => ⟨ne_of_none hb hpa, ne_of_none hb hpt0⟩
    refine q_forW (fun c => c = pa ∨ c = pt) (src_range2 (lo := 1) (hi := (text.length : Int) + 1) (n := text.length) (ea_cons ev_c (ea_cons (ev_op (lenT rfl) ev_c rv_I0) ea_nil)) (by omega) (by omega) (by omega) (by omega) (by omega)) ?_
      (fun Hs i σ' H' => ∃ (vs : List V) (v4 v5 v6 v7 v8 : Option V), σ' = [some (.ref p), some (T text), some (.ref pa), some (.ref pt), v4, v5, v6, v7, v8, none] ∧ Exc (fun c => c = pa ∨ c = pt) Hs H' ∧ H' pa = some (.lst vs) ∧ vs.length = text.length + 1 ∧ (∀ q, q ≤ i → vs[q]? = some (.int ((preAt rep text q).length : Int))) ∧ RowsAt pt (Lc rep text i) text.length H') ?_ ?_ ?_ ?_ ?_
    · rintro c (rfl | rfl)
      · exact ⟨by rw [hpa3]; exact fun z => (nomatch z), fun z => z⟩
      · obtain ⟨rs, g, _⟩ := rows3
        exact ⟨by rw [g]; exact fun z => (nomatch z), fun z => z⟩
    · intro Hs e
      refine ⟨_, none, none, none, none, none, rfl, Exc.refl _, e _ _ hpa3, by simp, fun q h1 => ?_, rows3.ex e⟩
      have : q = 0 := by omega
      subst this
      rw [pre_first]
      rfl
    · rintro Hs i σ' H' ⟨_, _, _, _, _, _, _, h, _⟩
      exact h
    · rintro Hs i σ' Ha Hb ⟨vs, v4, v5, v6, v7, v8, h0, h1, h2, h3, h4, h5⟩ e
      exact ⟨vs, v4, v5, v6, v7, v8, h0, h1.then e, e _ _ h2, h3, h4, h5.ex e⟩
    · rintro Hs i y σ' H' e hi ⟨vs, v4, v5, v6, v7, v8, rfl, h1, h2, h3, h4, h5⟩ rfl
      obtain ⟨en, hen⟩ : ∃ en : Nat, (1 : Int) + (i : Int) = (en : Int) := ⟨i + 1, by omega⟩
      have heni : en = i + 1 := by omega
      have hen0 : 0 < en := by omega
      have hele : en ≤ text.length := by omega
      have eH : Ex H H' := fun b o hb => h1 _ _ (fun z => z.elim (hpn hb).1 (hpn hb).2) (e _ _ (eAll _ _ hb))
      show tSeq _ _ _ [some (.ref p), some (T text), some (.ref pa), some (.ref pt), v4, some (.int (1 + (i : Int))), v6, v7, v8, none] H'
      rw [hen]
      -- begins
      refine q_lcO (n := min AB.length (rep.map T).length) (p := fun idx => decide (wl rep idx ≤ en) && stands rep text (en - wl rep idx) idx) (List.range rep.length) (fun idx => [some (.ref p), some (T text), some (.ref pa), some (.ref pt), some (T [97 + idx]), some (.int (en : Int)), v6, some (T (rep.getD idx [])), v8, none]) (fun idx => .tup [T [97 + idx], .int ((en - wl rep idx : Nat) : Int)]) (fun idx x H1 => idx < rep.length ∧ ∃ q, x = .ref q ∧ H1 q = some (.tup [T [97 + idx], T (rep.getD idx [])]))
        (src_zipM (a := AB) (ys := rep.map T) ev_c (ev_var rfl) (st_of (eH _ _ hR.1))) (by have : AB.length = 4 := rfl; omega) (by rw [List.length_range, List.length_map]; show _ = min 4 _; omega) ?_ ?_ (fun _ => rfl) ?_ ?_ fun pb H4 ps hpb e4 h4' hps => ?_
      · rintro j x Ha ea ⟨q, c, yv, rfl, hc, hyv, hq⟩
        obtain ⟨wd, hw1, rfl⟩ := at_map hyv
        have hcj := AB_at hc
        subst hcj
        have hjl := (List.getElem?_eq_some_iff.mp hw1).1
        exact ⟨j, List.getElem?_range hjl, hjl, q, rfl, by rw [hq, List.getD_eq_getElem?_getD, hw1]; rfl⟩
      · rintro idx x Ha Q' ⟨hidx, q, rfl, hq⟩ k'
        exact ⟨q, _, rfl, st_of hq, rfl, _, _, rfl, _, [], rfl, rfl, k'⟩
      · intro idx Ha ea hidx
        have hil := List.mem_range.mp hidx
        have hw1 := List.getElem?_eq_getElem hil
        have hgd : rep.getD idx [] = rep[idx] := by rw [List.getD_eq_getElem?_getD, hw1]; rfl
        have hlw : rep[idx].length ≤ 12 := (hR.2.wd _ (List.getElem_mem hil)).1
        rw [hgd]
        have htk : (text.take en).length = en := by rw [List.length_take]; omega
        refine et_is (et_andI (b := decide (rep[idx].length ≤ en) && decide (StAt text rep[idx] (en - rep[idx].length))) (et_test (ev_op (ev_var rfl) ev_c rv_neT)) fun hn => et_is (et_B (ev_bmT (ev_slT (ev_var rfl) eo_none (eo_some (ev_var rfl)) (by omega)) (ea_cons (ev_var rfl) ea_nil) rm_endT)) ?_) ?_
        · rw [cutT_to, htk, ← Bool.decide_and]
          refine decide_eq_decide.mpr (and_congr_right fun hle => ?_)
          rw [List.drop_take, show en - (en - rep[idx].length) = rep[idx].length by omega]
        · rw [stands_at hw1, wl_of hw1]
          by_cases z1 : rep[idx] = []
          · simp [z1]
          · by_cases z2 : rep[idx].length ≤ en
            · simp only [z1, z2, decide_true, decide_false, Bool.not_false, Bool.true_and, ne_eq, not_false_eq_true, true_and]
              exact decide_eq_decide.mpr ⟨fun z => ⟨by omega, z⟩, fun z => z.2⟩
            · simp [z2]
      · intro idx Ha ea hidx hpi Q' q'
        have hil := List.mem_range.mp hidx
        have hw1 := List.getElem?_eq_getElem hil
        have hlw : rep[idx].length ≤ 12 := (hR.2.wd _ (List.getElem_mem hil)).1
        have hgd : rep.getD idx [] = rep[idx] := by rw [List.getD_eq_getElem?_getD, hw1]; rfl
        rw [Bool.and_eq_true, decide_eq_true_eq, wl_of hw1] at hpi
        refine (eu_tup (ea_cons (ev_var rfl) (ea_cons (ev_is (ev_op (ev_var rfl) (ev_cb (ea_cons (ev_var rfl) ea_nil) (rc_lenT (by rw [hgd]; omega))) rv_I0) (by rw [hgd, wl_of hw1]; congr 1; omega)) ea_nil)) (by show 2 ≤ 100000; decide) : EvU _ _ Ha [T [97 + idx], .int ((en - wl rep idx : Nat) : Int)]) Ha (Ex.refl _) _ fun q Hb hq eb hb => q' q Hb hq eb hb
      · have hends : (List.range rep.length).filter (fun idx => decide (wl rep idx ≤ en) && stands rep text (en - wl rep idx) idx) = endsAt rep text en := rfl
        rw [hends] at hps
        show tSeq _ _ _ [some (.ref p), some (T text), some (.ref pa), some (.ref pt), v4, some (.int (en : Int)), some (.ref pb), v7, v8, none] H4
        have npa : pb ≠ pa := fun z => by rw [z, h2] at hpb; cases hpb
        have hends4 : (endsAt rep text en).length ≤ 4 := by
          have := List.length_filter_le (fun idx => decide (wl rep idx ≤ en) && stands rep text (en - wl rep idx) idx) (List.range rep.length)
          rw [hends, List.length_range] at this
          omega
        -- ahead[end]
        refine q_setL (v := .int ((preAt rep text en).length : Int)) (j := en) (e4 _ _ h2) ?_ (ev_var rfl) (ev_var rfl) (by omega) fun H5 e5 => ?_
        · have hsm : (((endsAt rep text en).map fun idx => (((preAt rep text (en - wl rep idx)).length : Nat) : Int)).sum : Int) = ((preAt rep text en).length : Int) := by
            rw [pre_count hen0, int_sum']
            rfl
          rw [← hsm]
          have hlc := el_lcE (σ := [some (.ref p), some (T text), some (.ref pa), some (.ref pt), v4, some (.int (en : Int)), some (.ref pb), v7, v8, none]) (H := H4) (te := tOp (L2.rIxL K) (tVar 2) (tVar 8)) (t := tYes) (g := gTup K 2 (gCons (gName 4) (gCons (gName 8) gNil))) (vs := [4, 8]) (wi := iList K (tVar 6)) (p := fun _ => true) (gv := fun idx => V.int ((preAt rep text (en - wl rep idx)).length : Int)) (endsAt rep text en) (fun idx => [some (.ref p), some (T text), some (.ref pa), some (.ref pt), some (T [97 + idx]), some (.int (en : Int)), some (.ref pb), v7, some (.int ((en - wl rep idx : Nat) : Int)), none]) (src_list (ev_var rfl) (sq_of h4')) (by rw [List.length_map, hps.len]; omega) (by rw [List.length_map, hps.len]) ?_ (fun _ => rfl) (fun _ _ _ _ => et_yes) (fun idx Ha ea hidx _ => ?_)
          · rw [List.filter_eq_self.mpr (fun _ _ => rfl)] at hlc
            exact ev_cbL hlc fun r Ha hr ea => rc_sumM (f := fun idx => (((preAt rep text (en - wl rep idx)).length : Nat) : Int)) (sq_of hr)
          · rintro j x Ha ea hx
            obtain ⟨q, hq, rfl⟩ := at_map hx
            obtain ⟨idx, hidx⟩ : ∃ idx, (endsAt rep text en)[j]? = some idx := ⟨_, List.getElem?_eq_getElem (by rw [← hps.len]; exact (List.getElem?_eq_some_iff.mp hq).1)⟩
            obtain ⟨q', hq', r1, _⟩ := hps.at_ hidx
            rw [hq] at hq'
            cases hq'
            exact ⟨idx, hidx, fun Q' k' => ⟨q, _, rfl, st_of (ea _ _ r1), rfl, _, _, rfl, _, [], rfl, rfl, k'⟩⟩
          · obtain ⟨wd, w1, w2, w3, w4, _⟩ := ends_is hidx
            exact ev_op (ev_var rfl) (ev_var rfl) (rv_ixL (sq_of (ea _ _ (e4 _ _ h2))) (atI_nat (h4 _ (by omega))))
        · have hvs : (vs.set en (.int ((preAt rep text en).length : Int))).length = text.length + 1 := by rw [List.length_set]; exact h3
          have h6 : (upd H5 pa (.lst (vs.set en (.int ((preAt rep text en).length : Int))))) pa = some (.lst (vs.set en (.int ((preAt rep text en).length : Int)))) := upd_same
          have x6 : Exc (fun c => c = pa ∨ c = pt) Hs (upd H5 pa (.lst (vs.set en (.int ((preAt rep text en).length : Int))))) := (h1.then (e4.trans e5)).upd (.inl (.inl rfl))
          have hb6 : (upd H5 pa (.lst (vs.set en (.int ((preAt rep text en).length : Int))))) pb = some (.lst (ps.map V.ref)) := by rw [upd_ne npa]; exact e5 _ _ h4'
          have hps6 : All2 (fun b idx => (upd H5 pa (.lst (vs.set en (.int ((preAt rep text en).length : Int))))) b = some (.tup [T [97 + idx], .int ((en - wl rep idx : Nat) : Int)])) ps (endsAt rep text en) := hps.mono fun b idx r => by
            rw [upd_ne (fun z => by have := r.1; rw [z, e4 _ _ h2] at this; cases this)]
            exact e5 _ _ r.1
          have rows6 : RowsAt pt (Lc rep text i) text.length (upd H5 pa (.lst (vs.set en (.int ((preAt rep text en).length : Int))))) := by
            refine (h5.ex (e4.trans e5)).go (B := fun c => c = pa) ((Exc.refl _).upd (.inl rfl)) ?_
            rintro b xs rfl hxs
            rw [e5 _ _ (e4 _ _ h2)] at hxs
            cases hxs
            have h40 := h4 0 (Nat.zero_le _)
            refine ⟨fun rs z => ?_, fun ts z => ?_⟩
            · rw [z, List.getElem?_map] at h40
              cases g : rs[0]? <;> rw [g] at h40 <;> cases h40
            · rw [z, List.getElem?_map] at h40
              cases g : ts[0]? <;> rw [g] at h40 <;> cases h40
          have h46 : ∀ q, q ≤ en → (vs.set en (.int ((preAt rep text en).length : Int)))[q]? = some (.int ((preAt rep text q).length : Int)) := fun q hq => by
            by_cases z : q = en
            · subst z
              rw [List.getElem?_set_self (by omega)]
            · rw [List.getElem?_set_ne (Ne.symm z)]
              exact h4 q (by omega)
          generalize vs.set en (.int ((preAt rep text en).length : Int)) = us at hvs h6 x6 hb6 hps6 rows6 h46 ⊢
          generalize upd H5 pa (.lst us) = H6 at h6 x6 hb6 hps6 rows6 ⊢
          have eH6 : Ex H H6 := fun b o hb => x6 _ _ (fun z => z.elim (hpn hb).1 (hpn hb).2) (e _ _ (eAll _ _ hb))
          -- texts[end]
          have hlt : EvT (tTest (tOp (rI0 fun i j => .bl (decide (i < j))) (tOp (L2.rIxL K) (tVar 2) (tVar 5)) (tC (.int 301)))) [some (.ref p), some (T text), some (.ref pa), some (.ref pt), v4, some (.int (en : Int)), some (.ref pb), v7, v8, none] H6 (decide ((preAt rep text en).length < 301)) := et_is (et_test (ev_op (ev_op (ev_var rfl) (ev_var rfl) (rv_ixL (sq_of h6) (atI_nat (h46 en (Nat.le_refl _))))) ev_c rv_I0)) (decide_eq_decide.mpr (by omega))
          show tFor _ _ _ _ [some (.ref p), some (T text), some (.ref pa), some (.ref pt), v4, some (.int (en : Int)), some (.ref pb), v7, v8, none] H6
          refine s_forOf ?_
          by_cases hsm : (preAt rep text en).length < 301
          · rw [decide_eq_true hsm] at hlt
            refine wp_ifT hlt fun H7 e7 => (ev_var rfl : Ev (tVar 6) [some (.ref p), some (T text), some (.ref pa), some (.ref pt), v4, some (.int (en : Int)), some (.ref pb), v7, v8, none] H7 (.ref pb)) H7 (Ex.refl _) _ fun H8 e8 => ?_
            have e78 := e7.trans e8
            refine s_forW (fun c => c = pt) (src_list ev_is' (sq_of (e78 _ _ hb6))) ?_
              (fun Ht j σ' H9 => ∃ (v4 v8 : Option V), σ' = [some (.ref p), some (T text), some (.ref pa), some (.ref pt), v4, some (.int (en : Int)), some (.ref pb), v7, v8, none] ∧ Exc (fun c => c = pt) Ht H9 ∧ RowsAt pt (fun e => if e = en then partJ rep text en j else Lc rep text i e) text.length H9) ?_ ?_ ?_ ?_ ?_
            · rintro c rfl
              obtain ⟨rs, g, _⟩ := rows6
              refine ⟨by rw [e78 _ _ g]; exact fun z => (nomatch z), fun z => ?_⟩
              obtain ⟨rs2, g2, _⟩ := h5
              rw [← z, g2] at hpb
              cases hpb
            · intro Ht e9
              refine ⟨_, _, rfl, Exc.refl _, (rows6.ex (e78.trans e9)).same fun q hq => ?_⟩
              by_cases z : q = en
              · rw [if_pos z, partJ_zero, Lc_big (by omega)]
              · rw [if_neg z]
            · rintro Ht j σ' H9 ⟨_, _, _, z, _⟩
              exact z
            · rintro Ht j σ' Ha Hb ⟨v4, v8, z0, z1, z2⟩ e
              exact ⟨v4, v8, z0, z1.then e, z2.ex e⟩
            · rintro Ht j x σ' H9 e9 hj ⟨v4, v8, rfl, z1, z2⟩ hx
              obtain ⟨q, hq, rfl⟩ := at_map hx
              obtain ⟨idx, hidx⟩ : ∃ idx, (endsAt rep text en)[j]? = some idx := ⟨_, List.getElem?_eq_getElem (by rw [← hps6.len]; exact (List.getElem?_eq_some_iff.mp hq).1)⟩
              obtain ⟨q', hq', r1⟩ := hps6.at_ hidx
              rw [hq] at hq'
              cases hq'
              have him := List.mem_of_getElem? hidx
              obtain ⟨wd, w1, w2, w3, w4, w5, _⟩ := ends_is him
              have hqt : q ≠ pt := fun z => by
                obtain ⟨rs, g, _⟩ := rows6
                rw [z, g] at r1
                cases r1
              have r9 : H9 q = some (.tup [T [97 + idx], .int ((en - wl rep idx : Nat) : Int)]) := z1 _ _ hqt (e9 _ _ (e78 _ _ r1))
              refine ⟨q, _, rfl, st_of r9, rfl, _, _, rfl, _, [], rfl, rfl, ?_⟩
              show tAsg _ _ _ [some (.ref p), some (T text), some (.ref pa), some (.ref pt), some (T [97 + idx]), some (.int (en : Int)), some (.ref pb), v7, some (.int ((en - wl rep idx : Nat) : Int)), none] H9
              obtain ⟨re, xs, y1, y2, y3, y4⟩ := z2.row (e := en) hele
              obtain ⟨rb, xs2, y1', y5, _, y6⟩ := z2.row (e := en - wl rep idx) (by omega)
              rw [y1] at y1'
              cases y1'
              rw [if_pos rfl] at y4
              have hne : en - wl rep idx ≠ en := by omega
              rw [if_neg hne, Lc_is (by omega) (by have := pre_part hen0 him; omega)] at y6
              have hpl := partJ_len (rep := rep) (text := text) hen0 j
              have hpp := pre_part hen0 him
              have hcat : EvL (tOp rCat (tOp (L2.rIxL K) (tVar 3) (tVar 5)) (tLc (iList K (tOp (L2.rIxL K) (tVar 3) (tVar 8))) (gName 9) tYes (tOp rAddT (tVar 9) (tVar 4)) [9])) [some (.ref p), some (T text), some (.ref pa), some (.ref pt), some (T [97 + idx]), some (.int (en : Int)), some (.ref pb), v7, some (.int ((en - wl rep idx : Nat) : Int)), none] H9 ((partJ rep text en j).map T ++ (((preAt rep text (en - wl rep idx)).map tl).map (· ++ [97 + idx])).map T) := by
                refine el_catVN (ev_op (ev_var rfl) (ev_var rfl) (rv_ixL (sq_of y1) (atI_nat y2))) y4 ?_ (by rw [List.length_map, List.length_map, List.length_map, List.length_map]; omega)
                rw [List.map_map]
                refine el_lcM (j := 9) (vs := [9]) (f := T) (g := fun t => T (t ++ [97 + idx])) ((preAt rep text (en - wl rep idx)).map tl) (src_listM (ev_op (ev_var rfl) (ev_var rfl) (rv_ixL (sq_of y1) (atI_nat y5))) (sq_of y6)) (by rw [List.length_map]; omega) (fun _ => rfl) fun t Ha ea ht => ?_
                obtain ⟨c, hc, rfl⟩ := List.mem_map.mp ht
                have hcl := (pre_mem (by omega) hc).2
                exact ev_op (ev_var rfl) (ev_var rfl) (rv_addT (by rw [tl_len]; show c.length + 1 ≤ _; omega))
              rw [← List.map_append, ← partJ_succ hidx] at hcat
              refine s_setLN (j := en) y1 hcat (fun _ _ => ev_var rfl) (fun _ _ => ev_var rfl) (by omega) fun rn Ha hrn ea ha => ⟨_, _, rfl, (z1.then ea).upd (.inl rfl), ?_⟩
              exact z2.put y1 hrn ea ha hele (if_pos rfl) fun q hq => by rw [if_neg hq, if_neg hq]
            · rintro Ht σ' H9 e9 ⟨v4, v8, rfl, z1, z2⟩
              rw [List.length_map, hps6.len, partJ_all hen0] at z2
              rw [← heni]
              refine ⟨us, _, _, _, _, _, rfl, (x6.then (e78.trans e9)).trans (z1.mono fun b hb => .inr hb), z1 _ _ nat (e9 _ _ (e78 _ _ h6)), hvs, h46, z2.same fun q hq => ?_⟩
              by_cases z : q = en
              · rw [if_pos z, z, Lc_is (Nat.le_refl _) hsm]
              · rw [if_neg z]
                unfold Lc
                by_cases z2 : q ≤ i
                · simp only [z2, show q ≤ en by omega, true_and]
                · rw [if_neg (fun g => z2 g.1), if_neg (fun g => by have := g.1; omega)]
          · rw [decide_eq_false hsm] at hlt
            refine wp_ifF hlt fun H7 e7 => (el_lst ea_nil (by decide) : EvL (tLst tNil) _ H7 []) H7 (Ex.refl _) _ fun qn H8 hqn e8 h8 => ?_
            have e78 := e7.trans e8
            refine s_forW (fun _ => False) (src_list ev_is' (sq_of h8)) (fun _ z => z.elim)
              (fun Ht j σ' H9 => σ' = [some (.ref p), some (T text), some (.ref pa), some (.ref pt), v4, some (.int (en : Int)), some (.ref pb), v7, v8, none] ∧ Ex Ht H9) ?_ ?_ ?_ ?_ ?_
            · intro Ht e9
              exact ⟨rfl, Ex.refl _⟩
            · rintro Ht j σ' H9 ⟨_, z⟩
              exact .of z
            · rintro Ht j σ' Ha Hb ⟨z0, z1⟩ e
              exact ⟨z0, z1.trans e⟩
            · rintro Ht j x σ' H9 e9 hj _ hx
              exact absurd hj (Nat.not_lt_zero _)
            · rintro Ht σ' H9 e9 ⟨rfl, z1⟩
              have e89 := (e78.trans e9).trans z1
              rw [← heni]
              refine ⟨us, _, _, _, _, _, rfl, x6.then e89, e89 _ _ h6, hvs, h46, (rows6.ex e89).same fun q hq => ?_⟩
              unfold Lc
              by_cases z2 : q ≤ i
              · simp only [z2, show q ≤ en by omega, true_and]
              · rw [if_neg (fun g => z2 g.1)]
                by_cases z3 : q = en
                · rw [z3, if_neg (fun g => hsm g.2)]
                · rw [if_neg (fun g => by have := g.1; omega)]
    · rintro Hs σ' H' e ⟨vs, v4, v5, v6, v7, v8, rfl, h1, h2, h3, h4, h5⟩
      have eH : Ex H H' := fun b o hb => h1 _ _ (fun z => z.elim (hpn hb).1 (hpn hb).2) (e _ _ (eAll _ _ hb))
      obtain ⟨r, xs, y1, y2, y3, y4⟩ := h5.row (Nat.le_refl _)
      refine (ev_op (ev_var rfl) (lenT rfl) (rv_ixL (sq_of h2) (atI_nat (h4 _ (Nat.le_refl _)))) : Ev (tOp (L2.rIxL K) (tVar 2) (tCB rLenT (tCons (tVar 1) tNil))) [some (.ref p), some (T text), some (.ref pa), some (.ref pt), v4, v5, v6, v7, v8, none] H' (.int ((preAt rep text text.length).length : Int))) H' (Ex.refl _) _ fun H2 e2 => ?_
      refine (el_sorted (ev_op (ev_var rfl) (lenT rfl) (rv_ixL (sq_of (e2 _ _ y1)) (atI_nat y2))) (sq_of (e2 _ _ y4)) : EvL _ [some (.ref p), some (T text), some (.ref pa), some (.ref pt), v4, v5, v6, v7, v8, none] H2 _) H2 (Ex.refl _) _ fun q H3 hq e3 h3' => ⟨by show 2 ≤ sizeLine; decide, fun s hs => ?_⟩
      have e9 := Ex.new (o := HO.tup [.int ((preAt rep text text.length).length : Int), .ref q]) hs
      refine ret s q _ (((eH.trans e2).trans e3).trans e9) (fresh_back (eH.trans e2) hq) (by rw [upd_same, count_pre]) fun hle => ?_
      rw [e9 _ _ h3', Lc_is (Nat.le_refl _) (by rw [count_pre]; omega), back_pre]
end
end K21
set_option Elab.async false
set_option linter.all false
set_option maxRecDepth 100000
set_option maxHeartbeats 4000000
namespace K21
open PySem PySem.Spec PyProof.Rows L2 Evl Wc Wt Wg Ws Wr _root_.Wd
theorem kb_put_back_1_0 : KB "put_back" st_put_back 0 ["replacing", "text"] ["text", "replacing"] (sw2 true) (sw2 true) := kb2 true rfl (fun _ _ _ _ _ _ a b => rfl)
theorem lay_cons {d : PyData} {ds : List PyData} (h1 : d.canLay0 = true) (h2 : PyData.canLayAll0 ds = true) : PyData.canLayAll0 (d :: ds) = true := by
  show (d.canLay0 && PyData.canLayAll0 ds) = true
  rw [h1, h2]
  rfl
theorem flat_texts {xs : List Tx} (h : ∀ t ∈ xs, LowT t) : ∀ v ∈ xs.map T, ∃ d, FlatV v d := fun v hv => by
  obtain ⟨t, ht, rfl⟩ := List.mem_map.mp hv
  exact ⟨_, .str (h t ht)⟩
section
variable {K : PySem.W.Frag} {σ : L2.St} {H : Hp} {ta : TE}
theorem ev_listN {p : Addr} (h0 : Ev ta σ H (.ref p)) (hp : H p = some (.lst [])) : Ev (tCall (sp_list_same K) [] E0 (tCons ta (tCons (tLst tNil) tNil))) σ H (.bl true) := fun H1 e1 Q q =>
  h0 H1 e1 _ fun H2 e2 => ⟨by decide, fun r hr => ⟨p, r, [], rfl, (e1.trans (e2.trans (Ex.new hr))) _ _ hp, sq_of upd_same, fun v hv => (nomatch hv), by decide, fun H3 e3 => q H3 (e2.trans ((Ex.new hr).trans e3))⟩⟩
/-- found == ('many', True) -/
theorem ev_eqMany {p : Addr} (h0 : Ev ta σ H (.ref p)) (hp : H p = some (.tup [T tMany, .bl true])) : Ev (tOp (rEqD K) ta (tTup (tCons (tC (T tMany)) (tCons (tC (.bl true)) tNil)))) σ H (.bl true) :=
  ev_opV h0 (eu_tup (ea_cons ev_c (ea_cons ev_c ea_nil)) (by show 2 ≤ 100000; decide)) fun q H1 hq e1 => rv_eqD (d := .tuple [dT tMany, .bool true]) (e := .tuple [dT tMany, .bool true]) (fun H2 e2 => .tup (st_of (e2 _ _ (e1 _ _ hp))) (.cons (.str _) (.cons (.bl _) .nil))) (fun H2 e2 => .tup (st_of (e2 _ _ hq)) (.cons (.str _) (.cons (.bl _) .nil))) (by decide +kernel) (by decide +kernel) (by decide +kernel)
theorem ev_neMany {p : Addr} (h0 : Ev ta σ H (.ref p)) (hp : H p = some (.tup [T tMany, .bl true])) : Ev (tOp (rNeD K) ta (tTup (tCons (tC (T tMany)) (tCons (tC (.bl true)) tNil)))) σ H (.bl false) :=
  ev_opV h0 (eu_tup (ea_cons ev_c (ea_cons ev_c ea_nil)) (by show 2 ≤ 100000; decide)) fun q H1 hq e1 => rv_neD (b := true) (d := .tuple [dT tMany, .bool true]) (e := .tuple [dT tMany, .bool true]) (fun H2 e2 => .tup (st_of (e2 _ _ (e1 _ _ hp))) (.cons (.str _) (.cons (.bl _) .nil))) (fun H2 e2 => .tup (st_of (e2 _ _ hq)) (.cons (.str _) (.cons (.bl _) .nil))) (by decide +kernel) (by decide +kernel) (by decide +kernel)
/-- found != ('told', due) -/
theorem ev_neTold {p : Addr} {t : Tx} {tb : TE} (h0 : Ev ta σ H (.ref p)) (hp : H p = some (.tup [T tTold, T t])) (hb : Ev tb σ H (T t)) (hl : LowT t) : Ev (tOp (rNeD K) ta (tTup (tCons (tC (T tTold)) (tCons tb tNil)))) σ H (.bl false) := by
  have hlay : (PyData.tuple [dT tTold, dT t]).canLay0 = true := lay_cons (by decide +kernel) (lay_cons (lay_T hl) rfl)
  have hsh : SeqAt.shaped (.tuple [dT tTold, dT t]) = true := shaped_of hlay (by show max 0 (max 0 0) + 1 ≤ 64; omega)
  exact ev_opV h0 (eu_tup (ea_cons ev_c (ea_cons hb ea_nil)) (by show 2 ≤ 100000; decide)) fun q H1 hq e1 => rv_neD (b := true) (d := .tuple [dT tTold, dT t]) (e := .tuple [dT tTold, dT t]) (fun H2 e2 => .tup (st_of (e2 _ _ (e1 _ _ hp))) (.cons (.str _) (.cons (.str _) .nil))) (fun H2 e2 => .tup (st_of (e2 _ _ hq)) (.cons (.str _) (.cons (.str _) .nil))) hsh hsh (SeqAt.eqv_refl _ hlay)
/-- found[0], found[1] -/
theorem ev_at0 {p : Addr} {u v : V} {i : Nat} (h0 : σ[i]? = some (some (.ref p))) (hp : H p = some (.tup [u, v])) : Ev (tOp (L2.rIxT K) (tVar i) (tC (.int 0))) σ H u := ev_op (ev_var h0) ev_c (rv_ixT (st_of hp) (atI_nat (j := 0) rfl))
theorem ev_at1 {p : Addr} {u v : V} {i : Nat} (h0 : σ[i]? = some (some (.ref p))) (hp : H p = some (.tup [u, v])) : Ev (tOp (L2.rIxT K) (tVar i) (tC (.int 1))) σ H v := ev_op (ev_var h0) ev_c (rv_ixT (st_of hp) (atI_nat (j := 1) rfl))
end
section
variable {P : Program} {w : World} {K : PySem.W.Frag} {mg : Str → Option Value} {base : Heap}
def sp_back_right : Sp := fun vs H Q _ => ∃ (p : Addr) (rep : List Tx) (text : Tx), vs = [.ref p, T text] ∧ RepAt p rep H ∧ text.length ≤ 400 ∧ (∀ c ∈ text, abcd c) ∧ RetV (.bl true) H Q
theorem ok__law_back_right {f CE : Addr} {fd : FuncData} (F : Fun K "_law_back_right" "_law_back_right" st__law_back_right f fd) (M : Md K mg) (C__law_back : Cal P w K mg base "_law_back" st__law_back 1 ["replacing", "text"] sp_back) (C__law_asked : Cal P w K mg base "_law_asked" st__law_asked 5 ["way", "one", "other"] sp_asked) (C__law_list : Cal P w K mg base "_law_list" st__law_list 1 ["actual", "due"] (sp_list_same K)) (C_replaced : Cal P w K mg base "replaced" st_replaced 4 ["replacing", "text"] (calm (sp_replaced CE))) (C_put_back : Cal P w K mg base "put_back" st_put_back 4 ["replacing", "text"] (calm (sp_put_back CE))) : FnOk P w K mg base CX0 6 f fd ["replacing", "text"] sp_back_right := by
  have nd := sc__law_back_right.nd
  refine F.ok sc__law_back_right (fun vs H Q E h => ?_) (fun cdv A outer s H vs Q E hr h => ?_)
  · obtain ⟨_, _, _, rfl, _⟩ := h
    rfl
  · obtain ⟨p, rep, text, rfl, hR, hlen, hsg, ret⟩ := h
    refine ⟨_, (pss_cons (ps_asg (pe_cl C__law_back hr (pa_cons (pv 0) (pa_cons (pv 1) pa_nil))) (kgt K (n := 2) (pg_tup rfl (pgs_cons (pg_name (i := 2) nd rfl (Or.inl rfl)) (pgs_cons (pg_name (i := 3) nd rfl (Or.inl rfl)) pgs_nil)))))
  (pss_cons (ps_set (i := 4) nd rfl (Or.inl rfl) (pe_cl C__law_asked hr (pa_cons pe_int (pa_cons (pv 0) (pa_cons (pv 1) pa_nil)))))
  (pss_cons (ps_if (pt_cmpR (kop K (r := fun K => rIn K false) op_in_seq) (pe_sT []) (pv 0) (by rfl))
  (pss_one (ps_ret (pe_and (pe_cmpR op_eqT (pe_ix (kix K (r := L2.rIxT) ix_tup) (pv 4) pe_int (fun _ _ => rfl)) (pe_sT [116, 111, 108, 100]) (nomark _)) (pe_one (pe_ifExp (pt_cmpR op_gt (pv 2) pe_int (nomark _)) (pe_cmpR op_isN (pe_ix (kix K (r := L2.rIxT) ix_tup) (pv 4) pe_int (fun _ _ => rfl)) pe_non (nomark _)) (pe_cl C__law_list hr (pa_cons (pe_ix (kix K (r := L2.rIxT) ix_tup) (pv 4) pe_int (fun _ _ => rfl)) (pa_cons (pe_lst pa_nil) pa_nil))))))))
  pss_nil)
  (pss_cons (ps_if (pt_cmpR op_gt (pv 2) pe_int (nomark _))
  (pss_one (ps_ret (pe_cmpR (kop K (r := rEqD) (op_eqD hr.units)) (pv 4) (pe_tup (pa_cons (pe_sT [109, 97, 110, 121]) (pa_cons pe_bl pa_nil))) (nomark _))))
  pss_nil)
  (pss_cons (ps_if (PW.pt (pw_or (pt_cmpR op_neT (pe_ix (kix K (r := L2.rIxT) ix_tup) (pv 4) pe_int (fun _ _ => rfl)) (pe_sT [116, 111, 108, 100]) (nomark _)) (pw_or1 (pt_not (pt_val (pe_cl C__law_list hr (pa_cons (pe_ix (kix K (r := L2.rIxT) ix_tup) (pv 4) pe_int (fun _ _ => rfl)) (pa_cons (pv 3) pa_nil))))))))
  (pss_one (ps_ret pe_bl))
  pss_nil)
  (pss_cons (ps_for PassesOwn.never rfl (kil K (pi_list (pe_slice (ksl K (r := rSlL) sl_list) (pv 3) po_none (po_some pe_int)))) (pg_name (i := 5) nd rfl (Or.inl rfl))
  (pss_one (ps_if (pt_cmpR op_neT (pe_cl C_replaced hr (pa_cons (pv 0) (pa_cons (pv 5) pa_nil))) (pv 1) (nomark _))
  (pss_one (ps_ret pe_bl))
  pss_nil)))
  (pss_cons (ps_expr (kbm K (pe_bm PySem.F.plainAttrs_list PySem.F.slot_list_append PySem.F.type_list_append mt_append (pe_ix (kix K (r := L2.rIxT) ix_tup) (pv 4) pe_int (fun _ _ => rfl)) (pa_cons (pe_sT [115, 112, 111, 105, 108, 116]) pa_nil))))
  (pss_one (ps_ret (pe_cl C__law_list hr (pa_cons (pe_clK0 C_put_back (kb_put_back_1_0) hr (pk_cons (pv 1) (pk_cons (pv 0) pk_nil))) (pa_cons (pv 3) pa_nil)))))))))))), ?_⟩
    refine ⟨.ref p, rfl, T text, rfl, p, rep, text, rfl, hR, hlen, fun r q H1 e1 hq hr hqL => ⟨r, _, rfl, st_of hr, rfl, _, _, rfl, _, [], rfl, rfl, ?_⟩⟩
    show tSeq _ _ _ [some (.ref p), some (T text), some (.int ((cutsAt rep text 0).length : Int)), some (.ref q), none, none] H1
    have hin : ∀ {H2 : Hp} {v4 : Option V}, Ex H H2 → EvT (tTest (tOp (rIn K false) (tC (T [])) (tVar 0))) [some (.ref p), some (T text), some (.int ((cutsAt rep text 0).length : Int)), some (.ref q), v4, none] H2 (decide ([] ∈ rep)) := fun e => et_is (et_test (ev_op ev_c (ev_var rfl) (rv_isT (st_of (e _ _ hR.1)) rfl (flat_T rep)))) (inV_T [] rep)
    have hmany : ∀ {H2 : Hp} {v4 : Option V}, EvT (tTest (tOp (rI0 fun i j => .bl (decide (i > j))) (tVar 2) (tC (.int 300)))) [some (.ref p), some (T text), some (.int ((cutsAt rep text 0).length : Int)), some (.ref q), v4, none] H2 (decide (300 < (cutsAt rep text 0).length)) := et_is (et_test (ev_op (ev_var rfl) ev_c rv_I0)) (decide_eq_decide.mpr (by omega))
    refine ⟨.ref p, rfl, T text, rfl, .inr (.inl ⟨p, rep, text, rfl, hR.ex e1, hlen, hsg, fun hm hc a H2 e2 ha => ?_, fun xs hx a b H2 e2 ha hb hb2 => ?_, fun hm hc a H2 e2 ha => ?_⟩)⟩
    · show tSeq _ _ _ [some (.ref p), some (T text), some (.int ((cutsAt rep text 0).length : Int)), some (.ref q), some (.ref a), none] H2
      have e12 := e1.trans e2
      refine q_when (et_is (hin e12) (decide_eq_true hm)) (fun _ H3 e3 => ?_) (fun z => by cases z)
      refine s_ret (v := .bl true) (ev_is (ev_andV (ev_op (ev_at0 rfl (e3 _ _ ha)) ev_c rv_eqT) fun _ => ev_if (b := true) (v := .bl true) (et_is (et_test (ev_op (ev_var rfl) ev_c rv_I0)) (decide_eq_true (by omega))) (fun _ => ev_op (ev_at1 rfl (e3 _ _ ha)) ev_c rv_isN) (fun z => by cases z)) (by simp)) (RetV.mono ret (e12.trans e3))
    · show tSeq _ _ _ [some (.ref p), some (T text), some (.int ((cutsAt rep text 0).length : Int)), some (.ref q), some (.ref a), none] H2
      have e12 := e1.trans e2
      rcases hx with ⟨hm, hc, rfl⟩ | ⟨hm, hc, rfl⟩
      · refine q_when (et_is (hin e12) (decide_eq_true hm)) (fun _ H3 e3 => ?_) (fun z => by cases z)
        refine s_ret (v := .bl true) (ev_is (ev_andV (ev_op (ev_at0 rfl (e3 _ _ ha)) ev_c rv_eqT) fun _ => ev_if (b := false) (v := .bl true) (et_is (et_test (ev_op (ev_var rfl) ev_c rv_I0)) (decide_eq_false (by omega))) (fun z => by cases z) (fun _ => ev_listN (ev_at1 rfl (e3 _ _ ha)) (e3 _ _ hb2))) (by simp)) (RetV.mono ret (e12.trans e3))
      · have hqL := hqL hc
        have hlow : ∀ t ∈ backS rep text, LowT t := fun t ht c hc => by
          have h1 := (back_mem ht).2.1 c hc
          have := hR.2.few
          omega
        have hbl := back_len rep text
        refine q_when (et_is (hin e12) (decide_eq_false hm)) (fun z => by cases z) (fun _ H3 e3 => ?_)
        refine q_when (et_is hmany (decide_eq_false (by omega))) (fun z => by cases z) (fun _ H4 e4 => ?_)
        have e34 := e3.trans e4
        have ha4 := e34 _ _ ha
        have hb4 := e34 _ _ hb2
        have hq4 := e34 _ _ (e2 _ _ hqL)
        refine q_when (b := false) (et_is (et_or (et_test (ev_op (ev_at0 rfl ha4) ev_c rv_neT)) fun _ => et_not (et_B (ev_call (ea_cons (ev_at1 rfl ha4) (ea_cons (ev_var rfl) ea_nil)) fun H5 e5 Q5 q5 E => ⟨b, q, (backS rep text).map T, rfl, e5 _ _ hb4, sq_of (e5 _ _ hq4), flat_texts hlow, by rw [List.length_map]; omega, q5⟩))) (by simp)) (fun z => by cases z) (fun _ H5 e5 => ?_)
        have e14 := (e12.trans e34).trans e5
        have hsl : EvL (tSl (rSlL K) (tVar 3) tNoPart (tPart (tC (.int 5)))) [some (.ref p), some (T text), some (.int ((cutsAt rep text 0).length : Int)), some (.ref q), some (.ref a), none] H5 (((backS rep text).take 5).map T) := by
          have := el_sl (K := K) (σ := [some (.ref p), some (T text), some (.int ((cutsAt rep text 0).length : Int)), some (.ref q), some (.ref a), none]) (H := H5) (te := tVar 3) (ev_var rfl) eo_none (eo_some (te := tC (.int 5)) (i := ((5 : Nat) : Int)) ev_c) (sq_of (e5 _ _ hq4))
          rw [cutV_to, ← List.map_take] at this
          exact this
        refine q_search (j := 5) (src_newLM hsl) (by show 5 < 6; decide) (fun _ => false) (fun i x H6 e6 hi hx _ => ?_) (fun _ _ _ _ _ _ _ _ _ z => by cases z) (fun y H6 e6 _ => ?_)
        · obtain ⟨t, ht, rfl⟩ := at_map hx
          obtain ⟨b1, b2, b3⟩ := back_mem (List.mem_of_mem_take (List.mem_of_getElem? ht))
          refine et_is (et_test (ev_op (ev_call (ea_cons (ev_var rfl) (ea_cons (ev_var rfl) ea_nil)) fun H7 e7 Q7 q7 E => ⟨p, rep, t, rfl, hR.ex ((e14.trans e6).trans e7), by omega, b2, fun _ => q7, fun z => by rw [b1] at z; omega⟩) (ev_var rfl) rv_neT)) ?_
          rw [b1, decide_eq_true rfl]
          rfl
        · show tSeq _ _ _ [some (.ref p), some (T text), some (.int ((cutsAt rep text 0).length : Int)), some (.ref q), some (.ref a), y] H6
          have ha6 := (e5.trans e6) _ _ ha4
          have hb6 := (e5.trans e6) _ _ hb4
          have hb0 : H b = none := fresh_back e1 hb
          have e16 := e14.trans e6
          refine q_app hb6 (ev_at1 rfl ha6) ev_c (by rw [List.length_map]; omega) fun H7 e7 => ?_
          have e17 : Ex H (upd H7 b (.lst ((backS rep text).map T ++ [T [115, 112, 111, 105, 108, 116]]))) := Ex.mut (e16.trans e7) hb0
          have nbq : q ≠ b := fun z => by rw [← z, hqL] at hb; cases hb
          have hq7 : (upd H7 b (.lst ((backS rep text).map T ++ [T [115, 112, 111, 105, 108, 116]]))) q = some (.lst ((backS rep text).map T)) := by rw [upd_ne nbq]; exact e7 _ _ (e6 _ _ (e5 _ _ hq4))
          generalize upd H7 b (.lst ((backS rep text).map T ++ [T [115, 112, 111, 105, 108, 116]])) = H8 at e17 hq7 ⊢
          refine ⟨T text, rfl, .ref p, rfl, p, rep, text, rfl, hR.ex e17, hlen, hsg, ⟨fun z => absurd z hm, fun z => absurd z hm, fun _ _ c H9 hc9 e9 h9 => ⟨.ref q, rfl, c, q, (backS rep text).map T, rfl, h9, sq_of (e9 _ _ hq7), flat_texts hlow, by rw [List.length_map]; omega, RetV.mono ret (e17.trans e9)⟩, fun _ z => absurd z (by omega)⟩⟩
    · show tSeq _ _ _ [some (.ref p), some (T text), some (.int ((cutsAt rep text 0).length : Int)), some (.ref q), some (.ref a), none] H2
      have e12 := e1.trans e2
      refine q_when (et_is (hin e12) (decide_eq_false hm)) (fun z => by cases z) (fun _ H3 e3 => ?_)
      refine q_when (et_is hmany (decide_eq_true hc)) (fun _ H4 e4 => ?_) (fun z => by cases z)
      exact s_ret (ev_eqMany (ev_var rfl) ((e3.trans e4) _ _ ha)) (RetV.mono ret ((e12.trans e3).trans e4))
end
end K21
set_option Elab.async false
set_option linter.all false
set_option maxRecDepth 100000
set_option maxHeartbeats 4000000
namespace K21
open PySem PySem.Spec PyProof.Rows L2 Evl Wc Wt Wg Ws Wr _root_.Wd
theorem kb_doubly_1_0 : KB "doubly" st_doubly 0 ["replacing", "other"] ["other", "replacing"] (sw2 true) (sw2 true) := kb2 true rfl (fun _ _ _ _ _ _ a b => rfl)
theorem by_app (rep : List Tx) (a b : Tx) : byR rep (a ++ b) = byR rep a ++ byR rep b := by
  unfold byR
  rw [List.map_append, List.flatten_append]
theorem by_flat (oth : List Tx) : ∀ rep : List Tx, byR oth rep.flatten = (rep.map (byR oth)).flatten
  | [] => rfl
  | t :: rep => by rw [List.flatten_cons, by_app, by_flat oth rep]; rfl
theorem by_AB {rep : List Tx} (h : rep.length ≤ 4) : byR rep (AB.take rep.length) = rep.flatten := by
  match rep, h with
  | [], _ => rfl
  | [a], _ => rfl
  | [a, b], _ => rfl
  | [a, b, c], _ => rfl
  | [a, b, c, d], _ => rfl
  | _ :: _ :: _ :: _ :: _ :: _, h => simp at h
theorem own_AB {n : Nat} (h : n ≤ 4) : Own n (AB.take n) := fun c hc => (mem_AB h).mp hc
/-- max([..]) > k -/
theorem et_maxGt {K : PySem.W.Frag} {σ : L2.St} {H : Hp} {te : TE} {ns : List Int} {k : Int} {b : Bool} (h : EvL te σ H (ns.map V.int)) (hn : 0 < ns.length) (hb : ∀ m : Int, m ∈ ns → (∀ y, y ∈ ns → y ≤ m) → decide (m > k) = b) : EvT (tTest (tOp (rI0 fun i j => .bl (decide (i > j))) (tCB (rMax K) (tCons te tNil)) (tC (.int k)))) σ H b := by
  intro H1 e1 Q q
  show te σ H1 fun v H2 => rMax K [v] H2 fun x H3 => rI0 (fun i j => .bl (decide (i > j))) x (.int k) H3 fun z H4 => ∃ c, z = .bl c ∧ Q c H4
  exact h H1 e1 _ fun r H5 hr e5 h5 => ⟨r, ns, rfl, sq_of h5, hn, fun m hm1 hm2 => ⟨m, k, rfl, rfl, b, congrArg V.bl (hb m hm1 hm2), q H5 e5⟩⟩
section
variable {P : Program} {w : World} {K : PySem.W.Frag} {mg : Str → Option Value} {base : Heap}
def sp_law_doubly : Sp := fun vs H Q _ => ∃ (p q : Addr) (rep oth : List Tx), vs = [.ref p, .ref q] ∧ RepAt p rep H ∧ RepAt q oth H ∧ RetV (.bl true) H Q
theorem ok__law_doubly {f CE : Addr} {fd : FuncData} (F : Fun K "_law_doubly" "_law_doubly" st__law_doubly f fd) (M : Md K mg) (C__law_by : Cal P w K mg base "_law_by" st__law_by 1 ["replacing", "text"] sp_replaced_text) (C__law_asked : Cal P w K mg base "_law_asked" st__law_asked 5 ["way", "one", "other"] sp_asked) (C_replaced : Cal P w K mg base "replaced" st_replaced 4 ["replacing", "text"] (calm (sp_replaced CE))) (C_doubly : Cal P w K mg base "doubly" st_doubly 4 ["replacing", "other"] (calm (sp_doubly CE))) : FnOk P w K mg base CX0 6 f fd ["first", "second"] sp_law_doubly := by
  have nd := sc__law_doubly.nd
  refine F.ok sc__law_doubly (fun vs H Q E h => ?_) (fun cdv A outer s H vs Q E hr h => ?_)
  · obtain ⟨_, _, _, _, rfl, _⟩ := h
    rfl
  · obtain ⟨p, q, rep, oth, rfl, hR, hO, ret⟩ := h
    refine ⟨_, (pss_cons (ps_if (pt_cmpR (kop K (r := rNeD) (op_neD hr.units)) (pe_lc (own := [("sign", 2)]) rfl nd (pi_str (kbm K (pe_bm PySem.F.plainAttrs_str PySem.F.slot_str_join PySem.F.type_str_join (kmt K (r := rJoinT) mt_joinT) (pe_sT []) (pa_cons (pv 0) pa_nil)))) (blkOk_by (N := N__law_doubly) (sc := defScope st__law_doubly) (by decide +kernel)) (fun _ _ _ _ _ => (pg_name (i := 2) nd rfl (Or.inl rfl))) (fun _ _ _ _ _ => (pts_one (pt_cmpR op_notInT (pv 2) (pe_slice sl_T (pe_sT [97, 98, 99, 100]) po_none (po_some (pe_callB (kcr K (r := rLenS) call_len_seq) (by rfl) M.n_len boot_len (pa_cons (pv 1) pa_nil)))) (by rfl)))) (fun _ _ _ _ _ => (pv 2))) (pe_lst pa_nil) (nomark _))
  (pss_one (ps_ret pe_bl))
  pss_nil)
  (pss_cons (ps_par (i := 3) (j := 4) rfl nd rfl rfl (by decide) rfl rfl (pa_cons (pe_callTy (kcr K (r := rTupS) call_tuple_of) (by rfl) M.n_tuple boot_tuple (pa_cons (pe_lc (own := [("text", 5)]) rfl nd (kit K (pi_tup (pv 0))) (blkOk_by (N := N__law_doubly) (sc := defScope st__law_doubly) (by decide +kernel)) (fun _ _ _ _ _ => (pg_name (i := 5) nd rfl (Or.inl rfl))) (fun _ _ _ _ _ => pts_nil) (fun _ _ _ _ _ => (pe_cl C__law_by hr (pa_cons (pv 1) (pa_cons (pv 5) pa_nil))))) pa_nil)) (pa_cons (pe_cl C__law_asked hr (pa_cons pe_int (pa_cons (pv 0) (pa_cons (pv 1) pa_nil)))) pa_nil)) (by rfl))
  (pss_cons (ps_if (pt_cmpR op_gt (pe_callB (kcr K (r := rMax) (cr_max rfl)) (by rfl) M.n_max boot_max (pa_cons (pe_lc (own := [("text", 5)]) rfl nd (kit K (pi_tup (pv 3))) (blkOk_by (N := N__law_doubly) (sc := defScope st__law_doubly) (by decide +kernel)) (fun _ _ _ _ _ => (pg_name (i := 5) nd rfl (Or.inl rfl))) (fun _ _ _ _ _ => pts_nil) (fun _ _ _ _ _ => (pe_callB cr_lenT (by rfl) M.n_len boot_len (pa_cons (pv 5) pa_nil)))) pa_nil)) pe_int (nomark _))
  (pss_one (ps_ret (pe_cmpR (kop K (r := rEqD) (op_eqD hr.units)) (pv 4) (pe_tup (pa_cons (pe_sT [109, 97, 110, 121]) (pa_cons pe_bl pa_nil))) (nomark _))))
  pss_nil)
  (pss_cons (ps_if (PW.pt (pw_or (pt_cmpR op_neT (pe_ix (kix K (r := L2.rIxT) ix_tup) (pv 4) pe_int (fun _ _ => rfl)) (pe_sT [116, 111, 108, 100]) (nomark _)) (pw_or (pt_not (pt_val (pe_callB (kcr K (r := rIsiB) cr_isi) (by rfl) M.n_isinstance boot_isinstance (pa_cons (pe_ix (kix K (r := L2.rIxT) ix_tup) (pv 4) pe_int (fun _ _ => rfl)) (pa_cons (pe_bltn (v := .ty "tuple") rfl M.n_tuple boot_tuple rfl) pa_nil))))) (pw_or (pt_cmpR (kop K (r := rNeD) (op_neD hr.units)) (pe_ix (kix K (r := L2.rIxT) ix_tup) (pv 4) pe_int (fun _ _ => rfl)) (pv 3) (nomark _)) (pw_or1 (pt_cmpR (kop K (r := rNeD) (op_neD hr.units)) (pe_clK0 C_doubly (kb_doubly_1_0) hr (pk_cons (pv 1) (pk_cons (pv 0) pk_nil))) (pv 3) (nomark _)))))))
  (pss_one (ps_ret pe_bl))
  pss_nil)
  (pss_cons (ps_set (i := 5) nd rfl (Or.inl rfl) (pe_slice sl_T (pe_sT [97, 98, 99, 100]) po_none (po_some (pe_callB (kcr K (r := rLenS) call_len_seq) (by rfl) M.n_len boot_len (pa_cons (pv 0) pa_nil)))))
  (pss_one (ps_ret (pe_cmpR op_eqT (pe_cl C_replaced hr (pa_cons (pv 3) (pa_cons (pv 5) pa_nil))) (pe_cl C_replaced hr (pa_cons (pv 1) (pa_cons (pe_cl C_replaced hr (pa_cons (pv 0) (pa_cons (pv 5) pa_nil))) pa_nil))) (nomark _))))))))), ?_⟩
    have hfew := hR.2.few
    have hofew := hO.2.few
    have hfl := rep_flat hR.2
    have hsum : (rep.map List.length).sum ≤ 48 := by rw [← flat_len]; exact hfl
    -- signs that are not replaced
    have hbad : EvL (tLc (iStr (tBM K "str" (rJoinT K) (tC (T [])) (tCons (tVar 0) tNil))) (gName 2) (tTest (tOp rNotInT (tVar 2) (tSl rSlT (tC (T [97, 98, 99, 100])) tNoPart (tPart (tCB (rLenS K) (tCons (tVar 1) tNil)))))) (tVar 2) [2]) (start N__law_doubly [.ref p, .ref q]) H ((rep.flatten.filter fun c => !decide (c ∈ AB.take oth.length)).map fun c => T [c]) :=
      el_lcF (j := 2) (vs := [2]) (f := fun c => T [c]) (g := fun c => T [c]) rep.flatten (src_str (ev_bmT ev_c (ea_cons (ev_var rfl) ea_nil) (rm_join (.inr (st_of hR.1)) (by omega)))) (by omega) (fun _ => rfl) (fun c H1 e1 hc => et_test (ev_op (ev_var rfl) (ev_own rfl (hO.ex e1)) rv_notInT)) (fun c H1 e1 hc _ => ev_var rfl)
    refine q_when (b := !decide (rep.flatten.filter (fun c => !decide (c ∈ AB.take oth.length)) = [])) (et_test (ev_opLL (xs := ((rep.flatten.filter fun c => !decide (c ∈ AB.take oth.length)).map fun c => T [c])) (ys := []) hbad (el_lst ea_nil (by decide)) fun p1 q1 H2 g1 g2 e2 => rv_neD (b := decide (rep.flatten.filter (fun c => !decide (c ∈ AB.take oth.length)) = [])) (d := .list ((rep.flatten.filter fun c => !decide (c ∈ AB.take oth.length)).map fun c => dT [c])) (e := .list []) (fun H3 e3 => dp_list (sq_of (e3 _ _ g1)) fun _ _ => .str _) (fun H3 e3 => .lst (sq_of (e3 _ _ g2)) .nil) (shaped_list (m := 0) (fun c hc => lay_T fun x hx => ?_) (fun _ _ => Nat.le_refl _) (by decide)) (by decide) ?_)) (fun hb H1 e1 => s_ret ev_c (RetV.mono ret e1)) (fun hb H1 e1 => ?_)
    · rw [List.mem_singleton.mp hx]
      obtain ⟨t, ht, hct⟩ := flat_mem' (List.mem_filter.mp hc).1
      have := (hR.2.wd t ht).2 c hct
      unfold abcd at this
      omega
    · cases rep.flatten.filter fun c => !decide (c ∈ AB.take oth.length) <;> rfl
    have hb : rep.flatten.filter (fun c => !decide (c ∈ AB.take oth.length)) = [] := by simpa using hb
    have how : ∀ t ∈ rep, Own oth.length t := fun t ht c hc => by
      rw [List.filter_eq_nil_iff] at hb
      have := hb c (List.mem_flatten.mpr ⟨t, ht, hc⟩)
      exact (mem_AB hofew).mp (by simpa using this)
    clear hbad hb
    -- due, found
    have hlc : EvL (tLc (iTup K (tVar 0)) (gName 5) tYes (tCall sp_replaced_text [] E0 (tCons (tVar 1) (tCons (tVar 5) tNil))) [5]) (start N__law_doubly [.ref p, .ref q]) H1 ((rep.map (byR oth)).map T) := by
      rw [List.map_map]
      exact el_lcM (j := 5) (vs := [5]) (f := T) (g := fun t => T (byR oth t)) rep (src_tupM (ev_var rfl) (st_of (e1 _ _ hR.1))) (by omega) (fun _ => rfl) fun t H4 e4 ht => ev_call (ea_cons (ev_var rfl) (ea_cons (ev_var rfl) ea_nil)) fun H5 e5 Q q' E => ⟨q, oth, t, rfl, hO.ex ((e1.trans e4).trans e5), by have := (hR.2.wd t ht).1; omega, how t ht, q'⟩
    refine q_par2 ((eu_tupL hlc) H1 (Ex.refl _) _ fun pd H2 hpd e2 h2 => ⟨.ref p, rfl, .ref q, rfl, .inr (.inr ⟨p, q, rep, oth, rfl, hR.ex (e1.trans e2), hO.ex (e1.trans e2), how, fun hsh a b H3 e3 ha hb hb3 => ⟨_, _, rfl, ?_⟩, fun hsh a H3 e3 ha => ⟨_, _, rfl, ?_⟩⟩)⟩)
    all_goals
      have e13 := (e1.trans e2).trans e3
      have hpd3 := e3 _ _ h2
      have hmaxL : EvL (tLc (iTup K (tVar 3)) (gName 5) tYes (tCB rLenT (tCons (tVar 5) tNil)) [5]) [some (.ref p), some (.ref q), none, some (.ref pd), some (.ref a), none] H3 ((rep.map fun t => ((byR oth t).length : Int)).map V.int) := by
        rw [List.map_map]
        have h0 := el_lcM (σ := [some (.ref p), some (.ref q), none, some (.ref pd), some (.ref a), none]) (H := H3) (te := tCB rLenT (tCons (tVar 5) tNil)) (wi := iTup K (tVar 3)) (j := 5) (vs := [5]) (f := T) (g := fun t => V.int (t.length : Int)) (rep.map (byR oth)) (src_tupM (ev_var rfl) (st_of hpd3)) (by rw [List.length_map]; omega) (fun _ => rfl) fun t H4 e4 ht => ev_cb (ea_cons (ev_var rfl) ea_nil) (rc_lenT (by
          obtain ⟨t', ht', rfl⟩ := List.mem_map.mp ht
          have h1 := by_len hO.2 (how t' ht')
          have := (hR.2.wd t' ht').1
          omega))
        rw [List.map_map] at h0
        exact h0
      have hmax : ∀ (b : Bool), (∀ m : Int, m ∈ rep.map (fun t => ((byR oth t).length : Int)) → (∀ y, y ∈ rep.map (fun t => ((byR oth t).length : Int)) → y ≤ m) → decide (m > 12) = b) → EvT (tTest (tOp (rI0 fun i j => .bl (decide (i > j))) (tCB (rMax K) (tCons (tLc (iTup K (tVar 3)) (gName 5) tYes (tCB rLenT (tCons (tVar 5) tNil)) [5]) tNil)) (tC (.int 12)))) [some (.ref p), some (.ref q), none, some (.ref pd), some (.ref a), none] H3 b := fun b hb0 => et_maxGt hmaxL (by rw [List.length_map]; exact hR.2.pos) hb0
      show tSeq _ _ _ [some (.ref p), some (.ref q), none, some (.ref pd), some (.ref a), none] H3
    · refine q_when (hmax false fun m hm1 hm2 => ?_) (fun z => by cases z) (fun _ H4 e4 => ?_)
      · obtain ⟨t, ht, rfl⟩ := List.mem_map.mp hm1
        have := hsh t ht
        exact decide_eq_false (by omega)
      have e14 := e13.trans e4
      have hdR : IsRep (rep.map (byR oth)) := ⟨fun z => hR.2.ne (List.map_eq_nil_iff.mp z), by rw [List.length_map]; exact hfew, fun t ht => by
        obtain ⟨t', ht', rfl⟩ := List.mem_map.mp ht
        exact ⟨hsh t' ht', by_abcd hO.2 (how t' ht')⟩⟩
      have hlay : (PyData.tuple ((rep.map (byR oth)).map dT)).canLay0 = true := lay_all (fun t ht => lay_T fun c hc => by
        have := (hdR.wd t ht).2 c hc
        unfold abcd at this
        omega)
      have hsh2 : SeqAt.shaped (.tuple ((rep.map (byR oth)).map dT)) = true := shaped_of hlay (by
        show PyData.depthAll ((rep.map (byR oth)).map dT) + 1 ≤ 64
        have := depth_all (g := dT) (m := 0) (xs := rep.map (byR oth)) fun x _ => Nat.le_refl _
        omega)
      have hdp : ∀ {r : Addr} {Hx : Hp}, Hx r = some (.tup ((rep.map (byR oth)).map T)) → Dp K Hx (.ref r) (.tuple ((rep.map (byR oth)).map dT)) := fun h => .tup (st_of h) (dp_all fun _ _ => .str _)
      have ha4 := e4 _ _ ha
      have hb4 := e4 _ _ hb3
      have hpd4 := e4 _ _ hpd3
      refine q_when (b := false) (et_is (et_or (et_test (ev_op (ev_at0 rfl ha4) ev_c rv_neT)) fun _ => et_or (et_not (et_B (ev_cb (ea_cons (ev_at1 rfl ha4) (ea_cons ev_c ea_nil)) (rc_isi (b := true) (fun H1 e => .base (.tup (e _ _ hb4))) k_tuple_tuple)))) fun _ => et_or (et_test (ev_op (ev_at1 rfl ha4) (ev_var rfl) (rv_neD (b := true) (fun H5 e5 => hdp (e5 _ _ hb4)) (fun H5 e5 => hdp (e5 _ _ hpd4)) hsh2 hsh2 (SeqAt.eqv_refl _ hlay)))) fun _ => et_test (b := false) (fun H5 e5 Q5 q5 => ⟨.ref q, rfl, .ref p, rfl, p, q, rep, oth, rfl, hR.ex (e14.trans e5), hO.ex (e14.trans e5), how, fun _ r H6 hr e6 h6 => ⟨.ref pd, rfl, ?_⟩, fun z => absurd hsh z⟩)) (by simp)) (fun z => by cases z) (fun _ H5 e5 => ?_)
      · exact rv_neD (K := K) (H := H6) (b := true) (fun H7 e7 => hdp (e7 _ _ h6)) (fun H7 e7 => hdp (e7 _ _ (e6 _ _ (e5 _ _ hpd4)))) hsh2 hsh2 (SeqAt.eqv_refl _ hlay) H6 (Ex.refl _) _ fun H7 e7 => q5 H7 (e6.trans e7)
      have e15 := e14.trans e5
      refine q_asg (v := T (AB.take rep.length)) (ev_own rfl (hR.ex e15)) fun H6 e6 => ?_
      show tRet _ _ [some (.ref p), some (.ref q), none, some (.ref pd), some (.ref a), some (T (AB.take rep.length))] H6
      have e16 := e15.trans e6
      have hABl : (AB.take rep.length).length ≤ 4 := by rw [List.length_take]; omega
      have hdfl := rep_flat hdR
      have hofl : Own oth.length rep.flatten := fun c hc => by
        obtain ⟨t, ht, hct⟩ := flat_mem' hc
        exact how t ht c hct
      have hdAB : byR (rep.map (byR oth)) (AB.take rep.length) = (rep.map (byR oth)).flatten := by
        have := by_AB (rep := rep.map (byR oth)) (by rw [List.length_map]; exact hfew)
        rw [List.length_map] at this
        exact this
      have h1 : Ev (tCall (calm (sp_replaced CE)) [] E0 (tCons (tVar 3) (tCons (tVar 5) tNil))) [some (.ref p), some (.ref q), none, some (.ref pd), some (.ref a), some (T (AB.take rep.length))] H6 (T (rep.map (byR oth)).flatten) := ev_call (ea_cons (ev_var rfl) (ea_cons (ev_var rfl) ea_nil)) fun H7 e7 Q7 q7 E => ⟨pd, rep.map (byR oth), AB.take rep.length, rfl, ⟨e7 _ _ (e6 _ _ (e5 _ _ hpd4)), hdR⟩, by omega, by rw [List.length_map]; exact own_AB hfew, fun _ => by rw [hdAB]; exact q7, fun z => by rw [hdAB] at z; omega⟩
      have h2' : Ev (tCall (calm (sp_replaced CE)) [] E0 (tCons (tVar 0) (tCons (tVar 5) tNil))) [some (.ref p), some (.ref q), none, some (.ref pd), some (.ref a), some (T (AB.take rep.length))] H6 (T rep.flatten) := ev_call (ea_cons (ev_var rfl) (ea_cons (ev_var rfl) ea_nil)) fun H7 e7 Q7 q7 E => ⟨p, rep, AB.take rep.length, rfl, hR.ex (e16.trans e7), by omega, own_AB hfew, fun _ => by rw [by_AB hfew]; exact q7, fun z => by rw [by_AB hfew] at z; omega⟩
      have h3 : Ev (tCall (calm (sp_replaced CE)) [] E0 (tCons (tVar 1) (tCons (tCall (calm (sp_replaced CE)) [] E0 (tCons (tVar 0) (tCons (tVar 5) tNil))) tNil))) [some (.ref p), some (.ref q), none, some (.ref pd), some (.ref a), some (T (AB.take rep.length))] H6 (T (rep.map (byR oth)).flatten) := ev_call (ea_cons (ev_var rfl) (ea_cons h2' ea_nil)) fun H7 e7 Q7 q7 E => ⟨q, oth, rep.flatten, rfl, hO.ex (e16.trans e7), by omega, hofl, fun _ => by rw [by_flat]; exact q7, fun z => by rw [by_flat] at z; omega⟩
      exact s_ret (ev_is (ev_op h1 h3 rv_eqT) (by rw [decide_eq_true rfl])) (RetV.mono ret e16)
    · refine q_when (hmax true fun m hm1 hm2 => ?_) (fun _ H4 e4 => ?_) (fun z => by cases z)
      · by_cases z : m > 12
        · exact decide_eq_true z
        · exact absurd (fun t ht => by
            have := hm2 _ (List.mem_map_of_mem ht)
            omega) hsh
      · exact s_ret (ev_eqMany (ev_var rfl) (e4 _ _ ha)) (RetV.mono ret (e13.trans e4))
end
end K21
set_option Elab.async false
set_option linter.all false
set_option maxRecDepth 100000
set_option maxHeartbeats 2000000
namespace K21
open PySem PySem.Spec PyProof.Rows L2 Evl Wc Wt
theorem Wd.mono {m n : Nat} {ws : List Tx} (h : Wd m ws) (hm : m ≤ n) : Wd n ws := fun t ht => ⟨Nat.le_trans (h t ht).1 hm, (h t ht).2⟩
theorem Wd.sub {m : Nat} {ws vs : List Tx} (h : Wd m ws) (hs : ∀ t ∈ vs, t ∈ ws) : Wd m vs := fun t ht => h t (hs t ht)
theorem Wd.app {m : Nat} {ws vs : List Tx} (h : Wd m ws) (h2 : Wd m vs) : Wd m (ws ++ vs) := fun t ht => by
  rcases List.mem_append.mp ht with z | z
  · exact h t z
  · exact h2 t z
section
variable {K : PySem.W.Frag}
def sp_split : Sp := fun vs H Q _ => ∃ (fa : Addr) (s : Tx) (turns : Nat), vs = [.ref fa, T s, .int (turns : Int)] ∧ GF fa turns H ∧ turns ≤ 100 ∧ s ≠ [] ∧ s.length ≤ 4 ∧ (∀ c ∈ s, abcd c) ∧
  ∀ q ws H', ws ≠ [] → ws.length ≤ 13 → Wd 12 ws → H q = none → Rf fa turns H H' → H' q = some (.lst (ws.map T)) → Q (.ref q) H'
def sp_joined : Sp := fun vs H Q _ => ∃ (fa p : Addr) (ws : List Tx) (turns : Nat), vs = [.ref fa, .ref p, .int (turns : Int)] ∧ H p = some (.lst (ws.map T)) ∧ p ≠ fa ∧ GF fa (3 * turns) H ∧ turns ≤ 10 ∧ ws ≠ [] ∧ ws.length ≤ 13 ∧ Wd 12 ws ∧
  ∀ q ws' H', ws' ≠ [] → ws'.length ≤ 30 → Wd 100000 ws' → q ≠ fa → Rf fa (3 * turns) H H' → H' q = some (.lst (ws'.map T)) → Q (.ref q) H'
def sp_made (K : PySem.W.Frag) : Sp := fun vs H Q _ => ∃ (fa c p : Addr) (cs ws : List Tx), vs = [.ref fa, .ref c, .ref p] ∧ GF fa 0 H ∧ H c = some (.lst (cs.map T)) ∧ SqL K H p (ws.map T) ∧ c ≠ fa ∧ p ≠ fa ∧ cs.length ≤ 100 ∧ Wd 10 cs ∧ ws ≠ [] ∧ ws.length ≤ 100 ∧ Wd 1000 ws ∧
  ∀ q vs' H', vs'.length ≤ 100 → Wd 100000 vs' → H q = none → Rf fa 0 H H' → H' q = some (.lst (vs'.map T)) → Q (.ref q) H'
end
section
variable {P : Program} {w : World} {K : PySem.W.Frag} {mg : Str → Option Value} {base : Heap}
theorem ok__law_split {f : Addr} {fd : FuncData} (F : Fun K "_law_split" "_law_split" st__law_split f fd) (M : Md K mg) (C__law_draw : Cal P w K mg base "_law_draw" st__law_draw 1 ["feed", "many"] sp_draw) : FnOk P w K mg base CX0 2 f fd ["feed", "signs", "turns"] sp_split := by
  have nd := sc__law_split.nd
  refine F.ok sc__law_split (fun vs H Q E h => ?_) (fun cdv A outer s H vs Q E hr h => ?_)
  · obtain ⟨_, _, _, rfl, _⟩ := h
    rfl
  · obtain ⟨fa, sg, turns, rfl, G, ht, hs0, hs4, hsc, k⟩ := h
    refine ⟨_, (pss_cons (ps_set (i := 3) nd rfl (Or.inr rfl) (pe_lst (pa_cons (pe_sT []) pa_nil)))
  (pss_cons (ps_for PassesOwn.never rfl (pi_range1 (by rfl) M.n_range (pa_cons (pv 2) pa_nil)) (pg_name (i := 4) nd rfl (Or.inl rfl))
  (pss_cons (ps_set (i := 5) nd rfl (Or.inr rfl) (pe_cl C__law_draw hr (pa_cons (pv 0) (pa_cons (pe_callB (kcr K (r := rLenS) call_len_seq) (by rfl) M.n_len boot_len (pa_cons (pv 3) pa_nil)) pa_nil))))
  (pss_one (ps_if (PW.pt (pw_and (pt_cmpR op_lt (pe_op op_add (pe_callB (kcr K (r := rLenS) call_len_seq) (by rfl) M.n_len boot_len (pa_cons (pv 3) pa_nil)) (pe_callB cr_lenT (by rfl) M.n_len boot_len (pa_cons (pv 1) pa_nil))) pe_int (nomark _)) (pw_and1 (pt_cmpR op_lt (pe_callB cr_lenT (by rfl) M.n_len boot_len (pa_cons (pe_ix (kix K (r := L2.rIxL) ix_list) (pv 3) (pv 5) (fun _ _ => rfl)) pa_nil)) pe_int (nomark _)))))
  (pss_one (ps_set (i := 3) nd rfl (Or.inr rfl) (pe_op op_cat (pe_op op_cat (pe_slice (ksl K (r := rSlL) sl_list) (pv 3) po_none (po_some (pv 5))) (pe_slice (ksl K (r := rSlL) sl_list) (pv 3) (po_some (pe_op op_add (pv 5) pe_int)) po_none)) (pe_lc (own := [("sign", 6)]) rfl nd (pi_str (pv 1)) (blkOk_by (N := N__law_split) (sc := defScope st__law_split) (by decide +kernel)) (fun _ _ _ _ _ => (pg_name (i := 6) nd rfl (Or.inl rfl))) (fun _ _ _ _ _ => pts_nil) (fun _ _ _ _ _ => (pe_op op_addT (pe_ix (kix K (r := L2.rIxL) ix_list) (pv 3) (pv 5) (fun _ _ => rfl)) (pv 6)))))))
  pss_nil))))
  (pss_one (ps_ret (pv 3))))), ?_⟩
    refine q_asgL (xs := [T []]) (el_lst (ea_cons ev_c ea_nil) (by show 1 ≤ 100000; decide)) fun p0 H1 hp0 e1 h1 => ?_
    have n0 : p0 ≠ fa := G.new hp0
    show tSeq _ _ _ [some (.ref fa), some (T sg), some (.int (turns : Int)), some (.ref p0), none, none, none] H1
    refine q_forW (fun c => c = fa) (src_range1 (n := turns) (ea_cons (ev_var rfl) ea_nil) (by omega)) ?_
      (fun Hs i σ' H' => ∃ (p : Addr) (ws : List Tx) (v4 v5 : Option V), σ' = [some (.ref fa), some (T sg), some (.int (turns : Int)), some (.ref p), v4, v5, none] ∧ Exc (fun c => c = fa) Hs H' ∧ Rf fa i H H' ∧ H p = none ∧ H' p = some (.lst (ws.map T)) ∧ ws ≠ [] ∧ ws.length ≤ 13 ∧ Wd 12 ws) ?_ ?_ ?_ ?_ ?_
    · rintro c rfl
      exact ⟨(G.ex e1).is, fun z => z⟩
    · intro Hs e
      exact ⟨p0, [[]], none, none, rfl, Exc.refl _, Rf.of_ex (e1.trans e), hp0, e _ _ h1, by simp, by simp, fun t ht => by simp at ht; subst ht; exact ⟨Nat.zero_le _, fun c hc => nomatch hc⟩⟩
    · rintro Hs i σ' H' ⟨_, _, _, _, _, h, _⟩
      exact h
    · rintro Hs i σ' Ha Hb ⟨p, ws, v4, v5, h0, h2, h3, h4, h5, h6⟩ e
      exact ⟨p, ws, v4, v5, h0, h2.then e, h3.then e, h4, e _ _ h5, h6⟩
    · rintro Hs i x σ' H' e hi ⟨p, ws, v4, v5, rfl, h2, h3, h4, h5, h6, h7, h8⟩ rfl
      have hpos : 0 < ws.length := List.length_pos_iff.mpr h6
      have np : p ≠ fa := G.new h4
      have hlen : ∀ {σ : L2.St} {H' : Hp}, σ[3]? = some (some (.ref p)) → H' p = some (.lst (ws.map T)) → Ev (tCB (rLenS K) (tCons (tVar 3) tNil)) σ H' (.int (ws.length : Int)) := fun h0 hh => ev_is (ev_len (ev_var h0) (sq_of hh)) (by rw [List.length_map])
      show tSeq _ _ _ [some (.ref fa), some (T sg), some (.int (turns : Int)), some (.ref p), some (.int (i : Int)), v5, none] H'
      refine wp_draw (many := (ws.length : Int)) rfl (hlen rfl h5) (G.go h3 (m' := 1) (by omega)) (by omega) (by omega) fun d H3 hd R3 => ?_
      have hd' : d < ws.length := by omega
      have h53 := R3.at_ h5 np
      have h33 : Rf fa (i + 1) H H3 := h3.trans R3
      have hex : Exc (fun c => c = fa) Hs H3 := h2.trans R3.keep
      have hw := h8 ws[d] (List.getElem_mem hd')
      have hix : ∀ {σ : L2.St} {H' : Hp}, σ[3]? = some (some (.ref p)) → σ[5]? = some (some (.int (d : Int))) → H' p = some (.lst (ws.map T)) → Ev (tOp (L2.rIxL K) (tVar 3) (tVar 5)) σ H' (T ws[d]) := fun h0 h1 hh => ev_op (ev_var h0) (ev_var h1) (rv_ixL (sq_of hh) (atI_nat (by rw [List.getElem?_map, List.getElem?_eq_getElem hd']; rfl)))
      refine s_when (σ := [some (.ref fa), some (T sg), some (.int (turns : Int)), some (.ref p), some (.int (i : Int)), some (.int (d : Int)), none]) (et_and (et_test (ev_op (ev_op (hlen rfl h53) (ev_cb (ea_cons (ev_var rfl) ea_nil) (rc_lenT (by omega))) rv_I0) ev_c rv_I0)) fun _ => et_test (ev_op (ev_cb (ea_cons (hix rfl rfl h53) ea_nil) (rc_lenT (by omega))) ev_c rv_I0)) (fun hb H4 e4 => ?_) (fun hb H4 e4 => ?_)
      · rw [Bool.and_eq_true, decide_eq_true_eq, decide_eq_true_eq] at hb
        have h54 := e4 _ _ h53
        have hcat : EvL (tOp rCat (tOp rCat (tSl (rSlL K) (tVar 3) tNoPart (tPart (tVar 5))) (tSl (rSlL K) (tVar 3) (tPart (tOp (rI0 fun i j => .int (i + j)) (tVar 5) (tC (.int 1)))) tNoPart)) (tLc (iStr (tVar 1)) (gName 6) tYes (tOp rAddT (tOp (L2.rIxL K) (tVar 3) (tVar 5)) (tVar 6)) [6])) [some (.ref fa), some (T sg), some (.int (turns : Int)), some (.ref p), some (.int (i : Int)), some (.int (d : Int)), none] H4 ((ws.take d ++ ws.drop (d + 1) ++ sg.map fun c => ws[d] ++ [c]).map T) := by
          have l1 : EvL (tSl (rSlL K) (tVar 3) tNoPart (tPart (tVar 5))) [some (.ref fa), some (T sg), some (.int (turns : Int)), some (.ref p), some (.int (i : Int)), some (.int (d : Int)), none] H4 ((ws.take d).map T) := by
            have := el_sl (K := K) (σ := [some (.ref fa), some (T sg), some (.int (turns : Int)), some (.ref p), some (.int (i : Int)), some (.int (d : Int)), none]) (H := H4) (te := tVar 3) (ev_var rfl) eo_none (eo_some (te := tVar 5) (i := (d : Int)) (ev_var rfl)) (sq_of h54)
            rw [cutV_to, ← List.map_take] at this
            exact this
          have l2 : EvL (tSl (rSlL K) (tVar 3) (tPart (tOp (rI0 fun i j => .int (i + j)) (tVar 5) (tC (.int 1)))) tNoPart) [some (.ref fa), some (T sg), some (.int (turns : Int)), some (.ref p), some (.int (i : Int)), some (.int (d : Int)), none] H4 ((ws.drop (d + 1)).map T) := by
            have := el_sl (K := K) (σ := [some (.ref fa), some (T sg), some (.int (turns : Int)), some (.ref p), some (.int (i : Int)), some (.int (d : Int)), none]) (H := H4) (te := tVar 3) (ev_var rfl) (eo_some (te := tOp (rI0 fun i j => .int (i + j)) (tVar 5) (tC (.int 1))) (i := ((d + 1 : Nat) : Int)) (ev_op (ev_var rfl) ev_c rv_I0)) eo_none (sq_of h54)
            rw [cutV_from, ← List.map_drop] at this
            exact this
          have l3 : EvL (tLc (iStr (tVar 1)) (gName 6) tYes (tOp rAddT (tOp (L2.rIxL K) (tVar 3) (tVar 5)) (tVar 6)) [6]) [some (.ref fa), some (T sg), some (.int (turns : Int)), some (.ref p), some (.int (i : Int)), some (.int (d : Int)), none] H4 (sg.map fun c => T (ws[d] ++ [c])) := el_lcM (j := 6) (vs := [6]) (f := fun c => T [c]) sg (src_str (ev_var rfl)) (by omega) (fun _ => rfl) fun c H5 e5 hc => ev_op (hix rfl rfl (e5 _ _ h54)) (ev_var rfl) (rv_addT (by show _ + 1 ≤ _; omega))
          have := el_catNN (el_catNN l1 l2 (by simp; omega)) l3 (by simp; omega)
          rw [List.map_append, List.map_append, List.map_map]
          exact this
        refine s_asgL hcat fun q H5 hq e5 h5' => ?_
        refine ⟨q, _, _, _, rfl, hex.then (e4.trans e5), (h33.then e4).then e5, ?_, h5', ?_, ?_, ?_⟩
        · exact (h33.then e4).free G.is hq ((G.go (h33.then e4) (m' := 0) (by omega)).is)
        · intro z
          have := congrArg List.length z
          simp at this
          exact hs0 this.2.2
        · simp
          omega
        · refine Wd.app (Wd.app (h8.sub fun t ht => List.mem_of_mem_take ht) (h8.sub fun t ht => List.mem_of_mem_drop ht)) fun t ht => ?_
          obtain ⟨c, hc, rfl⟩ := List.mem_map.mp ht
          refine ⟨by rw [List.length_append]; show _ + 1 ≤ 12; omega, fun c' hc' => ?_⟩
          rcases List.mem_append.mp hc' with z | z
          · exact hw.2 c' z
          · rw [List.mem_singleton.mp z]
            exact hsc c hc
      · exact ⟨p, ws, _, _, rfl, hex.then e4, h33.then e4, h4, e4 _ _ h53, h6, h7, h8⟩
    · rintro Hs σ' H' e ⟨p, ws, v4, v5, rfl, h2, h3, h4, h5, h6, h7, h8⟩
      exact s_ret (ev_var rfl) fun H3 e3 => k p ws H3 h6 h7 h8 h4 (h3.then e3) (e3 _ _ h5)
theorem ok__law_joined {f : Addr} {fd : FuncData} (F : Fun K "_law_joined" "_law_joined" st__law_joined f fd) (M : Md K mg) (C__law_draw : Cal P w K mg base "_law_draw" st__law_draw 1 ["feed", "many"] sp_draw) (C__law_one : Cal P w K mg base "_law_one" st__law_one 2 ["feed", "things"] (sp_one K)) : FnOk P w K mg base CX0 3 f fd ["feed", "words", "turns"] sp_joined := by
  have nd := sc__law_joined.nd
  refine F.ok sc__law_joined (fun vs H Q E h => ?_) (fun cdv A outer s H vs Q E hr h => ?_)
  · obtain ⟨_, _, _, _, rfl, _⟩ := h
    rfl
  · obtain ⟨fa, p0, ws0, turns, rfl, hp0, np0, G, ht, hne0, hl0, hw0, k⟩ := h
    refine ⟨_, (pss_cons (ps_for PassesOwn.never rfl (pi_range1 (by rfl) M.n_range (pa_cons (pv 2) pa_nil)) (pg_name (i := 3) nd rfl (Or.inl rfl))
  (pss_cons (ps_asg (pe_tup (pa_cons (pe_cl C__law_one hr (pa_cons (pv 0) (pa_cons (pv 1) pa_nil))) (pa_cons (pe_cl C__law_one hr (pa_cons (pv 0) (pa_cons (pv 1) pa_nil))) pa_nil))) (kgt K (n := 2) (pg_tup rfl (pgs_cons (pg_name (i := 4) nd rfl (Or.inr rfl)) (pgs_cons (pg_name (i := 5) nd rfl (Or.inl rfl)) pgs_nil)))))
  (pss_cons (ps_set (i := 6) nd rfl (Or.inl rfl) (pe_cl C__law_draw hr (pa_cons (pv 0) (pa_cons pe_int pa_nil))))
  (pss_one (ps_if (pt_cmpR op_eqI (pv 6) pe_int (nomark _))
  (pss_one (ps_set (i := 1) nd rfl (Or.inl rfl) (pe_op op_cat (pv 1) (pe_lst (pa_cons (pe_op op_addT (pv 4) (pv 5)) pa_nil)))))
  (pss_one (ps_if (pt_cmpR op_eqI (pv 6) pe_int (nomark _))
  (pss_one (ps_set (i := 1) nd rfl (Or.inl rfl) (pe_op op_cat (pe_lc (own := [("word", 7)]) rfl nd (kil K (pi_list (pv 1))) (blkOk_by (N := N__law_joined) (sc := defScope st__law_joined) (by decide +kernel)) (fun _ _ _ _ _ => (pg_name (i := 7) nd rfl (Or.inl rfl))) (fun _ _ _ _ _ => (pts_one (pt_cmpR op_neT (pv 7) (pv 4) (nomark _)))) (fun _ _ _ _ _ => (pv 7))) (pe_lst (pa_cons (pe_op op_addT (pv 4) (pv 5)) pa_nil)))))
  (pss_one (ps_if (pt_cmpR op_lt (pe_callB (kcr K (r := rLenS) call_len_seq) (by rfl) M.n_len boot_len (pa_cons (pv 1) pa_nil)) pe_int (nomark _))
  (pss_one (ps_set (i := 1) nd rfl (Or.inl rfl) (pe_op op_cat (pe_lc (own := [("word", 7)]) rfl nd (kil K (pi_list (pv 1))) (blkOk_by (N := N__law_joined) (sc := defScope st__law_joined) (by decide +kernel)) (fun _ _ _ _ _ => (pg_name (i := 7) nd rfl (Or.inl rfl))) (fun _ _ _ _ _ => (pts_one (pt_cmpR op_neT (pv 7) (pv 4) (nomark _)))) (fun _ _ _ _ _ => (pv 7))) (pe_lc (own := [("word", 7)]) rfl nd (kil K (pi_list (pv 1))) (blkOk_by (N := N__law_joined) (sc := defScope st__law_joined) (by decide +kernel)) (fun _ _ _ _ _ => (pg_name (i := 7) nd rfl (Or.inl rfl))) (fun _ _ _ _ _ => pts_nil) (fun _ _ _ _ _ => (pe_op op_addT (pv 4) (pv 7)))))))
  pss_nil)))))))))
  (pss_one (ps_ret (pv 1)))), ?_⟩
    refine q_forW (fun c => c = fa) (src_range1 (n := turns) (ea_cons (ev_var rfl) ea_nil) (by omega)) ?_
      (fun Hs i σ' H' => ∃ (p : Addr) (ws : List Tx) (v3 v4 v5 v6 : Option V), σ' = [some (.ref fa), some (.ref p), some (.int (turns : Int)), v3, v4, v5, v6, none] ∧ Exc (fun c => c = fa) Hs H' ∧ Rf fa (3 * i) H H' ∧ p ≠ fa ∧ H' p = some (.lst (ws.map T)) ∧ ws ≠ [] ∧ ws.length ≤ 13 + i ∧ Wd (12 * 2 ^ i) ws) ?_ ?_ ?_ ?_ ?_
    · rintro c rfl
      exact ⟨G.is, fun z => z⟩
    · intro Hs e
      exact ⟨p0, ws0, none, none, none, none, rfl, Exc.refl _, Rf.of_ex e, np0, e _ _ hp0, hne0, hl0, hw0⟩
    · rintro Hs i σ' H' ⟨_, _, _, _, _, _, _, h, _⟩
      exact h
    · rintro Hs i σ' Ha Hb ⟨p, ws, v3, v4, v5, v6, h0, h2, h3, h4, h5, h6⟩ e
      exact ⟨p, ws, v3, v4, v5, v6, h0, h2.then e, h3.then e, h4, e _ _ h5, h6⟩
    · rintro Hs i x σ' H' e hi ⟨p, ws, v3, v4, v5, v6, rfl, h2, h3, np, h5, h6, h7, h8⟩ rfl
      have hpw : (2 : Nat) ^ i ≤ 1024 := Nat.le_trans (Nat.pow_le_pow_right (by decide) (show i ≤ 10 by omega)) (by decide)
      have hpe : (2 : Nat) ^ (i + 1) = 2 ^ i * 2 := Nat.pow_succ ..
      have hpp : 1 ≤ (2 : Nat) ^ i := Nat.pow_pos (by decide)
      have hxs : ws.map T ≠ [] := fun z => h6 (List.map_eq_nil_iff.mp z)
      have G1 : GF fa 3 H' := G.go h3 (by omega)
      show tSeq _ _ _ [some (.ref fa), some (.ref p), some (.int (turns : Int)), some (.int (i : Int)), v4, v5, v6, none] H'
      refine wp_oneS (xs := ws.map T) rfl (ev_var rfl) (.inl (sq_of h5)) np G1 hxs (by rw [List.length_map]; omega) fun x1 Ha hx1 Ra => wp_oneS (xs := ws.map T) rfl (ev_var rfl) (.inl (sq_of (Ra.at_ h5 np))) np (G1.go Ra (m' := 2) (by omega)) hxs (by rw [List.length_map]; omega) fun x2 Hb hx2 Rb => ⟨by show 2 ≤ sizeLine; decide, fun pt hpt => ⟨pt, _, rfl, st_of upd_same, rfl, x1, [x2], rfl, x2, [], rfl, rfl, ?_⟩⟩
      obtain ⟨a, ha, rfl⟩ := List.mem_map.mp hx1
      obtain ⟨b, hb, rfl⟩ := List.mem_map.mp hx2
      have R2 : Rf fa 2 H' (upd Hb pt (.tup [T a, T b])) := (Ra.trans Rb).then (Ex.new hpt)
      generalize upd Hb pt (.tup [T a, T b]) = H2 at R2 ⊢
      have h52 := R2.at_ h5 np
      show tSeq _ _ _ [some (.ref fa), some (.ref p), some (.int (turns : Int)), some (.int (i : Int)), some (T a), some (T b), v6, none] H2
      refine wp_draw (many := 3) rfl ev_c (G1.go R2 (m' := 1) (by omega)) (by decide) (by decide) fun d H3 hd R3 => ?_
      have h53 := R3.at_ h52 np
      have RR : Rf fa (3 * (i + 1)) H H3 := ((h3.trans R2).trans R3).mono (by omega)
      have XX : Exc (fun c => c = fa) Hs H3 := (h2.trans R2.keep).trans R3.keep
      clear R2 R3 Ra Rb hpt
      have wa := h8 a ha
      have wb := h8 b hb
      have hup : Wd (12 * 2 ^ (i + 1)) ws := h8.mono (by omega)
      have hab : Wd (12 * 2 ^ (i + 1)) [a ++ b] := fun t ht => by
        rw [List.mem_singleton.mp ht]
        exact ⟨by rw [List.length_append]; omega, fun c hc => by
          rcases List.mem_append.mp hc with z | z
          · exact wa.2 c z
          · exact wb.2 c z⟩
      have ab : ∀ {H' : Hp}, EvL (tLst (tCons (tOp rAddT (tVar 4) (tVar 5)) tNil)) [some (.ref fa), some (.ref p), some (.int (turns : Int)), some (.int (i : Int)), some (T a), some (T b), some (.int (d : Int)), none] H' ([a ++ b].map T) := el_lst (ea_cons (ev_op (ev_var rfl) (ev_var rfl) (rv_addT (by omega))) ea_nil) (by show 1 ≤ 100000; decide)
      have but : ∀ {H' : Hp}, H' p = some (.lst (ws.map T)) → EvL (tLc (iList K (tVar 1)) (gName 7) (tTest (tOp rNeT (tVar 7) (tVar 4))) (tVar 7) [7]) [some (.ref fa), some (.ref p), some (.int (turns : Int)), some (.int (i : Int)), some (T a), some (T b), some (.int (d : Int)), none] H' ((ws.filter fun t => !decide (t = a)).map T) := fun hh => el_lcF (j := 7) (vs := [7]) (f := T) (g := T) ws (src_listM (ev_var rfl) (sq_of hh)) (by omega) (fun _ => rfl) (fun t H1 e1 _ => et_test (ev_op (ev_var rfl) (ev_var rfl) rv_neT)) (fun t H1 e1 _ _ => ev_var rfl)
      have hfl := List.length_filter_le (fun t : Tx => !decide (t = a)) ws
      -- a new list of words
      have put : ∀ (vs : List Tx) q H5, Ex H3 H5 → H3 q = none → H5 q = some (.lst (vs.map T)) → vs ≠ [] → vs.length ≤ 13 + (i + 1) → Wd (12 * 2 ^ (i + 1)) vs → ∃ (p' : Addr) (ws' : List Tx) (v3 v4 v5 v6 : Option V), [some (V.ref fa), some (.ref q), some (.int (turns : Int)), some (.int (i : Int)), some (T a), some (T b), some (.int (d : Int)), none] = [some (.ref fa), some (.ref p'), some (.int (turns : Int)), v3, v4, v5, v6, none] ∧ Exc (fun c => c = fa) Hs H5 ∧ Rf fa (3 * (i + 1)) H H5 ∧ p' ≠ fa ∧ H5 p' = some (.lst (ws'.map T)) ∧ ws' ≠ [] ∧ ws'.length ≤ 13 + (i + 1) ∧ Wd (12 * 2 ^ (i + 1)) ws' := fun vs q H5 e5 hq h5' y1 y2 y3 => ⟨q, vs, _, _, _, _, rfl, XX.then e5, RR.then e5, (G.go RR (m' := 0) (by omega)).new hq, h5', y1, y2, y3⟩
      refine s_if (σ := [some (.ref fa), some (.ref p), some (.int (turns : Int)), some (.int (i : Int)), some (T a), some (T b), some (.int (d : Int)), none]) (et_test (ev_op (ev_var rfl) ev_c rv_I0)) (fun hb1 H4 e4 => ?_) (fun hb1 H4 e4 => ?_)
      · have hc := el_catVN (ta := tVar 1) (ev_var (σ := [some (.ref fa), some (.ref p), some (.int (turns : Int)), some (.int (i : Int)), some (T a), some (T b), some (.int (d : Int)), none]) rfl) (e4 _ _ h53) ab (by simp; omega)
        rw [← List.map_append] at hc
        exact s_asgL hc fun q H5 hq e5 h5' => put (ws ++ [a ++ b]) q H5 (e4.trans e5) (fresh_back e4 hq) h5' (by simp) (by simp; omega) (hup.app hab)
      · refine s_if (et_test (ev_op (ev_var rfl) ev_c rv_I0)) (fun hb2 H5 e5 => ?_) (fun hb2 H5 e5 => ?_)
        · have hc := el_catNN (but (e5 _ _ (e4 _ _ h53))) ab (by simp; omega)
          rw [← List.map_append] at hc
          exact s_asgL hc fun q H6 hq e6 h6' => put (ws.filter (fun t => !decide (t = a)) ++ [a ++ b]) q H6 ((e4.trans e5).trans e6) (fresh_back (e4.trans e5) hq) h6' (by simp) (by simp; omega) ((hup.sub fun t ht => (List.mem_filter.mp ht).1).app hab)
        · have h55 := e5 _ _ (e4 _ _ h53)
          refine s_when (et_test (ev_op (ev_len (ev_var rfl) (sq_of h55)) ev_c rv_I0)) (fun hb3 H6 e6 => ?_) (fun hb3 H6 e6 => ?_)
          · have h56 := e6 _ _ h55
            rw [decide_eq_true_eq, List.length_map] at hb3
            have l2 : EvL (tLc (iList K (tVar 1)) (gName 7) tYes (tOp rAddT (tVar 4) (tVar 7)) [7]) [some (.ref fa), some (.ref p), some (.int (turns : Int)), some (.int (i : Int)), some (T a), some (T b), some (.int (d : Int)), none] H6 (ws.map fun t => T (a ++ t)) := el_lcM (j := 7) (vs := [7]) (f := T) ws (src_listM (ev_var rfl) (sq_of h56)) (by omega) (fun _ => rfl) fun t H1 e1 ht => ev_op (ev_var rfl) (ev_var rfl) (rv_addT (by have := (h8 t ht).1; omega))
            have hc := el_catNN (but h56) l2 (by simp; omega)
            have em : ws.map (fun t => T (a ++ t)) = (ws.map fun t => a ++ t).map T := by rw [List.map_map]; rfl
            rw [em, ← List.map_append] at hc
            refine s_asgL hc fun q H7 hq e7 h7' => put _ q H7 (((e4.trans e5).trans e6).trans e7) (fresh_back ((e4.trans e5).trans e6) hq) h7' (fun z => ?_) (by simp; omega) ((hup.sub fun t ht => (List.mem_filter.mp ht).1).app fun t ht => ?_)
            · have := (List.append_eq_nil_iff.mp z).2
              exact h6 (List.map_eq_nil_iff.mp this)
            · obtain ⟨y, hy, rfl⟩ := List.mem_map.mp ht
              have wy := h8 y hy
              exact ⟨by rw [List.length_append]; omega, fun c hc => by
                rcases List.mem_append.mp hc with z | z
                · exact wa.2 c z
                · exact wy.2 c z⟩
          · have h56 := e6 _ _ h55
            exact ⟨p, ws, _, _, _, _, rfl, XX.then ((e4.trans e5).trans e6), RR.then ((e4.trans e5).trans e6), np, h56, h6, by omega, hup⟩
    · rintro Hs σ' H' e ⟨p, ws, v3, v4, v5, v6, rfl, h2, h3, np, h5, h6, h7, h8⟩
      have hpw : (2 : Nat) ^ turns ≤ 1024 := Nat.le_trans (Nat.pow_le_pow_right (by decide) ht) (by decide)
      exact s_ret (ev_var rfl) fun H3 e3 => k p ws H3 h6 (by omega) (h8.mono (by omega)) np (h3.then e3) (e3 _ _ h5)
theorem flat_mem {ts : List Tx} {c : Nat} (h : c ∈ ts.flatten) : ∃ t ∈ ts, c ∈ t := List.mem_flatten.mp h
theorem ok__law_made {f : Addr} {fd : FuncData} (F : Fun K "_law_made" "_law_made" st__law_made f fd) (M : Md K mg) : FnOk P w K mg base CX0 1 f fd ["feed", "code", "words"] (sp_made K) := by
  have nd := sc__law_made.nd
  refine F.ok sc__law_made (fun vs H Q E h => ?_) (fun cdv A outer s H vs Q E hr h => ?_)
  · obtain ⟨_, _, _, _, _, rfl, _⟩ := h
    rfl
  · obtain ⟨fa, pc, pw, cs, ws, rfl, G, hc, hp, nc, np, hcl, hcw, hne, hwl, hww, k⟩ := h
    refine ⟨_, (pss_cons (ps_set (i := 3) nd rfl (Or.inl rfl) (pe_lst pa_nil))
  (pss_cons (ps_for PassesOwn.never rfl (kil K (pi_list (pv 1))) (pg_name (i := 4) nd rfl (Or.inl rfl))
  (pss_one (ps_expr (kbm K (pe_bm PySem.F.plainAttrs_list PySem.F.slot_list_append PySem.F.type_list_append mt_append (pv 3) (pa_cons (kbm K (pe_bm PySem.F.plainAttrs_str PySem.F.slot_str_join PySem.F.type_str_join (kmt K (r := rJoinT) mt_joinT) (pe_sT []) (pa_cons (pe_lc (own := [("sign", 5)]) rfl nd (pi_str (pv 4)) (blkOk_by (N := N__law_made) (sc := defScope st__law_made) (by decide +kernel)) (fun _ _ _ _ _ => (pg_name (i := 5) nd rfl (Or.inl rfl))) (fun _ _ _ _ _ => pts_nil) (fun _ _ _ _ _ => (pe_ix (kix K (r := L2.rIxL) ix_list) (pv 2) (pe_op op_modP (pe_callTy call_int1 (by rfl) M.n_int boot_int (pa_cons (kbm K (pe_bm PySem.F.plainAttrs_str PySem.F.slot_str_find PySem.F.type_str_find mt_findT (pe_sT [97, 98, 99, 100]) (pa_cons (pv 5) pa_nil))) pa_nil)) (pe_callB (kcr K (r := rLenS) call_len_seq) (by rfl) M.n_len boot_len (pa_cons (pv 2) pa_nil))) (fun _ _ => rfl)))) pa_nil))) pa_nil))))))
  (pss_one (ps_ret (pv 3))))), ?_⟩
    have hpos : 0 < ws.length := List.length_pos_iff.mpr hne
    refine q_asgL (xs := []) (el_lst ea_nil (by decide)) fun pm H1 hpm e1 h1 => ?_
    have nm : pm ≠ fa := G.new hpm
    show tSeq _ _ _ [some (.ref fa), some (.ref pc), some (.ref pw), some (.ref pm), none, none] H1
    have nmc : pm ≠ pc := fun z => by rw [z, hc] at hpm; cases hpm
    refine q_forW (fun c => c = fa ∨ c = pm) (own := fun b => b = pc) (n := cs.length) (P := fun i v _ => (cs.map T)[i]? = some v) (src_listM (ev_var rfl) (sq_of (e1 _ _ hc))) ?_
      (fun Hs i σ' H' => ∃ (vs : List Tx) (v4 v5 : Option V), σ' = [some (.ref fa), some (.ref pc), some (.ref pw), some (.ref pm), v4, none] ∧ Exc (fun c => c = fa ∨ c = pm) Hs H' ∧ Rf fa 0 H H' ∧ H' pm = some (.lst (vs.map T)) ∧ vs.length = i ∧ Wd 100000 vs) ?_ ?_ ?_ ?_ ?_
    · rintro c (rfl | rfl)
      · exact ⟨(G.ex e1).is, fun z => nc z.symm⟩
      · exact ⟨by rw [h1]; exact fun z => (nomatch z), nmc⟩
    · intro Hs e
      exact ⟨[], none, none, rfl, Exc.refl _, Rf.of_ex (e1.trans e), e _ _ h1, rfl, fun t ht => nomatch ht⟩
    · rintro Hs i σ' H' ⟨_, _, _, _, h, _⟩
      exact h
    · rintro Hs i σ' Ha Hb ⟨vs, v4, v5, h0, h2, h3, h4, h5⟩ e
      exact ⟨vs, v4, v5, h0, h2.then e, h3.then e, e _ _ h4, h5⟩
    · rintro Hs i x σ' H' e hi ⟨vs, v4, v5, rfl, h2, h3, h4, h5, h6⟩ hx
      obtain ⟨cd, hcd, rfl⟩ := at_map hx
      have hm := hcw cd (List.mem_of_getElem? hcd)
      have G1 : GF fa 0 H' := G.go h3 (by omega)
      have hpw : SqL K H' pw (ws.map T) := h3.l np hp
      show tDrop _ _ [some (.ref fa), some (.ref pc), some (.ref pw), some (.ref pm), some (T cd), none] H'
      refine ⟨.ref pm, rfl, .inl ⟨rfl, vs.map T, sq_of h4⟩, rfl, ?_⟩
      refine lcD (fa := fa) (own := fun _ => False) (n := cd.length) (P := fun i v _ => (cd.map fun c => T [c])[i]? = some v) (fun v => ∃ t, v = T t ∧ (t.length ≤ 1000 ∧ ∀ c ∈ t, abcd c)) 0 G1.is (src_str (ev_var rfl)) (fun z => z) (by omega) (fun _ => rfl) (fun j y H2 hj hy R2 Q2 q2 => ?_) fun p H2 acc hp2 R2 h2' hal hg => ?_
      · obtain ⟨c, hc', rfl⟩ := at_map hy
        have hpw2 := R2.l np hpw
        refine ⟨.ref pw, rfl, rfl, T [c], rfl, _, _, rfl, rfl, fun r hr => .inl ⟨r, rfl, ?_⟩⟩
        refine (ev_len (ev_var rfl) hpw2 : Ev (tCB (rLenS K) (tCons (tVar 2) tNil)) _ H2 _) H2 (Ex.refl _) _ fun H3 e3 => ?_
        rw [List.length_map]
        have h0 : 0 ≤ r % (ws.length : Int) := Int.emod_nonneg _ (by omega)
        have h1 : r % (ws.length : Int) < (ws.length : Int) := Int.emod_lt_of_pos _ (by omega)
        obtain ⟨m, hm'⟩ := Int.eq_ofNat_of_zero_le h0
        have hml : m < ws.length := by omega
        refine ⟨r, _, rfl, rfl, by show (0 : Int) < _; omega, pw, _, _, T ws[m], rfl, rfl, ex_l e3 hpw2, ?_, q2 _ H3 ⟨_, rfl, hww _ (List.getElem_mem hml)⟩ (Rf.of_ex e3)⟩
        rw [hm']
        exact atI_nat (by rw [List.getElem?_map, List.getElem?_eq_getElem hml]; rfl)
      · obtain ⟨ts, rfl, hts⟩ := texts_of hg
        rw [List.length_map] at hal
        have hsum := sum_le (m := 1000) fun t ht => (hts t ht).1
        have hfl : ts.flatten.length ≤ 10000 := by rw [flat_len]; omega
        have h42 := R2.at_ h4 nm
        refine ⟨[], p, ts, rfl, rfl, .inl (sq_of h2'), by simp; omega, ?_⟩
        rw [joinL_nil]
        refine ⟨pm, vs.map T, T ts.flatten, rfl, rfl, h42, sz_lt (by rw [List.length_map]; omega), ?_⟩
        refine ⟨vs ++ [ts.flatten], _, none, rfl, ?_, ((h3.trans R2).upd hpm G.is).mono (by omega), by rw [upd_same, List.map_append]; rfl, by simp [h5], h6.app fun t ht => ?_⟩
        · exact (h2.trans (fun b o nb hb => R2.keep b o (fun z => nb (.inl z)) hb)).upd (.inl (.inr rfl))
        · rw [List.mem_singleton.mp ht]
          refine ⟨by omega, fun c hc' => ?_⟩
          obtain ⟨t, ht, hct⟩ := flat_mem hc'
          exact (hts t ht).2 c hct
    · rintro Hs σ' H' e ⟨vs, v4, v5, rfl, h2, h3, h4, h5, h6⟩
      exact s_ret (ev_var rfl) fun H3 e3 => k pm vs H3 (by omega) h6 hpm (h3.then e3) (e3 _ _ h4)
end
end K21
set_option Elab.async false
set_option linter.all false
set_option maxRecDepth 100000
set_option maxHeartbeats 2000000
namespace K21
open PySem PySem.Spec PyProof.Rows L2 Evl Wc Wt
/-- a displayed list of texts that is good -/
def goodT (v : V) : Bool := match v with
  | .str x => decide (x.cps.toList.length ≤ 5) && x.cps.toList.all fun c => decide (97 ≤ c) && decide (c ≤ 100)
  | _ => false
def goodL (xs : List V) : Bool := decide (1 ≤ xs.length) && decide (xs.length ≤ 6) && xs.all goodT
theorem goodL_is {xs : List V} (h : goodL xs = true) : ∃ ts : List Tx, xs = ts.map T ∧ ts ≠ [] ∧ ts.length ≤ 6 ∧ Wd 5 ts := by
  unfold goodL at h
  rw [Bool.and_eq_true, Bool.and_eq_true, decide_eq_true_eq, decide_eq_true_eq, List.all_eq_true] at h
  obtain ⟨⟨h1, h2⟩, h3⟩ := h
  obtain ⟨ts, rfl, ht⟩ := texts_of (acc := xs) (g := fun t => t.length ≤ 5 ∧ ∀ c ∈ t, abcd c) fun v hv => by
    have hg := h3 v hv
    cases v with
    | str x =>
      have hg' : (decide (x.cps.toList.length ≤ 5) && x.cps.toList.all fun c => decide (97 ≤ c) && decide (c ≤ 100)) = true := hg
      rw [Bool.and_eq_true, decide_eq_true_eq, List.all_eq_true] at hg'
      refine ⟨x.cps.toList, rfl, hg'.1, fun c hc => ?_⟩
      have := hg'.2 c hc
      rw [Bool.and_eq_true, decide_eq_true_eq, decide_eq_true_eq] at this
      exact this
    | _ => exact absurd hg (by simp [goodT])
  rw [List.length_map] at h1 h2
  exact ⟨ts, rfl, fun z => by rw [z] at h1; simp at h1, h2, ht⟩
/-- references to new lists of texts -/
def ListsAt (xs : List V) (H0 H : Hp) : Prop := ∀ v ∈ xs, ∃ (q : Addr) (ts : List Tx), v = .ref q ∧ H q = some (.lst (ts.map T)) ∧ (ts ≠ [] ∧ ts.length ≤ 6 ∧ Wd 5 ts) ∧ H0 q = none
def LA (ta : TA) (σ : L2.St) (n : Nat) : Prop := ∀ H (Q : List V → Hp → Prop), (∀ xs H1, Ex H H1 → xs.length = n → ListsAt xs H H1 → Q xs H1) → ta σ H Q
theorem la_nil {σ : L2.St} : LA tNil σ 0 := fun H Q q => q [] H (Ex.refl _) rfl fun v hv => nomatch hv
theorem la_cons {σ : L2.St} {te : TE} {tr : TA} {xs : List V} {n : Nat} (h : ∀ H, EvL te σ H xs) (hg : goodL xs = true) (hr : LA tr σ n) : LA (tCons te tr) σ (n + 1) := fun H Q q =>
  h H H (Ex.refl _) _ fun p H1 hp e1 h1 => hr H1 _ fun vs H2 e2 hl hA => q _ H2 (e1.trans e2) (by rw [List.length_cons, hl]) fun v hv => by
    rcases List.mem_cons.mp hv with rfl | hv
    · obtain ⟨ts, rfl, hts⟩ := goodL_is hg
      exact ⟨p, ts, rfl, e2 _ _ h1, hts, hp⟩
    · obtain ⟨r, ts, rfl, h3, h4, h5⟩ := hA v hv
      exact ⟨r, ts, rfl, h3, h4, fresh_back e1 h5⟩
theorem LA.lst {σ : L2.St} {ta : TA} {n : Nat} (h : LA ta σ n) (hn : n ≤ 1000) {H : Hp} (Q : VK) (k : ∀ p xs H1, Ex H H1 → xs.length = n → H p = none → H1 p = some (.lst xs) → ListsAt xs H H1 → Q (.ref p) H1) : tLst ta σ H Q :=
  h H _ fun xs H1 e1 hl A => ⟨by rw [hl]; exact sz_of (by omega), fun p hp => k p xs _ (e1.trans (Ex.new hp)) hl (fresh_back e1 hp) upd_same fun v hv => by
    obtain ⟨r, ts, rfl, h3, h4, h5⟩ := A v hv
    exact ⟨r, ts, rfl, Ex.new hp _ _ h3, h4, h5⟩⟩
theorem LA.cat {σ : L2.St} {ta : TA} {n j : Nat} {p : Addr} {xs : List V} (h : LA ta σ n) (hn : n ≤ 1000) (hx : xs.length ≤ 1000) {H : Hp} (h0 : σ[j]? = some (some (.ref p))) (hp : H p = some (.lst xs)) (Q : VK) (k : ∀ q ys H1, Ex H H1 → ys.length = n → H q = none → H1 q = some (.lst (xs ++ ys)) → ListsAt ys H H1 → Q (.ref q) H1) : tOp rCat (tVar j) (tLst ta) σ H Q :=
  ⟨.ref p, h0, h.lst hn _ fun r ys H1 e1 hl hr h1 A => ⟨p, r, xs, ys, rfl, rfl, e1 _ _ hp, h1, by rw [hl]; exact sz_of (by omega), fun q hq => k q ys _ (e1.trans (Ex.new hq)) hl (fresh_back e1 hq) upd_same fun v hv => by
    obtain ⟨r, ts, rfl, h3, h4, h5⟩ := A v hv
    exact ⟨r, ts, rfl, Ex.new hq _ _ h3, h4, h5⟩⟩⟩
theorem ListsAt.go {xs : List V} {H0 H H1 : Hp} (A : ListsAt xs H0 H) (e : Ex H H1) : ListsAt xs H0 H1 := fun v hv => by
  obtain ⟨r, ts, rfl, h3, h4, h5⟩ := A v hv
  exact ⟨r, ts, rfl, e _ _ h3, h4, h5⟩
theorem ListsAt.back {xs : List V} {H0 H1 H : Hp} (A : ListsAt xs H1 H) (e : Ex H0 H1) : ListsAt xs H0 H := fun v hv => by
  obtain ⟨r, ts, rfl, h3, h4, h5⟩ := A v hv
  exact ⟨r, ts, rfl, h3, h4, fresh_back e h5⟩
theorem ListsAt.app {xs ys : List V} {H0 H : Hp} (A : ListsAt xs H0 H) (B : ListsAt ys H0 H) : ListsAt (xs ++ ys) H0 H := fun v hv => (List.mem_append.mp hv).elim (A v) (B v)
theorem q_LA {σ : L2.St} {ta : TA} {n i : Nat} {tz : TS} {D : Ends} {H : Hp} (h : LA ta σ n) (hn : n ≤ 1000) (k : ∀ p xs H1, Ex H H1 → xs.length = n → H p = none → H1 p = some (.lst xs) → ListsAt xs H H1 → tz D (σ.set i (some (.ref p))) H1) : tSeq (tAsg (tLst ta) (gName i)) tz D σ H := h.lst hn (fun v H1 => tz D (σ.set i (some v)) H1) k
theorem q_catLA {σ : L2.St} {ta : TA} {n i j : Nat} {tz : TS} {D : Ends} {H : Hp} {p : Addr} {xs : List V} (h : LA ta σ n) (hn : n ≤ 1000) (hx : xs.length ≤ 1000) (h0 : σ[j]? = some (some (.ref p))) (hp : H p = some (.lst xs)) (k : ∀ q ys H1, Ex H H1 → ys.length = n → H q = none → H1 q = some (.lst (xs ++ ys)) → ListsAt ys H H1 → tz D (σ.set i (some (.ref q))) H1) : tSeq (tAsg (tOp rCat (tVar j) (tLst ta)) (gName i)) tz D σ H := h.cat hn hx h0 hp (fun v H1 => tz D (σ.set i (some v)) H1) k
theorem s_oneLA {K : PySem.W.Frag} {σ : L2.St} {ta : TA} {n i j : Nat} {D : Ends} {H : Hp} {p fa : Addr} {xs : List V} (h : LA ta σ n) (hn : n ≤ 1000) (hx : xs.length ≤ 1000) (hx0 : xs ≠ []) (hf : σ[i]? = some (some (.ref fa))) (h0 : σ[j]? = some (some (.ref p))) (hp : H p = some (.lst xs)) (G : GF fa 1 H) (k : ∀ v ys H1 H2, Ex H H1 → ListsAt ys H H1 → v ∈ xs ++ ys → Rf fa 1 H1 H2 → D.rt v H2) :
    tRet (tCall (sp_one K) [] E0 (tCons (tVar i) (tCons (tOp rCat (tVar j) (tLst ta)) tNil))) D σ H :=
  ⟨.ref fa, hf, h.cat hn hx h0 hp _ fun q ys H1 e1 hl hq h1 A => ⟨fa, G.ex e1, .inr ⟨q, xs ++ ys, rfl, .inl (sq_of h1), G.new hq, fun z => hx0 (List.append_eq_nil_iff.mp z).1, by rw [List.length_append, hl]; omega, fun v H2 hv R => k v ys H1 H2 e1 A hv R⟩⟩⟩
section
variable {P : Program} {w : World} {K : PySem.W.Frag} {mg : Str → Option Value} {base : Heap}
def sp_code : Sp := fun vs H Q _ => ∃ (fa : Addr), vs = [.ref fa] ∧ GF fa 1 H ∧ ∀ q ts H', ts ≠ [] → ts.length ≤ 6 → Wd 5 ts → H q = none → Rf fa 1 H H' → H' q = some (.lst (ts.map T)) → Q (.ref q) H'
theorem ok__law_code {f : Addr} {fd : FuncData} (F : Fun K "_law_code" "_law_code" st__law_code f fd) (M : Md K mg) (C__law_one : Cal P w K mg base "_law_one" st__law_one 2 ["feed", "things"] (sp_one K)) : FnOk P w K mg base CX0 3 f fd ["feed"] sp_code := by
  have nd := sc__law_code.nd
  refine F.ok sc__law_code (fun vs H Q E h => ?_) (fun cdv A outer s H vs Q E hr h => ?_)
  · obtain ⟨_, rfl, _⟩ := h
    rfl
  · obtain ⟨fa, rfl, G, k⟩ := h
    refine ⟨_, (pss_cons (ps_set (i := 1) nd rfl (Or.inl rfl) (pe_lst (pa_cons (pe_lst (pa_cons (pe_sT [97]) (pa_cons (pe_sT [97, 98]) (pa_cons (pe_sT [98, 98]) pa_nil)))) (pa_cons (pe_lst (pa_cons (pe_sT [97]) (pa_cons (pe_sT [97, 98]) (pa_cons (pe_sT [98, 97]) pa_nil)))) (pa_cons (pe_lst (pa_cons (pe_sT [97, 97]) (pa_cons (pe_sT [97, 98]) (pa_cons (pe_sT [98]) pa_nil)))) (pa_cons (pe_lst (pa_cons (pe_sT [97]) (pa_cons (pe_sT [98, 97]) (pa_cons (pe_sT [98, 98]) pa_nil)))) (pa_cons (pe_lst (pa_cons (pe_sT [97]) (pa_cons (pe_sT [97, 98, 97]) (pa_cons (pe_sT [98, 98]) pa_nil)))) (pa_cons (pe_lst (pa_cons (pe_sT [97, 98]) (pa_cons (pe_sT [97, 98, 98]) (pa_cons (pe_sT [98, 97, 97]) pa_nil)))) (pa_cons (pe_lst (pa_cons (pe_sT [97, 97]) (pa_cons (pe_sT [98, 97]) (pa_cons (pe_sT [98, 98]) (pa_cons (pe_sT [98, 97, 97]) (pa_cons (pe_sT [98, 98, 97]) pa_nil)))))) pa_nil)))))))))
  (pss_cons (ps_set (i := 1) nd rfl (Or.inl rfl) (pe_op op_cat (pv 1) (pe_lst (pa_cons (pe_lst (pa_cons (pe_sT [97, 98]) (pa_cons (pe_sT [98, 97]) (pa_cons (pe_sT [97, 97, 98]) (pa_cons (pe_sT [98, 98, 97]) (pa_cons (pe_sT [97, 98, 98, 97]) pa_nil)))))) (pa_cons (pe_lst (pa_cons (pe_sT [97]) (pa_cons (pe_sT [97, 97]) pa_nil))) (pa_cons (pe_lst (pa_cons (pe_sT [97, 97]) (pa_cons (pe_sT [97, 97, 97]) pa_nil))) (pa_cons (pe_lst (pa_cons (pe_sT [97, 98, 99]) (pa_cons (pe_sT [98, 99, 97]) (pa_cons (pe_sT [99]) (pa_cons (pe_sT [97, 98]) pa_nil))))) (pa_cons (pe_lst (pa_cons (pe_sT [97]) (pa_cons (pe_sT [99]) (pa_cons (pe_sT [97, 100]) (pa_cons (pe_sT [97, 98, 98]) (pa_cons (pe_sT [98, 97, 100]) (pa_cons (pe_sT [100, 98, 98]) pa_nil))))))) (pa_cons (pe_lst (pa_cons (pe_sT [98]) (pa_cons (pe_sT [97, 98, 98]) (pa_cons (pe_sT [97, 98, 98, 97]) (pa_cons (pe_sT [98, 98, 97]) pa_nil))))) pa_nil)))))))))
  (pss_one (ps_ret (pe_cl C__law_one hr (pa_cons (pv 0) (pa_cons (pe_op op_cat (pv 1) (pe_lst (pa_cons (pe_lst (pa_cons (pe_sT [97, 98]) (pa_cons (pe_sT [97, 97, 98]) (pa_cons (pe_sT [97, 97, 98, 98]) (pa_cons (pe_sT [98, 98, 97, 97]) (pa_cons (pe_sT [97, 98, 97, 98]) pa_nil)))))) (pa_cons (pe_lst (pa_cons (pe_sT [97]) (pa_cons (pe_sT [98]) (pa_cons (pe_sT [99]) (pa_cons (pe_sT [100]) pa_nil))))) (pa_cons (pe_lst (pa_cons (pe_sT [97]) (pa_cons (pe_sT [98]) (pa_cons (pe_sT [97, 98]) pa_nil)))) (pa_cons (pe_lst (pa_cons (pe_sT [97, 98, 97, 98]) (pa_cons (pe_sT [97, 98]) (pa_cons (pe_sT [98, 97]) pa_nil)))) (pa_cons (pe_lst (pa_cons (pe_sT [97, 97, 98]) (pa_cons (pe_sT [97, 98]) (pa_cons (pe_sT [97, 98, 97, 97, 98]) pa_nil)))) pa_nil))))))) pa_nil))))))), ?_⟩
    have l1 : LA _ (start N__law_code [.ref fa]) 7 := (la_cons (fun _ => el_lst (ea_cons (ev_c (v := T [97])) (ea_cons (ev_c (v := T [97, 98])) (ea_cons (ev_c (v := T [98, 98])) ea_nil))) (by show 3 ≤ 100000; decide)) (by rfl) (la_cons (fun _ => el_lst (ea_cons (ev_c (v := T [97])) (ea_cons (ev_c (v := T [97, 98])) (ea_cons (ev_c (v := T [98, 97])) ea_nil))) (by show 3 ≤ 100000; decide)) (by rfl) (la_cons (fun _ => el_lst (ea_cons (ev_c (v := T [97, 97])) (ea_cons (ev_c (v := T [97, 98])) (ea_cons (ev_c (v := T [98])) ea_nil))) (by show 3 ≤ 100000; decide)) (by rfl) (la_cons (fun _ => el_lst (ea_cons (ev_c (v := T [97])) (ea_cons (ev_c (v := T [98, 97])) (ea_cons (ev_c (v := T [98, 98])) ea_nil))) (by show 3 ≤ 100000; decide)) (by rfl) (la_cons (fun _ => el_lst (ea_cons (ev_c (v := T [97])) (ea_cons (ev_c (v := T [97, 98, 97])) (ea_cons (ev_c (v := T [98, 98])) ea_nil))) (by show 3 ≤ 100000; decide)) (by rfl) (la_cons (fun _ => el_lst (ea_cons (ev_c (v := T [97, 98])) (ea_cons (ev_c (v := T [97, 98, 98])) (ea_cons (ev_c (v := T [98, 97, 97])) ea_nil))) (by show 3 ≤ 100000; decide)) (by rfl) (la_cons (fun _ => el_lst (ea_cons (ev_c (v := T [97, 97])) (ea_cons (ev_c (v := T [98, 97])) (ea_cons (ev_c (v := T [98, 98])) (ea_cons (ev_c (v := T [98, 97, 97])) (ea_cons (ev_c (v := T [98, 98, 97])) ea_nil))))) (by show 5 ≤ 100000; decide)) (by rfl) la_nil)))))))
    refine q_LA l1 (by decide) fun p1 xs H1 e1 n1 hp1 h1 A1 => ?_
    show tSeq _ _ _ [some (.ref fa), some (.ref p1)] H1
    have l2 : LA _ [some (.ref fa), some (.ref p1)] 6 := (la_cons (fun _ => el_lst (ea_cons (ev_c (v := T [97, 98])) (ea_cons (ev_c (v := T [98, 97])) (ea_cons (ev_c (v := T [97, 97, 98])) (ea_cons (ev_c (v := T [98, 98, 97])) (ea_cons (ev_c (v := T [97, 98, 98, 97])) ea_nil))))) (by show 5 ≤ 100000; decide)) (by rfl) (la_cons (fun _ => el_lst (ea_cons (ev_c (v := T [97])) (ea_cons (ev_c (v := T [97, 97])) ea_nil)) (by show 2 ≤ 100000; decide)) (by rfl) (la_cons (fun _ => el_lst (ea_cons (ev_c (v := T [97, 97])) (ea_cons (ev_c (v := T [97, 97, 97])) ea_nil)) (by show 2 ≤ 100000; decide)) (by rfl) (la_cons (fun _ => el_lst (ea_cons (ev_c (v := T [97, 98, 99])) (ea_cons (ev_c (v := T [98, 99, 97])) (ea_cons (ev_c (v := T [99])) (ea_cons (ev_c (v := T [97, 98])) ea_nil)))) (by show 4 ≤ 100000; decide)) (by rfl) (la_cons (fun _ => el_lst (ea_cons (ev_c (v := T [97])) (ea_cons (ev_c (v := T [99])) (ea_cons (ev_c (v := T [97, 100])) (ea_cons (ev_c (v := T [97, 98, 98])) (ea_cons (ev_c (v := T [98, 97, 100])) (ea_cons (ev_c (v := T [100, 98, 98])) ea_nil)))))) (by show 6 ≤ 100000; decide)) (by rfl) (la_cons (fun _ => el_lst (ea_cons (ev_c (v := T [98])) (ea_cons (ev_c (v := T [97, 98, 98])) (ea_cons (ev_c (v := T [97, 98, 98, 97])) (ea_cons (ev_c (v := T [98, 98, 97])) ea_nil)))) (by show 4 ≤ 100000; decide)) (by rfl) la_nil))))))
    refine q_catLA l2 (by decide) (by rw [n1]; decide) rfl h1 fun p3 ys H2 e2 n2 hp3 h3 A2 => ?_
    show tRet _ _ [some (.ref fa), some (.ref p3)] H2
    have l3 : LA _ [some (.ref fa), some (.ref p3)] 5 := (la_cons (fun _ => el_lst (ea_cons (ev_c (v := T [97, 98])) (ea_cons (ev_c (v := T [97, 97, 98])) (ea_cons (ev_c (v := T [97, 97, 98, 98])) (ea_cons (ev_c (v := T [98, 98, 97, 97])) (ea_cons (ev_c (v := T [97, 98, 97, 98])) ea_nil))))) (by show 5 ≤ 100000; decide)) (by rfl) (la_cons (fun _ => el_lst (ea_cons (ev_c (v := T [97])) (ea_cons (ev_c (v := T [98])) (ea_cons (ev_c (v := T [99])) (ea_cons (ev_c (v := T [100])) ea_nil)))) (by show 4 ≤ 100000; decide)) (by rfl) (la_cons (fun _ => el_lst (ea_cons (ev_c (v := T [97])) (ea_cons (ev_c (v := T [98])) (ea_cons (ev_c (v := T [97, 98])) ea_nil))) (by show 3 ≤ 100000; decide)) (by rfl) (la_cons (fun _ => el_lst (ea_cons (ev_c (v := T [97, 98, 97, 98])) (ea_cons (ev_c (v := T [97, 98])) (ea_cons (ev_c (v := T [98, 97])) ea_nil))) (by show 3 ≤ 100000; decide)) (by rfl) (la_cons (fun _ => el_lst (ea_cons (ev_c (v := T [97, 97, 98])) (ea_cons (ev_c (v := T [97, 98])) (ea_cons (ev_c (v := T [97, 98, 97, 97, 98])) ea_nil))) (by show 3 ≤ 100000; decide)) (by rfl) la_nil)))))
    have e12 := e1.trans e2
    refine s_oneLA l3 (by decide) (by rw [List.length_append, n1, n2]; decide) (fun z => by have := congrArg List.length z; rw [List.length_append, n1, n2] at this; cases this) rfl rfl h3 (G.ex e12) fun v zs H3 H4 e3 A3 hv R => ?_
    have AA := (((A1.go e2).app (A2.back e1)).go e3).app (A3.back e12)
    obtain ⟨q, ts, rfl, h4, ⟨h5, h6, h7⟩, h8⟩ := AA v hv
    exact k q ts H4 h5 h6 h7 h8 (.pre (e12.trans e3) R) (R.at_ h4 (G.new h8))
end
end K21
set_option Elab.async false
set_option linter.all false
set_option maxRecDepth 100000
set_option maxHeartbeats 4000000
namespace K21
open PySem PySem.Spec PyProof.Rows L2 Evl Wc Wt
section
variable {K : PySem.W.Frag} {fa : Addr} {m : Nat} {H : Hp} {σ : L2.St}
def sp_lot : Sp := fun vs H Q _ => ∃ (fa : Addr) (most : Nat), vs = [.ref fa, .int (most : Int)] ∧ 1 ≤ most ∧ most ≤ 12 ∧ GF fa 20000 H ∧ ∀ q lot H', IsLot lot → lot.length ≤ most → H q = none → Rf fa 20000 H H' → H' q = some (.tup (lot.map T)) → Q (.ref q) H'
/-- words are made -/
def WL (fa : Addr) (σ : L2.St) (H : Hp) (m : Nat) (te : TE) : Prop := ∀ Q' : VK, (∀ p ws H1, Wd 100000 ws → ws.length ≤ 1000 → p ≠ fa → Rf fa m H H1 → H1 p = some (.lst (ws.map T)) → Q' (.ref p) H1) → te σ H Q'
theorem s_kept {D : Ends} {tw : TE} {most : Nat} (hW : WL fa σ H m tw) (h0 : σ[0]? = some (some (.ref fa))) (h1 : σ[1]? = some (some (.int (most : Int)))) (hm1 : 1 ≤ most) (hm2 : most ≤ 12) (G : GF fa (m + 1000) H)
    (k : ∀ q lot H2, IsLot lot → lot.length ≤ most → H q = none → Rf fa (m + 1000) H H2 → H2 q = some (.tup (lot.map T)) → D.rt (.ref q) H2) : tRet (tCall (sp_kept K) [] E0 (tCons (tVar 0) (tCons tw (tCons (tVar 1) tNil)))) D σ H :=
  ⟨.ref fa, h0, hW _ fun p ws H1 hw hl hp R h1' => ⟨.int (most : Int), h1, fa, p, ws, most, rfl, sq_of h1', hp, hl, hw, hm1, hm2, G.go R (Nat.le_refl _), fun q lot H2 hL hlen hq R2 h2 => k q lot H2 hL hlen (R.free G.is hq (G.go R (m' := 0) (by omega)).is) (R.trans R2) h2⟩⟩
theorem wl_texts {acc : List V} {lo n : Nat} (h : ∀ v ∈ acc, GdT abcd lo n v) (hn : n ≤ 100000) : ∃ ws : List Tx, acc = ws.map T ∧ Wd 100000 ws ∧ ∀ t ∈ ws, lo ≤ t.length ∧ t.length ≤ n := by
  obtain ⟨ws, rfl, hw⟩ := texts_GdT h
  exact ⟨ws, rfl, fun t ht => ⟨by have := (hw t ht).2.1; omega, (hw t ht).2.2⟩, fun t ht => ⟨(hw t ht).1, (hw t ht).2.1⟩⟩
/-- words by a comprehension over a range -/
theorem wl_range {te0 te : TE} {j : Nat} {vs : List Nat} {lo N c m0 lo' n : Nat} (hc : Dw fa σ m0 te0 (GdI (lo : Int) (N : Int))) (hN : N ≤ 1000) (G : GF fa (m0 + N * c) H) (hw : ∀ x, wipe ((wipe σ vs).set j (some x)) vs = wipe σ vs)
    (he : ∀ x k H1, Rf fa k H H1 → GF fa c H1 → ∀ Q' : VK, (∀ y H2, GdT abcd lo' n y → Rf fa c H1 H2 → Q' y H2) → te ((wipe σ vs).set j (some x)) H1 Q') (hn : n ≤ 100000) : WL fa σ H (m0 + N * c) (tLc (iRng1 (tCons te0 tNil)) (gName j) tYes te vs) := fun Q' q' =>
  lcRD (GdT abcd lo' n) hc hN G hw he Q' fun p H2 acc hp R h2 hl1 hl2 hg => by
    obtain ⟨ws, rfl, hws, _⟩ := wl_texts hg hn
    rw [List.length_map] at hl2
    exact q' p ws H2 hws (by omega) (G.new hp) R h2
theorem q_lcRD {D : Ends} {tz : TS} {te te0 : TE} {i j : Nat} {vs : List Nat} {lo N c m0 : Nat} (good : V → Prop) (hc : Dw fa σ m0 te0 (GdI (lo : Int) (N : Int))) (hN : N ≤ 1000) (G : GF fa (m0 + N * c) H) (hw : ∀ x, wipe ((wipe σ vs).set j (some x)) vs = wipe σ vs)
    (he : ∀ x n H1, Rf fa n H H1 → GF fa c H1 → ∀ Q' : VK, (∀ y H2, good y → Rf fa c H1 H2 → Q' y H2) → te ((wipe σ vs).set j (some x)) H1 Q')
    (k : ∀ p H2 acc, H p = none → Rf fa (m0 + N * c) H H2 → H2 p = some (.lst acc) → lo ≤ acc.length → acc.length ≤ N → (∀ v ∈ acc, good v) → tz D (σ.set i (some (.ref p))) H2) : tSeq (tAsg (tLc (iRng1 (tCons te0 tNil)) (gName j) tYes te vs) (gName i)) tz D σ H :=
  lcRD good hc hN G hw he (fun v H1 => tz D (σ.set i (some v)) H1) k
theorem WL.mono {te : TE} {m' : Nat} (h : WL fa σ H m te) (hm : m ≤ m') : WL fa σ H m' te := fun Q' q' => h Q' fun p ws H1 a b c R d => q' p ws H1 a b c (R.mono hm) d
theorem dw_at {te : TE} {c : Nat} {g : V → Prop} (h : Dw fa σ c te g) : ∀ k H1, Rf fa k H H1 → GF fa c H1 → ∀ Q' : VK, (∀ y H2, g y → Rf fa c H1 H2 → Q' y H2) → te σ H1 Q' := fun _ H1 _ G Q' q' => h H1 G Q' q'
end
section
variable {P : Program} {w : World} {K : PySem.W.Frag} {mg : Str → Option Value} {base : Heap}
/-- the scope of the outer comprehension of the last way -/
abbrev sc_place : Scope := { kind := .function, names := [(".0", .local), ("turn", .local), ("range", .globalImplicit), ("feed", .cell), ("long", .cell), ("signs", .cell)], isGenerator := false, isCoroutine := false }
theorem ok__law_lot {f : Addr} {fd : FuncData} (F : Fun K "_law_lot" "_law_lot" st__law_lot f fd) (M : Md K mg) (C__law_draw : Cal P w K mg base "_law_draw" st__law_draw 1 ["feed", "many"] sp_draw) (C__law_one : Cal P w K mg base "_law_one" st__law_one 2 ["feed", "things"] (sp_one K)) (C__law_text : Cal P w K mg base "_law_text" st__law_text 3 ["feed", "signs", "most"] sp_text) (C__law_kept : Cal P w K mg base "_law_kept" st__law_kept 3 ["feed", "words", "most"] (sp_kept K)) (C__law_split : Cal P w K mg base "_law_split" st__law_split 2 ["feed", "signs", "turns"] sp_split) (C__law_joined : Cal P w K mg base "_law_joined" st__law_joined 3 ["feed", "words", "turns"] sp_joined) (C__law_made : Cal P w K mg base "_law_made" st__law_made 1 ["feed", "code", "words"] (sp_made K)) (C__law_code : Cal P w K mg base "_law_code" st__law_code 3 ["feed"] sp_code) : FnOk P w K mg base CX0 4 f fd ["feed", "most"] sp_lot := by
  have nd := sc__law_lot.nd
  refine F.ok sc__law_lot (fun vs H Q E h => ?_) (fun cdv A outer s H vs Q E hr h => ?_)
  · obtain ⟨_, _, rfl, _⟩ := h
    rfl
  · obtain ⟨fa, most, rfl, hm1, hm2, G, k⟩ := h
    refine ⟨_, (pss_cons (ps_asg (pe_tup (pa_cons (pe_slice sl_T (pe_sT [97, 98, 99, 100]) po_none (po_some (pe_cl C__law_one hr (pa_cons (pv 0) (pa_cons (pe_lst (pa_cons pe_int (pa_cons pe_int (pa_cons pe_int (pa_cons pe_int (pa_cons pe_int (pa_cons pe_int pa_nil))))))) pa_nil))))) (pa_cons (pe_cl C__law_draw hr (pa_cons (pv 0) (pa_cons pe_int pa_nil))) pa_nil))) (kgt K (n := 2) (pg_tup rfl (pgs_cons (pg_name (i := 2) nd rfl (Or.inr rfl)) (pgs_cons (pg_name (i := 3) nd rfl (Or.inl rfl)) pgs_nil)))))
  (pss_cons (ps_if (pt_cmpR op_lt (pv 3) pe_int (nomark _))
  (pss_cons (ps_set (i := 4) nd rfl (Or.inr rfl) (pe_cl C__law_one hr (pa_cons (pv 0) (pa_cons (pe_lst (pa_cons pe_int (pa_cons pe_int (pa_cons pe_int (pa_cons pe_int (pa_cons pe_int pa_nil)))))) pa_nil))))
  (pss_one (ps_ret (pe_cl C__law_kept hr (pa_cons (pv 0) (pa_cons (pe_lc (own := [("turn", 5)]) rfl nd (pi_range1 (by rfl) M.n_range (pa_cons (pe_op op_add pe_int (pe_cl C__law_draw hr (pa_cons (pv 0) (pa_cons (pv 1) pa_nil)))) pa_nil)) (blkOk_by (N := N__law_lot) (sc := defScope st__law_lot) (by decide +kernel)) (fun _ _ _ _ _ => (pg_name (i := 5) nd rfl (Or.inl rfl))) (fun _ _ _ _ _ => pts_nil) (fun _ _ _ _ _ => (pe_op op_addT (pe_cl C__law_one hr (pa_cons (pv 0) (pa_cons (pv 2) pa_nil))) (pe_cl C__law_text hr (pa_cons (pv 0) (pa_cons (pv 2) (pa_cons (pe_op op_sub (pv 4) pe_int) pa_nil))))))) (pa_cons (pv 1) pa_nil)))))))
  pss_nil)
  (pss_cons (ps_if (pt_cmpR op_eqI (pv 3) pe_int (nomark _))
  (pss_one (ps_ret (pe_cl C__law_kept hr (pa_cons (pv 0) (pa_cons (pe_lc (own := [("word", 6)]) rfl nd (kil K (pi_list (pe_cl C__law_split hr (pa_cons (pv 0) (pa_cons (pv 2) (pa_cons (pe_cl C__law_draw hr (pa_cons (pv 0) (pa_cons pe_int pa_nil))) pa_nil)))))) (blkOk_by (N := N__law_lot) (sc := defScope st__law_lot) (by decide +kernel)) (fun _ _ _ _ _ => (pg_name (i := 6) nd rfl (Or.inl rfl))) (fun _ _ _ _ _ => (pts_one (pt_cmpR op_gt (pe_cl C__law_draw hr (pa_cons (pv 0) (pa_cons pe_int pa_nil))) pe_int (nomark _)))) (fun _ _ _ _ _ => (pv 6))) (pa_cons (pv 1) pa_nil))))))
  pss_nil)
  (pss_cons (ps_if (pt_cmpR op_eqI (pv 3) pe_int (nomark _))
  (pss_one (ps_ret (pe_cl C__law_kept hr (pa_cons (pv 0) (pa_cons (pe_lc (own := [("word", 6)]) rfl nd (kil K (pi_list (pe_cl C__law_split hr (pa_cons (pv 0) (pa_cons (pv 2) (pa_cons (pe_op op_add pe_int (pe_cl C__law_draw hr (pa_cons (pv 0) (pa_cons pe_int pa_nil)))) pa_nil)))))) (blkOk_by (N := N__law_lot) (sc := defScope st__law_lot) (by decide +kernel)) (fun _ _ _ _ _ => (pg_name (i := 6) nd rfl (Or.inl rfl))) (fun _ _ _ _ _ => pts_nil) (fun _ _ _ _ _ => (pe_revT (pv 6)))) (pa_cons (pv 1) pa_nil))))))
  pss_nil)
  (pss_cons (ps_if (pt_cmpR op_eqI (pv 3) pe_int (nomark _))
  (pss_one (ps_ret (pe_cl C__law_kept hr (pa_cons (pv 0) (pa_cons (pe_cl C__law_joined hr (pa_cons (pv 0) (pa_cons (pe_cl C__law_split hr (pa_cons (pv 0) (pa_cons (pv 2) (pa_cons (pe_op op_add pe_int (pe_cl C__law_draw hr (pa_cons (pv 0) (pa_cons pe_int pa_nil)))) pa_nil)))) (pa_cons (pe_op op_add pe_int (pe_cl C__law_draw hr (pa_cons (pv 0) (pa_cons pe_int pa_nil)))) pa_nil)))) (pa_cons (pv 1) pa_nil))))))
  pss_nil)
  (pss_cons (ps_if (pt_cmpR op_eqI (pv 3) pe_int (nomark _))
  (pss_cons (ps_set (i := 7) nd rfl (Or.inr rfl) (pe_op op_addT (pe_cl C__law_one hr (pa_cons (pv 0) (pa_cons (pv 2) pa_nil))) (pe_cl C__law_text hr (pa_cons (pv 0) (pa_cons (pv 2) (pa_cons (pe_cl C__law_one hr (pa_cons (pv 0) (pa_cons (pe_lst (pa_cons pe_int (pa_cons pe_int (pa_cons pe_int (pa_cons pe_int pa_nil))))) pa_nil))) pa_nil))))))
  (pss_one (ps_ret (pe_cl C__law_kept hr (pa_cons (pv 0) (pa_cons (pe_lc (own := [("turn", 5)]) rfl nd (pi_range1 (by rfl) M.n_range (pa_cons (pe_op op_add pe_int (pe_cl C__law_draw hr (pa_cons (pv 0) (pa_cons pe_int pa_nil)))) pa_nil)) (blkOk_by (N := N__law_lot) (sc := defScope st__law_lot) (by decide +kernel)) (fun _ _ _ _ _ => (pg_name (i := 5) nd rfl (Or.inl rfl))) (fun _ _ _ _ _ => pts_nil) (fun _ _ _ _ _ => (pe_op op_mulT (pv 7) (pe_op op_add pe_int (pe_cl C__law_draw hr (pa_cons (pv 0) (pa_cons (pe_op op_fdivW pe_int (pe_callB cr_lenT (by rfl) M.n_len boot_len (pa_cons (pv 7) pa_nil))) pa_nil))))))) (pa_cons (pv 1) pa_nil)))))))
  pss_nil)
  (pss_cons (ps_if (pt_cmpR op_eqI (pv 3) pe_int (nomark _))
  (pss_cons (ps_set (i := 8) nd rfl (Or.inr rfl) (pe_lc (own := [("turn", 5)]) rfl nd (pi_range1 (by rfl) M.n_range (pa_cons pe_int pa_nil)) (blkOk_by (N := N__law_lot) (sc := defScope st__law_lot) (by decide +kernel)) (fun _ _ _ _ _ => (pg_name (i := 5) nd rfl (Or.inl rfl))) (fun _ _ _ _ _ => pts_nil) (fun _ _ _ _ _ => (pe_cl C__law_text hr (pa_cons (pv 0) (pa_cons (pv 2) (pa_cons pe_int pa_nil)))))))
  (pss_one (ps_ret (pe_cl C__law_kept hr (pa_cons (pv 0) (pa_cons (pe_lc (own := [("turn", 5)]) rfl nd (pi_range1 (by rfl) M.n_range (pa_cons (pe_op op_add pe_int (pe_cl C__law_draw hr (pa_cons (pv 0) (pa_cons (pv 1) pa_nil)))) pa_nil)) (blkOk_by (N := N__law_lot) (sc := defScope st__law_lot) (by decide +kernel)) (fun _ _ _ _ _ => (pg_name (i := 5) nd rfl (Or.inl rfl))) (fun _ _ _ _ _ => pts_nil) (fun _ _ _ _ _ => (pe_op op_addT (pe_op op_addT (pe_cl C__law_one hr (pa_cons (pv 0) (pa_cons (pv 8) pa_nil))) (pe_cl C__law_text hr (pa_cons (pv 0) (pa_cons (pv 2) (pa_cons pe_int pa_nil))))) (pe_cl C__law_one hr (pa_cons (pv 0) (pa_cons (pv 8) pa_nil)))))) (pa_cons (pv 1) pa_nil)))))))
  pss_nil)
  (pss_cons (ps_if (pt_cmpR op_eqI (pv 3) pe_int (nomark _))
  (pss_one (ps_ret (pe_cl C__law_kept hr (pa_cons (pv 0) (pa_cons (pe_cl C__law_code hr (pa_cons (pv 0) pa_nil)) (pa_cons (pv 1) pa_nil))))))
  pss_nil)
  (pss_cons (ps_if (pt_cmpR op_eqI (pv 3) pe_int (nomark _))
  (pss_cons (ps_setLc (i := 9) (own := [("turn", 5)]) rfl nd rfl rfl (sw_true rfl rfl rfl (by decide +kernel)) (pi_range1 (by rfl) M.n_range (pa_cons pe_int pa_nil)) (blkOk_by (N := N__law_lot) (sc := defScope st__law_lot) (by decide +kernel)) (fun _ _ _ _ _ => (pg_name (i := 5) nd rfl (Or.inl rfl))) (fun _ _ _ _ _ => pts_nil) (fun _ _ _ _ _ => (pe_op op_addT (pe_cl C__law_one hr (pa_cons (pv 0) (pa_cons (pe_sT [97, 98, 99, 100]) pa_nil))) (pe_cl C__law_text hr (pa_cons (pv 0) (pa_cons (pv 2) (pa_cons pe_int pa_nil)))))))
  (pss_one (ps_ret (pe_cl C__law_kept hr (pa_cons (pv 0) (pa_cons (pe_cl C__law_made hr (pa_cons (pv 0) (pa_cons (pe_cl C__law_code hr (pa_cons (pv 0) pa_nil)) (pa_cons (pv 9) pa_nil)))) (pa_cons (pv 1) pa_nil)))))))
  pss_nil)
  (pss_cons (ps_if (pt_cmpR op_eqI (pv 3) pe_int (nomark _))
  (pss_one (ps_ret (pe_cl C__law_kept hr (pa_cons (pv 0) (pa_cons (pe_cl C__law_made hr (pa_cons (pv 0) (pa_cons (pe_cl C__law_code hr (pa_cons (pv 0) pa_nil)) (pa_cons (pe_lc (own := [("word", 6)]) rfl nd (kil K (pi_list (pe_cl C__law_code hr (pa_cons (pv 0) pa_nil)))) (blkOk_by (N := N__law_lot) (sc := defScope st__law_lot) (by decide +kernel)) (fun _ _ _ _ _ => (pg_name (i := 6) nd rfl (Or.inl rfl))) (fun _ _ _ _ _ => pts_nil) (fun _ _ _ _ _ => (pv 6))) pa_nil)))) (pa_cons (pv 1) pa_nil))))))
  pss_nil)
  (pss_cons (ps_set (i := 4) nd rfl (Or.inr rfl) (pe_op op_add pe_int (pe_cl C__law_draw hr (pa_cons (pv 0) (pa_cons pe_int pa_nil)))))
  (pss_one (ps_ret (pe_cl C__law_kept hr (pa_cons (pv 0) (pa_cons (pe_lc (own := [("turn", 5)]) rfl nd (pi_range1 (by rfl) M.n_range (pa_cons (pe_op op_add pe_int (pe_cl C__law_draw hr (pa_cons (pv 0) (pa_cons (pv 1) pa_nil)))) pa_nil)) (blkOk_by (N := N__law_lot) (sc := defScope st__law_lot) (by decide +kernel)) (fun _ _ _ _ _ => (pg_name (i := 5) nd rfl (Or.inl rfl))) (fun _ _ _ _ _ => pts_nil) (fun _ _ _ _ _ => (kbm K (pe_bm PySem.F.plainAttrs_str PySem.F.slot_str_join PySem.F.type_str_join (kmt K (r := rJoinT) mt_joinT) (pe_sT []) (pa_cons (pe_lc (own := [("place", 10)]) rfl nd (pi_range1 (by rfl) M.n_range (pa_cons (pv 4) pa_nil)) (blkOk_by (N := N__law_lot) (sc := sc_place) (by decide +kernel)) (fun _ _ _ _ _ => (pg_name (i := 10) nd rfl (Or.inl rfl))) (fun _ _ _ _ _ => pts_nil) (fun _ _ _ _ _ => (pe_cl C__law_one hr (pa_cons (pv 0) (pa_cons (pv 2) pa_nil))))) pa_nil))))) (pa_cons (pv 1) pa_nil))))))))))))))))), ?_⟩
    -- signs, way
    have hsg : Dw fa (start N__law_lot [.ref fa, .int (most : Int)]) 1 (tSl rSlT (tC (T [97, 98, 99, 100])) tNoPart (tPart (tCall (sp_one K) [] E0 (tCons (tVar 0) (tCons (tLst (tCons (tC (.int 1)) (tCons (tC (.int 2)) (tCons (tC (.int 2)) (tCons (tC (.int 2)) (tCons (tC (.int 3)) (tCons (tC (.int 4)) tNil))))))) tNil))))) (GdT abcd 1 4) := fun H G Q q =>
      dI_oneL (ns := [1, 2, 2, 2, 3, 4]) (lo := 1) (hi := 4) rfl (fun H => el_lst (ea_cons ev_c (ea_cons ev_c (ea_cons ev_c (ea_cons ev_c (ea_cons ev_c (ea_cons ev_c ea_nil)))))) (by show 6 ≤ 100000; decide)) (by decide) (by simp) (by decide) H G _ fun v H' ⟨i, hi, h1, h2⟩ R => by
        obtain ⟨n, rfl⟩ := Int.eq_ofNat_of_zero_le (show 0 ≤ i by omega)
        subst hi
        have hn : n = 1 ∨ n = 2 ∨ n = 3 ∨ n = 4 := by omega
        refine ⟨(n : Int), rfl, _, rfl, by show 4 ≤ 16777216; decide, q _ H' ⟨_, rfl, ?_, ?_, ?_⟩ R⟩
        · rw [cutT_to]
          rcases hn with rfl | rfl | rfl | rfl <;> decide
        · rw [cutT_to]
          rcases hn with rfl | rfl | rfl | rfl <;> decide
        · intro c hc
          have := cutT_mem hc
          simp at this
          unfold abcd
          omega
    refine hsg H (G.mono (by omega)) _ fun v1 H1 ⟨sg, hv1, hs1, hs2, hs3⟩ R1 => (dI_draw (lo := 11) (hi := 11) rfl dI_c : Dw fa (start N__law_lot [.ref fa, .int (most : Int)]) _ _ _) H1 (G.go R1 (m' := 1) (by omega)) _ fun v2 H2 ⟨way, hv2, hw1, hw2⟩ R2 => ⟨by show 2 ≤ sizeLine; decide, fun pt hpt => ⟨pt, _, rfl, st_of upd_same, rfl, v1, [v2], rfl, v2, [], rfl, rfl, ?_⟩⟩
    subst hv1 hv2
    have RA : Rf fa 2 H (upd H2 pt (.tup [T sg, .int way])) := (R1.trans R2).then (Ex.new hpt)
    generalize upd H2 pt (.tup [T sg, .int way]) = H3 at RA
    clear R1 R2 hpt hsg
    have hsn : sg ≠ [] := fun z => by rw [z] at hs1; simp at hs1
    show tSeq _ _ _ [some (.ref fa), some (.int (most : Int)), some (T sg), some (.int way), none, none, none, none, none, none, none] H3
    have dsg : ∀ {σ : L2.St}, σ[2]? = some (some (T sg)) → Dw fa σ 0 (tVar 2) (GdT abcd 1 4) := fun h0 => dT_var h0 hs1 hs2 hs3
    have dmo : ∀ {σ : L2.St}, σ[1]? = some (some (.int (most : Int))) → Dw fa σ 0 (tVar 1) (GdI 1 12) := fun h0 => dI_var h0 (by omega) (by omega)
    have fin : ∀ {m0 m : Nat} {HA : Hp}, Rf fa m0 H HA → m0 + (m + 1000) ≤ 20000 → ∀ q lot H2, IsLot lot → lot.length ≤ most → HA q = none → Rf fa (m + 1000) HA H2 → H2 q = some (.tup (lot.map T)) → Q (.ref q) H2 := fun {m0 m HA} RB hb q lot H2 hL hlen hq R2 h2 => k q lot H2 hL hlen (RB.free G.is hq (G.go RB (m' := 0) (by omega)).is) ((RB.trans R2).mono hb) h2
    -- way < 2
    refine q_when (et_test (ev_op (ev_var rfl) ev_c rv_I0)) (fun hb H4 e4 => ?_) (fun hb H4 e4 => ?_)
    · have RB := RA.then e4
      refine q_dw (dI_oneL (ns := [2, 3, 4, 6, 12]) (lo := 2) (hi := 12) rfl (fun H => el_lst (ea_cons ev_c (ea_cons ev_c (ea_cons ev_c (ea_cons ev_c (ea_cons ev_c ea_nil))))) (by show 5 ≤ 100000; decide)) (by decide) (by simp) (by decide)) (G.go RB (m' := 10000) (by omega)) fun v H5 ⟨long, hv, hl1, hl2⟩ R5 => ?_
      subst hv
      have RC := RB.trans R5
      show tRet _ _ [some (.ref fa), some (.int (most : Int)), some (T sg), some (.int way), some (.int long), none, none, none, none, none, none] H5
      refine s_kept (m := 1000) (WL.mono (wl_range (lo := 1) (N := 12) (c := 13) (lo' := 1) (n := 12) (dI_add dI_c (dI_draw rfl (dmo rfl))) (by decide) (G.go RC (by omega)) (fun _ => rfl) (fun x => dw_at (dT_add (dT_one rfl (dsg rfl)) (dT_text (c := 11) rfl (dsg rfl) (dI_wk (dI_sub (dI_var rfl hl1 hl2) dI_c))))) (by decide)) (by decide)) rfl rfl hm1 hm2 (G.go RC (by omega)) (fin RC (by omega))
    have RB : Rf fa 2 H H4 := RA.then e4
    clear RA e4 hb
    -- way == 2
    refine q_when (et_test (ev_op (ev_var rfl) ev_c rv_I0)) (fun hb H5 e5 => ?_) (fun hb H5 e5 => ?_)
    · have RC := RB.then e5
      have GC : GF fa 10000 H5 := G.go RC (by omega)
      refine s_kept (m := 1000) (fun Q' q' => lc_of ?_) rfl rfl hm1 hm2 (G.go RC (by omega)) (fin RC (by omega))
      refine ⟨.ref fa, rfl, T sg, rfl, (dI_draw (lo := 5) (hi := 5) rfl dI_c : Dw fa [some (.ref fa), some (.int (most : Int)), some (T sg), some (.int way), none, none, none, none, none, none, none] _ _ _) H5 (GC.mono (by omega)) _ fun v H6 ⟨tn, hv, ht1, ht2⟩ R6 => ?_⟩
      obtain ⟨tn, rfl⟩ := Int.eq_ofNat_of_zero_le ht1
      subst hv
      refine ⟨fa, sg, tn, rfl, GC.go R6 (by omega), by omega, hsn, hs2, hs3, fun q ws H7 hne hlen hwd hq R7 h7 => ?_⟩
      have R67 : Rf fa 10 H5 H7 := (R6.trans R7).mono (by omega)
      have G7 : GF fa 100 H7 := GC.go R67 (by omega)
      refine lcDT (fa := fa) (n := ws.length) (own := fun b => b = q) (P := fun i v _ => (ws.map T)[i]? = some v) (GdT abcd 0 12) 1 G7.is (src_listM (tl := fun _ H' Q' => Q' (.ref q) H') (fun H2 e2 Q2 q2 => q2 H2 (Ex.refl _)) (sq_of h7)) (fun z => ((GC.go R6 (m' := 0) (by omega)).new hq) z.symm) (by omega) (fun _ => rfl) (fun i x H8 hi hx R8 Q2 q2 => ?_) (fun i x H8 H9 hi hx R9 Q2 q2 => ?_) fun p H8 acc hp R8 h8 hl hg => ?_
      · refine dw_test (m1 := 1) (m2 := 0) (dI_draw (lo := 6) (hi := 6) rfl dI_c) dI_c (G7.go R8 (m' := 1) (by omega)) Q2 (fun b H9 R9 => q2 b H9 R9)
      · obtain ⟨t, ht, rfl⟩ := at_map hx
        have := hwd t (List.mem_of_getElem? ht)
        exact ⟨T t, rfl, q2 _ H9 ⟨t, rfl, Nat.zero_le _, this.1, this.2⟩ (Ex.refl _)⟩
      · obtain ⟨vs, rfl, hvs, _⟩ := wl_texts hg (by decide)
        rw [List.length_map] at hl
        exact q' p vs H8 hvs (by omega) (G7.new hp) ((R67.trans R8).mono (by omega)) h8
    have RC : Rf fa 2 H H5 := RB.then e5
    clear RB e5 hb
    have spl : ∀ {σ : L2.St} {HA : Hp} {te0 : TE} {m0 : Nat}, σ[0]? = some (some (.ref fa)) → σ[2]? = some (some (T sg)) → Dw fa σ m0 te0 (GdI 0 10) → GF fa (m0 + 10) HA → ∀ Q' : VK, (∀ q ws H1, ws ≠ [] → ws.length ≤ 13 → Wd 12 ws → HA q = none → Rf fa (m0 + 10) HA H1 → H1 q = some (.lst (ws.map T)) → Q' (.ref q) H1) → tCall sp_split [] E0 (tCons (tVar 0) (tCons (tVar 2) (tCons te0 tNil))) σ HA Q' := fun {σ HA te0 m0} h0 h2 hd GA Q' q' =>
      ⟨.ref fa, h0, T sg, h2, hd HA (GA.mono (by omega)) _ fun v H6 ⟨tn, hv, ht1, ht2⟩ R6 => by
        obtain ⟨tn, rfl⟩ := Int.eq_ofNat_of_zero_le ht1
        subst hv
        exact ⟨fa, sg, tn, rfl, GA.go R6 (by omega), by omega, hsn, hs2, hs3, fun q ws H7 hne hlen hwd hq R7 h7 => q' q ws H7 hne hlen hwd (R6.free GA.is hq (GA.go R6 (m' := 0) (by omega)).is) ((R6.trans R7).mono (by omega)) h7⟩⟩
    have cod : ∀ {σ : L2.St} {HA : Hp}, σ[0]? = some (some (.ref fa)) → GF fa 1 HA → ∀ Q' : VK, (∀ q ts H', ts ≠ [] → ts.length ≤ 6 → Wd 5 ts → HA q = none → Rf fa 1 HA H' → H' q = some (.lst (ts.map T)) → Q' (.ref q) H') → tCall sp_code [] E0 (tCons (tVar 0) tNil) σ HA Q' := fun h0 GA Q' q' => ⟨.ref fa, h0, fa, rfl, GA, q'⟩
    -- way == 3
    refine q_when (et_test (ev_op (ev_var rfl) ev_c rv_I0)) (fun hb H6 e6 => ?_) (fun hb H6 e6 => ?_)
    · have RD := RC.then e6
      have GD : GF fa 10000 H6 := G.go RD (by omega)
      refine s_kept (m := 1000) (fun Q' q' => lc_of (spl (m0 := 1) rfl rfl (dI_wk (dI_add dI_c (dI_draw (lo := 5) (hi := 5) rfl dI_c))) (GD.mono (by omega)) _ fun q ws H7 hne hlen hwd hq R7 h7 => ?_)) rfl rfl hm1 hm2 (G.go RD (by omega)) (fin RD (by omega))
      have G7 : GF fa 100 H7 := GD.go R7 (by omega)
      refine lcD (fa := fa) (n := ws.length) (own := fun b => b = q) (P := fun i v _ => (ws.map T)[i]? = some v) (GdT abcd 0 12) 0 G7.is (src_listM (tl := fun _ H' Q' => Q' (.ref q) H') (fun H2 e2 Q2 q2 => q2 H2 (Ex.refl _)) (sq_of h7)) (fun z => (GD.new hq) z.symm) (by omega) (fun _ => rfl) (fun i x H8 hi hx R8 Q2 q2 => ?_) fun p H8 acc hp R8 h8 hl hg => ?_
      · obtain ⟨t, ht, rfl⟩ := at_map hx
        have := hwd t (List.mem_of_getElem? ht)
        exact ⟨T t, rfl, t, rfl, by omega, q2 _ H8 ⟨t.reverse, rfl, Nat.zero_le _, by rw [List.length_reverse]; exact this.1, fun c hc => this.2 c (List.mem_reverse.mp hc)⟩ (Rf.refl _)⟩
      · obtain ⟨vs, rfl, hvs, _⟩ := wl_texts hg (by decide)
        rw [List.length_map] at hl
        exact q' p vs H8 hvs (by omega) (G7.new hp) ((R7.trans R8).mono (by omega)) h8
    have RD : Rf fa 2 H H6 := RC.then e6
    clear RC e6 hb
    -- way == 4
    refine q_when (et_test (ev_op (ev_var rfl) ev_c rv_I0)) (fun hb H7 e7 => ?_) (fun hb H7 e7 => ?_)
    · have RE := RD.then e7
      have GE : GF fa 10000 H7 := G.go RE (by omega)
      refine s_kept (m := 1000) (fun Q' q' => ⟨.ref fa, rfl, spl (m0 := 1) rfl rfl (dI_wk (dI_add dI_c (dI_draw (lo := 3) (hi := 3) rfl dI_c))) (GE.mono (by omega)) _ fun q ws H8 hne hlen hwd hq R8 h8 => (dI_add dI_c (dI_draw (lo := 3) (hi := 3) rfl dI_c) : Dw fa [some (.ref fa), some (.int (most : Int)), some (T sg), some (.int way), none, none, none, none, none, none, none] _ _ _) H8 (GE.go R8 (m' := 1) (by omega)) _ fun v H9 ⟨tn, hv, ht1, ht2⟩ R9 => ?_⟩) rfl rfl hm1 hm2 (G.go RE (by omega)) (fin RE (by omega))
      obtain ⟨tn, rfl⟩ := Int.eq_ofNat_of_zero_le (show 0 ≤ tn by omega)
      subst hv
      have nq : q ≠ fa := GE.new hq
      exact ⟨fa, q, ws, tn, rfl, R9.at_ h8 nq, nq, (GE.go R8 (m' := 1000) (by omega)).go R9 (by omega), by omega, hne, hlen, hwd, fun p ws' H10 hne' hl' hw' hp' R10 h10 => q' p ws' H10 hw' (by omega) hp' (((R8.trans R9).trans R10).mono (by omega)) h10⟩
    have RE : Rf fa 2 H H7 := RD.then e7
    clear RD e7 hb
    -- way == 5
    refine q_when (et_test (ev_op (ev_var rfl) ev_c rv_I0)) (fun hb H8 e8 => ?_) (fun hb H8 e8 => ?_)
    · have RF := RE.then e8
      refine q_dw (dT_add (dT_one rfl (dsg rfl)) (dT_text (c := 3) rfl (dsg rfl) (dI_oneL (ns := [0, 0, 1, 3]) (lo := 0) (hi := 3) rfl (fun H => el_lst (ea_cons ev_c (ea_cons ev_c (ea_cons ev_c (ea_cons ev_c ea_nil)))) (by show 4 ≤ 100000; decide)) (by decide) (by simp) (by decide)))) (G.go RF (m' := 10000) (by omega)) fun v H9 ⟨root, hv, hr1, hr2, hr3⟩ R9 => ?_
      subst hv
      have RG : Rf fa 100 H H9 := (RF.trans R9).mono (by omega)
      show tRet _ _ [some (.ref fa), some (.int (most : Int)), some (T sg), some (.int way), none, none, none, some (T root), none, none, none] H9
      have dro : ∀ {σ : L2.St}, σ[7]? = some (some (T root)) → Dw fa σ 0 (tVar 7) (GdT abcd 1 4) := fun h0 => dT_var h0 (by omega) (by omega) hr3
      have dfl : ∀ {σ : L2.St}, σ[7]? = some (some (T root)) → Dw fa σ 0 (tOp (rI CDivW fun i j => .int (i / j)) (tC (.int 12)) (tCB rLenT (tCons (tVar 7) tNil))) (GdI 1 12) := fun h0 H' G' Q' q' => ⟨T root, h0, root, rfl, by omega, 12, (root.length : Int), rfl, rfl, divW (by omega) (by omega), q' _ H' ⟨12 / (root.length : Int), rfl, by
          have h4 : root.length = 1 ∨ root.length = 2 ∨ root.length = 3 ∨ root.length = 4 := by omega
          rcases h4 with h | h | h | h <;> rw [h] <;> decide, by
          have h4 : root.length = 1 ∨ root.length = 2 ∨ root.length = 3 ∨ root.length = 4 := by omega
          rcases h4 with h | h | h | h <;> rw [h] <;> decide⟩ (Rf.refl _)⟩
      refine s_kept (m := 1000) (WL.mono (wl_range (lo := 1) (N := 4) (c := 1) (lo' := 1) (n := 48) (dI_add dI_c (dI_draw (lo := 4) (hi := 4) rfl dI_c)) (by decide) (G.go RG (by omega)) (fun _ => rfl) (fun x => dw_at (dw_mono (dT_wk (dT_mul (c := 1) (d := 12) (dro rfl) (dI_wk (dI_add dI_c (dI_draw rfl (dfl rfl)))))) (by omega))) (by decide)) (by decide)) rfl rfl hm1 hm2 (G.go RG (by omega)) (fin RG (by omega))
    have RF : Rf fa 2 H H8 := RE.then e8
    clear RE e8 hb
    -- way == 6
    refine q_when (et_test (ev_op (ev_var rfl) ev_c rv_I0)) (fun hb H9 e9 => ?_) (fun hb H9 e9 => ?_)
    · have RG := RF.then e9
      have GG : GF fa 10000 H9 := G.go RG (by omega)
      refine q_lcRD (lo := 3) (N := 3) (c := 4) (m0 := 0) (GdT abcd 0 3) (dI_c (x := 3)) (by decide) (GG.mono (by omega)) (fun _ => rfl) (fun x => dw_at (dT_text (c := 3) rfl (dsg rfl) (dI_wk dI_c))) fun pe H10 acc hpe R10 h10 hl1 hl2 hg => ?_
      obtain ⟨ends, rfl, hws, hwl⟩ := wl_texts hg (by decide)
      rw [List.length_map] at hl1 hl2
      have npe : pe ≠ fa := GG.new hpe
      have RH : Rf fa 100 H H10 := (RG.trans R10).mono (by omega)
      show tRet _ _ [some (.ref fa), some (.int (most : Int)), some (T sg), some (.int way), none, none, none, none, some (.ref pe), none, none] H10
      have one : ∀ {σ : L2.St} (kk : Nat) (H11 : Hp), σ[0]? = some (some (.ref fa)) → σ[8]? = some (some (.ref pe)) → Rf fa kk H10 H11 → GF fa 1 H11 → ∀ Q' : VK, (∀ y H12, GdT abcd 0 3 y → Rf fa 1 H11 H12 → Q' y H12) → tCall (sp_one K) [] E0 (tCons (tVar 0) (tCons (tVar 8) tNil)) σ H11 Q' := fun {σ} kk H11 h0 h8 R11 G11 Q' q' =>
        wp_oneS (xs := ends.map T) h0 (ev_var h8) (.inl (sq_of (R11.at_ h10 npe))) npe G11 (fun z => by have := congrArg List.length z; rw [List.length_map] at this; simp at this; rw [this] at hl1; simp at hl1) (by rw [List.length_map]; omega) fun v H12 hv R12 => by
          obtain ⟨t, ht, rfl⟩ := List.mem_map.mp hv
          exact q' _ H12 ⟨t, rfl, Nat.zero_le _, (hwl t ht).2, (hws t ht).2⟩ R12
      refine s_kept (m := 1000) (WL.mono (wl_range (lo := 2) (N := 13) (c := 5) (lo' := 0) (n := 8) (dI_wk (dI_add dI_c (dI_draw rfl (dmo rfl)))) (by decide) (G.go RH (by omega)) (fun _ => rfl) (fun x kk H11 R11 G11 Q' q' => ?_) (by decide)) (by decide)) rfl rfl hm1 hm2 (G.go RH (by omega)) (fin RH (by omega))
      refine one kk H11 rfl rfl R11 (G11.mono (by omega)) _ fun y1 H12 ⟨s1, hy1, a1, a2, a3⟩ R12 => (dT_text (c := 2) rfl (dsg rfl) (dI_wk dI_c) : Dw fa ((wipe [some (.ref fa), some (.int (most : Int)), some (T sg), some (.int way), none, none, none, none, some (.ref pe), none, none] [5]).set 5 (some x)) _ _ _) H12 (G11.go R12 (m' := 3) (by omega)) _ fun y2 H13 ⟨s2, hy2, b1, b2, b3⟩ R13 => ⟨s1, s2, hy1, hy2, by omega, one (kk + 1 + 3) H13 rfl rfl ((R11.trans R12).trans R13) (G11.go (R12.trans R13) (m' := 1) (by omega)) _ fun y3 H14 ⟨s3, hy3, c1, c2, c3⟩ R14 => ⟨s1 ++ s2, s3, rfl, hy3, by rw [List.length_append]; omega, q' _ H14 ⟨s1 ++ s2 ++ s3, rfl, Nat.zero_le _, by rw [List.length_append, List.length_append]; omega, fun c hc => ?_⟩ (((R12.trans R13).trans R14).mono (by omega))⟩⟩
      rcases List.mem_append.mp hc with z | z
      · rcases List.mem_append.mp z with z | z
        · exact a3 c z
        · exact b3 c z
      · exact c3 c z
    have RG : Rf fa 2 H H9 := RF.then e9
    clear RF e9 hb
    -- way == 7
    refine q_when (et_test (ev_op (ev_var rfl) ev_c rv_I0)) (fun hb H10 e10 => ?_) (fun hb H10 e10 => ?_)
    · have RH := RG.then e10
      have GH : GF fa 10000 H10 := G.go RH (by omega)
      exact s_kept (m := 1000) (fun Q' q' => cod rfl (GH.mono (by omega)) _ fun q ts H11 hne hlen hwd hq R11 h11 => q' q ts H11 (hwd.mono (by decide)) (by omega) (GH.new hq) (R11.mono (by omega)) h11) rfl rfl hm1 hm2 (G.go RH (by omega)) (fin RH (by omega))
    have RH : Rf fa 2 H H10 := RG.then e10
    clear RG e10 hb
    -- way == 8
    refine q_when (et_test (ev_op (ev_var rfl) ev_c rv_I0)) (fun hb H11 e11 => ?_) (fun hb H11 e11 => ?_)
    · have RI := RH.then e11
      have GI : GF fa 10000 H11 := G.go RI (by omega)
      refine q_lcRD (lo := 4) (N := 4) (c := 5) (m0 := 0) (GdT abcd 1 4) (dI_c (x := 4)) (by decide) (GI.mono (by omega)) (fun _ => rfl) (fun x => dw_at (dT_add (dT_one (lo := 4) (n := 4) rfl (dT_c (ok := abcd) (s := [97, 98, 99, 100]) (fun c hc => by simp at hc; unfold abcd; omega))) (dT_text (c := 3) rfl (dsg rfl) (dI_wk dI_c)))) fun pw H12 acc hpw R12 h12 hl1 hl2 hg => ?_
      obtain ⟨ws, rfl, hws, hwl⟩ := wl_texts hg (by decide)
      rw [List.length_map] at hl1 hl2
      have npw : pw ≠ fa := GI.new hpw
      have RJ : Rf fa 100 H H12 := (RI.trans R12).mono (by omega)
      have GJ : GF fa 9000 H12 := G.go RJ (by omega)
      show tRet _ _ [some (.ref fa), some (.int (most : Int)), some (T sg), some (.int way), none, none, none, none, none, some (.ref pw), none] H12
      exact s_kept (m := 1000) (fun Q' q' => ⟨.ref fa, rfl, cod rfl (GJ.mono (by omega)) _ fun q ts H13 hne hlen hwd hq R13 h13 => ⟨.ref pw, rfl, fa, q, pw, ts, ws, rfl, GJ.go R13 (by omega), h13, sq_of (R13.at_ h12 npw), GJ.new hq, npw, by omega, hwd.mono (by decide), fun z => by rw [z] at hl1; simp at hl1, by omega, fun t ht => ⟨by have := (hwl t ht).2; omega, (hws t ht).2⟩, fun p vs H14 hvl hvw hp R14 h14 => q' p vs H14 hvw (by omega) ((GJ.go R13 (m' := 0) (by omega)).new hp) ((R13.trans R14).mono (by omega)) h14⟩⟩) rfl rfl hm1 hm2 (G.go RJ (by omega)) (fin RJ (by omega))
    have RI : Rf fa 2 H H11 := RH.then e11
    clear RH e11 hb
    -- way == 9
    refine q_when (et_test (ev_op (ev_var rfl) ev_c rv_I0)) (fun hb H12 e12 => ?_) (fun hb H12 e12 => ?_)
    · have RJ := RI.then e12
      have GJ : GF fa 9000 H12 := G.go RJ (by omega)
      refine s_kept (m := 1000) (fun Q' q' => ⟨.ref fa, rfl, cod rfl (GJ.mono (by omega)) _ fun q ts H13 hne hlen hwd hq R13 h13 => lc_of (cod rfl (GJ.go R13 (m' := 1) (by omega)) _ fun r us H14 hne2 hlen2 hwd2 hr R14 h14 => ?_)⟩) rfl rfl hm1 hm2 (G.go RJ (by omega)) (fin RJ (by omega))
      have nq : q ≠ fa := GJ.new hq
      have GK : GF fa 100 H14 := GJ.go (R13.trans R14) (by omega)
      refine (el_lcM (j := 6) (vs := [6]) (f := T) (g := T) us (src_listM (tl := fun _ H' Q' => Q' (.ref r) H') (fun H2 e2 Q2 q2 => q2 H2 (Ex.refl _)) (sq_of h14)) (by omega) (fun _ => rfl) fun t H15 e15 ht => ev_var rfl : EvL (tLc (iList K (fun _ H' Q' => Q' (.ref r) H')) (gName 6) tYes (tVar 6) [6]) [some (.ref fa), some (.int (most : Int)), some (T sg), some (.int way), none, none, none, none, none, none, none] H14 (us.map T)) H14 (Ex.refl _) _ fun pw H15 hpw e15 h15 => ?_
      have npw : pw ≠ fa := GK.new hpw
      exact ⟨fa, q, pw, ts, us, rfl, (GK.ex e15).mono (by omega), e15 _ _ (R14.at_ h13 nq), sq_of h15, nq, npw, by omega, hwd.mono (by decide), hne2, by omega, hwd2.mono (by decide), fun p vs H16 hvl hvw hp R16 h16 => q' p vs H16 hvw (by omega) ((GK.ex e15).new hp) ((((R13.trans R14).then e15).trans R16).mono (by omega)) h16⟩
    have RJ : Rf fa 2 H H12 := RI.then e12
    clear RI e12 hb
    refine q_dw (dI_add dI_c (dI_draw (lo := 5) (hi := 5) rfl dI_c)) (G.go RJ (m' := 10000) (by omega)) fun v H13 ⟨long, hv, hl1, hl2⟩ R13 => ?_
    subst hv
    have RK := RJ.trans R13
    show tRet _ _ [some (.ref fa), some (.int (most : Int)), some (T sg), some (.int way), some (.int long), none, none, none, none, none, none] H13
    refine s_kept (m := 1000) (WL.mono (wl_range (lo := 1) (N := 12) (c := 5) (lo' := 0) (n := 5) (dI_add dI_c (dI_draw rfl (dmo rfl))) (by decide) (G.go RK (by omega)) (fun _ => rfl) (fun x kk H14 R14 G14 Q' q' => ?_) (by decide)) (by decide)) rfl rfl hm1 hm2 (G.go RK (by omega)) (fin RK (by omega))
    refine ⟨rfl, lcRD (lo := 1) (N := 5) (c := 1) (m0 := 0) (GdT abcd 1 1) (dI_wk (dI_var rfl hl1 hl2)) (by decide) (G14.mono (by omega)) (fun _ => rfl) (fun x => dw_at (dT_one rfl (dsg rfl))) _ fun p H15 acc hp R15 h15 hl1 hl2 hg => ?_⟩
    obtain ⟨ws, rfl, hws, hwl⟩ := wl_texts hg (by decide)
    rw [List.length_map] at hl2
    have hsum := sum_le (m := 1) fun t ht => (hwl t ht).2
    refine ⟨[], p, ws, rfl, rfl, .inl (sq_of h15), by simp; omega, ?_⟩
    rw [joinL_nil]
    refine q' _ H15 ⟨ws.flatten, rfl, Nat.zero_le _, by rw [flat_len]; omega, fun c hc => ?_⟩ (R15.mono (by omega))
    obtain ⟨t, ht, hct⟩ := flat_mem hc
    exact (hws t ht).2 c hct
end
end K21
set_option Elab.async false
set_option linter.all false
set_option maxRecDepth 100000
set_option maxHeartbeats 4000000
namespace K21
open PySem PySem.Spec PyProof.Rows L2 Evl Wc Wt Wg Ws Wr _root_.Wd
section
variable {K : PySem.W.Frag} {fa : Addr} {H : Hp} {σ : L2.St}
/-- tuple([.. for turn in range(..)]), texts, returned -/
theorem s_tupRD {D : Ends} {te te0 : TE} {j : Nat} {vs : List Nat} {lo N c m0 : Nat} (hc : Dw fa σ m0 te0 (GdI (lo : Int) (N : Int))) (hN : N ≤ 1000) (G : GF fa (m0 + N * c) H) (hw : ∀ x, wipe ((wipe σ vs).set j (some x)) vs = wipe σ vs)
    (he : ∀ x n H1, Rf fa n H H1 → GF fa c H1 → ∀ Q' : VK, (∀ y H2, GdT abcd 0 12 y → Rf fa c H1 H2 → Q' y H2) → te ((wipe σ vs).set j (some x)) H1 Q')
    (k : ∀ q rep H2, lo ≤ rep.length → rep.length ≤ N → Wd 12 rep → H q = none → Rf fa (m0 + N * c) H H2 → H2 q = some (.tup (rep.map T)) → D.rt (.ref q) H2) : tRet (tCB (rTupS K) (tCons (tLc (iRng1 (tCons te0 tNil)) (gName j) tYes te vs) tNil)) D σ H :=
  lcRD (GdT abcd 0 12) hc hN G hw he (fun v H1 => rTupS K [v] H1 D.rt) fun p H2 acc hp R h2 hl1 hl2 hg => by
    obtain ⟨ws, rfl, hws, hwl⟩ := wl_texts hg (by decide)
    rw [List.length_map] at hl1 hl2
    exact ⟨p, ws.map T, rfl, .inl ⟨sq_of h2, fun l hl => k l ws _ hl1 hl2 (fun t ht => ⟨(hwl t ht).2, (hws t ht).2⟩) (R.free G.is hl (G.go R (m' := 0) (by omega)).is) (R.then (Ex.new hl)) upd_same⟩⟩
theorem q_mixed {D : Ends} {tz : TS} {te : TE} {i : Nat} (h : te σ H fun v H1 => sp_mixed K [.ref fa, v] H1 (fun v H2 => tz D (σ.set i (some v)) H2) E0) (h0 : σ[0]? = some (some (.ref fa))) : tSeq (tAsg (tCall (sp_mixed K) [] E0 (tCons (tVar 0) (tCons te tNil))) (gName i)) tz D σ H := ⟨.ref fa, h0, h⟩
end
section
variable {P : Program} {w : World} {K : PySem.W.Frag} {mg : Str → Option Value} {base : Heap}
def sp_replacing : Sp := fun vs H Q _ => ∃ (fa : Addr), vs = [.ref fa, .int 4] ∧ GF fa 21000 H ∧ ∀ q rep H', IsRep rep → H q = none → Rf fa 21000 H H' → H' q = some (.tup (rep.map T)) → Q (.ref q) H'
theorem ok__law_replacing {f : Addr} {fd : FuncData} (F : Fun K "_law_replacing" "_law_replacing" st__law_replacing f fd) (M : Md K mg) (C__law_draw : Cal P w K mg base "_law_draw" st__law_draw 1 ["feed", "many"] sp_draw) (C__law_one : Cal P w K mg base "_law_one" st__law_one 2 ["feed", "things"] (sp_one K)) (C__law_text : Cal P w K mg base "_law_text" st__law_text 3 ["feed", "signs", "most"] sp_text) (C__law_mixed : Cal P w K mg base "_law_mixed" st__law_mixed 2 ["feed", "things"] (sp_mixed K)) (C__law_lot : Cal P w K mg base "_law_lot" st__law_lot 4 ["feed", "most"] sp_lot) : FnOk P w K mg base CX0 5 f fd ["feed", "signs"] sp_replacing := by
  have nd := sc__law_replacing.nd
  refine F.ok sc__law_replacing (fun vs H Q E h => ?_) (fun cdv A outer s H vs Q E hr h => ?_)
  · obtain ⟨_, rfl, _⟩ := h
    rfl
  · obtain ⟨fa, rfl, G, k⟩ := h
    refine ⟨_, (pss_cons (ps_par (i := 2) (j := 3) rfl nd rfl rfl (by decide) rfl rfl (pa_cons (pe_op op_add pe_int (pe_cl C__law_draw hr (pa_cons (pv 0) (pa_cons (pv 1) pa_nil)))) (pa_cons (pe_cl C__law_draw hr (pa_cons (pv 0) (pa_cons pe_int pa_nil))) pa_nil)) (by rfl))
  (pss_cons (ps_set (i := 4) nd rfl (Or.inr rfl) (pe_slice sl_T (pe_sT [97, 98, 99, 100]) po_none (po_some (pe_cl C__law_one hr (pa_cons (pv 0) (pa_cons (pe_lst (pa_cons pe_int (pa_cons pe_int (pa_cons pe_int (pa_cons pe_int pa_nil))))) pa_nil))))))
  (pss_cons (ps_if (pt_cmpR op_lt (pv 3) pe_int (nomark _))
  (pss_cons (ps_set (i := 5) nd rfl (Or.inr rfl) (pe_cl C__law_mixed hr (pa_cons (pv 0) (pa_cons (pe_callTy (kcr K (r := rListS) call_list_of) (by rfl) M.n_list boot_list (pa_cons (pe_cl C__law_lot hr (pa_cons (pv 0) (pa_cons pe_int pa_nil))) pa_nil)) pa_nil))))
  (pss_one (ps_ret (pe_callTy (kcr K (r := rTupS) call_tuple_of) (by rfl) M.n_tuple boot_tuple (pa_cons (pe_slice (ksl K (r := rSlL) sl_list) (pv 5) po_none (po_some (pv 2))) pa_nil)))))
  pss_nil)
  (pss_cons (ps_if (pt_cmpR op_eqI (pv 3) pe_int (nomark _))
  (pss_one (ps_ret (pe_callTy (kcr K (r := rTupS) call_tuple_of) (by rfl) M.n_tuple boot_tuple (pa_cons (pe_lc (own := [("turn", 6)]) rfl nd (pi_range1 (by rfl) M.n_range (pa_cons (pv 2) pa_nil)) (blkOk_by (N := N__law_replacing) (sc := defScope st__law_replacing) (by decide +kernel)) (fun _ _ _ _ _ => (pg_name (i := 6) nd rfl (Or.inl rfl))) (fun _ _ _ _ _ => pts_nil) (fun _ _ _ _ _ => (pe_cl C__law_text hr (pa_cons (pv 0) (pa_cons (pv 4) (pa_cons pe_int pa_nil)))))) pa_nil))))
  pss_nil)
  (pss_cons (ps_if (pt_cmpR op_eqI (pv 3) pe_int (nomark _))
  (pss_cons (ps_set (i := 5) nd rfl (Or.inr rfl) (pe_lc (own := [("turn", 6)]) rfl nd (pi_range1 (by rfl) M.n_range (pa_cons pe_int pa_nil)) (blkOk_by (N := N__law_replacing) (sc := defScope st__law_replacing) (by decide +kernel)) (fun _ _ _ _ _ => (pg_name (i := 6) nd rfl (Or.inl rfl))) (fun _ _ _ _ _ => pts_nil) (fun _ _ _ _ _ => (pe_op op_addT (pe_cl C__law_one hr (pa_cons (pv 0) (pa_cons (pv 4) pa_nil))) (pe_cl C__law_text hr (pa_cons (pv 0) (pa_cons (pv 4) (pa_cons pe_int pa_nil))))))))
  (pss_one (ps_ret (pe_callTy (kcr K (r := rTupS) call_tuple_of) (by rfl) M.n_tuple boot_tuple (pa_cons (pe_lc (own := [("turn", 6)]) rfl nd (pi_range1 (by rfl) M.n_range (pa_cons (pv 2) pa_nil)) (blkOk_by (N := N__law_replacing) (sc := defScope st__law_replacing) (by decide +kernel)) (fun _ _ _ _ _ => (pg_name (i := 6) nd rfl (Or.inl rfl))) (fun _ _ _ _ _ => pts_nil) (fun _ _ _ _ _ => (pe_cl C__law_one hr (pa_cons (pv 0) (pa_cons (pv 5) pa_nil))))) pa_nil)))))
  pss_nil)
  (pss_cons (ps_set (i := 7) nd rfl (Or.inr rfl) (pe_cl C__law_one hr (pa_cons (pv 0) (pa_cons (pe_lst (pa_cons pe_int (pa_cons pe_int (pa_cons pe_int pa_nil)))) pa_nil))))
  (pss_one (ps_ret (pe_callTy (kcr K (r := rTupS) call_tuple_of) (by rfl) M.n_tuple boot_tuple (pa_cons (pe_lc (own := [("turn", 6)]) rfl nd (pi_range1 (by rfl) M.n_range (pa_cons (pv 2) pa_nil)) (blkOk_by (N := N__law_replacing) (sc := defScope st__law_replacing) (by decide +kernel)) (fun _ _ _ _ _ => (pg_name (i := 6) nd rfl (Or.inl rfl))) (fun _ _ _ _ _ => pts_nil) (fun _ _ _ _ _ => (pe_slice sl_T (pe_op op_addT (pe_cl C__law_one hr (pa_cons (pv 0) (pa_cons (pv 4) pa_nil))) (pe_cl C__law_text hr (pa_cons (pv 0) (pa_cons (pv 4) (pa_cons (pv 7) pa_nil))))) po_none (po_some pe_int)))) pa_nil)))))))))), ?_⟩
    -- many, way
    refine q_par2 ((dI_add dI_c (dI_draw (lo := 4) (hi := 4) rfl (dI_var rfl (Int.le_refl _) (Int.le_refl _))) : Dw fa (start N__law_replacing [.ref fa, .int 4]) _ _ _) H (G.mono (by omega)) _ fun v1 H1 ⟨many, hv1, hm1, hm2⟩ R1 => (dI_draw (lo := 6) (hi := 6) rfl dI_c : Dw fa (start N__law_replacing [.ref fa, .int 4]) _ _ _) H1 (G.go R1 (m' := 1) (by omega)) _ fun v2 H2 ⟨way, hv2, hw1, hw2⟩ R2 => ⟨_, _, rfl, ?_⟩)
    subst hv1 hv2
    obtain ⟨many, rfl⟩ := Int.eq_ofNat_of_zero_le (show 0 ≤ many by omega)
    have hm1 : 1 ≤ many := by omega
    have hm2 : many ≤ 4 := by omega
    have RA : Rf fa 2 H H2 := R1.trans R2
    clear R1 R2
    show tSeq _ _ _ [some (.ref fa), some (.int 4), some (.int (many : Int)), some (.int way), none, none, none, none] H2
    have hsg : Dw fa [some (.ref fa), some (.int 4), some (.int (many : Int)), some (.int way), none, none, none, none] 1 (tSl rSlT (tC (T [97, 98, 99, 100])) tNoPart (tPart (tCall (sp_one K) [] E0 (tCons (tVar 0) (tCons (tLst (tCons (tC (.int 1)) (tCons (tC (.int 2)) (tCons (tC (.int 2)) (tCons (tC (.int 4)) tNil))))) tNil))))) (GdT abcd 1 4) := fun H G Q q =>
      dI_oneL (ns := [1, 2, 2, 4]) (lo := 1) (hi := 4) rfl (fun H => el_lst (ea_cons ev_c (ea_cons ev_c (ea_cons ev_c (ea_cons ev_c ea_nil)))) (by show 4 ≤ 100000; decide)) (by decide) (by simp) (by decide) H G _ fun v H' ⟨i, hi, h1, h2⟩ R => by
        obtain ⟨n, rfl⟩ := Int.eq_ofNat_of_zero_le (show 0 ≤ i by omega)
        subst hi
        have hn : n = 1 ∨ n = 2 ∨ n = 3 ∨ n = 4 := by omega
        refine ⟨(n : Int), rfl, _, rfl, by show 4 ≤ 16777216; decide, q _ H' ⟨_, rfl, ?_, ?_, ?_⟩ R⟩
        · rw [cutT_to]
          rcases hn with rfl | rfl | rfl | rfl <;> decide
        · rw [cutT_to]
          rcases hn with rfl | rfl | rfl | rfl <;> decide
        · intro c hc
          have := cutT_mem hc
          simp at this
          unfold abcd
          omega
    refine q_dw hsg (G.go RA (m' := 1) (by omega)) fun v3 H3 ⟨sg, hv3, hs1, hs2, hs3⟩ R3 => ?_
    subst hv3
    have RB : Rf fa 3 H H3 := RA.trans R3
    clear RA R3 hsg
    have hsn : sg ≠ [] := fun z => by rw [z] at hs1; simp at hs1
    show tSeq _ _ _ [some (.ref fa), some (.int 4), some (.int (many : Int)), some (.int way), some (T sg), none, none, none] H3
    have dsg : ∀ {σ : L2.St}, σ[4]? = some (some (T sg)) → Dw fa σ 0 (tVar 4) (GdT abcd 1 4) := fun h0 => dT_var h0 hs1 hs2 hs3
    have dmo : ∀ {σ : L2.St}, σ[2]? = some (some (.int (many : Int))) → Dw fa σ 0 (tVar 2) (GdI (1 : Nat) (4 : Nat)) := fun h0 => dI_var h0 (by omega) (by omega)
    have fin : ∀ {m0 m : Nat} {HA : Hp}, Rf fa m0 H HA → m0 + m ≤ 21000 → ∀ q rep H2, 1 ≤ rep.length → rep.length ≤ 4 → Wd 12 rep → HA q = none → Rf fa m HA H2 → H2 q = some (.tup (rep.map T)) → Q (.ref q) H2 := fun {m0 m HA} RB hb q rep H2 hl1 hl2 hw hq R2 h2 => k q rep H2 ⟨fun z => by rw [z] at hl1; simp at hl1, hl2, hw⟩ (RB.free G.is hq (G.go RB (m' := 0) (by omega)).is) ((RB.trans R2).mono hb) h2
    -- way < 2
    refine q_when (et_test (ev_op (ev_var rfl) ev_c rv_I0)) (fun hb H4 e4 => ?_) (fun hb H4 e4 => ?_)
    · have RC := RB.then e4
      refine q_mixed ⟨.ref fa, rfl, fa, 12, rfl, by decide, by decide, G.go RC (by omega), fun pl lot H5 hL hlen hpl R5 h5 => ⟨pl, lot.map T, rfl, .inr (st_of h5), fun l hl => ⟨fa, l, lot.map T, rfl, sq_of upd_same, ?_, by rw [List.length_map]; omega, ?_, fun q ys H6 hpm hq R6 h6 => ?_⟩⟩⟩ rfl
      · have G5 := G.go (RC.trans R5) (m' := 0) (by omega)
        exact G5.new hl
      · exact (G.go (RC.trans R5) (m' := 100) (by omega)).ex (Ex.new hl) |>.mono (by rw [List.length_map]; omega)
      · obtain ⟨zs, rfl, pz⟩ := perm_texts hpm
        have RD : Rf fa 20020 H H6 := (((RC.trans R5).then (Ex.new hl)).trans R6).mono (by rw [List.length_map]; omega)
        have hzl := pz.length_eq
        have hz0 : 0 < lot.length := List.length_pos_iff.mpr hL.ne
        show tRet _ _ [some (.ref fa), some (.int 4), some (.int (many : Int)), some (.int way), some (T sg), some (.ref q), none, none] H6
        have hsl : EvL (tSl (rSlL K) (tVar 5) tNoPart (tPart (tVar 2))) [some (.ref fa), some (.int 4), some (.int (many : Int)), some (.int way), some (T sg), some (.ref q), none, none] H6 ((zs.take many).map T) := by
          have := el_sl (K := K) (σ := [some (.ref fa), some (.int 4), some (.int (many : Int)), some (.int way), some (T sg), some (.ref q), none, none]) (H := H6) (te := tVar 5) (ev_var rfl) eo_none (eo_some (te := tVar 2) (i := (many : Int)) (ev_var rfl)) (sq_of h6)
          rw [cutV_to, ← List.map_take] at this
          exact this
        refine s_retU (eu_tupL hsl) fun r H7 hr e7 h7 => fin (m := 0) RD (by omega) r (zs.take many) H7 (by rw [List.length_take]; omega) (by rw [List.length_take]; omega) (fun t ht => hL.wd t (pz.mem_iff.mp (List.mem_of_mem_take ht))) hr (Rf.of_ex e7) h7
    have RC : Rf fa 3 H H4 := RB.then e4
    clear RB e4 hb
    -- way == 2
    refine q_when (et_test (ev_op (ev_var rfl) ev_c rv_I0)) (fun hb H5 e5 => ?_) (fun hb H5 e5 => ?_)
    · have RD := RC.then e5
      exact s_tupRD (lo := 1) (N := 4) (c := 3) (m0 := 0) (dmo rfl) (by decide) (G.go RD (by omega)) (fun _ => rfl) (fun x => dw_at (dT_wk (dT_text (c := 2) rfl (dsg rfl) (dI_wk dI_c)))) (fin RD (by omega))
    have RD : Rf fa 3 H H5 := RC.then e5
    clear RC e5 hb
    -- way == 3
    refine q_when (et_test (ev_op (ev_var rfl) ev_c rv_I0)) (fun hb H6 e6 => ?_) (fun hb H6 e6 => ?_)
    · have RE := RD.then e6
      refine q_lcRD (lo := 2) (N := 2) (c := 4) (m0 := 0) (GdT abcd 1 12) (dI_c (x := 2)) (by decide) (G.go RE (by omega)) (fun _ => rfl) (fun x => dw_at (dT_wk (dT_add (dT_one rfl (dsg rfl)) (dT_text (c := 2) rfl (dsg rfl) (dI_wk dI_c))))) fun p H7 acc hp R7 h7 hl1 hl2 hg => ?_
      obtain ⟨ws, rfl, hws, hwl⟩ := wl_texts hg (by decide)
      rw [List.length_map] at hl1 hl2
      have RF : Rf fa 11 H H7 := RE.trans R7
      have np : p ≠ fa := (G.go RE (m' := 0) (by omega)).new hp
      show tRet _ _ [some (.ref fa), some (.int 4), some (.int (many : Int)), some (.int way), some (T sg), some (.ref p), none, none] H7
      refine s_tupRD (lo := 1) (N := 4) (c := 1) (m0 := 0) (dmo rfl) (by decide) (G.go RF (by omega)) (fun _ => rfl) (fun x n H8 R8 G8 Q' q' => ?_) (fin RF (by omega))
      refine wp_oneS (xs := ws.map T) rfl (ev_var rfl) (.inl (sq_of (R8.at_ h7 np))) np G8 (fun z => by rw [List.map_eq_nil_iff.mp z] at hl1; simp at hl1) (by rw [List.length_map]; omega) fun v H9 hv R9 => ?_
      obtain ⟨t, ht, rfl⟩ := List.mem_map.mp hv
      exact q' _ H9 ⟨t, rfl, Nat.zero_le _, (hwl t ht).2, (hws t ht).2⟩ R9
    have RE : Rf fa 3 H H6 := RD.then e6
    clear RD e6 hb
    refine q_dw (dI_oneL (ns := [3, 6, 12]) (lo := 3) (hi := 12) rfl (fun H => el_lst (ea_cons ev_c (ea_cons ev_c (ea_cons ev_c ea_nil))) (by show 3 ≤ 100000; decide)) (by decide) (by simp) (by decide)) (G.go RE (m' := 1) (by omega)) fun v H7 ⟨long, hv, hl1, hl2⟩ R7 => ?_
    subst hv
    have RF := RE.trans R7
    show tRet _ _ [some (.ref fa), some (.int 4), some (.int (many : Int)), some (.int way), some (T sg), none, none, some (.int long)] H7
    refine s_tupRD (lo := 1) (N := 4) (c := 14) (m0 := 0) (dmo rfl) (by decide) (G.go RF (by omega)) (fun _ => rfl) (fun x n H8 R8 G8 Q' q' => ?_) (fin RF (by omega))
    refine (dT_add (dT_one rfl (dsg rfl)) (dT_text (c := 12) rfl (dsg rfl) (dI_wk (dI_var rfl hl1 hl2))) : Dw fa ((wipe [some (.ref fa), some (.int 4), some (.int (many : Int)), some (.int way), some (T sg), none, none, some (.int long)] [6]).set 6 (some x)) _ _ _) H8 (G8.mono (by omega)) _ fun v H9 ⟨t, hv, ht1, ht2, ht3⟩ R9 => ?_
    subst hv
    refine ⟨12, rfl, t, rfl, by omega, q' _ H9 ⟨_, rfl, Nat.zero_le _, ?_, fun c hc => ht3 c (cutT_mem hc)⟩ (R9.mono (by omega))⟩
    rw [show (12 : Int) = ((12 : Nat) : Int) from rfl, cutT_to, List.length_take]
    omega
end
end K21
set_option Elab.async false
set_option linter.all false
set_option maxRecDepth 100000
set_option maxHeartbeats 8000000
namespace K21
open PySem PySem.Spec PyProof.Rows L2 Evl Wc Wt Wg Ws Wr _root_.Wd
theorem kb_replaced_1_0 : KB "replaced" st_replaced 0 ["replacing", "text"] ["text", "replacing"] (sw2 true) (sw2 true) := kb2 true rfl (fun _ _ _ _ _ _ a b => rfl)
theorem kb_is_faithful_0 : KB "is_faithful" st_is_faithful 0 ["replacing"] ["replacing"] sw1 sw1 := kb1 rfl (fun _ _ _ _ _ _ a => rfl)
section
variable {σ : L2.St} {H : Hp} {D : Ends} {tt ts tz : TS} {t u : TT}
theorem s_ifAndT (h : EvT t σ H true) (k : ∀ H1, Ex H H1 → tIfS u tt ts D σ H1) : tIfS (tAnd t u) tt ts D σ H := h H (Ex.refl _) _ fun H1 e1 => by
  show (if (true : Bool) = true then u σ H1 (fun b H2 => if b = true then tt D σ H2 else ts D σ H2) else _)
  rw [if_pos rfl]
  exact k H1 e1
theorem s_ifAndF (h : EvT t σ H false) (k : ∀ H1, Ex H H1 → ts D σ H1) : tIfS (tAnd t u) tt ts D σ H := h H (Ex.refl _) _ fun H1 e1 => by
  show (if (false : Bool) = true then u σ H1 (fun b H2 => if b = true then tt D σ H2 else ts D σ H2) else (if (false : Bool) = true then tt D σ H1 else ts D σ H1))
  rw [if_neg Bool.false_ne_true, if_neg Bool.false_ne_true]
  exact k H1 e1
theorem q_orD (h1 : EvT t σ H false) (h2 : ∀ H1, Ex H H1 → u σ H1 (fun b H2 => if b = true then tt { D with nx := tz D } σ H2 else tz D σ H2)) : tSeq (tIfS (tOr t u) tt tNext) tz D σ H := h1 H (Ex.refl _) _ fun H1 e1 => by
  show (if (false : Bool) = true then _ else u σ H1 (fun b H2 => if b = true then tt { D with nx := tz D } σ H2 else tz D σ H2))
  rw [if_neg Bool.false_ne_true]
  exact h2 H1 e1
theorem if_F {b : Bool} {p q : Prop} (h : b = false) (hq : q) : if b = true then p else q := by
  rw [h, if_neg Bool.false_ne_true]
  exact hq
end
def FoundOk (due : Tx) (r : Addr) (H : Hp) : Prop := (due.length ≤ 4000 ∧ H r = some (.tup [T tTold, T due])) ∨ (4000 < due.length ∧ H r = some (.tup [T tMany, .bl true]))
theorem asked0 {p : Addr} {rep : List Tx} {t : Tx} {H : Hp} {Q : VK} {E : XK} (hR : RepAt p rep H) (hl : t.length ≤ 400) (ho : Own rep.length t) (k : ∀ r H', Ex H H' → FoundOk (byR rep t) r H' → Q (.ref r) H') : sp_asked [.int 0, .ref p, T t] H Q E := .inl ⟨p, rep, t, rfl, hR, hl, ho, fun h r H' e hr => k r H' e (.inl ⟨h, hr⟩), fun h r H' e hr => k r H' e (.inr ⟨h, hr⟩)⟩
theorem cut_in {a : Tx} {lo hi : Option Int} {p : Nat → Prop} (h : ∀ c ∈ a, p c) : ∀ c ∈ cutT a lo hi, p c := fun c hc => h c (cutT_mem hc)
theorem cut400 (a : Tx) : (cutT a none (some 400)).length ≤ 400 := by
  rw [show (400 : Int) = ((400 : Nat) : Int) from rfl, cutT_to, List.length_take]
  omega
section
variable {P : Program} {w : World} {K : PySem.W.Frag} {mg : Str → Option Value} {base : Heap}
def sp_law_right : Sp := fun vs H Q _ => ∃ (fa : Addr), vs = [.ref fa] ∧ GF fa 200000 H ∧ ∀ H', Rf fa 200000 H H' → Q (.bl true) H'
theorem ok__law_right {f CE : Addr} {fd : FuncData} (F : Fun K "_law_right" "_law_right" st__law_right f fd) (M : Md K mg) (C__law_replacing : Cal P w K mg base "_law_replacing" st__law_replacing 5 ["feed", "signs"] sp_replacing) (C__law_text : Cal P w K mg base "_law_text" st__law_text 3 ["feed", "signs", "most"] sp_text) (C__law_draw : Cal P w K mg base "_law_draw" st__law_draw 1 ["feed", "many"] sp_draw) (C__law_one : Cal P w K mg base "_law_one" st__law_one 2 ["feed", "things"] (sp_one K)) (C__law_by : Cal P w K mg base "_law_by" st__law_by 1 ["replacing", "text"] sp_replaced_text) (C__law_asked : Cal P w K mg base "_law_asked" st__law_asked 5 ["way", "one", "other"] sp_asked) (C_replaced : Cal P w K mg base "replaced" st_replaced 4 ["replacing", "text"] (calm (sp_replaced CE))) (C__law_back_right : Cal P w K mg base "_law_back_right" st__law_back_right 6 ["replacing", "text"] sp_back_right) (C__law_so : Cal P w K mg base "_law_so" st__law_so 1 ["actual", "due"] sp_law_so) (C_is_faithful : Cal P w K mg base "is_faithful" st_is_faithful 4 ["replacing"] sp_faithful) (C__law_faithful : Cal P w K mg base "_law_faithful" st__law_faithful 4 ["replacing"] sp_faithful) (C__law_doubly : Cal P w K mg base "_law_doubly" st__law_doubly 6 ["first", "second"] sp_law_doubly) : FnOk P w K mg base CX0 7 f fd ["feed"] sp_law_right := by
  have nd := sc__law_right.nd
  refine F.ok sc__law_right (fun vs H Q E h => ?_) (fun cdv A outer s H vs Q E hr h => ?_)
  · obtain ⟨_, rfl, _⟩ := h
    rfl
  · obtain ⟨fa, rfl, G, ret⟩ := h
    refine ⟨_, (pss_cons (ps_set (i := 1) nd rfl (Or.inl rfl) (pe_cl C__law_replacing hr (pa_cons (pv 0) (pa_cons pe_int pa_nil))))
  (pss_cons (ps_set (i := 2) nd rfl (Or.inl rfl) (pe_slice sl_T (pe_sT [97, 98, 99, 100]) po_none (po_some (pe_callB (kcr K (r := rLenS) call_len_seq) (by rfl) M.n_len boot_len (pa_cons (pv 1) pa_nil)))))
  (pss_cons (ps_for PassesOwn.never rfl (kil K (pi_list (pe_lst (pa_cons pe_int (pa_cons pe_int (pa_cons pe_int pa_nil)))))) (pg_name (i := 3) nd rfl (Or.inl rfl))
  (pss_cons (ps_set (i := 4) nd rfl (Or.inl rfl) (pe_cl C__law_text hr (pa_cons (pv 0) (pa_cons (pv 2) (pa_cons (pv 3) pa_nil)))))
  (pss_cut (ps_if (PW.pt (pw_and (pt_cmpR op_eqI (pv 3) pe_int (nomark _)) (pw_and1 (pt_cmpR op_eqI (pe_cl C__law_draw hr (pa_cons (pv 0) (pa_cons pe_int pa_nil))) pe_int (nomark _)))))
  (pss_cons (ps_set (i := 4) nd rfl (Or.inl rfl) (pe_op op_mulT (pe_slice sl_T (pe_op op_addT (pe_cl C__law_text hr (pa_cons (pv 0) (pa_cons (pv 2) (pa_cons pe_int pa_nil)))) (pv 2)) po_none (po_some pe_int)) pe_int))
  (pss_one (ps_set (i := 4) nd rfl (Or.inl rfl) (pe_slice sl_T (pv 4) po_none (po_some (pe_cl C__law_one hr (pa_cons (pv 0) (pa_cons (pe_lst (pa_cons pe_int (pa_cons pe_int (pa_cons pe_int (pa_cons pe_int pa_nil))))) pa_nil))))))))
  pss_nil)
  (pss_cons (ps_par (i := 5) (j := 6) rfl nd rfl rfl (by decide) rfl rfl (pa_cons (pe_cl C__law_by hr (pa_cons (pv 1) (pa_cons (pv 4) pa_nil))) (pa_cons (pe_cl C__law_asked hr (pa_cons pe_int (pa_cons (pv 1) (pa_cons (pv 4) pa_nil)))) pa_nil)) (by rfl))
  (pss_cons (ps_if (PW.pt (pw_or (PW.pt (pw_and (pt_cmpR op_gt (pe_callB cr_lenT (by rfl) M.n_len boot_len (pa_cons (pv 5) pa_nil)) pe_int (nomark _)) (pw_and1 (pt_cmpR (kop K (r := rNeD) (op_neD hr.units)) (pv 6) (pe_tup (pa_cons (pe_sT [109, 97, 110, 121]) (pa_cons pe_bl pa_nil))) (nomark _))))) (pw_or1 (PW.pt (pw_and (pt_cmpR op_le (pe_callB cr_lenT (by rfl) M.n_len boot_len (pa_cons (pv 5) pa_nil)) pe_int (nomark _)) (pw_and1 (pt_cmpR (kop K (r := rNeD) (op_neD hr.units)) (pv 6) (pe_tup (pa_cons (pe_sT [116, 111, 108, 100]) (pa_cons (pv 5) pa_nil))) (nomark _))))))))
  (pss_one (ps_ret pe_bl))
  pss_nil)
  (pss_cons (ps_if (PW.pt (pw_and (pt_cmpR op_le (pe_callB cr_lenT (by rfl) M.n_len boot_len (pa_cons (pv 5) pa_nil)) pe_int (nomark _)) (pw_and1 (pt_cmpR op_neT (pe_clK0 C_replaced (kb_replaced_1_0) hr (pk_cons (pv 4) (pk_cons (pv 1) pk_nil))) (pv 5) (nomark _)))))
  (pss_one (ps_ret pe_bl))
  pss_nil)
  (pss_cons (ps_par (i := 7) (j := 8) rfl nd rfl rfl (by decide) rfl rfl (pa_cons (pe_cl C__law_draw hr (pa_cons (pv 0) (pa_cons (pe_op op_add (pe_callB (call_min2 rfl) (by rfl) M.n_min boot_min (pa_cons (pe_callB cr_lenT (by rfl) M.n_len boot_len (pa_cons (pv 5) pa_nil)) (pa_cons pe_int pa_nil))) pe_int) pa_nil))) (pa_cons (pe_cl C__law_one hr (pa_cons (pv 0) (pa_cons (pe_sT [97, 98, 99, 100]) pa_nil))) pa_nil)) (by rfl))
  (pss_one (ps_for PassesOwn.never rfl (kil K (pi_list (pe_lst (pa_cons (pe_slice sl_T (pv 5) po_none (po_some pe_int)) (pa_cons (pe_slice sl_T (pe_op op_addT (pe_op op_addT (pe_slice sl_T (pv 5) po_none (po_some (pv 7))) (pv 8)) (pe_slice sl_T (pv 5) (po_some (pe_op op_add (pv 7) pe_int)) po_none)) po_none (po_some pe_int)) (pa_cons (pe_slice sl_T (pv 5) po_none (po_some (pv 7))) (pa_cons (pe_slice sl_T (pe_op op_addT (pe_op op_addT (pe_slice sl_T (pv 5) po_none (po_some (pv 7))) (pv 8)) (pe_slice sl_T (pv 5) (po_some (pv 7)) po_none)) po_none (po_some pe_int)) pa_nil))))))) (pg_name (i := 9) nd rfl (Or.inl rfl))
  (pss_one (ps_if (pt_not (pt_val (pe_cl C__law_back_right hr (pa_cons (pv 1) (pa_cons (pv 9) pa_nil)))))
  (pss_one (ps_ret pe_bl))
  pss_nil)))))))))))
  (pss_cons (ps_if (PW.pt (pw_or (pt_not (pt_val (pe_cl C__law_back_right hr (pa_cons (pv 1) (pa_cons (pe_sT []) pa_nil))))) (pw_or1 (pt_not (pt_val (pe_cl C__law_back_right hr (pa_cons (pv 1) (pa_cons (pe_cl C__law_text hr (pa_cons (pv 0) (pa_cons (pe_sT [97, 98, 99, 100]) (pa_cons pe_int pa_nil)))) pa_nil))))))))
  (pss_one (ps_ret pe_bl))
  pss_nil)
  (pss_cons (ps_if (PW.pt (pw_or (pt_not (pt_val (pe_cl C__law_so hr (pa_cons (pe_cl C_is_faithful hr (pa_cons (pv 1) pa_nil)) (pa_cons (pe_cl C__law_faithful hr (pa_cons (pv 1) pa_nil)) pa_nil))))) (pw_or1 (pt_not (pt_val (pe_cl C__law_so hr (pa_cons (pe_clK0 C_is_faithful (kb_is_faithful_0) hr (pk_cons (pv 1) pk_nil)) (pa_cons (pe_cl C__law_faithful hr (pa_cons (pv 1) pa_nil)) pa_nil))))))))
  (pss_one (ps_ret pe_bl))
  pss_nil)
  (pss_cons (ps_for PassesOwn.never rfl (pi_range1 (by rfl) M.n_range (pa_cons pe_int pa_nil)) (pg_name (i := 10) nd rfl (Or.inl rfl))
  (pss_cons (ps_par (i := 11) (j := 12) rfl nd rfl rfl (by decide) rfl rfl (pa_cons (pe_cl C__law_replacing hr (pa_cons (pv 0) (pa_cons pe_int pa_nil))) (pa_cons (pe_cl C__law_replacing hr (pa_cons (pv 0) (pa_cons pe_int pa_nil))) pa_nil)) (by rfl))
  (pss_cons (ps_if (PW.pt (pw_or (pt_not (pt_val (pe_cl C__law_doubly hr (pa_cons (pv 11) (pa_cons (pv 1) pa_nil))))) (pw_or1 (pt_not (pt_val (pe_cl C__law_doubly hr (pa_cons (pv 1) (pa_cons (pv 12) pa_nil))))))))
  (pss_one (ps_ret pe_bl))
  pss_nil)
  (pss_one (ps_if (pt_not (pt_val (pe_cl C__law_doubly hr (pa_cons (pe_callTy (kcr K (r := rTupS) call_tuple_of) (by rfl) M.n_tuple boot_tuple (pa_cons (pe_lc (own := [("text", 4)]) rfl nd (kit K (pi_tup (pv 11))) (blkOk_by (N := N__law_right) (sc := defScope st__law_right) (by decide +kernel)) (fun _ _ _ _ _ => (pg_name (i := 4) nd rfl (Or.inl rfl))) (fun _ _ _ _ _ => pts_nil) (fun _ _ _ _ _ => (pe_slice sl_T (pv 4) po_none (po_some pe_int)))) pa_nil)) (pa_cons (pv 1) pa_nil)))))
  (pss_one (ps_ret pe_bl))
  pss_nil)))))
  (pss_one (ps_ret pe_bl)))))))), ?_⟩
    refine ⟨.ref fa, rfl, fa, rfl, G.mono (by omega), fun pr rep H1 hR hpr R1 h1 => ?_⟩
    have npr : pr ≠ fa := G.new hpr
    have hfew := hR.few
    have hpos := hR.pos
    have RA : ∀ {m : Nat} {Hx : Hp}, Rf fa m H1 Hx → RepAt pr rep Hx := fun R => ⟨R.at_ h1 npr, hR⟩
    show tSeq _ _ _ [some (.ref fa), some (.ref pr), none, none, none, none, none, none, none, none, none, none, none] H1
    refine q_asg (v := T (AB.take rep.length)) (ev_own rfl ⟨h1, hR⟩) fun H2 e2 => ?_
    have hsn : AB.take rep.length ≠ [] := fun z => by
      have := congrArg List.length z
      rw [List.length_take] at this
      have : min rep.length 4 = 0 := this
      omega
    have hsl : (AB.take rep.length).length ≤ 4 := by rw [List.length_take]; show min _ 4 ≤ 4; omega
    have hown : ∀ {t : Tx}, (∀ c ∈ t, c ∈ AB.take rep.length) → Own rep.length t := fun h c hc => (mem_AB hfew).mp (h c hc)
    generalize hsg : AB.take rep.length = sg at hsn hsl hown
    show tSeq _ _ _ [some (.ref fa), some (.ref pr), some (T sg), none, none, none, none, none, none, none, none, none, none] H2
    have R2 : Rf fa 0 H1 H2 := Rf.of_ex e2
    refine q_forW (fun c => c = fa) (src_newL (xs := [.int 4, .int 30, .int 400]) (el_lst (ea_cons ev_c (ea_cons ev_c (ea_cons ev_c ea_nil))) (by show 3 ≤ 100000; decide))) ?_
      (fun Hs i σ' H' => ∃ (v3 v4 v5 v6 v7 v8 v9 : Option V), σ' = [some (.ref fa), some (.ref pr), some (T sg), v3, v4, v5, v6, v7, v8, v9, none, none, none] ∧ Exc (fun c => c = fa) Hs H' ∧ Rf fa (i * 1000) H1 H') ?_ ?_ ?_ ?_ ?_
    · rintro c rfl
      exact ⟨(G.go R1 (m' := 0) (by omega)).ex e2 |>.is, fun z => z⟩
    · intro Hs e
      exact ⟨none, none, none, none, none, none, none, rfl, Exc.refl _, by rw [Nat.zero_mul]; exact R2.then e⟩
    · rintro Hs i σ' H' ⟨_, _, _, _, _, _, _, _, h, _⟩
      exact h
    · rintro Hs i σ' Ha Hb ⟨v3, v4, v5, v6, v7, v8, v9, h0, h2, h3⟩ e
      exact ⟨v3, v4, v5, v6, v7, v8, v9, h0, h2.then e, h3.then e⟩
    · rintro Hs i x σ' H3 e hi ⟨v3, v4, v5, v6, v7, v8, v9, rfl, x3, R3⟩ hx
      have hi3 : i < 3 := hi
      obtain ⟨long, rfl, hlong⟩ : ∃ long : Nat, x = .int (long : Int) ∧ long ≤ 400 := by
        have hm := List.mem_of_getElem? hx
        rcases List.mem_cons.mp hm with z | hm
        · exact ⟨4, z, by decide⟩
        rcases List.mem_cons.mp hm with z | hm
        · exact ⟨30, z, by decide⟩
        · exact ⟨400, List.mem_singleton.mp hm, by decide⟩
      have GX : GF fa 1000 H3 := G.go (R1.trans R3) (by omega)
      show tSeq _ _ _ [some (.ref fa), some (.ref pr), some (T sg), some (.int (long : Int)), v4, v5, v6, v7, v8, v9, none, none, none] H3
      refine wp_text (most := long) rfl (ev_var rfl) (ev_var rfl) GX (by omega) hsn (by omega) (fun t0 H4 ht0 hc0 R4 => ?_) (by omega)
      show tCut _ _ _ [some (.ref fa), some (.ref pr), some (T sg), some (.int (long : Int)), some (T t0), v5, v6, v7, v8, v9, none, none, none] H4
      refine q_cut (M := fun σ' H' => ∃ (text : Tx), σ' = [some (.ref fa), some (.ref pr), some (T sg), some (.int (long : Int)), some (T text), v5, v6, v7, v8, v9, none, none, none] ∧ text.length ≤ 400 ∧ Own rep.length text ∧ Rf fa 900 H3 H') ?_ ?_
      · by_cases hl : long = 400
        · refine s_ifAndT (et_is (et_test (ev_op (ev_var rfl) ev_c rv_I0)) (decide_eq_true (by omega))) fun H5 e5 => ?_
          have R5 := R4.then e5
          refine s_dif (m := 1 + 0) (fun Q q => dw_test (m1 := 1) (m2 := 0) (dI_draw (lo := 3) (hi := 3) rfl dI_c) dI_c (GX.go R5 (m' := 1) (by omega)) Q (fun b H6 R6 => q b H6 R6)) fun b H6 R6 => ?_
          have R7 := R5.trans R6
          cases b with
          | false => exact ⟨t0, rfl, by omega, hown hc0, R7.mono (by omega)⟩
          | true =>
            rw [if_pos rfl]
            have dsg : Dw fa [some (.ref fa), some (.ref pr), some (T sg), some (.int (long : Int)), some (T t0), v5, v6, v7, v8, v9, none, none, none] 0 (tVar 2) (GdT (fun c => 97 ≤ c ∧ c < 97 + rep.length) 1 4) := dT_var rfl (List.length_pos_iff.mpr hsn) hsl (hown fun c hc => hc)
            refine q_dw (dT_mul (b := 13) (c := 60) (d := 60) (dT_sl (dT_add (dT_text (c := 9) rfl dsg (dI_wk dI_c)) dsg) do_none (do_some dI_c)) (dI_c (x := ((60 : Nat) : Int))) (by decide) (by decide)) (GX.go R7 (m' := 10) (by omega)) (fun v H8 ⟨t1, hv, g1, g2, g3⟩ R8 => ?_) (by omega)
            subst hv
            show tAsg _ _ _ [some (.ref fa), some (.ref pr), some (T sg), some (.int (long : Int)), some (T t1), v5, v6, v7, v8, v9, none, none, none] H8
            have R9 := R7.trans R8
            refine ⟨T t1, rfl, dI_oneL (ns := [400, 333, 334, 335]) (lo := 333) (hi := 400) rfl (fun H => el_lst (ea_cons ev_c (ea_cons ev_c (ea_cons ev_c (ea_cons ev_c ea_nil)))) (by show 4 ≤ 100000; decide)) (by decide) (by simp) (by decide) H8 (GX.go R9 (by omega)) _ fun v H9 ⟨k, hk, k1, k2⟩ R10 => ⟨k, hk, t1, rfl, Nat.le_trans g2 (by decide), ?_⟩⟩
            obtain ⟨k, rfl⟩ := Int.eq_ofNat_of_zero_le (show 0 ≤ k by omega)
            refine ⟨t1.take k, by rw [cutT_to]; rfl, by rw [List.length_take]; omega, fun c hc => g3 c (List.mem_of_mem_take hc), (R9.trans R10).mono (by omega)⟩
        · exact s_ifAndF (et_is (et_test (ev_op (ev_var rfl) ev_c rv_I0)) (decide_eq_false (by omega))) fun H5 e5 => ⟨t0, rfl, by omega, hown hc0, (R4.then e5).mono (by omega)⟩
      · rintro σ' H5 ⟨text, rfl, ht1, ht2, R5⟩
        clear R4 hc0 ht0
        have R15 : Rf fa (i * 1000 + 900) H1 H5 := R3.trans R5
        have x5 : Exc (fun c => c = fa) Hs H5 := x3.trans R5.keep
        have hR5 := RA R15
        have hdl := by_len hR ht2
        have hdc := by_abcd hR ht2
        have hlow : LowT (byR rep text) := fun c hc => by have := hdc c hc; unfold abcd at this; omega
        refine q_par2 ((ev_call (ea_cons (ev_var rfl) (ea_cons (ev_var rfl) ea_nil)) (fun H6 e6 Q q E => ⟨pr, rep, text, rfl, hR5.ex e6, ht1, ht2, q⟩) : Ev (tCall sp_replaced_text [] E0 (tCons (tVar 1) (tCons (tVar 4) tNil))) [some (.ref fa), some (.ref pr), some (T sg), some (.int (long : Int)), some (T text), v5, v6, v7, v8, v9, none, none, none] H5 (T (byR rep text))) H5 (Ex.refl _) _ fun H6 e6 => ⟨.ref pr, rfl, T text, rfl, asked0 (E := E0) (hR5.ex e6) ht1 ht2 fun r H7 e7 hF => ⟨_, _, rfl, ?_⟩⟩)
        generalize hdue : byR rep text = due at hdl hdc hlow hF
        have e57 := e6.trans e7
        show tSeq _ _ _ [some (.ref fa), some (.ref pr), some (T sg), some (.int (long : Int)), some (T text), some (T due), some (.ref r), v7, v8, v9, none, none, none] H7
        have hlenD : ∀ {Hx : Hp} {u7 u8 u9 : Option V}, Ev (tCB rLenT (tCons (tVar 5) tNil)) [some (.ref fa), some (.ref pr), some (T sg), some (.int (long : Int)), some (T text), some (T due), some (.ref r), u7, u8, u9, none, none, none] Hx (.int (due.length : Int)) := ev_cb (ea_cons (ev_var rfl) ea_nil) (rc_lenT (by omega))
        refine q_when (b := false) ?_ (fun z => by cases z) (fun _ H8 e8 => ?_)
        · rcases hF with ⟨g1, g2⟩ | ⟨g1, g2⟩
          · exact et_or (a := false) (et_is (et_and (a := false) (b := false) (et_is (et_test (ev_op hlenD ev_c rv_I0)) (decide_eq_false (by omega))) (fun z => by cases z)) rfl) fun _ => et_is (et_and (a := true) (et_is (et_test (ev_op hlenD ev_c rv_I0)) (decide_eq_true (by omega))) fun _ => et_test (ev_neTold (ev_var rfl) g2 (ev_var rfl) hlow)) rfl
          · exact et_or (a := false) (et_is (et_and (a := true) (et_is (et_test (ev_op hlenD ev_c rv_I0)) (decide_eq_true (by omega))) fun _ => et_test (ev_neMany (ev_var rfl) g2)) rfl) fun _ => et_is (et_and (a := false) (b := false) (et_is (et_test (ev_op hlenD ev_c rv_I0)) (decide_eq_false (by omega))) (fun z => by cases z)) rfl
        refine q_when (b := false) ?_ (fun z => by cases z) (fun _ H9 e9 => ?_)
        · have hR8 := hR5.ex (e57.trans e8)
          rcases hF with ⟨g1, g2⟩ | ⟨g1, g2⟩
          · refine et_is (et_and (a := true) (b := false) (et_is (et_test (ev_op hlenD ev_c rv_I0)) (decide_eq_true (by omega))) fun _ => et_is (et_test (ev_op (x := T due) (fun Ha ea Q q => ⟨T text, rfl, .ref pr, rfl, pr, rep, text, rfl, hR8.ex ea, ht1, ht2, fun _ H3 e3 => by rw [hdue]; exact q H3 e3, fun z => absurd z (by rw [hdue]; omega)⟩) (ev_var rfl) rv_neT)) (by rw [decide_eq_true rfl]; rfl)) rfl
          · exact et_is (et_and (a := false) (b := false) (et_is (et_test (ev_op hlenD ev_c rv_I0)) (decide_eq_false (by omega))) (fun z => by cases z)) rfl
        have R9 : Rf fa 900 H3 H9 := ((R5.then e57).then e8).then e9
        have G9 : GF fa 100 H9 := GX.go R9 (by omega)
        -- at, sign
        obtain ⟨mn, hmn, hmn4⟩ : ∃ mn : Nat, (if (400 : Int) < (due.length : Int) then (400 : Int) else (due.length : Int)) = (mn : Int) ∧ mn ≤ 400 := ⟨min due.length 400, by split <;> omega, by omega⟩
        have hmany : Ev (tOp (rI0 fun i j => .int (i + j)) (tCB rMin2 (tCons (tCB rLenT (tCons (tVar 5) tNil)) (tCons (tC (.int 400)) tNil))) (tC (.int 1))) [some (.ref fa), some (.ref pr), some (T sg), some (.int (long : Int)), some (T text), some (T due), some (.ref r), v7, v8, v9, none, none, none] H9 (.int ((mn : Int) + 1)) := ev_op (ev_is (ev_min2 hlenD ev_c) (by rw [hmn])) ev_c rv_I0
        refine q_par2 (wp_draw (many := (mn : Int) + 1) rfl hmany G9 (by omega) (by omega) fun d H10 hd R10 => wp_oneT (s := AB) rfl ev_c (G9.go R10 (m' := 1) (by omega)) (by decide) (by decide) fun c H11 hc R11 => ⟨_, _, rfl, ?_⟩)
        have hd : d ≤ 400 := by omega
        have hcs : abcd c := by have := (mem_AB (n := 4) (Nat.le_refl _)).mp hc; unfold abcd; omega
        have RB : Rf fa 902 H3 H11 := (R9.trans R10).trans R11
        have R16 : Rf fa (i * 1000 + 902) H1 H11 := R3.trans RB
        have x11 : Exc (fun c => c = fa) Hs H11 := x3.trans RB.keep
        show tFor _ _ _ _ [some (.ref fa), some (.ref pr), some (T sg), some (.int (long : Int)), some (T text), some (T due), some (.ref r), some (.int (d : Int)), some (T [c]), v9, none, none, none] H11
        have hc1 : ∀ x ∈ [c], abcd x := fun x hx => by rw [List.mem_singleton.mp hx]; exact hcs
        have app3 : ∀ {a b : Tx}, (∀ x ∈ a, abcd x) → (∀ x ∈ b, abcd x) → ∀ x ∈ a ++ b, abcd x := fun ha hb x hx => (List.mem_append.mp hx).elim (ha x) (hb x)
        have c1 := cutT_len due none (some (d : Int))
        have c2 := cutT_len due (some (d : Int)) none
        have c3 := cutT_len due (some ((d : Int) + 1)) none
        have hl4 : EvL (tLst (tCons (tSl rSlT (tVar 5) tNoPart (tPart (tC (.int 400)))) (tCons (tSl rSlT (tOp rAddT (tOp rAddT (tSl rSlT (tVar 5) tNoPart (tPart (tVar 7))) (tVar 8)) (tSl rSlT (tVar 5) (tPart (tOp (rI0 fun i j => .int (i + j)) (tVar 7) (tC (.int 1)))) tNoPart)) tNoPart (tPart (tC (.int 400)))) (tCons (tSl rSlT (tVar 5) tNoPart (tPart (tVar 7))) (tCons (tSl rSlT (tOp rAddT (tOp rAddT (tSl rSlT (tVar 5) tNoPart (tPart (tVar 7))) (tVar 8)) (tSl rSlT (tVar 5) (tPart (tVar 7)) tNoPart)) tNoPart (tPart (tC (.int 400)))) tNil))))) [some (.ref fa), some (.ref pr), some (T sg), some (.int (long : Int)), some (T text), some (T due), some (.ref r), some (.int (d : Int)), some (T [c]), v9, none, none, none] H11 ([cutT due none (some 400), cutT (cutT due none (some (d : Int)) ++ [c] ++ cutT due (some ((d : Int) + 1)) none) none (some 400), cutT due none (some (d : Int)), cutT (cutT due none (some (d : Int)) ++ [c] ++ cutT due (some (d : Int)) none) none (some 400)].map T) := by
          refine el_lst (ea_cons (ev_slT (ev_var rfl) eo_none (eo_some ev_c) (by omega)) (ea_cons (ev_slT (ev_op (ev_op (ev_slT (ev_var rfl) eo_none (eo_some (ev_var rfl)) (by omega)) (ev_var rfl) (rv_addT (by show _ + 1 ≤ _; omega))) (ev_slT (ev_var rfl) (eo_some (ev_op (ev_var rfl) ev_c rv_I0)) eo_none (by omega)) (rv_addT (by rw [List.length_append]; show _ + 1 + _ ≤ _; omega))) eo_none (eo_some ev_c) (by rw [List.length_append, List.length_append]; show _ + 1 + _ ≤ _; omega)) (ea_cons (ev_slT (ev_var rfl) eo_none (eo_some (ev_var rfl)) (by omega)) (ea_cons (ev_slT (ev_op (ev_op (ev_slT (ev_var rfl) eo_none (eo_some (ev_var rfl)) (by omega)) (ev_var rfl) (rv_addT (by show _ + 1 ≤ _; omega))) (ev_slT (ev_var rfl) (eo_some (ev_var rfl)) eo_none (by omega)) (rv_addT (by rw [List.length_append]; show _ + 1 + _ ≤ _; omega))) eo_none (eo_some ev_c) (by rw [List.length_append, List.length_append]; show _ + 1 + _ ≤ _; omega)) ea_nil)))) (by show 4 ≤ 100000; decide)
        have hgood : ∀ t ∈ [cutT due none (some 400), cutT (cutT due none (some (d : Int)) ++ [c] ++ cutT due (some ((d : Int) + 1)) none) none (some 400), cutT due none (some (d : Int)), cutT (cutT due none (some (d : Int)) ++ [c] ++ cutT due (some (d : Int)) none) none (some 400)], t.length ≤ 400 ∧ ∀ x ∈ t, abcd x := fun t ht => by
          rcases List.mem_cons.mp ht with z | ht
          · rw [z]; exact ⟨cut400 _, cut_in hdc⟩
          rcases List.mem_cons.mp ht with z | ht
          · rw [z]; exact ⟨cut400 _, cut_in (app3 (app3 (cut_in hdc) hc1) (cut_in hdc))⟩
          rcases List.mem_cons.mp ht with z | ht
          · rw [z]; exact ⟨by rw [cutT_to, List.length_take]; omega, cut_in hdc⟩
          · rw [List.mem_singleton.mp ht]; exact ⟨cut400 _, cut_in (app3 (app3 (cut_in hdc) hc1) (cut_in hdc))⟩
        generalize [cutT due none (some 400), cutT (cutT due none (some (d : Int)) ++ [c] ++ cutT due (some ((d : Int) + 1)) none) none (some 400), cutT due none (some (d : Int)), cutT (cutT due none (some (d : Int)) ++ [c] ++ cutT due (some (d : Int)) none) none (some 400)] = ones at hl4 hgood
        refine s_forW (fun _ => False) (src_newLM hl4) (fun _ z => z.elim)
          (fun Ht j σ' H12 => ∃ (v9 : Option V), σ' = [some (.ref fa), some (.ref pr), some (T sg), some (.int (long : Int)), some (T text), some (T due), some (.ref r), some (.int (d : Int)), some (T [c]), v9, none, none, none] ∧ Ex Ht H12) ?_ ?_ ?_ ?_ ?_
        · intro Ht e12
          exact ⟨_, rfl, Ex.refl _⟩
        · rintro Ht j σ' H12 ⟨_, _, z⟩
          exact .of z
        · rintro Ht j σ' Ha Hb ⟨v9, z0, z1⟩ e
          exact ⟨v9, z0, z1.trans e⟩
        · rintro Ht j y σ' H12 e12 hj ⟨v9, rfl, z1⟩ hy
          obtain ⟨t, ht, rfl⟩ := at_map hy
          obtain ⟨g1, g2⟩ := hgood t (List.mem_of_getElem? ht)
          show tIfS _ _ _ _ [some (.ref fa), some (.ref pr), some (T sg), some (.int (long : Int)), some (T text), some (T due), some (.ref r), some (.int (d : Int)), some (T [c]), some (T t), none, none, none] H12
          refine s_when (b := false) (et_is (et_not (et_B (ev_call (ea_cons (ev_var rfl) (ea_cons (ev_var rfl) ea_nil)) fun H13 e13 Q q E => ⟨pr, rep, t, rfl, (RA R16).ex ((e12.trans z1).trans e13), g1, g2, q⟩))) rfl) (fun z => by cases z) (fun _ H13 e13 => ⟨_, rfl, z1.trans e13⟩)
        · rintro Ht σ' H12 e12 ⟨v9, rfl, z1⟩
          have e1112 := e12.trans z1
          exact ⟨_, _, _, _, _, _, _, rfl, x11.then e1112, (R16.then e1112).mono (by omega)⟩
    · rintro Hs σ' H3 e ⟨v3, v4, v5, v6, v7, v8, v9, rfl, x3, R3⟩
      have R3 : Rf fa 3000 H1 H3 := R3
      have R13 : Rf fa 24000 H H3 := R1.trans R3
      refine q_orD (et_is (et_not (et_B (ev_call (ea_cons (ev_var rfl) (ea_cons ev_c ea_nil)) fun H4 e4 Q q E => ⟨pr, rep, [], rfl, (RA R3).ex e4, by decide, fun c hc => (nomatch hc), q⟩))) rfl) (fun H4 e4 => ?_)
      · have R4 := R13.then e4
        refine ⟨.ref pr, rfl, wp_text (s := AB) (most := 9) rfl ev_c ev_c (G.go R4 (m' := 10) (by omega)) (by decide) (by decide) (by decide) (fun t H5 ht hc R5 => ⟨pr, rep, t, rfl, RA ((R3.then e4).trans R5), by omega, fun c hc' => by have := (mem_AB (n := 4) (Nat.le_refl _)).mp (hc c hc'); unfold abcd; omega, fun H6 e6 => ⟨true, rfl, if_F rfl ?_⟩⟩) (by omega)⟩
        have R6 : Rf fa 24010 H H6 := (R4.trans R5).then e6
        have R6' : Rf fa 3010 H1 H6 := ((R3.then e4).trans R5).then e6
        clear R13 R4 R5 e6 e4 R3 x3
        have hfa : ∀ {σ : L2.St} {Hx : Hp}, Ex H6 Hx → σ[1]? = some (some (.ref pr)) → Ev (tCall sp_faithful [] E0 (tCons (tVar 1) tNil)) σ Hx (.bl (faithB rep)) := fun e h0 => ev_call (ea_cons (ev_var h0) ea_nil) fun H7 e7 Q q E => ⟨pr, rep, rfl, (RA R6').ex (e.trans e7), q⟩
        refine q_when (b := false) (et_is (et_or (et_not (et_B (ev_call (z := .bl true) (ea_cons (hfa (Ex.refl _) rfl) (ea_cons (hfa (Ex.refl _) rfl) ea_nil)) fun H7 e7 Q q E => ⟨faithB rep, faithB rep, rfl, fun H8 e8 => by rw [decide_eq_true rfl]; exact q H8 e8⟩))) fun _ => et_not (et_B (ev_call (z := .bl true) (ea_cons (x := .bl (faithB rep)) (fun H7 e7 Q q => ⟨.ref pr, rfl, pr, rep, rfl, (RA R6').ex e7, q⟩) (ea_cons (hfa (Ex.refl _) rfl) ea_nil)) fun H7 e7 Q q E => ⟨faithB rep, faithB rep, rfl, fun H8 e8 => by rw [decide_eq_true rfl]; exact q H8 e8⟩))) rfl) (fun z => by cases z) (fun _ H7 e7 => ?_)
        have R7 : Rf fa 24010 H H7 := R6.then e7
        have R7' := R6'.then e7
        -- three times two replacings
        refine q_forW (fun c => c = fa) (src_range1 (n := 3) (ea_cons ev_c ea_nil) (by decide)) ?_
          (fun Hs i σ' H' => ∃ (v10 v11 v12 : Option V), σ' = [some (.ref fa), some (.ref pr), some (T sg), v3, v4, v5, v6, v7, v8, v9, v10, v11, v12] ∧ Exc (fun c => c = fa) Hs H' ∧ Rf fa (i * 42000) H7 H') ?_ ?_ ?_ ?_ ?_
        · rintro c rfl
          exact ⟨(G.go R7 (m' := 0) (by omega)).is, fun z => z⟩
        · intro Hs e
          exact ⟨none, none, none, rfl, Exc.refl _, by rw [Nat.zero_mul]; exact Rf.of_ex e⟩
        · rintro Hs i σ' H' ⟨_, _, _, _, h, _⟩
          exact h
        · rintro Hs i σ' Ha Hb ⟨v10, v11, v12, h0, h2, h3⟩ e
          exact ⟨v10, v11, v12, h0, h2.then e, h3.then e⟩
        · rintro Hs i x σ' H8 e hi ⟨v10, v11, v12, rfl, x8, R8⟩ rfl
          have GX : GF fa 42000 H8 := G.go (R7.trans R8) (by omega)
          show tSeq _ _ _ [some (.ref fa), some (.ref pr), some (T sg), v3, v4, v5, v6, v7, v8, v9, some (.int (i : Int)), v11, v12] H8
          refine q_par2 ⟨.ref fa, rfl, fa, rfl, GX.mono (by omega), fun pf fst_ H9 hRf hpf R9 h9 => ⟨.ref fa, rfl, fa, rfl, GX.go R9 (by omega), fun ps snd_ H10 hRs hps R10 h10 => ⟨_, _, rfl, ?_⟩⟩⟩
          have nf : pf ≠ fa := GX.new hpf
          have R810 : Rf fa 42000 H8 H10 := R9.trans R10
          have hf10 : RepAt pf fst_ H10 := ⟨R10.at_ h9 nf, hRf⟩
          have hr10 : RepAt pr rep H10 := RA ((R7'.trans R8).trans R810)
          have hs10 : RepAt ps snd_ H10 := ⟨h10, hRs⟩
          show tSeq _ _ _ [some (.ref fa), some (.ref pr), some (T sg), v3, v4, v5, v6, v7, v8, v9, some (.int (i : Int)), some (.ref pf), some (.ref ps)] H10
          refine q_when (b := false) (et_is (et_or (et_not (et_B (ev_call (ea_cons (ev_var rfl) (ea_cons (ev_var rfl) ea_nil)) fun H11 e11 Q q E => ⟨pf, pr, fst_, rep, rfl, hf10.ex e11, hr10.ex e11, q⟩))) fun _ => et_not (et_B (ev_call (ea_cons (ev_var rfl) (ea_cons (ev_var rfl) ea_nil)) fun H11 e11 Q q E => ⟨pr, ps, rep, snd_, rfl, hr10.ex e11, hs10.ex e11, q⟩))) rfl) (fun z => by cases z) (fun _ H11 e11 => ?_)
          have hcut : EvL (tLc (iTup K (tVar 11)) (gName 4) tYes (tSl rSlT (tVar 4) tNoPart (tPart (tC (.int 3)))) [4]) [some (.ref fa), some (.ref pr), some (T sg), v3, v4, v5, v6, v7, v8, v9, some (.int (i : Int)), some (.ref pf), some (.ref ps)] H11 ((fst_.map fun t => t.take 3).map T) := by
            rw [List.map_map]
            exact el_lcM (j := 4) (vs := [4]) (f := T) (g := fun t => T (t.take 3)) fst_ (src_tupM (ev_var rfl) (st_of (e11 _ _ hf10.1))) (by have := hRf.few; omega) (fun _ => rfl) fun t H12 e12 ht => ev_is (ev_slT (ev_var rfl) eo_none (eo_some ev_c) (by have := (hRf.wd t ht).1; omega)) (by rw [show (3 : Int) = ((3 : Nat) : Int) from rfl, cutT_to])
          have hRc : IsRep (fst_.map fun t => t.take 3) := ⟨fun z => hRf.ne (List.map_eq_nil_iff.mp z), by rw [List.length_map]; exact hRf.few, fun t ht => by
            obtain ⟨t', ht', rfl⟩ := List.mem_map.mp ht
            exact ⟨by rw [List.length_take]; omega, fun c hc => (hRf.wd t' ht').2 c (List.mem_of_mem_take hc)⟩⟩
          refine s_when (b := false) (et_is (et_not (et_B (b := true) ?_)) rfl) (fun z => by cases z) (fun _ H12 e12 => ⟨_, _, _, rfl, (x8.trans R810.keep).then (e11.trans e12), ((R8.trans R810).then (e11.trans e12)).mono (by omega)⟩)
          exact fun H12 e12 Q q => eu_tupL hcut H12 e12 _ fun pc H13 hpc e13 h13 => ⟨.ref pr, rfl, pc, pr, _, rep, rfl, ⟨h13, hRc⟩, hr10.ex ((e11.trans e12).trans e13), fun H14 e14 => q H14 (e13.trans e14)⟩
        · rintro Hs σ' H8 e ⟨v10, v11, v12, rfl, x8, R8⟩
          have R8 : Rf fa 126000 H7 H8 := R8
          exact s_ret ev_c fun H9 e9 => ret H9 (((R7.trans R8).then e9).mono (by decide))
end
end K21
set_option Elab.async false
set_option linter.all false
set_option maxRecDepth 100000
set_option maxHeartbeats 2000000
set_option exponentiation.threshold 5000
namespace K21
open PySem PySem.Spec PyProof.Rows L2 Evl Wc
section
variable {P : Program} {w : World} {K : PySem.W.Frag} {mg : Str → Option Value} {base : Heap}
theorem ok__law_feed {f : Addr} {fd : FuncData} (F : Fun K "_law_feed" "_law_feed" st__law_feed f fd) (M : Md K mg) : FnOk P w K mg base CX0 1 f fd ["script", "k"] (sp_feed K) := by
  have nd := sc__law_feed.nd
  refine F.ok sc__law_feed (fun vs H Q E h => ?_) (fun cdv A outer s H vs Q E hr h => ?_)
  · obtain ⟨_, _, _, _, rfl, _⟩ := h
    rfl
  · obtain ⟨a, ns, k, e, rfl, hS, hk, he1, he2, hz, kk⟩ := h
    refine ⟨_, (pss_cons (ps_set (i := 2) nd rfl (Or.inl rfl) (pe_op op_add (pe_op op_mulB pe_int (pv 1)) (pe_callB (kcr K (r := rSum) (cr_sum rfl)) (by rfl) M.n_sum boot_sum (pa_cons (pe_slice (ksl K (r := rSlL) sl_list) (pv 0) po_none (po_some pe_int)) pa_nil))))
  (pss_cons (ps_if (pt_cmpR op_lt (pv 1) (pe_callB (kcr K (r := rLenS) call_len_seq) (by rfl) M.n_len boot_len (pa_cons (pv 0) pa_nil)) (nomark _))
  (pss_one (ps_set (i := 2) nd rfl (Or.inl rfl) (pe_ix (kix K (r := L2.rIxL) ix_list) (pv 0) (pv 1) (fun _ _ => rfl))))
  pss_nil)
  (pss_one (ps_ret (pe_lst (pa_cons (pe_callB (call_max2 rfl) (by rfl) M.n_max boot_max (pa_cons pe_int (pa_cons (pe_op op_sub (pv 2) (pe_op op_pow pe_int pe_int)) pa_nil))) (pa_cons (pe_op op_modP (pe_callTy call_int1 (by rfl) M.n_int boot_int (pa_cons (pe_op op_add (pe_op op_mulB (pv 2) pe_int) (pe_op op_mulB pe_int (pv 1))) pa_nil)) (pe_op op_add (pe_op op_pow pe_int pe_int) pe_int)) (pa_cons pe_int pa_nil)))))))), ?_⟩
    have hsum : Ev (tCB (rSum K) (tCons (tSl (rSlL K) (tVar 0) tNoPart (tPart (tC (.int 1)))) tNil)) (start N__law_feed [.ref a, .int (k : Int)]) H (.int (ns.take 1).sum) := by
      refine ev_cbL (el_sl (ev_var rfl) eo_none (eo_some ev_c) hS) fun p H1 hp e1 => rc_sum (ns := ns.take 1) (sq_of ?_)
      have ec : cutV (ns.map V.int) none (some 1) = (ns.take 1).map V.int := by
        rw [List.map_take]
        exact cutV_to _ 1
      rw [hp, ec]
    have hs1 : (ns.take 1).sum.natAbs < 2 ^ e := by
      cases ns with
      | nil => exact Nat.pow_pos (by decide)
      | cons z r =>
        have := hz z List.mem_cons_self
        simpa using this
    refine q_asg (ev_op (ev_op ev_c (ev_var rfl) (rv_I (mulB (a := 20) (b := 20) (by decide) (by simp; omega) (by decide) (by decide) (by decide)))) hsum rv_I0) fun H1 e1 => ?_
    -- what cell is behind the if
    have rest : ∀ (cell : Int) H2, Ex H H2 → cell.natAbs < 2 ^ (e + 72) → ∀ {tz : TS}, (∀ {te : TE}, EvL te [some (.ref a), some (.int (k : Int)), some (.int cell)] H2 [.int (if cell - 10 ^ (18 : Int).toNat > 0 then cell - 10 ^ (18 : Int).toNat else 0), .int ((cell * 19 + 7 * (k : Int)) % (10 ^ (39 : Int).toNat + 23)), .int 0] → tRet te { nx := fun _ H' => Q .non H', rt := Q } [some (.ref a), some (.int (k : Int)), some (.int cell)] H2) := fun cell H2 e2 hc {tz te} h => by
      refine s_retL h fun fa H3 nfa e3 hfa => kk fa H3 (fresh_back e2 nfa) (e2.trans e3) ?_
      have hd : (cell + -(10 : Int) ^ (18 : Int).toNat).natAbs < 2 ^ (e + 72 + 72) := pow_add_small hc (by decide)
      refine ⟨_, _, _, e + 144, hfa, ?_, by omega, by omega, ?_, Int.emod_nonneg _ (by decide), Int.lt_trans (Int.emod_lt_of_pos _ (by decide)) (by decide), Int.le_refl _, Int.le_refl _⟩
      · split
        · omega
        · exact Int.le_refl _
      · split
        · rw [Int.sub_eq_add_neg]
          exact hd
        · exact Nat.pow_pos (by decide)
    have hfin : ∀ (cell : Int) H2, Ex H H2 → cell.natAbs < 2 ^ (e + 72) → EvL _ [some (.ref a), some (.int (k : Int)), some (.int cell)] H2 [.int (if cell - 10 ^ (18 : Int).toNat > 0 then cell - 10 ^ (18 : Int).toNat else 0), .int ((cell * 19 + 7 * (k : Int)) % (10 ^ (39 : Int).toNat + 23)), .int 0] := fun cell H2 e2 hc =>
      el_lst (ea_cons (ev_max2 ev_c (ev_op (ev_var (i := 2) rfl) (ev_op ev_c ev_c (rv_I (C := CPow) (g := fun i j => .int (i ^ j.toNat)) ⟨by decide, by decide, by decide⟩)) (rv_I0 (g := fun i j => .int (i - j))))) (ea_cons (ev_op (ev_cb (ea_cons (ev_op (ev_op (ev_var (i := 2) rfl) ev_c (rv_I (C := CMulB) (g := fun i j => .int (i * j)) (mulB hc (b := 10) (by decide) (by omega) (by decide) (by omega)))) (ev_op ev_c (ev_var (i := 1) rfl) (rv_I (C := CMulB) (g := fun i j => .int (i * j)) (mulB (a := 20) (b := 20) (by decide) (by simp; omega) (by decide) (by decide) (by decide)))) (rv_I0 (g := fun i j => .int (i + j)))) ea_nil) rc_int)
        (ev_op (ev_op ev_c ev_c (rv_I (C := CPow) (g := fun i j => .int (i ^ j.toNat)) ⟨by decide, by decide, by decide⟩)) ev_c (rv_I0 (g := fun i j => .int (i + j)))) (rv_I (C := fun _ j => 0 < j) (g := fun i j => .int (i % j)) (by decide))) (ea_cons ev_c ea_nil))) (by show 3 ≤ 100000; decide)
    refine q_when (et_test (ev_op (ev_var rfl) (ev_len (ev_var rfl) (ex_l e1 hS)) rv_I0)) (fun hb H2 e2 => ?_) (fun hb H2 e2 => ?_)
    · have hlt : k < ns.length := by
        have := of_decide_eq_true hb
        rw [List.length_map] at this
        omega
      refine s_asg (v := .int ns[k]) (ev_op (ev_var rfl) (ev_var rfl) (rv_ixL (ex_l (e1.trans e2) hS) (atI_nat (by rw [List.getElem?_map, List.getElem?_eq_getElem hlt]; rfl)))) fun H3 e3 => ?_
      exact rest ns[k] H3 ((e1.trans e2).trans e3) (Nat.lt_of_lt_of_le (hz _ (List.getElem_mem hlt)) (Nat.pow_le_pow_right (by decide) (by omega))) (tz := tNext) (hfin ns[k] H3 ((e1.trans e2).trans e3) (Nat.lt_of_lt_of_le (hz _ (List.getElem_mem hlt)) (Nat.pow_le_pow_right (by decide) (by omega))))
    · have hc : (977 * (k : Int) + (ns.take 1).sum).natAbs < 2 ^ (e + 72) := by
        rw [Int.add_comm]
        refine pow_add_small hs1 (Nat.le_trans (show (977 * (k : Int)).natAbs ≤ 1000000 by omega) (by decide))
      exact rest _ H2 (e1.trans e2) hc (tz := tNext) (hfin _ H2 (e1.trans e2) hc)
end
end K21
set_option Elab.async false
set_option linter.all false
set_option maxRecDepth 100000
set_option maxHeartbeats 2000000
namespace K21
open PySem PySem.Spec PyProof.Rows L2 Evl Wc Wt Wg Ws Wr _root_.Wd
section
variable {P : Program} {w : World} {K : PySem.W.Frag} {mg : Str → Option Value} {base : Heap}
def sp_law (K : PySem.W.Frag) : Sp := fun vs H Q _ => ∃ (a : Addr) (ns : List Int) (e : Nat), vs = [.ref a] ∧ SqL K H a (ns.map V.int) ∧ ns.length ≤ 63 ∧ 1 ≤ e ∧ e ≤ 1100000 ∧ (∀ z ∈ ns, z.natAbs < 2 ^ e) ∧ ∀ H', Q (.bl true) H'
theorem ok_law {f : Addr} {fd : FuncData} (F : Fun K "law" "law" st_law f fd) (M : Md K mg) (C__law_feed : Cal P w K mg base "_law_feed" st__law_feed 1 ["script", "k"] (sp_feed K)) (C__law_right : Cal P w K mg base "_law_right" st__law_right 7 ["feed"] sp_law_right) : FnOkG P w K mg base 8 f fd ["script"] (sp_law K) := by
  have nd := sc_law.nd
  refine Fun.okG F sc_law (fun vs H Q E h => ?_) (fun cdv A outer s H vs Q E hr hgd h => ?_)
  · obtain ⟨_, _, _, rfl, _⟩ := h
    rfl
  · obtain ⟨a, ns, e, rfl, hS, hlen, he1, he2, hz, k⟩ := h
    refine ⟨_, (pss_cons (ps_for PassesOwn.never rfl (pi_range1 (by rfl) M.n_range (pa_cons (pe_callB (call_max2 rfl) (by rfl) M.n_max boot_max (pa_cons pe_int (pa_cons (pe_callB (call_min2 rfl) (by rfl) M.n_min boot_min (pa_cons (pe_callB (kcr K (r := rLenS) call_len_seq) (by rfl) M.n_len boot_len (pa_cons (pv 0) pa_nil)) (pa_cons pe_int pa_nil))) pa_nil))) pa_nil)) (pg_name (i := 1) nd rfl (Or.inl rfl))
  (pss_one (ps_if (pt_not (pt_val (pe_cl C__law_right hr (pa_cons (pe_cl C__law_feed hr (pa_cons (pv 0) (pa_cons (pv 1) pa_nil))) pa_nil))))
  (pss_one (ps_ret pe_bl))
  pss_nil)))
  (pss_one (ps_ret pe_bl))), ?_⟩
    obtain ⟨n, hn6, hn⟩ : ∃ n : Nat, n ≤ 6 ∧ (if (if (6 : Int) < ((ns.map V.int).length : Int) then (6 : Int) else ((ns.map V.int).length : Int)) > 1 then (if (6 : Int) < ((ns.map V.int).length : Int) then (6 : Int) else ((ns.map V.int).length : Int)) else 1) = (n : Int) := by
      refine ⟨max 1 (min ns.length 6), by omega, ?_⟩
      rw [List.length_map]
      split <;> split <;> omega
    have hcnt : EvA (tCons (tCB rMax2 (tCons (tC (.int 1)) (tCons (tCB rMin2 (tCons (tCB (rLenS K) (tCons (tVar 0) tNil)) (tCons (tC (.int 6)) tNil))) tNil))) tNil) (start N_law [.ref a]) H [.int (n : Int)] :=
      ea_cons (ev_is (ev_max2 ev_c (ev_min2 (ev_len (ev_var rfl) hS) ev_c)) (by rw [hn])) ea_nil
    refine q_forW (fun _ => False) (src_range1 (n := n) hcnt (by omega)) (fun _ z => z.elim)
      (fun Hs i σ' H' => ∃ v1 : Option V, σ' = [some (.ref a), v1] ∧ Ex Hs H') ?_ ?_ ?_ ?_ ?_
    · intro Hs e
      exact ⟨none, rfl, Ex.refl _⟩
    · rintro Hs i σ' H' ⟨_, _, h1⟩
      exact .of h1
    · rintro Hs i σ' Ha Hb ⟨v1, h0, h1⟩ e
      exact ⟨v1, h0, h1.trans e⟩
    · rintro Hs i x σ' H' e0 hi ⟨v1, rfl, h1⟩ rfl
      have eA : Ex H H' := e0.trans h1
      show tIfS _ _ _ _ [some (.ref a), some (.int (i : Int))] H'
      refine ⟨.ref a, rfl, .int (i : Int), rfl, a, ns, i, e, rfl, ex_l eA hS, by omega, he1, he2, hz, fun fa H2 hfa e2 hF => ?_⟩
      have G0 : GF fa 200000 H2 := ⟨0, by decide, hF⟩
      exact ⟨fa, rfl, G0, fun H3 R3 => ⟨true, rfl, ⟨_, rfl, h1.trans (ex_of_exc e2 hfa R3.keep)⟩⟩⟩
    · rintro Hs σ' H' e0 ⟨v1, rfl, h1⟩
      exact s_ret ev_c fun H2 e2 => k H2
end
end K21
set_option Elab.async false
set_option linter.all false
set_option maxRecDepth 100000
set_option maxHeartbeats 2000000
namespace K21
open PySem PySem.Spec PyProof.Rows L2 Evl Wc Wt Wg Ws Wr _root_.Wd
/-- a def of the top, as it stands -/
def Top (K : PySem.W.Frag) (x : Str) (st : Stmt) : Prop := ∃ (f : Addr) (oc : Value) (od an : Option Addr) (osl : Array (Option Value)) (kV doc pm cdv ct : Value), PySem.W.nsIn K mainGlobals x = some (some (.ref f)) ∧ K.lookup f = some ⟨oc, od, .func (PySem.W.fnOf x x (defArgs st) (defBody st) (defScope st) .none kV doc pm an cdv ct), osl⟩ ∧ PySem.W.codeIn K cdv x = true ∧ PySem.W.keepIn K (.ref f) = true
theorem top_mk {K : PySem.W.Frag} {x : Str} {st : Stmt} {f : Addr} {oc : Value} {od an : Option Addr} {osl : Array (Option Value)} {kV doc pm cdv ct : Value} (a : PySem.W.nsIn K mainGlobals x = some (some (.ref f))) (l : K.lookup f = some ⟨oc, od, .func (PySem.W.fnOf x x (defArgs st) (defBody st) (defScope st) .none kV doc pm an cdv ct), osl⟩) (c : PySem.W.codeIn K cdv x = true) (k : PySem.W.keepIn K (.ref f) = true) : Top K x st := ⟨f, oc, od, an, osl, kV, doc, pm, cdv, ct, a, l, c, k⟩
section
variable {P : Program} {w : World} {K : PySem.W.Frag} {mg : Str → Option Value} {base h : Heap} {x : Str} {st : Stmt} {k : Nat} {ps : List Str} {sp : Sp}
theorem Top.cal (T : Top K x st) (X : K.In h) (G : h.Ns mainGlobals mg)
    (hb : ∀ (kV doc pm : Value) (an : Option Addr) (cdv ct : Value) (us : List Value), us.length = ps.length → bindArgs (PySem.W.fnOf x x (defArgs st) (defBody st) (defScope st) .none kV doc pm an cdv ct) ⟨us, []⟩ = pure (ps.zip us))
    (ok : ∀ f fd, Fun K x x st f fd → FnOk P w K mg base CX0 k f fd ps sp) : Cal P w K mg base x st k ps sp := by
  obtain ⟨f, oc, od, an, osl, kV, doc, pm, cdv, ct, a, l, c, k⟩ := T
  have F := fun_mk (st := st) l c k
  exact ⟨f, _, ok _ _ F, PySem.W.mg_of X G a, F, F.binds hb⟩
theorem Top.calG (T : Top K x st) (X : K.In h) (G : h.Ns mainGlobals mg)
    (hb : ∀ (kV doc pm : Value) (an : Option Addr) (cdv ct : Value) (us : List Value), us.length = ps.length → bindArgs (PySem.W.fnOf x x (defArgs st) (defBody st) (defScope st) .none kV doc pm an cdv ct) ⟨us, []⟩ = pure (ps.zip us))
    (ok : ∀ f fd, Fun K x x st f fd → FnOkG P w K mg base k f fd ps sp) : CalG P w K mg base x st k ps sp := by
  obtain ⟨f, oc, od, an, osl, kV, doc, pm, cdv, ct, a, l, c, k⟩ := T
  have F := fun_mk (st := st) l c k
  exact ⟨f, _, ok _ _ F, PySem.W.mg_of X G a, F, F.binds hb⟩
theorem Top.calS (T : Top K x st) (X : K.In h) (G : h.Ns mainGlobals mg)
    (hb : ∀ (kV doc pm : Value) (an : Option Addr) (cdv ct : Value) (us : List Value), us.length = ps.length → bindArgs (PySem.W.fnOf x x (defArgs st) (defBody st) (defScope st) .none kV doc pm an cdv ct) ⟨us, []⟩ = pure (ps.zip us))
    (ok : ∀ f fd, Fun K x x st f fd → FnOk P w K mg base (L2.CX P w) k f fd ps sp) : CalS P w K mg base x st k ps sp := by
  obtain ⟨f, oc, od, an, osl, kV, doc, pm, cdv, ct, a, l, c, k⟩ := T
  have F := fun_mk (st := st) l c k
  exact ⟨f, _, ok _ _ F, PySem.W.mg_of X G a, F, F.binds hb⟩
/-- .. by its address, its name a value -/
theorem Top.at_ (T : Top K x st) (X : K.In h) (G : h.Ns mainGlobals mg)
    (hb : ∀ (kV doc pm : Value) (an : Option Addr) (cdv ct : Value) (us : List Value), us.length = ps.length → bindArgs (PySem.W.fnOf x x (defArgs st) (defBody st) (defScope st) .none kV doc pm an cdv ct) ⟨us, []⟩ = pure (ps.zip us))
    (ok : ∀ f fd, Fun K x x st f fd → FnOk P w K mg base CX0 k f fd ps sp) : ∃ f, C8.CalAt P w K mg base k f sp ∧ ∃ u, mg x = some u ∧ RelV (.ref f) u := by
  obtain ⟨f, oc, od, an, osl, kV, doc, pm, cdv, ct, a, l, c, k⟩ := T
  have F := fun_mk (st := st) l c k
  exact ⟨f, ⟨_, ps, ok _ _ F, k, F.binds hb⟩, _, PySem.W.mg_of X G a, rfl⟩
/-- .. whatever its context -/
theorem Top.fn {CX : CXT} (T : Top K x st) (X : K.In h) (G : h.Ns mainGlobals mg)
    (hb : ∀ (kV doc pm : Value) (an : Option Addr) (cdv ct : Value) (us : List Value), us.length = ps.length → bindArgs (PySem.W.fnOf x x (defArgs st) (defBody st) (defScope st) .none kV doc pm an cdv ct) ⟨us, []⟩ = pure (ps.zip us))
    (ok : ∀ f fd, Fun K x x st f fd → FnOk P w K mg base CX k f fd ps sp) : ∃ f fd, FnOk P w K mg base CX k f fd ps sp ∧ Binds K fd ps [] ∧ mg x = some (.ref f) ∧ PySem.W.keepIn K (.ref f) = true := by
  obtain ⟨f, oc, od, an, osl, kV, doc, pm, cdv, ct, a, l, c, k⟩ := T
  have F := fun_mk (st := st) l c k
  exact ⟨f, _, ok _ _ F, F.binds hb, PySem.W.mg_of X G a, k⟩
/-- a method, as it stands -/
def TopM (K : PySem.W.Frag) (C : Addr) (m q : Str) (st : Stmt) : Prop := ∃ (f : Addr) (oc : Value) (od an : Option Addr) (osl : Array (Option Value)) (kV doc pm cdv ct : Value), PySem.W.findIn K (.ref C) m = some (some (.ref f)) ∧ PySem.W.isFn K (.ref f) = true ∧ K.lookup f = some ⟨oc, od, .func (PySem.W.fnOf m q (defArgs st) (defBody st) (defScope st) .none kV doc pm an cdv ct), osl⟩ ∧ PySem.W.codeIn K cdv q = true ∧ PySem.W.keepIn K (.ref f) = true
theorem topm_mk {C : Addr} {m q : Str} {f : Addr} {oc : Value} {od an : Option Addr} {osl : Array (Option Value)} {kV doc pm cdv ct : Value} (a : PySem.W.findIn K (.ref C) m = some (some (.ref f))) (i : PySem.W.isFn K (.ref f) = true) (l : K.lookup f = some ⟨oc, od, .func (PySem.W.fnOf m q (defArgs st) (defBody st) (defScope st) .none kV doc pm an cdv ct), osl⟩) (c : PySem.W.codeIn K cdv q = true) (k : PySem.W.keepIn K (.ref f) = true) : TopM K C m q st := ⟨f, oc, od, an, osl, kV, doc, pm, cdv, ct, a, i, l, c, k⟩
theorem TopM.met {C : Addr} {m q : Str} (T : TopM K C m q st) (cl : Cls K C)
    (hb : ∀ (kV doc pm : Value) (an : Option Addr) (cdv ct : Value) (us : List Value), us.length = ps.length → bindArgs (PySem.W.fnOf m q (defArgs st) (defBody st) (defScope st) .none kV doc pm an cdv ct) ⟨us, []⟩ = pure (ps.zip us))
    (ok : ∀ f fd, Fun K m q st f fd → FnOk P w K mg base CX0 k f fd ps sp) : C8.Met P w K mg base k C m sp [] := by
  obtain ⟨f, oc, od, an, osl, kV, doc, pm, cdv, ct, a, i, l, c, k⟩ := T
  have F := fun_mk (st := st) l c k
  exact ⟨f, _, ps, [], cl, ⟨a, i, k⟩, ok _ _ F, F.binds hb, .nil⟩
theorem TopM.mak {C : Addr} {q : Str} (T : TopM K C "__init__" q st) (X : K.In h) (G : h.Ns mainGlobals mg) (n : PySem.W.nsIn K mainGlobals x = some (some (.ref C))) (mk : PySem.W.makesIn K C = true) (kc : PySem.W.keepIn K (.ref C) = true)
    (hb : ∀ (kV doc pm : Value) (an : Option Addr) (cdv ct : Value) (us : List Value), us.length = ps.length → bindArgs (PySem.W.fnOf "__init__" q (defArgs st) (defBody st) (defScope st) .none kV doc pm an cdv ct) ⟨us, []⟩ = pure (ps.zip us))
    (ok : ∀ f fd, Fun K "__init__" q st f fd → FnOk P w K mg base CX0 k f fd ps sp) : Mak P w K mg base k C x sp := by
  obtain ⟨f, oc, od, an, osl, kV, doc, pm, cdv, ct, a, i, l, c, k⟩ := T
  have F := fun_mk (st := st) l c k
  exact ⟨f, _, ps, ⟨mk, a, i, kc⟩, ok _ _ F, F.binds hb, PySem.W.mg_of X G n⟩
end
theorem all_mk {l : PySem.W.OpenLaw} {w : World} {K : PySem.W.Frag} {h : Heap} {mg : Str → Option Value} {fa : Addr} (X : K.In h) (G : h.Ns mainGlobals mg) (hfa : mg "law" = some (.ref fa))
    (n_ValueError : PySem.W.nsIn K mainGlobals "ValueError" = some none)
    (n_all : PySem.W.nsIn K mainGlobals "all" = some none)
    (n_any : PySem.W.nsIn K mainGlobals "any" = some none)
    (n_bool : PySem.W.nsIn K mainGlobals "bool" = some none)
    (n_dict : PySem.W.nsIn K mainGlobals "dict" = some none)
    (n_enumerate : PySem.W.nsIn K mainGlobals "enumerate" = some none)
    (n_int : PySem.W.nsIn K mainGlobals "int" = some none)
    (n_isinstance : PySem.W.nsIn K mainGlobals "isinstance" = some none)
    (n_len : PySem.W.nsIn K mainGlobals "len" = some none)
    (n_list : PySem.W.nsIn K mainGlobals "list" = some none)
    (n_max : PySem.W.nsIn K mainGlobals "max" = some none)
    (n_min : PySem.W.nsIn K mainGlobals "min" = some none)
    (n_range : PySem.W.nsIn K mainGlobals "range" = some none)
    (n_set : PySem.W.nsIn K mainGlobals "set" = some none)
    (n_sorted : PySem.W.nsIn K mainGlobals "sorted" = some none)
    (n_str : PySem.W.nsIn K mainGlobals "str" = some none)
    (n_sum : PySem.W.nsIn K mainGlobals "sum" = some none)
    (n_tuple : PySem.W.nsIn K mainGlobals "tuple" = some none)
    (n_zip : PySem.W.nsIn K mainGlobals "zip" = some none)
    {t_c_SIGNS : Tok} (c_SIGNS : PySem.W.nsIn K mainGlobals "SIGNS" = some (some (.str (Str.ofString "abcd") t_c_SIGNS)))
    {t_c_MOST_SIGNS : Tok} (c_MOST_SIGNS : PySem.W.nsIn K mainGlobals "MOST_SIGNS" = some (some (.int 400 t_c_MOST_SIGNS)))
    {t_c_MOST_LETTERS : Tok} (c_MOST_LETTERS : PySem.W.nsIn K mainGlobals "MOST_LETTERS" = some (some (.int 12 t_c_MOST_LETTERS)))
    {t_c_MOST_MADE : Tok} (c_MOST_MADE : PySem.W.nsIn K mainGlobals "MOST_MADE" = some (some (.int 4000 t_c_MOST_MADE)))
    {t_c_MOST_BACK : Tok} (c_MOST_BACK : PySem.W.nsIn K mainGlobals "MOST_BACK" = some (some (.int 300 t_c_MOST_BACK)))
    {CE CR CB : Addr}
    (aB : PySem.W.nsIn K mainGlobals "CutError" = some (some (.ref CB)))
    (aE : PySem.W.nsIn K mainGlobals "TooMany" = some (some (.ref CE)))
    (Ex1 : PySem.W.excIn K CE [.type "ValueError", .type "Exception", .type "BaseException", .type "object"] "ValueError.__new__" = true)
    (Ex2 : PySem.W.keepIn K (.ref CE) = true)
    (Ex3 : PySem.W.subIn K (.ref CE) (.type "BaseException") = some true)
    (Ex4 : PySem.W.typeIn K (.ref CE) = some (.type "type"))
    (Ex5 : PySem.W.subIn K (.ref CE) (.ref CE) = some true)
    (Ey1 : PySem.W.findIn K (.ref CE) "__getattribute__" = some (some (.builtin "BaseException.__getattribute__")))
    (Ey2 : PySem.W.findIn K (.ref CE) "__getattr__" = some none)
    (Ey3 : PySem.W.hasDictIn K CE = true)
    (Ey4 : PySem.W.findIn K (.ref CE) "__class__" = some (some (.builtin "object.__class__")))
    (Ey5 : PySem.W.specialIn K (.builtin "object.__class__") "__get__" = some (some (.builtin "getset_descriptor.__get__")))
    (Ey6 : PySem.W.takesIn K (.builtin "object.__class__") = some true)
    (Ey7 : PySem.W.mroIn K CE (.type "object") = some true)
    (aR : PySem.W.nsIn K mainGlobals "BadReplacing" = some (some (.ref CR)))
    (Rx1 : PySem.W.excIn K CR [.type "ValueError", .type "Exception", .type "BaseException", .type "object"] "ValueError.__new__" = true)
    (Rx2 : PySem.W.keepIn K (.ref CR) = true)
    (Rx3 : PySem.W.subIn K (.ref CR) (.type "BaseException") = some true)
    (Rx4 : PySem.W.typeIn K (.ref CR) = some (.type "type"))
    (Rx5 : PySem.W.subIn K (.ref CR) (.ref CR) = some true)
    (Ry1 : PySem.W.findIn K (.ref CR) "__getattribute__" = some (some (.builtin "BaseException.__getattribute__")))
    (Ry2 : PySem.W.findIn K (.ref CR) "__getattr__" = some none)
    (Ry3 : PySem.W.hasDictIn K CR = true)
    (Ry4 : PySem.W.findIn K (.ref CR) "__class__" = some (some (.builtin "object.__class__")))
    (Ry5 : PySem.W.specialIn K (.builtin "object.__class__") "__get__" = some (some (.builtin "getset_descriptor.__get__")))
    (Ry6 : PySem.W.takesIn K (.builtin "object.__class__") = some true)
    (Ry7 : PySem.W.mroIn K CR (.type "object") = some true)
    (keb : PySem.W.kitOne K (.ref CE) (.ref CB) = some true)
    (ker : PySem.W.kitOne K (.ref CE) (.ref CR) = some false)
    (T__law_draw : Top K "_law_draw" st__law_draw)
    (T__law_one : Top K "_law_one" st__law_one)
    (T__law_text : Top K "_law_text" st__law_text)
    (T__law_feed : Top K "_law_feed" st__law_feed)
    (T__law_mixed : Top K "_law_mixed" st__law_mixed)
    (T__law_kept : Top K "_law_kept" st__law_kept)
    (T_are_signs : Top K "are_signs" st_are_signs)
    (T_is_text : Top K "is_text" st_is_text)
    (T_need_text : Top K "need_text" st_need_text)
    (T_is_replacing : Top K "is_replacing" st_is_replacing)
    (T_need_replacing : Top K "need_replacing" st_need_replacing)
    (T_need_own_text : Top K "need_own_text" st_need_own_text)
    (T__law_split : Top K "_law_split" st__law_split)
    (T__law_joined : Top K "_law_joined" st__law_joined)
    (T__law_made : Top K "_law_made" st__law_made)
    (T__law_code : Top K "_law_code" st__law_code)
    (T__law_lot : Top K "_law_lot" st__law_lot)
    (T_replaced_text : Top K "replaced_text" st_replaced_text)
    (T_ways_back : Top K "ways_back" st_ways_back)
    (T_texts_back : Top K "texts_back" st_texts_back)
    (T_replaced : Top K "replaced" st_replaced)
    (T_doubly : Top K "doubly" st_doubly)
    (T_put_back : Top K "put_back" st_put_back)
    (T__law_so : Top K "_law_so" st__law_so)
    (T__law_list : Top K "_law_list" st__law_list)
    (T__law_by : Top K "_law_by" st__law_by)
    (T__law_asked : Top K "_law_asked" st__law_asked)
    (T_first_rests : Top K "first_rests" st_first_rests)
    (T_rests_behind : Top K "rests_behind" st_rests_behind)
    (T_all_rests : Top K "all_rests" st_all_rests)
    (T_is_once : Top K "is_once" st_is_once)
    (T_is_faithful : Top K "is_faithful" st_is_faithful)
    (T__law_behind_rest : Top K "_law_behind_rest" st__law_behind_rest)
    (T__law_firsts : Top K "_law_firsts" st__law_firsts)
    (T__law_closed : Top K "_law_closed" st__law_closed)
    (T__law_is_once : Top K "_law_is_once" st__law_is_once)
    (T__law_faithful : Top K "_law_faithful" st__law_faithful)
    (T__law_replacing : Top K "_law_replacing" st__law_replacing)
    (T__law_back : Top K "_law_back" st__law_back)
    (T__law_back_right : Top K "_law_back_right" st__law_back_right)
    (T__law_doubly : Top K "_law_doubly" st__law_doubly)
    (T__law_right : Top K "_law_right" st__law_right)
    (T_law : Top K "law" st_law)
    : ∃ fd : FuncData, (∀ (s : Shared) (v : Value), BindsTo s fd ⟨[v], []⟩ [("script", v)]) ∧ ∀ base : Heap, K.In base → base.Ns mainGlobals mg → FnOkG l.prog w K mg base 8 fa fd ["script"] (sp_law K) := by
  have M : Md K mg := ⟨PySem.W.mg_none_of X G n_ValueError, PySem.W.mg_none_of X G n_all, PySem.W.mg_none_of X G n_any, PySem.W.mg_none_of X G n_bool, PySem.W.mg_none_of X G n_dict, PySem.W.mg_none_of X G n_enumerate, PySem.W.mg_none_of X G n_int, PySem.W.mg_none_of X G n_isinstance, PySem.W.mg_none_of X G n_len, PySem.W.mg_none_of X G n_list, PySem.W.mg_none_of X G n_max, PySem.W.mg_none_of X G n_min, PySem.W.mg_none_of X G n_range, PySem.W.mg_none_of X G n_set, PySem.W.mg_none_of X G n_sorted, PySem.W.mg_none_of X G n_str, PySem.W.mg_none_of X G n_sum, PySem.W.mg_none_of X G n_tuple, PySem.W.mg_none_of X G n_zip, ⟨_, PySem.W.mg_of X G c_SIGNS⟩, ⟨_, PySem.W.mg_of X G c_MOST_SIGNS⟩, ⟨_, PySem.W.mg_of X G c_MOST_LETTERS⟩, ⟨_, PySem.W.mg_of X G c_MOST_MADE⟩, ⟨_, PySem.W.mg_of X G c_MOST_BACK⟩⟩
  have E_TooMany : Err K mg "TooMany" CE := ⟨PySem.W.mg_of X G aE, Ex1, Ex2, Ex3, Ex4⟩
  have I_TooMany : ErrI K CE := ⟨PySem.W.exm_ref Ex3 Ey3 Ex4 Ex5, ⟨Ey1, Ey2, Ex3, Ey3, Ey4, Ey5, Ey6, Ey7⟩⟩
  have E_BadReplacing : Err K mg "BadReplacing" CR := ⟨PySem.W.mg_of X G aR, Rx1, Rx2, Rx3, Rx4⟩
  have I_BadReplacing : ErrI K CR := ⟨PySem.W.exm_ref Rx3 Ry3 Rx4 Rx5, ⟨Ry1, Ry2, Rx3, Ry3, Ry4, Ry5, Ry6, Ry7⟩⟩
  have ET : ErrT K mg CE CR CB := ⟨E_TooMany, I_TooMany, ⟨_, PySem.W.mg_of X G aE, rfl⟩, ⟨_, PySem.W.mg_of X G aR, rfl⟩, ⟨_, PySem.W.mg_of X G aB, rfl⟩, keb, ker⟩
  obtain ⟨f, oc, od, an, osl, kV, doc, pm, cdv, ct, a, lk, c, k⟩ := T_law
  have e := hfa.symm.trans (PySem.W.mg_of X G a)
  cases e
  have F := fun_mk (st := st_law) lk c k
  refine ⟨PySem.W.fnOf "law" "law" (defArgs st_law) (defBody st_law) (defScope st_law) .none kV doc pm an cdv ct, fun s v => .of_eq rfl, fun base _ _ => ?_⟩
  have C__law_draw : Cal l.prog w K mg base "_law_draw" st__law_draw 1 ["feed", "many"] sp_draw := T__law_draw.cal X G (fun _ _ _ _ _ _ us hl => match us, hl with | [_, _], _ => rfl) fun _ _ F => ok__law_draw F M
  have C__law_one : Cal l.prog w K mg base "_law_one" st__law_one 2 ["feed", "things"] (sp_one K) := T__law_one.cal X G (fun _ _ _ _ _ _ us hl => match us, hl with | [_, _], _ => rfl) fun _ _ F => ok__law_one F M C__law_draw
  have C__law_text : Cal l.prog w K mg base "_law_text" st__law_text 3 ["feed", "signs", "most"] sp_text := T__law_text.cal X G (fun _ _ _ _ _ _ us hl => match us, hl with | [_, _, _], _ => rfl) fun _ _ F => ok__law_text F M C__law_draw C__law_one
  have C__law_feed : Cal l.prog w K mg base "_law_feed" st__law_feed 1 ["script", "k"] (sp_feed K) := T__law_feed.cal X G (fun _ _ _ _ _ _ us hl => match us, hl with | [_, _], _ => rfl) fun _ _ F => ok__law_feed F M
  have C__law_mixed : Cal l.prog w K mg base "_law_mixed" st__law_mixed 2 ["feed", "things"] (sp_mixed K) := T__law_mixed.cal X G (fun _ _ _ _ _ _ us hl => match us, hl with | [_, _], _ => rfl) fun _ _ F => ok__law_mixed F M C__law_draw
  have C__law_kept : Cal l.prog w K mg base "_law_kept" st__law_kept 3 ["feed", "words", "most"] (sp_kept K) := T__law_kept.cal X G (fun _ _ _ _ _ _ us hl => match us, hl with | [_, _, _], _ => rfl) fun _ _ F => ok__law_kept F M C__law_mixed
  have C_are_signs : Cal l.prog w K mg base "are_signs" st_are_signs 1 ["thing", "most"] sp_are_signs := T_are_signs.cal X G (fun _ _ _ _ _ _ us hl => match us, hl with | [_, _], _ => rfl) fun _ _ F => ok_are_signs F M
  have C_is_text : Cal l.prog w K mg base "is_text" st_is_text 2 ["thing"] sp_is_text := T_is_text.cal X G (fun _ _ _ _ _ _ us hl => match us, hl with | [_], _ => rfl) fun _ _ F => ok_is_text F M C_are_signs
  have C_need_text : Cal l.prog w K mg base "need_text" st_need_text 3 ["text"] sp_need_text := T_need_text.cal X G (fun _ _ _ _ _ _ us hl => match us, hl with | [_], _ => rfl) fun _ _ F => ok_need_text F M C_is_text
  have C_is_replacing : Cal l.prog w K mg base "is_replacing" st_is_replacing 2 ["thing"] sp_is_rep := T_is_replacing.cal X G (fun _ _ _ _ _ _ us hl => match us, hl with | [_], _ => rfl) fun _ _ F => ok_is_replacing F M C_are_signs
  have C_need_replacing : Cal l.prog w K mg base "need_replacing" st_need_replacing 3 ["replacing"] sp_need_rep := T_need_replacing.cal X G (fun _ _ _ _ _ _ us hl => match us, hl with | [_], _ => rfl) fun _ _ F => ok_need_replacing F M C_is_replacing
  have C_need_own_text : Cal l.prog w K mg base "need_own_text" st_need_own_text 3 ["replacing", "text"] sp_need_own := T_need_own_text.cal X G (fun _ _ _ _ _ _ us hl => match us, hl with | [_, _], _ => rfl) fun _ _ F => ok_need_own_text F M C_is_text
  have C__law_split : Cal l.prog w K mg base "_law_split" st__law_split 2 ["feed", "signs", "turns"] sp_split := T__law_split.cal X G (fun _ _ _ _ _ _ us hl => match us, hl with | [_, _, _], _ => rfl) fun _ _ F => ok__law_split F M C__law_draw
  have C__law_joined : Cal l.prog w K mg base "_law_joined" st__law_joined 3 ["feed", "words", "turns"] sp_joined := T__law_joined.cal X G (fun _ _ _ _ _ _ us hl => match us, hl with | [_, _, _], _ => rfl) fun _ _ F => ok__law_joined F M C__law_draw C__law_one
  have C__law_made : Cal l.prog w K mg base "_law_made" st__law_made 1 ["feed", "code", "words"] (sp_made K) := T__law_made.cal X G (fun _ _ _ _ _ _ us hl => match us, hl with | [_, _, _], _ => rfl) fun _ _ F => ok__law_made F M
  have C__law_code : Cal l.prog w K mg base "_law_code" st__law_code 3 ["feed"] sp_code := T__law_code.cal X G (fun _ _ _ _ _ _ us hl => match us, hl with | [_], _ => rfl) fun _ _ F => ok__law_code F M C__law_one
  have C__law_lot : Cal l.prog w K mg base "_law_lot" st__law_lot 4 ["feed", "most"] sp_lot := T__law_lot.cal X G (fun _ _ _ _ _ _ us hl => match us, hl with | [_, _], _ => rfl) fun _ _ F => ok__law_lot F M C__law_draw C__law_one C__law_text C__law_kept C__law_split C__law_joined C__law_made C__law_code
  have C_replaced_text : Cal l.prog w K mg base "replaced_text" st_replaced_text 1 ["replacing", "text"] sp_replaced_text := T_replaced_text.cal X G (fun _ _ _ _ _ _ us hl => match us, hl with | [_, _], _ => rfl) fun _ _ F => ok_replaced_text F M
  have C_ways_back : Cal l.prog w K mg base "ways_back" st_ways_back 1 ["replacing", "text"] sp_ways := T_ways_back.cal X G (fun _ _ _ _ _ _ us hl => match us, hl with | [_, _], _ => rfl) fun _ _ F => ok_ways_back F M
  have C_texts_back : Cal l.prog w K mg base "texts_back" st_texts_back 2 ["replacing", "text"] sp_texts_back := T_texts_back.cal X G (fun _ _ _ _ _ _ us hl => match us, hl with | [_, _], _ => rfl) fun _ _ F => ok_texts_back F M C_ways_back
  have S_replaced : CalS l.prog w K mg base "replaced" st_replaced 4 ["replacing", "text"] (sp_replaced CE) := T_replaced.calS X G (fun _ _ _ _ _ _ us hl => match us, hl with | [_, _], _ => rfl) fun _ _ F => ok_replaced F M E_TooMany C_need_replacing C_need_own_text C_replaced_text
  have C_replaced : Cal l.prog w K mg base "replaced" st_replaced 4 ["replacing", "text"] (calm (sp_replaced CE)) := S_replaced.calm
  have S_doubly : CalS l.prog w K mg base "doubly" st_doubly 4 ["replacing", "other"] (sp_doubly CE) := T_doubly.calS X G (fun _ _ _ _ _ _ us hl => match us, hl with | [_, _], _ => rfl) fun _ _ F => ok_doubly F M E_TooMany E_BadReplacing C_need_replacing C_replaced_text
  have C_doubly : Cal l.prog w K mg base "doubly" st_doubly 4 ["replacing", "other"] (calm (sp_doubly CE)) := S_doubly.calm
  have S_put_back : CalS l.prog w K mg base "put_back" st_put_back 4 ["replacing", "text"] (sp_put_back CE) := T_put_back.calS X G (fun _ _ _ _ _ _ us hl => match us, hl with | [_, _], _ => rfl) fun _ _ F => ok_put_back F M E_TooMany C_need_replacing C_need_text C_ways_back C_texts_back
  have C_put_back : Cal l.prog w K mg base "put_back" st_put_back 4 ["replacing", "text"] (calm (sp_put_back CE)) := S_put_back.calm
  have C__law_so : Cal l.prog w K mg base "_law_so" st__law_so 1 ["actual", "due"] sp_law_so := T__law_so.cal X G (fun _ _ _ _ _ _ us hl => match us, hl with | [_, _], _ => rfl) fun _ _ F => ok__law_so F M
  have C__law_list : Cal l.prog w K mg base "_law_list" st__law_list 1 ["actual", "due"] (sp_list_same K) := T__law_list.cal X G (fun _ _ _ _ _ _ us hl => match us, hl with | [_, _], _ => rfl) fun _ _ F => ok__law_list F M
  have C__law_by : Cal l.prog w K mg base "_law_by" st__law_by 1 ["replacing", "text"] sp_replaced_text := T__law_by.cal X G (fun _ _ _ _ _ _ us hl => match us, hl with | [_, _], _ => rfl) fun _ _ F => ok__law_by F M
  have C__law_asked : Cal l.prog w K mg base "_law_asked" st__law_asked 5 ["way", "one", "other"] sp_asked := T__law_asked.cal X G (fun _ _ _ _ _ _ us hl => match us, hl with | [_, _, _], _ => rfl) fun _ _ F => ok__law_asked F M ET S_replaced S_put_back S_doubly
  have C_first_rests : Cal l.prog w K mg base "first_rests" st_first_rests 1 ["lot"] sp_first_rests := T_first_rests.cal X G (fun _ _ _ _ _ _ us hl => match us, hl with | [_], _ => rfl) fun _ _ F => ok_first_rests F M
  have C_rests_behind : Cal l.prog w K mg base "rests_behind" st_rests_behind 1 ["lot", "rest"] sp_rests_behind := T_rests_behind.cal X G (fun _ _ _ _ _ _ us hl => match us, hl with | [_, _], _ => rfl) fun _ _ F => ok_rests_behind F M
  have C_all_rests : Cal l.prog w K mg base "all_rests" st_all_rests 2 ["lot"] sp_all_rests := T_all_rests.cal X G (fun _ _ _ _ _ _ us hl => match us, hl with | [_], _ => rfl) fun _ _ F => ok_all_rests F M C_first_rests C_rests_behind
  have C_is_once : Cal l.prog w K mg base "is_once" st_is_once 3 ["lot"] sp_is_once := T_is_once.cal X G (fun _ _ _ _ _ _ us hl => match us, hl with | [_], _ => rfl) fun _ _ F => ok_is_once F M C_all_rests
  have C_is_faithful : Cal l.prog w K mg base "is_faithful" st_is_faithful 4 ["replacing"] sp_faithful := T_is_faithful.cal X G (fun _ _ _ _ _ _ us hl => match us, hl with | [_], _ => rfl) fun _ _ F => ok_is_faithful F M C_need_replacing C_is_once
  have C__law_behind_rest : Cal l.prog w K mg base "_law_behind_rest" st__law_behind_rest 1 ["lot", "rest"] sp_law_behind := T__law_behind_rest.cal X G (fun _ _ _ _ _ _ us hl => match us, hl with | [_, _], _ => rfl) fun _ _ F => ok__law_behind_rest F M
  have C__law_firsts : Cal l.prog w K mg base "_law_firsts" st__law_firsts 1 ["lot"] sp_law_firsts := T__law_firsts.cal X G (fun _ _ _ _ _ _ us hl => match us, hl with | [_], _ => rfl) fun _ _ F => ok__law_firsts F M
  have C__law_closed : Cal l.prog w K mg base "_law_closed" st__law_closed 2 ["lot", "rests"] sp_closed := T__law_closed.cal X G (fun _ _ _ _ _ _ us hl => match us, hl with | [_, _], _ => rfl) fun _ _ F => ok__law_closed F M C__law_behind_rest
  have C__law_is_once : Cal l.prog w K mg base "_law_is_once" st__law_is_once 3 ["lot"] sp_law_is_once := T__law_is_once.cal X G (fun _ _ _ _ _ _ us hl => match us, hl with | [_], _ => rfl) fun _ _ F => ok__law_is_once F M C__law_firsts C__law_closed
  have C__law_faithful : Cal l.prog w K mg base "_law_faithful" st__law_faithful 4 ["replacing"] sp_faithful := T__law_faithful.cal X G (fun _ _ _ _ _ _ us hl => match us, hl with | [_], _ => rfl) fun _ _ F => ok__law_faithful F M C__law_is_once
  have C__law_replacing : Cal l.prog w K mg base "_law_replacing" st__law_replacing 5 ["feed", "signs"] sp_replacing := T__law_replacing.cal X G (fun _ _ _ _ _ _ us hl => match us, hl with | [_, _], _ => rfl) fun _ _ F => ok__law_replacing F M C__law_draw C__law_one C__law_text C__law_mixed C__law_lot
  have C__law_back : Cal l.prog w K mg base "_law_back" st__law_back 1 ["replacing", "text"] sp_back := T__law_back.cal X G (fun _ _ _ _ _ _ us hl => match us, hl with | [_, _], _ => rfl) fun _ _ F => ok__law_back F M
  have C__law_back_right : Cal l.prog w K mg base "_law_back_right" st__law_back_right 6 ["replacing", "text"] sp_back_right := T__law_back_right.cal X G (fun _ _ _ _ _ _ us hl => match us, hl with | [_, _], _ => rfl) fun _ _ F => ok__law_back_right F M C__law_back C__law_asked C__law_list C_replaced C_put_back
  have C__law_doubly : Cal l.prog w K mg base "_law_doubly" st__law_doubly 6 ["first", "second"] sp_law_doubly := T__law_doubly.cal X G (fun _ _ _ _ _ _ us hl => match us, hl with | [_, _], _ => rfl) fun _ _ F => ok__law_doubly F M C__law_by C__law_asked C_replaced C_doubly
  have C__law_right : Cal l.prog w K mg base "_law_right" st__law_right 7 ["feed"] sp_law_right := T__law_right.cal X G (fun _ _ _ _ _ _ us hl => match us, hl with | [_], _ => rfl) fun _ _ F => ok__law_right F M C__law_replacing C__law_text C__law_draw C__law_one C__law_by C__law_asked C_replaced C__law_back_right C__law_so C_is_faithful C__law_faithful C__law_doubly
  exact ok_law F M C__law_feed C__law_right
theorem walk {l : PySem.W.OpenLaw} {q : Program} {loose : List Str} {XP : (Str → Option Value) → Heap → Prop} {YP : World → Heap → Prop} {d : DefRec} {K : Params → PySem.W.Frag} (hn : l.most = some 63) (hdf : d.params.defaults = [])
    (hY : ∀ (w : World) (h : Heap), YP w h → (K w.params).In h)
    (F : ∀ (w : World) (mg : Str → Option Value) (fa : Addr) (h : Heap), (K w.params).In h → h.Ns mainGlobals mg → mg d.name = some (.ref fa) →
      ∃ fd : FuncData, (∀ (s : Shared) (u : Value), BindsTo s fd ⟨[u], []⟩ [("script", u)]) ∧ ∀ base : Heap, (K w.params).In base → base.Ns mainGlobals mg → FnOkG l.prog w (K w.params) mg base 8 fa fd ["script"] (sp_law (K w.params))) :
    PySem.W.WalkO q loose XP YP l.row.toRowW d [] (fun f vs => PySem.call f vs) :=
  Wg.walk_ofG (n := 63) (k := 8) (x := "script") (sp := fun w => sp_law (K w.params)) hn (by decide) hdf ⟨rfl, by decide, by decide⟩ hY F (fun _ _ a ns hl hb _ hS => ⟨a, ns, 1048576, rfl, hS, hl, by decide, by decide, fun z hz => PySem.intBits_le_iff.mp (hb z hz), fun _ => rfl⟩)
end K21
open PySem PySem.W PyProof.Rows
set_option maxRecDepth 100000 in
set_option maxHeartbeats 0 in
theorem PySem.Challenge.cw_wordscut_k21_whole_letters_replaced_holds : PySem.Challenge.rw_wordscut_k21_whole_letters_replaced.Holds := by
  w_on; o_law; k_head; (case hw => w_witness2)
  k_fill
  refine K21.walk (l := PySem.Challenge.rw_wordscut_k21_whole_letters_replaced) rfl rfl (fun w h Y => PySem.W.kIn_of Y) ?F
  case F =>
    intro w mg fa h KX G hmg
    refine' K21.all_mk KX G hmg ?n_ValueError ?n_all ?n_any ?n_bool ?n_dict ?n_enumerate ?n_int ?n_isinstance ?n_len ?n_list ?n_max ?n_min ?n_range ?n_set ?n_sorted ?n_str ?n_sum ?n_tuple ?n_zip ?c_SIGNS ?c_MOST_SIGNS ?c_MOST_LETTERS ?c_MOST_MADE ?c_MOST_BACK ?aB ?aE ?Ex1 ?Ex2 ?Ex3 ?Ex4 ?Ex5 ?Ey1 ?Ey2 ?Ey3 ?Ey4 ?Ey5 ?Ey6 ?Ey7 ?aR ?Rx1 ?Rx2 ?Rx3 ?Rx4 ?Rx5 ?Ry1 ?Ry2 ?Ry3 ?Ry4 ?Ry5 ?Ry6 ?Ry7 ?keb ?ker ?T__law_draw ?T__law_one ?T__law_text ?T__law_feed ?T__law_mixed ?T__law_kept ?T_are_signs ?T_is_text ?T_need_text ?T_is_replacing ?T_need_replacing ?T_need_own_text ?T__law_split ?T__law_joined ?T__law_made ?T__law_code ?T__law_lot ?T_replaced_text ?T_ways_back ?T_texts_back ?T_replaced ?T_doubly ?T_put_back ?T__law_so ?T__law_list ?T__law_by ?T__law_asked ?T_first_rests ?T_rests_behind ?T_all_rests ?T_is_once ?T_is_faithful ?T__law_behind_rest ?T__law_firsts ?T__law_closed ?T__law_is_once ?T__law_faithful ?T__law_replacing ?T__law_back ?T__law_back_right ?T__law_doubly ?T__law_right ?T_law
    (case n_ValueError => k_is)
    (case n_all => k_is)
    (case n_any => k_is)
    (case n_bool => k_is)
    (case n_dict => k_is)
    (case n_enumerate => k_is)
    (case n_int => k_is)
    (case n_isinstance => k_is)
    (case n_len => k_is)
    (case n_list => k_is)
    (case n_max => k_is)
    (case n_min => k_is)
    (case n_range => k_is)
    (case n_set => k_is)
    (case n_sorted => k_is)
    (case n_str => k_is)
    (case n_sum => k_is)
    (case n_tuple => k_is)
    (case n_zip => k_is)
    (case c_SIGNS => k_is)
    (case c_MOST_SIGNS => k_is)
    (case c_MOST_LETTERS => k_is)
    (case c_MOST_MADE => k_is)
    (case c_MOST_BACK => k_is)
    (case aB => k_is)
    (case aE => k_is)
    (case Ex1 => k_exc)
    (case Ex2 => k_is)
    (case Ex3 => k_is)
    (case Ex4 => k_is)
    (case Ex5 => first | rfl | k_is)
    (case Ey1 => k_is)
    (case Ey2 => k_is)
    (case Ey3 => k_is)
    (case Ey4 => k_is)
    (case Ey5 => k_is)
    (case Ey6 => k_is)
    (case Ey7 => k_is)
    (case aR => k_is)
    (case Rx1 => k_exc)
    (case Rx2 => k_is)
    (case Rx3 => k_is)
    (case Rx4 => k_is)
    (case Rx5 => first | rfl | k_is)
    (case Ry1 => k_is)
    (case Ry2 => k_is)
    (case Ry3 => k_is)
    (case Ry4 => k_is)
    (case Ry5 => k_is)
    (case Ry6 => k_is)
    (case Ry7 => k_is)
    (case keb => kit_is)
    (case ker => kit_is)
    (case T__law_draw => refine' K21.top_mk ?a ?l ?c ?k; (case a => k_is); (case l => k_is); (case c => k_is); (case k => k_is))
    (case T__law_one => refine' K21.top_mk ?a ?l ?c ?k; (case a => k_is); (case l => k_is); (case c => k_is); (case k => k_is))
    (case T__law_text => refine' K21.top_mk ?a ?l ?c ?k; (case a => k_is); (case l => k_is); (case c => k_is); (case k => k_is))
    (case T__law_feed => refine' K21.top_mk ?a ?l ?c ?k; (case a => k_is); (case l => k_is); (case c => k_is); (case k => k_is))
    (case T__law_mixed => refine' K21.top_mk ?a ?l ?c ?k; (case a => k_is); (case l => k_is); (case c => k_is); (case k => k_is))
    (case T__law_kept => refine' K21.top_mk ?a ?l ?c ?k; (case a => k_is); (case l => k_is); (case c => k_is); (case k => k_is))
    (case T_are_signs => refine' K21.top_mk ?a ?l ?c ?k; (case a => k_is); (case l => k_is); (case c => k_is); (case k => k_is))
    (case T_is_text => refine' K21.top_mk ?a ?l ?c ?k; (case a => k_is); (case l => k_is); (case c => k_is); (case k => k_is))
    (case T_need_text => refine' K21.top_mk ?a ?l ?c ?k; (case a => k_is); (case l => k_is); (case c => k_is); (case k => k_is))
    (case T_is_replacing => refine' K21.top_mk ?a ?l ?c ?k; (case a => k_is); (case l => k_is); (case c => k_is); (case k => k_is))
    (case T_need_replacing => refine' K21.top_mk ?a ?l ?c ?k; (case a => k_is); (case l => k_is); (case c => k_is); (case k => k_is))
    (case T_need_own_text => refine' K21.top_mk ?a ?l ?c ?k; (case a => k_is); (case l => k_is); (case c => k_is); (case k => k_is))
    (case T__law_split => refine' K21.top_mk ?a ?l ?c ?k; (case a => k_is); (case l => k_is); (case c => k_is); (case k => k_is))
    (case T__law_joined => refine' K21.top_mk ?a ?l ?c ?k; (case a => k_is); (case l => k_is); (case c => k_is); (case k => k_is))
    (case T__law_made => refine' K21.top_mk ?a ?l ?c ?k; (case a => k_is); (case l => k_is); (case c => k_is); (case k => k_is))
    (case T__law_code => refine' K21.top_mk ?a ?l ?c ?k; (case a => k_is); (case l => k_is); (case c => k_is); (case k => k_is))
    (case T__law_lot => refine' K21.top_mk ?a ?l ?c ?k; (case a => k_is); (case l => k_is); (case c => k_is); (case k => k_is))
    (case T_replaced_text => refine' K21.top_mk ?a ?l ?c ?k; (case a => k_is); (case l => k_is); (case c => k_is); (case k => k_is))
    (case T_ways_back => refine' K21.top_mk ?a ?l ?c ?k; (case a => k_is); (case l => k_is); (case c => k_is); (case k => k_is))
    (case T_texts_back => refine' K21.top_mk ?a ?l ?c ?k; (case a => k_is); (case l => k_is); (case c => k_is); (case k => k_is))
    (case T_replaced => refine' K21.top_mk ?a ?l ?c ?k; (case a => k_is); (case l => k_is); (case c => k_is); (case k => k_is))
    (case T_doubly => refine' K21.top_mk ?a ?l ?c ?k; (case a => k_is); (case l => k_is); (case c => k_is); (case k => k_is))
    (case T_put_back => refine' K21.top_mk ?a ?l ?c ?k; (case a => k_is); (case l => k_is); (case c => k_is); (case k => k_is))
    (case T__law_so => refine' K21.top_mk ?a ?l ?c ?k; (case a => k_is); (case l => k_is); (case c => k_is); (case k => k_is))
    (case T__law_list => refine' K21.top_mk ?a ?l ?c ?k; (case a => k_is); (case l => k_is); (case c => k_is); (case k => k_is))
    (case T__law_by => refine' K21.top_mk ?a ?l ?c ?k; (case a => k_is); (case l => k_is); (case c => k_is); (case k => k_is))
    (case T__law_asked => refine' K21.top_mk ?a ?l ?c ?k; (case a => k_is); (case l => k_is); (case c => k_is); (case k => k_is))
    (case T_first_rests => refine' K21.top_mk ?a ?l ?c ?k; (case a => k_is); (case l => k_is); (case c => k_is); (case k => k_is))
    (case T_rests_behind => refine' K21.top_mk ?a ?l ?c ?k; (case a => k_is); (case l => k_is); (case c => k_is); (case k => k_is))
    (case T_all_rests => refine' K21.top_mk ?a ?l ?c ?k; (case a => k_is); (case l => k_is); (case c => k_is); (case k => k_is))
    (case T_is_once => refine' K21.top_mk ?a ?l ?c ?k; (case a => k_is); (case l => k_is); (case c => k_is); (case k => k_is))
    (case T_is_faithful => refine' K21.top_mk ?a ?l ?c ?k; (case a => k_is); (case l => k_is); (case c => k_is); (case k => k_is))
    (case T__law_behind_rest => refine' K21.top_mk ?a ?l ?c ?k; (case a => k_is); (case l => k_is); (case c => k_is); (case k => k_is))
    (case T__law_firsts => refine' K21.top_mk ?a ?l ?c ?k; (case a => k_is); (case l => k_is); (case c => k_is); (case k => k_is))
    (case T__law_closed => refine' K21.top_mk ?a ?l ?c ?k; (case a => k_is); (case l => k_is); (case c => k_is); (case k => k_is))
    (case T__law_is_once => refine' K21.top_mk ?a ?l ?c ?k; (case a => k_is); (case l => k_is); (case c => k_is); (case k => k_is))
    (case T__law_faithful => refine' K21.top_mk ?a ?l ?c ?k; (case a => k_is); (case l => k_is); (case c => k_is); (case k => k_is))
    (case T__law_replacing => refine' K21.top_mk ?a ?l ?c ?k; (case a => k_is); (case l => k_is); (case c => k_is); (case k => k_is))
    (case T__law_back => refine' K21.top_mk ?a ?l ?c ?k; (case a => k_is); (case l => k_is); (case c => k_is); (case k => k_is))
    (case T__law_back_right => refine' K21.top_mk ?a ?l ?c ?k; (case a => k_is); (case l => k_is); (case c => k_is); (case k => k_is))
    (case T__law_doubly => refine' K21.top_mk ?a ?l ?c ?k; (case a => k_is); (case l => k_is); (case c => k_is); (case k => k_is))
    (case T__law_right => refine' K21.top_mk ?a ?l ?c ?k; (case a => k_is); (case l => k_is); (case c => k_is); (case k => k_is))
    (case T_law => refine' K21.top_mk ?a ?l ?c ?k; (case a => k_is); (case l => k_is); (case c => k_is); (case k => k_is))
